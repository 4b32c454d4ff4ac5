import PyProof.Rows.All
import Wide.All
import OpenK.AllK
import Wide.FinOn
import HandS.ForMost
import HandS.ForExc
import HandS.IsInst
import HandS.Wide
import HandS.TupAny
import HandS.Style
import HandS.CallSlots
import HandS.ExcOwn
import PyProof.StrBlock2
import HandS.SortInts
import HandS.SetFor
import HandS.Deep
import HandS.Conv
import HandS.ClsMeth
import HandS.IterNext
import HandS.OwnIter
import HandS.Codes
import PyProof.Rows.RegReprOcc
import HandS.Ends
import HandS.ExcIs
import HandS.TryMany
import HandS.WordsExc
import PySem.Challenge.RW_clothstead_k34_drum
set_option Elab.async false
set_option linter.all false
set_option maxRecDepth 100000
set_option maxHeartbeats 4000000
namespace VS
open PySem PySem.Spec PyProof.Rows L2

/-! ### data as trees -/
inductive NK where
  | tup
  | scr
  | lst (o : Bool)
  | ins (C : Addr) (fs : List Str)
  | obj (o : Bool) (C : Addr) (fs : List Str)
  | dic (o : Bool) (ks : List Key)
  | dit (o : Bool) (ks : List (List Key))
  deriving DecidableEq
inductive D where
  | un
  | v (x : V)
  | nd (k : NK) (xs : List D)
inductive T where
  | un
  | v (x : V)
  | nd (a : Addr) (k : NK) (xs : List T)
def NK.isOwn : NK → Bool
  | .lst o => o
  | .obj o _ _ => o
  | .dic o _ => o
  | .dit o _ => o
  | _ => false
def NK.isTrk : NK → Bool
  | .tup => false
  | .scr => false
  | _ => true
def NK.isImm : NK → Bool
  | .ins _ _ => true
  | _ => false
def NK.isShr : NK → Bool
  | .lst o => !o
  | .obj o _ _ => !o
  | .dic o _ => !o
  | .dit o _ => !o
  | _ => false
def NK.fz : NK → NK
  | .lst _ => .lst false
  | .obj _ C fs => .obj false C fs
  | .dic _ ks => .dic false ks
  | .dit _ ks => .dit false ks
  | k => k
theorem NK.fz_own (k : NK) : k.fz.isOwn = false := by cases k <;> rfl
theorem NK.fz_trk (k : NK) : k.fz.isTrk = k.isTrk := by cases k <;> rfl
theorem NK.fz_imm (k : NK) : k.fz.isImm = k.isImm := by cases k <;> rfl
theorem NK.fz_of {k : NK} (h : k.isOwn = false) : k.fz = k := by
  cases k with
  | tup => rfl
  | scr => rfl
  | ins C fs => rfl
  | lst o => cases o; rfl; cases h
  | obj o C fs => cases o; rfl; cases h
  | dic o ks => cases o; rfl; cases h
  | dit o ks => cases o; rfl; cases h
theorem NK.own_trk {k : NK} (h : k.isOwn = true) : k.isTrk = true := by cases k <;> first | rfl | cases h
theorem NK.imm_trk {k : NK} (h : k.isImm = true) : k.isTrk = true := by cases k <;> first | rfl | cases h
theorem NK.imm_own {k : NK} (h : k.isImm = true) : k.isOwn = false := by cases k <;> first | rfl | cases h
theorem NK.own_shr {k : NK} (h : k.isOwn = true) : k.isShr = false := by
  cases k with
  | tup => rfl
  | scr => rfl
  | ins C fs => rfl
  | lst o => cases o; cases h; rfl
  | obj o C fs => cases o; cases h; rfl
  | dic o ks => cases o; cases h; rfl
  | dit o ks => cases o; cases h; rfl
theorem NK.trk_cases {k : NK} (h : k.isTrk = true) : k.isOwn = true ∨ k.isImm = true ∨ k.isShr = true := by
  cases k with
  | tup => cases h
  | scr => cases h
  | ins C fs => exact .inr (.inl rfl)
  | lst o => cases o; exact .inr (.inr rfl); exact .inl rfl
  | obj o C fs => cases o; exact .inr (.inr rfl); exact .inl rfl
  | dic o ks => cases o; exact .inr (.inr rfl); exact .inl rfl
  | dit o ks => cases o; exact .inr (.inr rfl); exact .inl rfl

mutual
def D.has (p : NK → Bool) : D → Bool
  | .un => false
  | .v _ => false
  | .nd k xs => p k || D.hass p xs
def D.hass (p : NK → Bool) : List D → Bool
  | [] => false
  | x :: r => x.has p || D.hass p r
end
mutual
def D.fz : D → D
  | .un => .un
  | .v x => .v x
  | .nd k xs => .nd k.fz (D.fzs xs)
def D.fzs : List D → List D
  | [] => []
  | x :: r => x.fz :: D.fzs r
end
abbrev D.hasOwn (d : D) : Bool := d.has NK.isOwn
abbrev D.hasShr (d : D) : Bool := d.has NK.isShr
mutual
def T.er : T → D
  | .un => .un
  | .v x => .v x
  | .nd _ k xs => .nd k (T.ers xs)
def T.ers : List T → List D
  | [] => []
  | x :: r => x.er :: T.ers r
end
def T.rt : T → V
  | .un => .non
  | .v x => x
  | .nd a _ _ => .ref a
mutual
def T.col (p : NK → Bool) : T → List Addr
  | .un => []
  | .v _ => []
  | .nd a k xs => (if p k then [a] else []) ++ T.cols p xs
def T.cols (p : NK → Bool) : List T → List Addr
  | [] => []
  | x :: r => x.col p ++ T.cols p r
end
mutual
def T.fz : T → T
  | .un => .un
  | .v x => .v x
  | .nd a k xs => .nd a k.fz (T.fzs xs)
def T.fzs : List T → List T
  | [] => []
  | x :: r => x.fz :: T.fzs r
end
abbrev T.own (t : T) : List Addr := t.col NK.isOwn
abbrev T.trk (t : T) : List Addr := t.col NK.isTrk
abbrev T.imm (t : T) : List Addr := t.col NK.isImm

theorem T.ers_map : ∀ xs : List T, T.ers xs = xs.map T.er
  | [] => rfl
  | x :: r => by rw [T.ers, T.ers_map r]; rfl
theorem T.fzs_map : ∀ xs : List T, T.fzs xs = xs.map T.fz
  | [] => rfl
  | x :: r => by rw [T.fzs, T.fzs_map r]; rfl
theorem D.fzs_map : ∀ xs : List D, D.fzs xs = xs.map D.fz
  | [] => rfl
  | x :: r => by rw [D.fzs, D.fzs_map r]; rfl
theorem D.hass_any (p : NK → Bool) : ∀ xs : List D, D.hass p xs = xs.any (D.has p)
  | [] => rfl
  | x :: r => by rw [D.hass, D.hass_any p r]; rfl
theorem T.mem_cols {p : NK → Bool} {a : Addr} : ∀ {xs : List T}, a ∈ T.cols p xs ↔ ∃ t ∈ xs, a ∈ t.col p
  | [] => by simp [T.cols]
  | x :: r => by rw [T.cols, List.mem_append, T.mem_cols (xs := r)]; simp
theorem T.mem_col {p : NK → Bool} {a b : Addr} {k : NK} {xs : List T} : a ∈ (T.nd b k xs).col p ↔ (p k = true ∧ a = b) ∨ ∃ t ∈ xs, a ∈ t.col p := by
  rw [T.col, List.mem_append, T.mem_cols]
  by_cases h : p k = true
  · simp [h]
  · simp [h]
mutual
theorem T.col_mono {p q : NK → Bool} (h : ∀ k, p k = true → q k = true) : ∀ (t : T) (a : Addr), a ∈ t.col p → a ∈ t.col q
  | .un, _, m => m
  | .v _, _, m => m
  | .nd b k xs, a, m => by
    rw [T.col, List.mem_append] at m ⊢
    rcases m with m | m
    · by_cases e : p k = true
      · rw [if_pos e] at m; rw [if_pos (h k e)]; exact .inl m
      · rw [if_neg e] at m; cases m
    · exact .inr (T.cols_mono h xs a m)
theorem T.cols_mono {p q : NK → Bool} (h : ∀ k, p k = true → q k = true) : ∀ (xs : List T) (a : Addr), a ∈ T.cols p xs → a ∈ T.cols q xs
  | [], _, m => m
  | x :: r, a, m => by
    rw [T.cols, List.mem_append] at m ⊢
    exact m.imp (T.col_mono h x a) (T.cols_mono h r a)
end
theorem T.own_trk {t : T} {a : Addr} (h : a ∈ t.own) : a ∈ t.trk := T.col_mono (fun _ => NK.own_trk) t a h
theorem T.imm_trk {t : T} {a : Addr} (h : a ∈ t.imm) : a ∈ t.trk := T.col_mono (fun _ => NK.imm_trk) t a h
mutual
theorem T.fz_col {p : NK → Bool} (h : ∀ k : NK, p k.fz = p k) : ∀ t : T, t.fz.col p = t.col p
  | .un => rfl
  | .v _ => rfl
  | .nd b k xs => by rw [T.fz, T.col, T.col, h, T.fzs_col h xs]
theorem T.fzs_col {p : NK → Bool} (h : ∀ k : NK, p k.fz = p k) : ∀ xs : List T, T.cols p (T.fzs xs) = T.cols p xs
  | [] => rfl
  | x :: r => by rw [T.fzs, T.cols, T.cols, T.fz_col h x, T.fzs_col h r]
end
theorem T.fz_trk (t : T) : t.fz.trk = t.trk := T.fz_col NK.fz_trk t
theorem T.fz_imm (t : T) : t.fz.imm = t.imm := T.fz_col NK.fz_imm t
mutual
theorem T.fz_own : ∀ t : T, t.fz.own = []
  | .un => rfl
  | .v _ => rfl
  | .nd b k xs => by
    show T.col NK.isOwn (T.fz (.nd b k xs)) = []
    rw [T.fz, T.col, NK.fz_own, T.fzs_own xs]; rfl
theorem T.fzs_own : ∀ xs : List T, T.cols NK.isOwn (T.fzs xs) = []
  | [] => rfl
  | x :: r => by
    have e : T.col NK.isOwn x.fz = [] := T.fz_own x
    rw [T.fzs, T.cols, e, T.fzs_own r]; rfl
end
theorem T.fz_rt (t : T) : t.fz.rt = t.rt := by cases t <;> rfl
mutual
theorem T.fz_er : ∀ t : T, t.fz.er = t.er.fz
  | .un => rfl
  | .v _ => rfl
  | .nd b k xs => by rw [T.fz, T.er, T.er, D.fz, T.fzs_er xs]
theorem T.fzs_er : ∀ xs : List T, T.ers (T.fzs xs) = D.fzs (T.ers xs)
  | [] => rfl
  | x :: r => by rw [T.fzs, T.ers, T.ers, D.fzs, T.fz_er x, T.fzs_er r]
end
mutual
theorem T.has_er {p : NK → Bool} : ∀ t : T, t.er.has p = false ↔ t.col p = []
  | .un => by simp [T.er, D.has, T.col]
  | .v _ => by simp [T.er, D.has, T.col]
  | .nd b k xs => by
    rw [T.er, D.has, T.col, Bool.or_eq_false_iff, T.hass_er xs, List.append_eq_nil_iff]
    cases p k <;> simp
theorem T.hass_er {p : NK → Bool} : ∀ xs : List T, D.hass p (T.ers xs) = false ↔ T.cols p xs = []
  | [] => by simp [T.ers, D.hass, T.cols]
  | x :: r => by
    rw [T.ers, D.hass, T.cols, Bool.or_eq_false_iff, T.has_er x, T.hass_er r, List.append_eq_nil_iff]
end
theorem T.own_nil {t : T} (h : t.er.hasOwn = false) : t.own = [] := (T.has_er t).mp h
theorem T.shr_nil {t : T} (h : t.er.hasShr = false) : t.col NK.isShr = [] := (T.has_er t).mp h
mutual
theorem T.trk_cases : ∀ (t : T) (a : Addr), a ∈ t.trk → a ∈ t.own ∨ a ∈ t.imm ∨ a ∈ t.col NK.isShr
  | .un, _, m => nomatch m
  | .v _, _, m => nomatch m
  | .nd b k xs, a, m => by
    have m : a ∈ (T.nd b k xs).col NK.isTrk := m
    show a ∈ T.col _ _ ∨ a ∈ T.col _ _ ∨ a ∈ T.col _ _
    rw [T.col, List.mem_append] at m ⊢
    rw [T.col, T.col, List.mem_append, List.mem_append]
    rcases m with m | m
    · by_cases e : k.isTrk = true
      · rw [if_pos e] at m
        rcases NK.trk_cases e with z | z | z
        · rw [if_pos z]; exact .inl (.inl m)
        · rw [if_pos z]; exact .inr (.inl (.inl m))
        · rw [if_pos z]; exact .inr (.inr (.inl m))
      · rw [if_neg e] at m; cases m
    · rcases T.trks_cases xs a m with z | z | z
      · exact .inl (.inr z)
      · exact .inr (.inl (.inr z))
      · exact .inr (.inr (.inr z))
theorem T.trks_cases : ∀ (xs : List T) (a : Addr), a ∈ T.cols NK.isTrk xs → a ∈ T.cols NK.isOwn xs ∨ a ∈ T.cols NK.isImm xs ∨ a ∈ T.cols NK.isShr xs
  | [], _, m => nomatch m
  | x :: r, a, m => by
    rw [T.cols, List.mem_append] at m ⊢
    rw [T.cols, T.cols, List.mem_append, List.mem_append]
    rcases m with m | m
    · rcases T.trk_cases x a m with z | z | z
      · exact .inl (.inl z)
      · exact .inr (.inl (.inl z))
      · exact .inr (.inr (.inl z))
    · rcases T.trks_cases r a m with z | z | z
      · exact .inl (.inr z)
      · exact .inr (.inl (.inr z))
      · exact .inr (.inr (.inr z))
end

/-! ### a tree that stands in a heap -/
def NodeAt (K : PySem.W.Frag) (H : Hp) (a : Addr) (vs : List V) : NK → Prop
  | .tup => SqT K H a vs
  | .scr => (∃ o, H a = some (.frz o (.lst vs))) ∨
      ∃ (o : Obj) (its : Array Value) (n : Nat), K.lookup a = some o ∧ o.cls = .type "list" ∧ o.dict = none ∧ o.data = .seq its n ∧ its.size ≤ sizeLine ∧ Vals vs its.toList
  | .lst _ => H a = some (.lst vs)
  | .ins C fs => ∃ dx, H a = some (.ins C dx (fs.zip vs)) ∧ fs.length = vs.length
  | .obj _ C fs => ∃ dx, H a = some (.ins C dx (fs.zip vs)) ∧ fs.length = vs.length
  | .dic _ ks => H a = some (.dK (ks.zip vs)) ∧ ks.length = vs.length
  | .dit _ ks => H a = some (.dT (ks.zip vs)) ∧ ks.length = vs.length
mutual
def T.ok (K : PySem.W.Frag) (H : Hp) : T → Prop
  | .un => True
  | .v _ => True
  | .nd a k xs => NodeAt K H a (T.rts xs) k ∧ T.oks K H xs
def T.oks (K : PySem.W.Frag) (H : Hp) : List T → Prop
  | [] => True
  | x :: r => x.ok K H ∧ T.oks K H r
def T.rts : List T → List V
  | [] => []
  | x :: r => x.rt :: T.rts r
end
theorem T.rts_map : ∀ xs : List T, T.rts xs = xs.map T.rt
  | [] => rfl
  | x :: r => by rw [T.rts, T.rts_map r]; rfl
theorem T.oks_all {K : PySem.W.Frag} {H : Hp} : ∀ {xs : List T}, T.oks K H xs ↔ ∀ t ∈ xs, t.ok K H
  | [] => by simp [T.oks]
  | x :: r => by rw [T.oks, T.oks_all (xs := r)]; simp
theorem T.fzs_rts (xs : List T) : T.rts (T.fzs xs) = T.rts xs := by
  rw [T.rts_map, T.rts_map, T.fzs_map, List.map_map]
  exact List.map_congr_left fun t _ => T.fz_rt t
/-- what may be changed -/
def isM : HO → Bool
  | .lst _ => true
  | .ins _ _ _ => true
  | .dK _ => true
  | .dT _ => true
  | _ => false
theorem NodeAt.fz {K : PySem.W.Frag} {H : Hp} {a : Addr} {vs : List V} {k : NK} (h : NodeAt K H a vs k) : NodeAt K H a vs k.fz := by
  cases k with
  | tup => exact h
  | scr => exact h
  | ins C fs => exact h
  | lst o => exact h
  | obj o C fs => exact h
  | dic o ks => exact h
  | dit o ks => exact h
mutual
theorem T.ok_fz {K : PySem.W.Frag} {H : Hp} : ∀ {t : T}, t.ok K H → t.fz.ok K H
  | .un, h => h
  | .v _, h => h
  | .nd a k xs, h => by
    rw [T.ok] at h
    rw [T.fz, T.ok, T.fzs_rts]
    exact ⟨h.1.fz, T.oks_fz h.2⟩
theorem T.oks_fz {K : PySem.W.Frag} {H : Hp} : ∀ {xs : List T}, T.oks K H xs → T.oks K H (T.fzs xs)
  | [], h => h
  | x :: r, h => by
    rw [T.oks] at h
    rw [T.fzs, T.oks]
    exact ⟨T.ok_fz h.1, T.oks_fz h.2⟩
end
theorem NodeAt.own_m {K : PySem.W.Frag} {H : Hp} {a : Addr} {vs : List V} {k : NK} (h : NodeAt K H a vs k) (ho : k.isOwn = true) : ∃ o, H a = some o ∧ isM o = true := by
  cases k with
  | tup => cases ho
  | scr => cases ho
  | ins C fs => cases ho
  | lst o => exact ⟨_, h, rfl⟩
  | obj o C fs => obtain ⟨dx, e, _⟩ := h; exact ⟨_, e, rfl⟩
  | dic o ks => exact ⟨_, h.1, rfl⟩
  | dit o ks => exact ⟨_, h.1, rfl⟩
mutual
theorem T.own_m {K : PySem.W.Frag} {H : Hp} : ∀ {t : T}, t.ok K H → ∀ {a : Addr}, a ∈ t.own → ∃ o, H a = some o ∧ isM o = true
  | .un, _, _, m => nomatch m
  | .v _, _, _, m => nomatch m
  | .nd b k xs, h, a, m => by
    rw [T.ok] at h
    have m : a ∈ (T.nd b k xs).col NK.isOwn := m
    rw [T.col, List.mem_append] at m
    rcases m with m | m
    · by_cases e : k.isOwn = true
      · rw [if_pos e] at m
        have : a = b := by simpa using m
        subst this
        exact h.1.own_m e
      · rw [if_neg e] at m; cases m
    · exact T.owns_m h.2 m
theorem T.owns_m {K : PySem.W.Frag} {H : Hp} : ∀ {xs : List T}, T.oks K H xs → ∀ {a : Addr}, a ∈ T.cols NK.isOwn xs → ∃ o, H a = some o ∧ isM o = true
  | [], _, _, m => nomatch m
  | x :: r, h, a, m => by
    rw [T.oks] at h
    rw [T.cols, List.mem_append] at m
    exact m.elim (fun m => T.own_m h.1 m) (fun m => T.owns_m h.2 m)
end
theorem NodeAt.trk_s {K : PySem.W.Frag} {H : Hp} {a : Addr} {vs : List V} {k : NK} (h : NodeAt K H a vs k) (ho : k.isTrk = true) : ∃ o, H a = some o := by
  cases k with
  | tup => cases ho
  | scr => cases ho
  | ins C fs => obtain ⟨dx, e, _⟩ := h; exact ⟨_, e⟩
  | lst o => exact ⟨_, h⟩
  | obj o C fs => obtain ⟨dx, e, _⟩ := h; exact ⟨_, e⟩
  | dic o ks => exact ⟨_, h.1⟩
  | dit o ks => exact ⟨_, h.1⟩
mutual
theorem T.trk_s {K : PySem.W.Frag} {H : Hp} : ∀ {t : T}, t.ok K H → ∀ {a : Addr}, a ∈ t.trk → ∃ o, H a = some o
  | .un, _, _, m => nomatch m
  | .v _, _, _, m => nomatch m
  | .nd b k xs, h, a, m => by
    rw [T.ok] at h
    have m : a ∈ (T.nd b k xs).col NK.isTrk := m
    rw [T.col, List.mem_append] at m
    rcases m with m | m
    · by_cases e : k.isTrk = true
      · rw [if_pos e] at m
        have : a = b := by simpa using m
        subst this
        exact h.1.trk_s e
      · rw [if_neg e] at m; cases m
    · exact T.trks_s h.2 m
theorem T.trks_s {K : PySem.W.Frag} {H : Hp} : ∀ {xs : List T}, T.oks K H xs → ∀ {a : Addr}, a ∈ T.cols NK.isTrk xs → ∃ o, H a = some o
  | [], _, _, m => nomatch m
  | x :: r, h, a, m => by
    rw [T.oks] at h
    rw [T.cols, List.mem_append] at m
    exact m.elim (fun m => T.trk_s h.1 m) (fun m => T.trks_s h.2 m)
end
/-- a node stays where its object stays -/
theorem NodeAt.keep {K : PySem.W.Frag} {H H' : Hp} {a : Addr} {vs : List V} {k : NK} (h : NodeAt K H a vs k) (hk : ∀ o, H a = some o → (k.isTrk = false → isM o = false) → H' a = some o) : NodeAt K H' a vs k := by
  cases k with
  | tup =>
    rcases h with (h | ⟨o, h⟩) | h
    · exact .inl (.inl (hk _ h fun _ => rfl))
    · exact .inl (.inr ⟨o, hk _ h fun _ => rfl⟩)
    · exact .inr h
  | scr =>
    rcases h with ⟨o, h⟩ | h
    · exact .inl ⟨o, hk _ h fun _ => rfl⟩
    · exact .inr h
  | ins C fs => obtain ⟨dx, e, l⟩ := h; exact ⟨dx, hk _ e (fun z => by cases z), l⟩
  | lst o => exact hk _ h (fun z => by cases z)
  | obj o C fs => obtain ⟨dx, e, l⟩ := h; exact ⟨dx, hk _ e (fun z => by cases z), l⟩
  | dic o ks => exact ⟨hk _ h.1 (fun z => by cases z), h.2⟩
  | dit o ks => exact ⟨hk _ h.1 (fun z => by cases z), h.2⟩
mutual
theorem T.ok_keep {K : PySem.W.Frag} {H H' : Hp} : ∀ {t : T}, t.ok K H → (∀ b o, H b = some o → (b ∈ t.trk ∨ isM o = false) → H' b = some o) → t.ok K H'
  | .un, _, _ => trivial
  | .v _, _, _ => trivial
  | .nd a k xs, h, f => by
    rw [T.ok] at h ⊢
    refine ⟨h.1.keep fun o e z => f a o e ?_, T.oks_keep h.2 fun b o e z => f b o e (z.imp (fun m => ?_) id)⟩
    · cases q : k.isTrk with
      | false => exact .inr (z q)
      | true => exact .inl (T.mem_col.mpr (.inl ⟨q, rfl⟩))
    · show b ∈ T.col NK.isTrk (.nd a k xs)
      rw [T.col, List.mem_append]
      exact .inr m
theorem T.oks_keep {K : PySem.W.Frag} {H H' : Hp} : ∀ {xs : List T}, T.oks K H xs → (∀ b o, H b = some o → (b ∈ T.cols NK.isTrk xs ∨ isM o = false) → H' b = some o) → T.oks K H' xs
  | [], _, _ => trivial
  | x :: r, h, f => by
    rw [T.oks] at h ⊢
    refine ⟨T.ok_keep h.1 fun b o e z => f b o e (z.imp (fun m => ?_) id), T.oks_keep h.2 fun b o e z => f b o e (z.imp (fun m => ?_) id)⟩
    · rw [T.cols, List.mem_append]; exact .inl m
    · rw [T.cols, List.mem_append]; exact .inr m
end
theorem T.ok_same {K : PySem.W.Frag} {H H' : Hp} {t : T} (h : t.ok K H) (s : Same H H') : t.ok K H' := T.ok_keep h fun b o e _ => s b o e

/-! ### trees that stand apart -/
def Dj (t u : T) : Prop := (∀ a ∈ t.own, a ∉ u.trk) ∧ ∀ a ∈ u.own, a ∉ t.trk
theorem Dj.symm {t u : T} (h : Dj t u) : Dj u t := ⟨h.2, h.1⟩
mutual
def T.good : T → Prop
  | .un => True
  | .v _ => True
  | .nd a k xs => (k.isOwn = true → a ∉ T.cols NK.isTrk xs) ∧ (k.isTrk = true → a ∉ T.cols NK.isOwn xs) ∧ T.goods xs
def T.goods : List T → Prop
  | [] => True
  | x :: r => x.good ∧ (∀ u ∈ r, Dj x u) ∧ T.goods r
end
abbrev WF (A : List T) : Prop := T.goods A
theorem WF.mem : ∀ {A : List T}, WF A → ∀ {t : T}, t ∈ A → t.good
  | x :: r, h, t, m => by
    unfold WF at h; rw [T.goods] at h
    rcases List.mem_cons.mp m with rfl | m
    · exact h.1
    · exact WF.mem h.2.2 m
theorem WF.cons {t : T} {A : List T} (h1 : t.good) (h2 : ∀ u ∈ A, Dj t u) (h3 : WF A) : WF (t :: A) := by
  unfold WF; rw [T.goods]; exact ⟨h1, h2, h3⟩
theorem WF.head {t : T} {A : List T} (h : WF (t :: A)) : t.good ∧ (∀ u ∈ A, Dj t u) ∧ WF A := by
  unfold WF at h; rw [T.goods] at h; exact h
theorem WF.nil : WF [] := by unfold WF; rw [T.goods]; trivial
theorem WF.get : ∀ {A : List T}, WF A → ∀ {i j : Nat} {t u : T}, i ≠ j → A[i]? = some t → A[j]? = some u → Dj t u
  | [], _, i, j, t, u, _, e, _ => by simp at e
  | x :: r, h, 0, 0, t, u, ne, _, _ => absurd rfl ne
  | x :: r, h, 0, j + 1, t, u, ne, e1, e2 => by
    have : x = t := by simpa using e1
    subst this
    exact h.head.2.1 u (List.mem_of_getElem? (by simpa using e2))
  | x :: r, h, i + 1, 0, t, u, ne, e1, e2 => by
    have : x = u := by simpa using e2
    subst this
    exact (h.head.2.1 t (List.mem_of_getElem? (by simpa using e1))).symm
  | x :: r, h, i + 1, j + 1, t, u, ne, e1, e2 => WF.get h.head.2.2 (fun z => ne (congrArg (· + 1) z)) (by simpa using e1) (by simpa using e2)
theorem WF.set : ∀ {A : List T}, WF A → ∀ {i : Nat} {t : T}, t.good → (∀ j u, j ≠ i → A[j]? = some u → Dj t u) → WF (A.set i t)
  | [], _, _, _, _, _ => WF.nil
  | x :: r, h, 0, t, g, f => by
    show WF (t :: r)
    refine .cons g (fun u m => ?_) h.head.2.2
    obtain ⟨j, e⟩ := List.getElem?_of_mem m
    exact f (j + 1) u (by omega) (by simpa using e)
  | x :: r, h, i + 1, t, g, f => by
    show WF (x :: r.set i t)
    refine .cons h.head.1 (fun u m => ?_) (WF.set h.head.2.2 g fun j u ne e => f (j + 1) u (by omega) (by simpa using e))
    obtain ⟨j, e⟩ := List.getElem?_of_mem m
    by_cases hj : j = i
    · subst hj
      have hl : j < r.length := by
        have := (List.getElem?_eq_some_iff.mp e).1
        simpa using this
      rw [List.getElem?_set_self hl] at e
      cases e
      exact (f 0 x (by omega) rfl).symm
    · rw [List.getElem?_set_ne (Ne.symm hj)] at e
      exact h.head.2.1 u (List.mem_of_getElem? e)
theorem WF.sub {A B : List T} (h : WF B) (s : A.Sublist B) : WF A := by
  induction s with
  | slnil => exact h
  | cons x s ih => exact ih h.head.2.2
  | cons_cons x s ih => exact .cons h.head.1 (fun u m => h.head.2.1 u (s.subset m)) (ih h.head.2.2)
theorem WF.append {A B : List T} (h1 : WF A) (h2 : WF B) (f : ∀ t ∈ A, ∀ u ∈ B, Dj t u) : WF (A ++ B) := by
  induction A with
  | nil => exact h2
  | cons x r ih =>
    refine .cons h1.head.1 (fun u m => ?_) (ih h1.head.2.2 fun t m => f t (List.mem_cons_of_mem _ m))
    rcases List.mem_append.mp m with m | m
    · exact h1.head.2.1 u m
    · exact f x List.mem_cons_self u m
mutual
theorem T.good_of : ∀ {t : T}, t.own = [] → t.good
  | .un, _ => trivial
  | .v _, _ => trivial
  | .nd a k xs, h => by
    have h : T.col NK.isOwn (.nd a k xs) = [] := h
    rw [T.col, List.append_eq_nil_iff] at h
    rw [T.good]
    refine ⟨fun z => ?_, fun _ m => ?_, T.goods_of h.2⟩
    · rw [if_pos z] at h; cases h.1
    · rw [h.2] at m; cases m
theorem T.goods_of : ∀ {xs : List T}, T.cols NK.isOwn xs = [] → T.goods xs
  | [], _ => by rw [T.goods]; trivial
  | x :: r, h => by
    rw [T.cols, List.append_eq_nil_iff] at h
    rw [T.goods]
    refine ⟨T.good_of h.1, fun u m => ⟨fun a ma => ?_, fun a ma => ?_⟩, T.goods_of h.2⟩
    · have e : x.own = [] := h.1
      rw [e] at ma; cases ma
    · have : a ∈ T.cols NK.isOwn r := T.mem_cols.mpr ⟨u, m, ma⟩
      rw [h.2] at this; cases this
end
theorem T.fz_good (t : T) : t.fz.good := T.good_of (T.fz_own t)
theorem T.good_own {t : T} : t.good → ∀ {a : Addr}, a ∈ t.own → a ∉ t.imm ∧ a ∉ t.col NK.isShr := by
  have main : (∀ t : T, t.good → ∀ a, a ∈ t.own → a ∉ t.imm ∧ a ∉ t.col NK.isShr) := by
    intro t
    refine T.rec (motive_1 := fun t => t.good → ∀ a, a ∈ t.own → a ∉ t.imm ∧ a ∉ t.col NK.isShr) (motive_2 := fun xs => T.goods xs → ∀ a, a ∈ T.cols NK.isOwn xs → a ∉ T.cols NK.isImm xs ∧ a ∉ T.cols NK.isShr xs) ?_ ?_ ?_ ?_ ?_ t
    · intro _ a m; cases m
    · intro x _ a m; cases m
    · intro b k xs ih g a m0
      rw [T.good] at g
      have m : a ∈ T.col NK.isOwn (.nd b k xs) := m0
      clear m0
      show a ∉ T.col NK.isImm (.nd b k xs) ∧ a ∉ T.col NK.isShr (.nd b k xs)
      rw [T.col, List.mem_append] at m
      have nt : ∀ {p : NK → Bool}, (∀ k, p k = true → k.isTrk = true) → ∀ {z}, z ∈ T.cols p xs → z ∈ T.cols NK.isTrk xs := fun {p} hp {z} mz => T.cols_mono hp xs z mz
      rcases m with m | m
      · by_cases e : k.isOwn = true
        · rw [if_pos e] at m
          have : a = b := by simpa using m
          subst this
          have n := g.1 e
          rw [T.col, T.col, List.mem_append, List.mem_append]
          have e1 : k.isImm = false := by cases k <;> first | rfl | cases e
          have e2 : k.isShr = false := NK.own_shr e
          rw [e1, e2]
          refine ⟨fun z => ?_, fun z => ?_⟩
          · rcases z with z | z
            · cases z
            · exact n (nt (fun k => NK.imm_trk) z)
          · rcases z with z | z
            · cases z
            · exact n (nt (fun k h => by cases k <;> first | rfl | cases h) z)
        · rw [if_neg e] at m; cases m
      · have q := ih g.2.2 a m
        rw [T.col, T.col, List.mem_append, List.mem_append]
        refine ⟨fun z => ?_, fun z => ?_⟩
        · rcases z with z | z
          · by_cases e : k.isImm = true
            · rw [if_pos e] at z
              have : a = b := by simpa using z
              subst this
              exact g.2.1 (NK.imm_trk e) m
            · rw [if_neg e] at z; cases z
          · exact q.1 z
        · rcases z with z | z
          · by_cases e : k.isShr = true
            · rw [if_pos e] at z
              have : a = b := by simpa using z
              subst this
              exact g.2.1 (by cases k <;> first | rfl | cases e) m
            · rw [if_neg e] at z; cases z
          · exact q.2 z
    · intro _ a m; cases m
    · intro x r ih1 ih2 g a m
      rw [T.goods] at g
      rw [T.cols, List.mem_append] at m
      rw [T.cols, T.cols, List.mem_append, List.mem_append]
      have tr : ∀ {t : T} {z}, z ∈ t.imm ∨ z ∈ t.col NK.isShr → z ∈ t.trk := fun {t z} h => h.elim (fun h => T.imm_trk h) (fun h => T.col_mono (fun k h => by cases k <;> first | rfl | cases h) t z h)
      rcases m with m | m
      · have q := ih1 g.1 a m
        refine ⟨fun z => z.elim q.1 fun z => ?_, fun z => z.elim q.2 fun z => ?_⟩
        · obtain ⟨u, hu, mu⟩ := T.mem_cols.mp z
          exact (g.2.1 u hu).1 a m (tr (.inl mu))
        · obtain ⟨u, hu, mu⟩ := T.mem_cols.mp z
          exact (g.2.1 u hu).1 a m (tr (.inr mu))
      · have q := ih2 g.2.2 a m
        obtain ⟨u, hu, mu⟩ := T.mem_cols.mp m
        refine ⟨fun z => z.elim (fun z => ?_) q.1, fun z => z.elim (fun z => ?_) q.2⟩
        · exact (g.2.1 u hu).2 a mu (tr (.inl z))
        · exact (g.2.1 u hu).2 a mu (tr (.inr z))
  exact fun g a m => main t g a m
end VS
namespace VS
open PySem PySem.Spec PyProof.Rows L2

/-! ### a step of the heap -/
structure Step (H : Hp) (A : List T) (H' : Hp) (B : List T) : Prop where
  fr : ∀ b o, H b = some o → (∀ t ∈ A, b ∉ t.own) → H' b = some o
  al : ∀ b, H' b = none → H b = none
  ow : ∀ t ∈ B, ∀ a ∈ t.own, (∃ u ∈ A, a ∈ u.own) ∨ H a = none
  tr : ∀ t ∈ B, ∀ a ∈ t.trk, (∃ u ∈ A, a ∈ u.trk) ∨ H a = none
  im : ∀ t ∈ B, ∀ a ∈ t.imm, (∃ u ∈ A, a ∈ u.imm) ∨ H a = none
theorem Same.none {H H' : Hp} (s : Same H H') {b : Addr} (h : H' b = none) : H b = none := s.free h
theorem Step.same {H H' : Hp} {A : List T} (s : Same H H') : Step H A H' A :=
  ⟨fun b o e _ => s b o e, fun b h => Same.none s h, fun t m a ma => .inl ⟨t, m, ma⟩, fun t m a ma => .inl ⟨t, m, ma⟩, fun t m a ma => .inl ⟨t, m, ma⟩⟩
theorem Step.refl {H : Hp} {A : List T} : Step H A H A := .same (Same.refl H)
theorem Step.sub {H H' : Hp} {A B C : List T} (s : Step H A H' B) (h : ∀ t ∈ C, t ∈ B) : Step H A H' C :=
  ⟨s.fr, s.al, fun t m => s.ow t (h t m), fun t m => s.tr t (h t m), fun t m => s.im t (h t m)⟩
theorem Step.cons {H H' : Hp} {A B : List T} {t : T} (s : Step H A H' B) (h1 : ∀ a ∈ t.own, (∃ u ∈ A, a ∈ u.own) ∨ H a = none) (h2 : ∀ a ∈ t.trk, (∃ u ∈ A, a ∈ u.trk) ∨ H a = none) (h3 : ∀ a ∈ t.imm, (∃ u ∈ A, a ∈ u.imm) ∨ H a = none) : Step H A H' (t :: B) :=
  ⟨s.fr, s.al, fun u m => (List.mem_cons.mp m).elim (fun z => by subst z; exact h1) (s.ow u), fun u m => (List.mem_cons.mp m).elim (fun z => by subst z; exact h2) (s.tr u), fun u m => (List.mem_cons.mp m).elim (fun z => by subst z; exact h3) (s.im u)⟩
theorem Step.tail {H H' : Hp} {A B : List T} {t : T} (s : Step H A H' (t :: B)) : Step H A H' B := s.sub fun _ m => List.mem_cons_of_mem _ m
theorem Step.consV {H H' : Hp} {A B : List T} {x : V} (s : Step H A H' B) : Step H A H' (.v x :: B) := s.cons (fun _ m => nomatch m) (fun _ m => nomatch m) (fun _ m => nomatch m)
theorem em (p : Prop) : p ∨ ¬ p := Classical.em p
theorem Step.trans {H H1 H2 : Hp} {A B C : List T} (a : Step H A H1 B) (b : Step H1 B H2 C) : Step H A H2 C := by
  have back : ∀ c, H1 c = none → H c = none := a.al
  refine ⟨fun c o e n => b.fr c o (a.fr c o e n) fun t m z => ?_, fun c h => a.al c (b.al c h), fun t m c mc => ?_, fun t m c mc => ?_, fun t m c mc => ?_⟩
  · rcases a.ow t m c z with ⟨u, mu, zu⟩ | q
    · exact n u mu zu
    · rw [e] at q; cases q
  · rcases b.ow t m c mc with ⟨u, mu, zu⟩ | q
    · exact a.ow u mu c zu
    · exact .inr (back c q)
  · rcases b.tr t m c mc with ⟨u, mu, zu⟩ | q
    · exact a.tr u mu c zu
    · exact .inr (back c q)
  · rcases b.im t m c mc with ⟨u, mu, zu⟩ | q
    · exact a.im u mu c zu
    · exact .inr (back c q)
section
variable {K : PySem.W.Frag} {H H' : Hp} {A B : List T} {t : T}
theorem keepT (ht : t.ok K H) (hA : ∀ u ∈ A, u.ok K H) (st : Step H A H' B) (hd : ∀ u ∈ A, ∀ a ∈ u.own, a ∉ t.trk) : t.ok K H' := by
  refine T.ok_keep ht fun b o e z => st.fr b o e fun u mu zu => ?_
  rcases z with z | z
  · exact hd u mu b zu z
  · obtain ⟨o', e', m'⟩ := T.own_m (hA u mu) zu
    rw [e] at e'; cases e'
    rw [z] at m'; cases m'
theorem djStep (ht : t.ok K H) (hd : ∀ u ∈ A, Dj t u) (st : Step H A H' B) : ∀ u ∈ B, Dj t u := fun u mu => by
  refine ⟨fun a ma z => ?_, fun a ma z => ?_⟩
  · rcases st.tr u mu a z with ⟨w, mw, zw⟩ | q
    · exact (hd w mw).1 a ma zw
    · obtain ⟨o, e, _⟩ := T.own_m ht ma
      rw [q] at e; cases e
  · rcases st.ow u mu a ma with ⟨w, mw, zw⟩ | q
    · exact (hd w mw).2 a zw z
    · obtain ⟨o, e⟩ := T.trk_s ht z
      rw [q] at e; cases e
end

/-! ### the slots of a frame -/
structure Sim (K : PySem.W.Frag) (io : List Nat) (ρ : Nat → V) (ts : List T) (σ : L2.St) (H : Hp) : Prop where
  len : ts.length = σ.length
  rt : ∀ (i : Nat) (t : T), ts[i]? = some t → t ≠ .un → σ[i]? = some (some t.rt)
  ok : ∀ t ∈ ts, t.ok K H
  wf : WF ts
  pin : ∀ i ∈ io, ∃ t, ts[i]? = some t ∧ t ≠ .un ∧ t.rt = ρ i
inductive Sbt : T → T → Prop
  | refl (t : T) : Sbt t t
  | child {t c : T} {a : Addr} {k : NK} {xs : List T} (m : c ∈ xs) (h : Sbt t c) : Sbt t (.nd a k xs)
theorem Sbt.col {p : NK → Bool} {t u : T} (h : Sbt t u) : ∀ {a : Addr}, a ∈ t.col p → a ∈ u.col p := by
  induction h with
  | refl => exact id
  | child m _ ih => exact fun ma => T.mem_col.mpr (.inr ⟨_, m, ih ma⟩)
theorem Sbt.ok {K : PySem.W.Frag} {H : Hp} {t u : T} (h : Sbt t u) : u.ok K H → t.ok K H := by
  induction h with
  | refl => exact id
  | child m _ ih => intro q; rw [T.ok] at q; exact ih (T.oks_all.mp q.2 _ m)
theorem goods_mem : ∀ {xs : List T}, T.goods xs → ∀ {c : T}, c ∈ xs → c.good := fun h _ m => WF.mem h m
theorem Sbt.good {t u : T} (h : Sbt t u) : u.good → t.good := by
  induction h with
  | refl => exact id
  | child m _ ih => intro q; rw [T.good] at q; exact ih (goods_mem q.2.2 m)
theorem Sbt.trans {s t u : T} (h1 : Sbt s t) (h2 : Sbt t u) : Sbt s u := by
  induction h2 with
  | refl => exact h1
  | child m _ ih => exact .child m ih
inductive Md where
  | tmp
  | vw (src : List Nat)
def Md.isTmp : Md → Bool
  | .tmp => true
  | .vw _ => false
/-- the slots at md do not touch what is held so -/
def clr (m : Md) (md : List Nat) : Bool := match m with
  | .tmp => true
  | .vw src => src.all fun i => !md.contains i
def TRel (t : T) (ts : List T) : Prop := t.good ∧ ∀ u ∈ ts, Dj t u
def MRel : Md → T → List T → Prop
  | .tmp, t, ts => TRel t ts
  | .vw src, t, ts => (∃ i ∈ src, ∃ u, ts[i]? = some u ∧ Sbt t u) ∨ (t.own = [] ∧ TRel t ts)
theorem MRel.good {m : Md} {t : T} {ts : List T} (h : MRel m t ts) (w : WF ts) : t.good := by
  cases m with
  | tmp => exact h.1
  | vw src =>
    rcases h with ⟨i, _, u, e, s⟩ | ⟨_, h⟩
    · exact s.good (w.mem (List.mem_of_getElem? e))
    · exact h.1
theorem MRel.own {m : Md} {t : T} {ts : List T} (h : MRel m t ts) (w : WF ts) : ∀ u ∈ ts, ∀ a ∈ u.own, a ∉ t.own → a ∉ t.trk := by
  cases m with
  | tmp => exact fun u mu a ma _ => (h.2 u mu).2 a ma
  | vw src =>
    rcases h with ⟨i, _, v, e, s⟩ | ⟨_, h⟩
    · intro u mu a ma n z
      obtain ⟨j, ej⟩ := List.getElem?_of_mem mu
      by_cases hj : j = i
      · subst hj
        rw [e] at ej; cases ej
        have q := T.good_own (w.mem mu) ma
        rcases T.trk_cases t a z with y | y | y
        · exact n y
        · exact q.1 (s.col y)
        · exact q.2 (s.col y)
      · exact (w.get hj ej e).1 a ma (s.col z)
    · exact fun u mu a ma _ => (h.2 u mu).2 a ma
/-- without nodes of its own a view is a temporary -/
theorem MRel.tmp {m : Md} {t : T} {ts : List T} (h : MRel m t ts) (w : WF ts) (e : t.own = []) : TRel t ts :=
  ⟨h.good w, fun u mu => ⟨fun a ma => (by rw [e] at ma; cases ma), fun a ma => h.own w u mu a ma (by rw [e]; simp)⟩⟩
theorem TRel.of {t : T} {ts : List T} (h : TRel t ts) (e : t.own = []) : ∀ {m : Md}, MRel m t ts
  | .tmp => h
  | .vw _ => .inr ⟨e, h⟩

/-! ### results -/
abbrev XF := Option (List (Str × V))
inductive R (α : Type) where
  | ok (a : α)
  | ex (c : Value) (fs : XF) (s : List D)
  | no
def R.bind {α β : Type} (r : R α) (f : α → R β) : R β := match r with
  | .ok a => f a
  | .ex c fs s => .ex c fs s
  | .no => .no
abbrev E := List D → R (D × List D)
abbrev EA := List D → R (List D × List D)
def XRel (H : Hp) (d : Option Addr) : XF → Prop
  | none => d = none
  | some fs => ∃ a, d = some a ∧ H a = some (.xd fs)
def EPost (K : PySem.W.Frag) (W : WX) (io : List Nat) (ρ : Nat → V) (m : Md) (md : List Nat) (ts : List T) (σ : L2.St) (H : Hp) (Q : VK) : R (D × List D) → Prop
  | .ok (x, s) => ∀ ts' t H', Sim K io ρ ts' σ H' → T.ers ts' = s → t.er = x → t.ok K H' → MRel m t ts' → Step H ts H' (t :: ts') → (∀ j, j ∉ md → ts'[j]? = ts[j]?) → Q t.rt H'
  | .ex c fs s => ∀ ts' H' d, Sim K io ρ ts' σ H' → T.ers ts' = s → Step H ts H' ts' → XRel H' d fs → W c d σ H'
  | .no => False
def ERd (K : PySem.W.Frag) (W : WX) (io : List Nat) (m : Md) (md : List Nat) (t : TE) (d : E) : Prop :=
  ∀ ρ ts σ H Q, Sim K io ρ ts σ H → EPost K W io ρ m md ts σ H Q (d (T.ers ts)) → t σ H Q
structure DE (X : Cx) (W : WX) (io : List Nat) (m : Md) (md : List Nat) (e : Expr) (t : TE) (d : E) : Prop where
  pe : PE X e t
  rd : ERd X.K W io m md t d
def ARel : List Md → List T → List T → Prop
  | [], [], _ => True
  | m :: ms, t :: us, ts => MRel m t ts ∧ (∀ (i : Nat) (u : T) (m' : Md), us[i]? = some u → ms[i]? = some m' → (m.isTmp = true ∨ m'.isTmp = true) → Dj t u) ∧ ARel ms us ts
  | _, _, _ => False
def APost (K : PySem.W.Frag) (W : WX) (io : List Nat) (ρ : Nat → V) (ms : List Md) (md : List Nat) (ts : List T) (σ : L2.St) (H : Hp) (Q : List V → Hp → Prop) : R (List D × List D) → Prop
  | .ok (xs, s) => ∀ ts' us H', Sim K io ρ ts' σ H' → T.ers ts' = s → T.ers us = xs → (∀ u ∈ us, u.ok K H') → ARel ms us ts' → Step H ts H' (us ++ ts') → (∀ j, j ∉ md → ts'[j]? = ts[j]?) → Q (T.rts us) H'
  | .ex c fs s => ∀ ts' H' d, Sim K io ρ ts' σ H' → T.ers ts' = s → Step H ts H' ts' → XRel H' d fs → W c d σ H'
  | .no => False
def ARd (K : PySem.W.Frag) (W : WX) (io : List Nat) (ms : List Md) (md : List Nat) (t : TA) (d : EA) : Prop :=
  ∀ ρ ts σ H Q, Sim K io ρ ts σ H → APost K W io ρ ms md ts σ H Q (d (T.ers ts)) → t σ H Q
structure DA (X : Cx) (W : WX) (io : List Nat) (ms : List Md) (md : List Nat) (es : List Expr) (t : TA) (d : EA) : Prop where
  pa : PA X es t
  rd : ARd X.K W io ms md t d

/-! ### names, constants -/
theorem ers_get {ts : List T} {i : Nat} {d : D} (h : (T.ers ts)[i]? = some d) : ∃ t, ts[i]? = some t ∧ t.er = d := by
  rw [T.ers_map, List.getElem?_map] at h
  cases e : ts[i]? with
  | none => rw [e] at h; cases h
  | some t => rw [e] at h; exact ⟨t, rfl, Option.some.inj h⟩
theorem er_un {t : T} (h : t.er ≠ .un) : t ≠ .un := fun z => h (by rw [z, T.er])
def dn (i : Nat) : E := fun s => match s[i]? with
  | none => .no
  | some .un => .no
  | some d => .ok (d, s)
theorem dn_eq {i : Nat} {s : List D} {d : D} (h : s[i]? = some d) (hu : d ≠ .un) : dn i s = .ok (d, s) := by
  unfold dn; rw [h]; cases d <;> first | rfl | exact absurd rfl hu
section
variable {X : Cx} {W : WX} {io : List Nat}
theorem de_n (i : Nat) {x : Str} {pos : Pos} (hN : X.N[i]? = some x := by rfl) (hv : Vis X.env.scope x := by first | exact Or.inl rfl | exact Or.inr (Or.inl rfl) | exact Or.inr (Or.inr rfl)) (hd : (x == ("__debug__" : Str)) = false := by decide)
    (hcd : (x == ("__classdict__" : Str)) = false := by decide) : DE X W io (.vw [i]) [] (.Name x pos) (tVar i) (dn i) := by
  refine ⟨pe_var hN hv hd hcd, fun ρ ts σ H Q S h => ?_⟩
  unfold dn at h
  cases e : (T.ers ts)[i]? with
  | none => rw [e] at h; exact h.elim
  | some d =>
    obtain ⟨t, et, ed⟩ := ers_get e
    have mt := List.mem_of_getElem? et
    rw [e] at h
    have go : t ≠ .un → EPost X.K W io ρ (.vw [i]) [] ts σ H Q (.ok (d, T.ers ts)) → tVar i σ H Q := fun ne h =>
      ⟨t.rt, S.rt i t et ne, h ts t H S rfl ed (S.ok t mt) (.inl ⟨i, by simp, t, et, .refl t⟩) (Step.refl.sub fun u mu => by
          rcases List.mem_cons.mp mu with rfl | mu
          · exact mt
          · exact mu) fun _ _ => rfl⟩
    cases d with
    | un => exact h.elim
    | v x => exact go (er_un (by rw [ed]; intro z; cases z)) h
    | nd k xs => exact go (er_un (by rw [ed]; intro z; cases z)) h
def dc (x : V) : E := fun s => .ok (.v x, s)
theorem rd_c {K : PySem.W.Frag} {ρ : Nat → V} {ts : List T} {σ : L2.St} {H : Hp} {Q : VK} {x : V} (S : Sim K io ρ ts σ H) (h : EPost K W io ρ .tmp [] ts σ H Q (dc x (T.ers ts))) : Q x H :=
  h ts (.v x) H S rfl rfl trivial ⟨trivial, fun u _ => ⟨fun a m => (nomatch m), fun a _ m => (nomatch m)⟩⟩ Step.refl.consV fun _ _ => rfl
theorem de_c {e : Expr} {x : V} (h : PE X e (tC x)) : DE X W io .tmp [] e (tC x) (dc x) := ⟨h, fun ρ ts σ H Q S q => rd_c S q⟩
theorem de_int {i j pos} : DE X W io .tmp [] (.Constant (.int i) j pos) (tC (.int i)) (dc (.int i)) := de_c pe_int
theorem de_bl {b j pos} : DE X W io .tmp [] (.Constant (.bool b) j pos) (tC (.bl b)) (dc (.bl b)) := de_c pe_bl
theorem de_non {j pos} : DE X W io .tmp [] (.Constant .none j pos) (tC .non) (dc .non) := de_c pe_non
theorem de_str {x j pos} : DE X W io .tmp [] (.Constant (.str x) j pos) (tC (.str x)) (dc (.str x)) := de_c pe_str

/-! ### lists of expressions -/
def dAnil : EA := fun s => .ok ([], s)
def dAcons (m : Md) (mr : List Nat) (de : E) (dr : EA) : EA := fun s => (de s).bind fun q => if (clr m mr || !q.1.hasOwn) = true then (dr q.2).bind fun r => .ok (q.1 :: r.1, r.2) else .no
theorem ard_nil {K : PySem.W.Frag} : ARd K W io [] [] tNil dAnil :=
  fun ρ ts σ H Q S h => h ts [] H S rfl rfl (fun _ m => nomatch m) trivial Step.refl fun _ _ => rfl
theorem da_nil : DA X W io [] [] [] tNil dAnil := ⟨pa_nil, ard_nil⟩
theorem mem_ers_len {us : List T} {xs : List D} (h : T.ers us = xs) : us.length = xs.length := by rw [← h, T.ers_map, List.length_map]
theorem ARel.len : ∀ {ms : List Md} {us ts : List T}, ARel ms us ts → ms.length = us.length
  | [], [], _, _ => rfl
  | _ :: ms, _ :: us, ts, h => congrArg (· + 1) (ARel.len (ms := ms) (us := us) (ts := ts) h.2.2)
  | [], _ :: _, _, h => h.elim
  | _ :: _, [], _, h => h.elim
theorem ARel.get : ∀ {ms : List Md} {us ts : List T}, ARel ms us ts → ∀ {i : Nat} {m : Md} {u : T}, ms[i]? = some m → us[i]? = some u → MRel m u ts
  | m :: ms, t :: us, ts, h, 0, m', u, e1, e2 => by
    have e1 : m = m' := by simpa using e1
    have e2 : t = u := by simpa using e2
    subst e1; subst e2; exact h.1
  | m :: ms, t :: us, ts, h, i + 1, m', u, e1, e2 => ARel.get h.2.2 (by simpa using e1) (by simpa using e2)
  | [], [], _, _, i, _, _, e1, _ => by simp at e1
  | [], _ :: _, _, h, _, _, _, _, _ => h.elim
  | _ :: _, [], _, h, _, _, _, _, _ => h.elim
/-- the rest behind a held head -/
theorem cons_tail {K : PySem.W.Frag} {m : Md} {ms : List Md} {md mr : List Nat} {tr : TA} {dr : EA} {ρ : Nat → V} {ts ts1 : List T} {σ : L2.St} {H H1 : Hp} {Q : List V → Hp → Prop} {x : D} {s : List D} {t : T} (hr : ARd K W io ms mr tr dr)
    (h : APost K W io ρ (m :: ms) (md ++ mr) ts σ H Q (if (clr m mr || !x.hasOwn) = true then (dr s).bind fun r => .ok (x :: r.1, r.2) else .no))
    (S1 : Sim K io ρ ts1 σ H1) (e1 : T.ers ts1 = s) (et : t.er = x) (ok1 : t.ok K H1) (mr1 : MRel m t ts1) (st1 : Step H ts H1 (t :: ts1)) (pu1 : ∀ j, j ∉ md → ts1[j]? = ts[j]?) :
    tr σ H1 fun xs H2 => Q (t.rt :: xs) H2 := by
  by_cases hc : (clr m mr || !x.hasOwn) = true
  · rw [if_pos hc] at h
    refine hr ρ ts1 σ H1 _ S1 ?_
    rw [e1]
    cases eb : dr s with
    | no => rw [eb] at h; exact h
    | ex c fs s2 =>
      rw [eb] at h
      exact fun ts2 H2 d S2 e2 st2 xr => h ts2 H2 d S2 e2 (st1.tail.trans st2) xr
    | ok q2 =>
      obtain ⟨xs, s2⟩ := q2
      rw [eb] at h
      intro ts2 us H2 S2 e2 eus okus ar st2 pu2
      -- the head after the rest
      have key : t.ok K H2 ∧ MRel m t ts2 ∧ (∀ (i : Nat) (u : T) (m' : Md), us[i]? = some u → ms[i]? = some m' → (m.isTmp = true ∨ m'.isTmp = true) → Dj t u) := by
        have viaDj : (∀ u ∈ ts1, Dj t u) → t.ok K H2 ∧ (∀ u ∈ ts2, Dj t u) ∧ ∀ u ∈ us, Dj t u := fun hd =>
          ⟨keepT ok1 S1.ok st2 fun u mu a ma => (hd u mu).2 a ma, fun u mu => djStep ok1 hd st2 u (List.mem_append_right _ mu), fun u mu => djStep ok1 hd st2 u (List.mem_append_left _ mu)⟩
        have free : t.own = [] → _ := fun on => by
          obtain ⟨k1, k2, k3⟩ := viaDj (mr1.tmp S1.wf on).2
          exact (show t.ok K H2 ∧ MRel m t ts2 ∧ (∀ (i : Nat) (u : T) (m' : Md), us[i]? = some u → ms[i]? = some m' → (m.isTmp = true ∨ m'.isTmp = true) → Dj t u) from
            ⟨k1, TRel.of ⟨mr1.good S1.wf, k2⟩ on, fun i u m' eu _ _ => k3 u (List.mem_of_getElem? eu)⟩)
        cases m with
        | tmp =>
          obtain ⟨k1, k2, k3⟩ := viaDj mr1.2
          exact ⟨k1, ⟨mr1.1, k2⟩, fun i u m' eu _ _ => k3 u (List.mem_of_getElem? eu)⟩
        | vw src =>
          rcases mr1 with ⟨i, mi, u, eu, sb⟩ | ⟨on, _⟩
          · by_cases ho : x.hasOwn = false
            · exact free (T.own_nil (by rw [et]; exact ho))
            · have hx : x.hasOwn = true := by cases q : x.hasOwn with | true => rfl | false => exact absurd q ho
              rw [hx, Bool.not_true, Bool.or_false] at hc
              have hi : i ∉ mr := by
                have := (List.all_eq_true.mp hc) i mi
                simpa using this
              have e2' : ts2[i]? = some u := (pu2 i hi).trans eu
              refine ⟨sb.ok (S2.ok u (List.mem_of_getElem? e2')), .inl ⟨i, mi, u, e2', sb⟩, fun j w m' ew em hm => ?_⟩
              have hm' : m'.isTmp = true := hm.elim (fun z => by cases z) id
              have arw := ar.get em ew
              cases m' with
              | vw _ => cases hm'
              | tmp =>
                have dj := arw.2 u (List.mem_of_getElem? e2')
                exact ⟨fun a ma z => dj.2 a (sb.col ma) z, fun a ma z => dj.1 a ma (sb.col z)⟩
          · exact free on
      obtain ⟨k1, k2, k3⟩ := key
      refine h ts2 (t :: us) H2 S2 e2 (by rw [T.ers, et, eus]) (fun u mu => ?_) ⟨k2, k3, ar⟩ ?_ fun j hj => ?_
      · rcases List.mem_cons.mp mu with rfl | mu
        · exact k1
        · exact okus u mu
      · have s3 := st1.tail.trans st2
        exact s3.cons (st1.ow _ List.mem_cons_self) (st1.tr _ List.mem_cons_self) (st1.im _ List.mem_cons_self)
      · rw [List.mem_append, not_or] at hj
        exact (pu2 j hj.2).trans (pu1 j hj.1)
  · rw [if_neg hc] at h; exact h.elim
theorem ard_cons {K : PySem.W.Frag} {m : Md} {ms : List Md} {md mr : List Nat} {te : TE} {tr : TA} {de : E} {dr : EA} (he : ERd K W io m md te de) (hr : ARd K W io ms mr tr dr) :
    ARd K W io (m :: ms) (md ++ mr) (tCons te tr) (dAcons m mr de dr) := by
  refine fun ρ ts σ H Q S h => ?_
  refine he ρ ts σ H _ S ?_
  unfold dAcons at h
  cases ea : de (T.ers ts) with
  | no => rw [ea] at h; exact h
  | ex c fs s => rw [ea] at h; exact h
  | ok q =>
    rw [ea] at h
    exact fun ts1 t H1 S1 e1 et ok1 mr1 st1 pu1 => cons_tail hr h S1 e1 et ok1 mr1 st1 pu1
/-- the same, the head looked at -/
def tConsC (C : V → Hp → Prop) (te : TE) (tr : TA) : TA := fun σ H Q => te σ H fun x H1 => C x H1 ∧ tr σ H1 fun xs H2 => Q (x :: xs) H2
def dAconsC (chk : D → Bool) (m : Md) (mr : List Nat) (de : E) (dr : EA) : EA := fun s => (de s).bind fun q => if chk q.1 = true then (if (clr m mr || !q.1.hasOwn) = true then (dr q.2).bind fun r => .ok (q.1 :: r.1, r.2) else .no) else .no
theorem ard_consC {K : PySem.W.Frag} {C : V → Hp → Prop} {chk : D → Bool} {m : Md} {ms : List Md} {md mr : List Nat} {te : TE} {tr : TA} {de : E} {dr : EA} (he : ERd K W io m md te de) (hr : ARd K W io ms mr tr dr)
    (hC : ∀ (H : Hp) (t : T), t.ok K H → chk t.er = true → C t.rt H) : ARd K W io (m :: ms) (md ++ mr) (tConsC C te tr) (dAconsC chk m mr de dr) := by
  refine fun ρ ts σ H Q S h => ?_
  refine he ρ ts σ H _ S ?_
  unfold dAconsC at h
  cases ea : de (T.ers ts) with
  | no => rw [ea] at h; exact h
  | ex c fs s => rw [ea] at h; exact h
  | ok q =>
    rw [ea] at h
    obtain ⟨x, s⟩ := q
    intro ts1 t H1 S1 e1 et ok1 mr1 st1 pu1
    simp only [R.bind] at h
    by_cases hk : chk x = true
    · rw [if_pos hk] at h
      exact ⟨hC H1 t ok1 (by rw [et]; exact hk), cons_tail hr h S1 e1 et ok1 mr1 st1 pu1⟩
    · rw [if_neg hk] at h; exact h.elim
theorem da_cons {m : Md} {ms : List Md} {md mr : List Nat} {e : Expr} {es : List Expr} {te : TE} {tr : TA} {de : E} {dr : EA} (he : DE X W io m md e te de) (hr : DA X W io ms mr es tr dr)
    (hs : starEach (e :: es) X.env = (false, eval e X.env) :: starEach es X.env := by rfl) : DA X W io (m :: ms) (md ++ mr) (e :: es) (tCons te tr) (dAcons m mr de dr) :=
  ⟨pa_cons he.pe hr.pa hs, ard_cons he.rd hr.rd⟩
end
end VS
namespace VS
open PySem PySem.Spec PyProof.Rows L2

theorem er_v {t : T} {x : V} (h : t.er = .v x) : t = .v x := by
  cases t with
  | un => cases h
  | v y => cases h; rfl
  | nd a k xs => rw [T.er] at h; cases h
theorem er_nd {t : T} {k : NK} {xs : List D} (h : t.er = .nd k xs) : ∃ a us, t = .nd a k us ∧ T.ers us = xs := by
  cases t with
  | un => cases h
  | v y => cases h
  | nd a k' us => rw [T.er] at h; cases h; exact ⟨a, us, rfl, rfl⟩
theorem ers_len (us : List T) : (T.ers us).length = us.length := by rw [T.ers_map, List.length_map]
theorem rts_len (us : List T) : (T.rts us).length = us.length := by rw [T.rts_map, List.length_map]
theorem ers_append (us ws : List T) : T.ers (us ++ ws) = T.ers us ++ T.ers ws := by rw [T.ers_map, T.ers_map, T.ers_map, List.map_append]
theorem rts_append (us ws : List T) : T.rts (us ++ ws) = T.rts us ++ T.rts ws := by rw [T.rts_map, T.rts_map, T.rts_map, List.map_append]
theorem ers_cons {us : List T} {x : D} {xs : List D} (h : T.ers us = x :: xs) : ∃ u r, us = u :: r ∧ u.er = x ∧ T.ers r = xs := by
  cases us with
  | nil => rw [T.ers] at h; cases h
  | cons u r => rw [T.ers] at h; injection h with h1 h2; exact ⟨u, r, rfl, h1, h2⟩
theorem ers_nil {us : List T} (h : T.ers us = []) : us = [] := by
  cases us with
  | nil => rfl
  | cons u r => rw [T.ers] at h; cases h
/-- atoms all -/
theorem ers_vs {us : List T} {vs : List V} (h : T.ers us = vs.map D.v) : us = vs.map T.v := by
  induction vs generalizing us with
  | nil => exact ers_nil h
  | cons v r ih =>
    obtain ⟨u, w, rfl, e1, e2⟩ := ers_cons h
    rw [er_v e1, ih e2]; rfl
theorem rts_vs (vs : List V) : T.rts (vs.map T.v) = vs := by
  rw [T.rts_map, List.map_map]
  have : (T.rt ∘ T.v) = id := rfl
  rw [this, List.map_id]

/-! ### new things -/
structure Frsh (H : Hp) (A : List T) (H' : Hp) (t : T) : Prop where
  sm : Same H H'
  gd : t.good
  ow : ∀ a ∈ t.own, H a = none
  tr : ∀ a ∈ t.trk, H a = none ∨ ∃ u ∈ A, a ∈ u.trk ∧ a ∉ u.own
  im : ∀ a ∈ t.imm, H a = none ∨ ∃ u ∈ A, a ∈ u.imm
theorem Frsh.atom {H : Hp} {A : List T} {x : V} : Frsh H A H (.v x) :=
  ⟨Same.refl H, trivial, fun _ m => (nomatch m), fun _ m => (nomatch m), fun _ m => (nomatch m)⟩
structure Sub0 (c u : T) : Prop where
  ow : c.own = []
  tr : ∀ a ∈ c.trk, a ∈ u.trk ∧ a ∉ u.own
  im : ∀ a ∈ c.imm, a ∈ u.imm
theorem Sub0.child {a : Addr} {k : NK} {xs : List T} {c : T} (g : (T.nd a k xs).good) (m : c ∈ xs) (h : c.own = []) : Sub0 c (.nd a k xs) := by
  have up : ∀ {p : NK → Bool} {z : Addr}, z ∈ c.col p → z ∈ (T.nd a k xs).col p := fun {p z} mz => T.mem_col.mpr (.inr ⟨c, m, mz⟩)
  refine ⟨h, fun z mz => ⟨up mz, fun q => ?_⟩, fun z mz => up mz⟩
  have q2 := T.good_own g q
  rcases T.trk_cases c z mz with w | w | w
  · rw [h] at w; cases w
  · exact q2.1 (up w)
  · exact q2.2 (up w)
theorem same_upd {H : Hp} {p : Addr} {o : HO} (h : H p = none) : Same H (upd H p o) := fun b x e => by
  rw [upd_ne (ne_of_none e h)]; exact e
section
variable {K : PySem.W.Frag} {H : Hp} {A : List T}
theorem Frsh.node {p : Addr} {k : NK} {cs : List T} {o : HO} (hp : H p = none) (okA : ∀ u ∈ A, u.ok K H) (hc : ∀ c ∈ cs, ∃ u ∈ A, Sub0 c u) : Frsh H A (upd H p o) (.nd p k cs) := by
  have own0 : T.cols NK.isOwn cs = [] := by
    cases e : T.cols NK.isOwn cs with
    | nil => rfl
    | cons z r =>
      have : z ∈ T.cols NK.isOwn cs := by rw [e]; simp
      obtain ⟨c, mc, mz⟩ := T.mem_cols.mp this
      obtain ⟨u, mu, s⟩ := hc c mc
      have mz : z ∈ c.own := mz
      rw [s.ow] at mz; cases mz
  refine ⟨same_upd hp, ?_, fun a ma => ?_, fun a ma => ?_, fun a ma => ?_⟩
  · rw [T.good]
    refine ⟨fun _ m => ?_, fun _ m => ?_, T.goods_of own0⟩
    · obtain ⟨c, mc, mz⟩ := T.mem_cols.mp m
      obtain ⟨u, mu, s⟩ := hc c mc
      obtain ⟨o', e⟩ := T.trk_s (okA u mu) (s.tr _ mz).1
      rw [hp] at e; cases e
    · rw [own0] at m; cases m
  · rcases T.mem_col.mp ma with ⟨_, e⟩ | ⟨c, mc, mz⟩
    · rw [e]; exact hp
    · have : a ∈ T.cols NK.isOwn cs := T.mem_cols.mpr ⟨c, mc, mz⟩
      rw [own0] at this; cases this
  · rcases T.mem_col.mp ma with ⟨_, e⟩ | ⟨c, mc, mz⟩
    · rw [e]; exact .inl hp
    · obtain ⟨u, mu, s⟩ := hc c mc
      exact .inr ⟨u, mu, s.tr a mz⟩
  · rcases T.mem_col.mp ma with ⟨_, e⟩ | ⟨c, mc, mz⟩
    · rw [e]; exact .inl hp
    · obtain ⟨u, mu, s⟩ := hc c mc
      exact .inr ⟨u, mu, s.im a mz⟩
/-- a new list's, a new tuple's tree -/
theorem ok_new {p : Addr} {k : NK} {cs : List T} {o : HO} (hp : H p = none) (hn : NodeAt K (upd H p o) p (T.rts cs) k) (hc : ∀ c ∈ cs, c.ok K H) : (T.nd p k cs).ok K (upd H p o) := by
  rw [T.ok]
  exact ⟨hn, T.oks_all.mpr fun c m => T.ok_same (hc c m) (same_upd hp)⟩
theorem T.ok.child {a : Addr} {k : NK} {xs : List T} {c : T} (h : (T.nd a k xs).ok K H) (m : c ∈ xs) : c.ok K H := by
  rw [T.ok] at h
  exact T.oks_all.mp h.2 c m
theorem T.ok.node {a : Addr} {k : NK} {xs : List T} (h : (T.nd a k xs).ok K H) : NodeAt K H a (T.rts xs) k := by
  rw [T.ok] at h; exact h.1
theorem T.ok.atL {a : Addr} {o : Bool} {xs : List T} (h : (T.nd a (.lst o) xs).ok K H) : H a = some (.lst (T.rts xs)) := h.node
theorem T.ok.sqL {a : Addr} {o : Bool} {xs : List T} (h : (T.nd a (.lst o) xs).ok K H) : SqL K H a (T.rts xs) := .inl (.inl h.node)
theorem T.ok.sqS {a : Addr} {xs : List T} (h : (T.nd a .scr xs).ok K H) : SqL K H a (T.rts xs) := by
  rcases h.node with ⟨o, e⟩ | e
  · exact .inl (.inr ⟨o, e⟩)
  · exact .inr e
theorem T.ok.sqT {a : Addr} {xs : List T} (h : (T.nd a .tup xs).ok K H) : SqT K H a (T.rts xs) := h.node
end
theorem hass_own {xs : List T} (h : D.hass NK.isOwn (T.ers xs) = false) : ∀ c ∈ xs, c.own = [] := fun c m => by
  have e := (T.hass_er xs).mp h
  cases q : c.own with
  | nil => rfl
  | cons z r =>
    have : z ∈ T.cols NK.isOwn xs := T.mem_cols.mpr ⟨c, m, by show z ∈ c.own; rw [q]; simp⟩
    rw [e] at this; cases this

/-- what is left behind an operation on held values -/
theorem fin {K : PySem.W.Frag} {io : List Nat} {ρ : Nat → V} {ts ts2 us : List T} {σ : L2.St} {H H2 H3 : Hp} {ms : List Md} {t : T} (S : Sim K io ρ ts2 σ H2) (ok : ∀ u ∈ us, u.ok K H2) (ar : ARel ms us ts2) (st : Step H ts H2 (us ++ ts2)) (f : Frsh H2 us H3 t) :
    Sim K io ρ ts2 σ H3 ∧ MRel .tmp t ts2 ∧ Step H ts H3 (t :: ts2) := by
  have back : ∀ a, H2 a = none → H a = none := st.al
  refine ⟨⟨S.len, S.rt, fun u m => T.ok_same (S.ok u m) f.sm, S.wf, S.pin⟩, ⟨f.gd, fun u mu => ⟨fun a ma z => ?_, fun a ma z => ?_⟩⟩, ?_⟩
  · obtain ⟨o, e⟩ := T.trk_s (S.ok u mu) z
    rw [f.ow a ma] at e; cases e
  · rcases f.tr a z with q | ⟨w, mw, q1, q2⟩
    · obtain ⟨o, e, _⟩ := T.own_m (S.ok u mu) ma
      rw [q] at e; cases e
    · obtain ⟨i, ei⟩ := List.getElem?_of_mem mw
      have hl := ar.len
      have hi : i < ms.length := by rw [hl]; exact (List.getElem?_eq_some_iff.mp ei).1
      exact (ar.get (List.getElem?_eq_getElem hi) ei).own S.wf u mu a ma q2 q1
  · refine Step.cons ⟨fun b o e n => f.sm b o (st.fr b o e n), fun b h => back b (f.sm.free h), (st.sub fun u m => List.mem_append_right _ m).ow, (st.sub fun u m => List.mem_append_right _ m).tr, (st.sub fun u m => List.mem_append_right _ m).im⟩ (fun a ma => .inr (back a (f.ow a ma))) (fun a ma => ?_) fun a ma => ?_
    · rcases f.tr a ma with q | ⟨w, mw, q1, _⟩
      · exact .inr (back a q)
      · exact st.tr w (List.mem_append_left _ mw) a q1
    · rcases f.im a ma with q | ⟨w, mw, q1⟩
      · exact .inr (back a q)
      · exact st.im w (List.mem_append_left _ mw) a q1

/-! ### an operation on evaluated things -/
def OpN (K : PySem.W.Frag) (r : List V → Hp → VK → Prop) (f : List D → Option D) : Prop :=
  ∀ (H : Hp) (us : List T) (d : D) (Q : VK), (∀ u ∈ us, u.ok K H) → (∀ u ∈ us, u.good) → f (T.ers us) = some d → (∀ t H', t.er = d → t.ok K H' → Frsh H us H' t → Q t.rt H') → r (T.rts us) H Q
def dOp (f : List D → Option D) (dA : EA) : E := fun s => (dA s).bind fun q => match f q.1 with
  | some d => .ok (d, q.2)
  | none => .no
theorem rdN {K : PySem.W.Frag} {W : WX} {io : List Nat} {md : List Nat} {ms : List Md} {tA : TA} {dA : EA} {r : List V → Hp → VK → Prop} {f : List D → Option D} (hA : ARd K W io ms md tA dA) (hf : OpN K r f) :
    ERd K W io .tmp md (fun σ H Q => tA σ H fun vs H1 => r vs H1 Q) (dOp f dA) := fun ρ ts σ H Q S h => by
  refine hA ρ ts σ H _ S ?_
  unfold dOp at h
  cases ea : dA (T.ers ts) with
  | no => rw [ea] at h; exact h
  | ex c fs s => rw [ea] at h; exact h
  | ok q =>
    obtain ⟨xs, s⟩ := q
    rw [ea] at h
    intro ts2 us H2 S2 e2 eus okus ar st2 pu2
    simp only [R.bind] at h
    cases ef : f xs with
    | none => rw [ef] at h; exact h.elim
    | some d =>
      rw [ef] at h
      refine hf H2 us d Q okus (fun u m => ?_) (by rw [eus]; exact ef) fun t H3 et okt fr => ?_
      · obtain ⟨i, ei⟩ := List.getElem?_of_mem m
        have hi : i < ms.length := by rw [ar.len]; exact (List.getElem?_eq_some_iff.mp ei).1
        exact (ar.get (List.getElem?_eq_getElem hi) ei).good S2.wf
      · obtain ⟨S3, mr, st3⟩ := fin S2 okus ar st2 fr
        exact h ts2 t H3 S3 e2 et okt mr st3 pu2
/-- two operands -/
def Op2 (K : PySem.W.Frag) (r : R2) (f : D → D → Option D) : Prop :=
  ∀ (H : Hp) (x y : T) (d : D) (Q : VK), x.ok K H → y.ok K H → x.good → y.good → f x.er y.er = some d → (∀ t H', t.er = d → t.ok K H' → Frsh H [x, y] H' t → Q t.rt H') → r x.rt y.rt H Q
def r2L (r : R2) : List V → Hp → VK → Prop := fun vs H Q => match vs with
  | [x, y] => r x y H Q
  | _ => False
def f2L (f : D → D → Option D) : List D → Option D
  | [x, y] => f x y
  | _ => none
theorem Op2.n {K : PySem.W.Frag} {r : R2} {f : D → D → Option D} (h : Op2 K r f) : OpN K (r2L r) (f2L f) := by
  intro H us d Q ok gd e q
  match us, ok, gd, e, q with
  | [x, y], ok, gd, e, q => exact h H x y d Q (ok x (by simp)) (ok y (by simp)) (gd x (by simp)) (gd y (by simp)) e q
  | [], _, _, e, _ => cases e
  | [_], _, _, e, _ => cases e
  | _ :: _ :: _ :: _, _, _, e, _ => cases e
def Op1 (K : PySem.W.Frag) (r : V → Hp → VK → Prop) (f : D → Option D) : Prop :=
  ∀ (H : Hp) (x : T) (d : D) (Q : VK), x.ok K H → x.good → f x.er = some d → (∀ t H', t.er = d → t.ok K H' → Frsh H [x] H' t → Q t.rt H') → r x.rt H Q
def r1L (r : V → Hp → VK → Prop) : List V → Hp → VK → Prop := fun vs H Q => match vs with
  | [x] => r x H Q
  | _ => False
def f1L (f : D → Option D) : List D → Option D
  | [x] => f x
  | _ => none
theorem Op1.n {K : PySem.W.Frag} {r : V → Hp → VK → Prop} {f : D → Option D} (h : Op1 K r f) : OpN K (r1L r) (f1L f) := by
  intro H us d Q ok gd e q
  match us, ok, gd, e, q with
  | [x], ok, gd, e, q => exact h H x d Q (ok x (by simp)) (gd x (by simp)) e q
  | [], _, _, e, _ => cases e
  | _ :: _ :: _, _, _, e, _ => cases e
/-- the denotations of one and of two operands -/
def dTwo (m : Md) (mb : List Nat) (f : D → D → Option D) (da db : E) : E := fun s => (da s).bind fun q => if (clr m mb || !q.1.hasOwn) = true then (db q.2).bind fun r => match f q.1 r.1 with
    | some d => .ok (d, r.2)
    | none => .no
  else .no
def dOne (f : D → Option D) (da : E) : E := fun s => (da s).bind fun q => match f q.1 with
  | some d => .ok (d, q.2)
  | none => .no
theorem dTwo_eq (m m2 : Md) (mb : List Nat) (f : D → D → Option D) (da db : E) (hm : clr m2 [] = true) : dTwo m mb f da db = dOp (f2L f) (dAcons m mb da (dAcons m2 [] db dAnil)) := by
  funext s
  unfold dTwo dOp dAcons dAnil
  cases da s with
  | no => rfl
  | ex c fs s => rfl
  | ok q =>
    obtain ⟨x, s1⟩ := q
    simp only [R.bind, hm, Bool.true_or, if_true]
    by_cases h : (clr m mb || !x.hasOwn) = true
    · rw [if_pos h, if_pos h]
      cases db s1 with
      | no => rfl
      | ex c fs s => rfl
      | ok r => rfl
    · rw [if_neg h, if_neg h]
theorem clr_nil (m : Md) : clr m [] = true := by
  cases m with
  | tmp => rfl
  | vw src => exact List.all_eq_true.mpr fun i _ => rfl
theorem dOne_eq (m : Md) (f : D → Option D) (da : E) : dOne f da = dOp (f1L f) (dAcons m [] da dAnil) := by
  funext s
  unfold dOne dOp dAcons dAnil
  cases da s with
  | no => rfl
  | ex c fs s => rfl
  | ok q =>
    obtain ⟨x, s1⟩ := q
    simp only [R.bind, clr_nil, Bool.true_or, if_true]
    rfl
section
variable {X : Cx} {W : WX} {io : List Nat} {e : Expr} {ta tb : TE} {da db : E} {m1 m2 : Md} {d1 d2 : List Nat}
theorem de_two {r : R2} {f : D → D → Option D} (hpe : PE X e (tOp r ta tb)) (ha : ERd X.K W io m1 d1 ta da) (hb : ERd X.K W io m2 d2 tb db) (hf : Op2 X.K r f) : DE X W io .tmp (d1 ++ d2) e (tOp r ta tb) (dTwo m1 d2 f da db) := by
  refine ⟨hpe, fun ρ ts σ H Q S h => ?_⟩
  rw [dTwo_eq m1 m2 _ _ _ _ (clr_nil m2)] at h
  have q := rdN (ard_cons ha (ard_cons hb ard_nil)) hf.n ρ ts σ H Q S (by rw [List.append_nil]; exact h)
  exact q
theorem de_one {r : V → Hp → VK → Prop} {f : D → Option D} (hpe : PE X e (tUn r ta)) (ha : ERd X.K W io m1 d1 ta da) (hf : Op1 X.K r f) : DE X W io .tmp d1 e (tUn r ta) (dOne f da) := by
  refine ⟨hpe, fun ρ ts σ H Q S h => ?_⟩
  rw [dOne_eq m1] at h
  have q := rdN (ard_cons ha ard_nil) hf.n ρ ts σ H Q S (by rw [List.append_nil]; exact h)
  exact q
end
end VS
namespace VS
open PySem PySem.Spec PyProof.Rows L2

abbrev D.int (i : Int) : D := .v (.int i)
abbrev D.bl (b : Bool) : D := .v (.bl b)
abbrev D.str (s : Str) : D := .v (.str s)
abbrev D.non : D := .v .non
abbrev D.tup (xs : List D) : D := .nd .tup xs
abbrev D.lst (o : Bool) (xs : List D) : D := .nd (.lst o) xs

theorem opr_or {X : Cx} {f : Value → Value → Sem Value} {r r' : R2} (h : OpR X f r) (h' : OpR X f r') : OpR X f (fun x y H Q => r x y H Q ∨ r' x y H Q) := by
  intro pins s σ H x y v u Q I rx ry q
  rcases q with q | q
  · exact h pins s σ H x y v u Q I rx ry q
  · exact h' pins s σ H x y v u Q I rx ry q
/-! ### + -/
def oAdd : D → D → Option D
  | .v (.int i), .v (.int j) => some (.v (.int (i + j)))
  | .v (.str a), .v (.str b) => if a.length + b.length ≤ sizeLine then some (.v (.str (a ++ b))) else none
  | .nd (.lst _) xs, .nd (.lst _) ys => if (decide (xs.length + ys.length ≤ sizeLine) && !D.hass NK.isOwn xs && !D.hass NK.isOwn ys) = true then some (.nd (.lst true) (xs ++ ys)) else none
  | .nd .tup xs, .nd .tup ys => if (decide (xs.length + ys.length ≤ sizeLine) && !D.hass NK.isOwn xs && !D.hass NK.isOwn ys) = true then some (.nd .tup (xs ++ ys)) else none
  | _, _ => none
def rAddA (K : PySem.W.Frag) : R2 := fun x y H Q => rI0 (fun i j => .int (i + j)) x y H Q ∨ (∃ i j, x = .str i ∧ y = .str j ∧ i.length + j.length ≤ sizeLine ∧ Q (.str (i ++ j)) H) ∨ rCat x y H Q ∨ rCatA K x y H Q
theorem op_addA {X : Cx} : OpR X (binaryOp .Add) (rAddA X.K) := opr_or op_add (opr_or op_add_str (opr_or op_cat op_catA))
theorem appN {a b c : Bool} (h : (a && !b && !c) = true) : a = true ∧ b = false ∧ c = false := by
  cases a <;> cases b <;> cases c <;> first | exact ⟨rfl, rfl, rfl⟩ | cases h
theorem frsh_self {H : Hp} {A : List T} {t : T} (m : t ∈ A) (g : t.good) (h : t.own = []) : Frsh H A H t :=
  ⟨Same.refl H, g, fun a ma => (by rw [h] at ma; cases ma), fun a ma => .inr ⟨t, m, ma, by rw [h]; simp⟩, fun a ma => .inr ⟨t, m, ma⟩⟩
theorem tup_own {a : Addr} {xs : List T} (h : D.hass NK.isOwn (T.ers xs) = false) : (T.nd a .tup xs).own = [] := by
  show T.col NK.isOwn (.nd a .tup xs) = []
  rw [T.col, (T.hass_er xs).mp h]; rfl
theorem oAdd_ok {K : PySem.W.Frag} : Op2 K (rAddA K) oAdd := by
  intro H x y d Q okx oky gx gy e q
  unfold oAdd at e
  split at e
  · rename_i i j e1 e2
    have := er_v e1; subst this
    have := er_v e2; subst this
    cases e
    exact .inl ⟨i, j, rfl, rfl, q (.v _) H rfl trivial Frsh.atom⟩
  · rename_i a b e1 e2
    have := er_v e1; subst this
    have := er_v e2; subst this
    split at e
    · rename_i hl
      cases e
      exact .inr (.inl ⟨a, b, rfl, rfl, hl, q (.v _) H rfl trivial Frsh.atom⟩)
    · cases e
  · rename_i o1 xs o2 ys e1 e2
    obtain ⟨p1, us, rfl, h1⟩ := er_nd e1
    obtain ⟨p2, ws, rfl, h2⟩ := er_nd e2
    split at e
    · rename_i hc
      obtain ⟨c1, c2, c3⟩ := appN hc
      have c1 := of_decide_eq_true c1
      subst h1; subst h2
      cases e
      rw [ers_len, ers_len] at c1
      refine .inr (.inr (.inl ⟨p1, p2, T.rts us, T.rts ws, rfl, rfl, okx.atL, oky.atL, by rw [rts_len, rts_len]; exact c1, fun p hp => ?_⟩))
      have hch : ∀ c ∈ us ++ ws, ∃ u ∈ [T.nd p1 (.lst o1) us, T.nd p2 (.lst o2) ws], Sub0 c u := fun c m => by
        rcases List.mem_append.mp m with m | m
        · exact ⟨_, by simp, Sub0.child gx m (hass_own c2 c m)⟩
        · exact ⟨_, by simp, Sub0.child gy m (hass_own c3 c m)⟩
      have okc : ∀ c ∈ us ++ ws, c.ok K H := fun c m => (List.mem_append.mp m).elim okx.child oky.child
      have okA : ∀ u ∈ [T.nd p1 (.lst o1) us, T.nd p2 (.lst o2) ws], u.ok K H := fun u m => by
        rcases List.mem_cons.mp m with rfl | m
        · exact okx
        · rcases List.mem_cons.mp m with rfl | m
          · exact oky
          · cases m
      refine q (.nd p (.lst true) (us ++ ws)) _ (by rw [T.er, ers_append]) (ok_new hp ?_ okc) (Frsh.node hp okA hch)
      show upd H p _ p = _
      rw [upd_same, rts_append]
    · cases e
  · rename_i xs ys e1 e2
    obtain ⟨p1, us, rfl, h1⟩ := er_nd e1
    obtain ⟨p2, ws, rfl, h2⟩ := er_nd e2
    split at e
    · rename_i hc
      obtain ⟨c1, c2, c3⟩ := appN hc
      have c1 := of_decide_eq_true c1
      subst h1; subst h2
      cases e
      rw [ers_len, ers_len] at c1
      refine .inr (.inr (.inr ⟨p1, p2, T.rts us, T.rts ws, rfl, rfl, okx.sqT, oky.sqT, by rw [rts_len, rts_len]; exact c1, fun z => ?_, fun _ z => ?_, fun _ _ p hp => ?_⟩))
      · have : us = [] := by cases us with | nil => rfl | cons _ _ => rw [T.rts] at z; cases z
        subst this
        exact q (.nd p2 .tup ws) H (by rw [T.er]; rfl) oky (frsh_self (by simp) gy (tup_own c3))
      · have : ws = [] := by cases ws with | nil => rfl | cons _ _ => rw [T.rts] at z; cases z
        subst this
        exact q (.nd p1 .tup us) H (by rw [T.er, T.ers, List.append_nil]) okx (frsh_self (by simp) gx (tup_own c2))
      · have hch : ∀ c ∈ us ++ ws, ∃ u ∈ [T.nd p1 .tup us, T.nd p2 .tup ws], Sub0 c u := fun c m => by
          rcases List.mem_append.mp m with m | m
          · exact ⟨_, by simp, Sub0.child gx m (hass_own c2 c m)⟩
          · exact ⟨_, by simp, Sub0.child gy m (hass_own c3 c m)⟩
        have okc : ∀ c ∈ us ++ ws, c.ok K H := fun c m => (List.mem_append.mp m).elim okx.child oky.child
        have okA : ∀ u ∈ [T.nd p1 .tup us, T.nd p2 .tup ws], u.ok K H := fun u m => by
          rcases List.mem_cons.mp m with rfl | m
          · exact okx
          · rcases List.mem_cons.mp m with rfl | m
            · exact oky
            · cases m
        refine q (.nd p .tup (us ++ ws)) _ (by rw [T.er, ers_append]) (ok_new hp ?_ okc) (Frsh.node hp okA hch)
        show SqT K _ p _
        rw [rts_append]
        exact SqT.of upd_same
    · cases e
  · cases e
/-! ### ints -/
theorem int2_ok {K : PySem.W.Frag} {C : Int → Int → Prop} {g : Int → Int → V} {f : D → D → Option D} {r : R2} (hr : ∀ i j H Q, C i j → Q (g i j) H → r (.int i) (.int j) H Q)
    (hf : ∀ x y d, f x y = some d → ∃ i j, x = .v (.int i) ∧ y = .v (.int j) ∧ C i j ∧ d = .v (g i j)) : Op2 K r f := by
  intro H x y d Q okx oky gx gy e q
  obtain ⟨i, j, e1, e2, hc, rfl⟩ := hf _ _ _ e
  have := er_v e1; subst this
  have := er_v e2; subst this
  exact hr i j H Q hc (q (.v _) H rfl trivial Frsh.atom)
def oInt (c : Int → Int → Bool) (g : Int → Int → V) : D → D → Option D
  | .v (.int i), .v (.int j) => if c i j = true then some (.v (g i j)) else none
  | _, _ => none
theorem oInt_ok {K : PySem.W.Frag} {c : Int → Int → Bool} {C : Int → Int → Prop} {g : Int → Int → V} (h : ∀ i j, c i j = true → C i j) : Op2 K (rI C g) (oInt c g) :=
  int2_ok (C := C) (fun i j H Q hc q => ⟨i, j, rfl, rfl, hc, q⟩) fun x y d e => by
    unfold oInt at e
    split at e
    · split at e
      · cases e; exact ⟨_, _, rfl, rfl, h _ _ (by assumption), rfl⟩
      · cases e
    · cases e
def oInt0 (g : Int → Int → V) : D → D → Option D
  | .v (.int i), .v (.int j) => some (.v (g i j))
  | _, _ => none
theorem oInt0_ok {K : PySem.W.Frag} {g : Int → Int → V} : Op2 K (rI0 g) (oInt0 g) :=
  int2_ok (C := fun _ _ => True) (fun i j H Q hc q => ⟨i, j, rfl, rfl, q⟩) fun x y d e => by
    unfold oInt0 at e
    split at e
    · cases e; exact ⟨_, _, rfl, rfl, trivial, rfl⟩
    · cases e
abbrev oSub := oInt0 fun i j => .int (i - j)
abbrev oMod := oInt (fun _ j => decide (0 < j)) fun i j => .int (i % j)
abbrev oDiv := oInt (fun _ j => decide (0 < j ∧ j.natAbs.log2 < 9000)) fun i j => .int (i / j)
abbrev oPow := oInt (fun i j => decide (0 ≤ j ∧ j ≤ 1000000 ∧ i.natAbs < 2 ^ 64)) fun i j => .int (i ^ j.toNat)
abbrev oShl := oInt (fun i j => decide (0 ≤ j ∧ j ≤ 1000000 ∧ i.natAbs < 2 ^ 64)) fun i j => .int (i * 2 ^ j.toNat)
abbrev oShr := oInt (fun _ j => decide (0 ≤ j)) fun i j => .int (i / 2 ^ j.toNat)
abbrev oAnd := oInt0 fun i j => .int (Builtin.bitAnd i j)
abbrev oOr := oInt0 fun i j => .int (Builtin.bitOr i j)
abbrev oXor := oInt0 fun i j => .int (Builtin.bitXor i j)
end VS
namespace VS
open PySem PySem.Spec PyProof.Rows L2

/-! ### tests -/
abbrev B := List D → R (Bool × List D)
def TPost (K : PySem.W.Frag) (W : WX) (io : List Nat) (ρ : Nat → V) (md : List Nat) (ts : List T) (σ : L2.St) (H : Hp) (Q : Bool → Hp → Prop) : R (Bool × List D) → Prop
  | .ok (b, s) => ∀ ts' H', Sim K io ρ ts' σ H' → T.ers ts' = s → Step H ts H' ts' → (∀ j, j ∉ md → ts'[j]? = ts[j]?) → Q b H'
  | .ex c fs s => ∀ ts' H' d, Sim K io ρ ts' σ H' → T.ers ts' = s → Step H ts H' ts' → XRel H' d fs → W c d σ H'
  | .no => False
def TRd (K : PySem.W.Frag) (W : WX) (io : List Nat) (md : List Nat) (t : TT) (d : B) : Prop :=
  ∀ ρ ts σ H Q, Sim K io ρ ts σ H → TPost K W io ρ md ts σ H Q (d (T.ers ts)) → t σ H Q
structure DT (X : Cx) (W : WX) (io : List Nat) (md : List Nat) (e : Expr) (t : TT) (d : B) : Prop where
  pt : PT X e t
  rd : TRd X.K W io md t d
structure DW (X : Cx) (W : WX) (io : List Nat) (md : List Nat) (e : Expr) (t : TT) (d : B) : Prop where
  pw : PW X e t
  rd : TRd X.K W io md t d
def dTv (d : E) : B := fun s => (d s).bind fun q => match q.1 with
  | .v (.bl b) => .ok (b, q.2)
  | _ => .no
/-- truth -/
def D.tru : D → Option Bool
  | .v .non => some false
  | .v (.bl b) => some b
  | .v (.int i) => some (i != 0)
  | .v (.str y) => if y.length ≤ sizeLine then some ((y.length : Int) != 0) else none
  | .nd .tup xs => some (!xs.isEmpty)
  | .nd .scr xs => some (!xs.isEmpty)
  | .nd (.lst _) xs => some (!xs.isEmpty)
  | .nd (.dic _ ks) xs => if ks.length = xs.length then some (!ks.isEmpty) else none
  | _ => none
def dTt (d : E) : B := fun s => (d s).bind fun q => match q.1.tru with
  | some b => .ok (b, q.2)
  | none => .no
theorem isEmpty_rts (us : List T) : (T.rts us).isEmpty = (T.ers us).isEmpty := by cases us <;> rfl
theorem tru_of {K : PySem.W.Frag} {H : Hp} {t : T} {b : Bool} (ok : t.ok K H) (h : t.er.tru = some b) : TruV K t.rt H b := by
  unfold D.tru at h
  split at h
  · rename_i e; have := er_v e; subst this; cases h; exact rfl
  · rename_i e; have := er_v e; subst this; cases h; exact rfl
  · rename_i e; have := er_v e; subst this; cases h; exact rfl
  · rename_i e; have := er_v e; subst this
    split at h
    · cases h; exact ⟨by assumption, rfl⟩
    · cases h
  · rename_i xs e; obtain ⟨a, us, rfl, e2⟩ := er_nd e; cases h
    exact .inr (.inl ⟨_, ok.sqT, by rw [isEmpty_rts, e2]⟩)
  · rename_i xs e; obtain ⟨a, us, rfl, e2⟩ := er_nd e; cases h
    exact .inl ⟨_, ok.sqS, by rw [isEmpty_rts, e2]⟩
  · rename_i o xs e; obtain ⟨a, us, rfl, e2⟩ := er_nd e; cases h
    exact .inl ⟨_, ok.sqL, by rw [isEmpty_rts, e2]⟩
  · rename_i o ks xs e; obtain ⟨a, us, rfl, e2⟩ := er_nd e
    split at h
    · rename_i hl
      cases h
      refine .inr (.inr ⟨_, ok.node.1, ?_⟩)
      have hl2 : us.length = xs.length := by rw [← e2, ers_len]
      cases ks with
      | nil => rfl
      | cons k ks => cases us with
        | nil => rw [List.length_cons] at hl; rw [List.length_nil] at hl2; omega
        | cons u us => rfl
    · cases h
  · cases h
section
variable {K : PySem.W.Frag} {W : WX} {io : List Nat}
theorem trd_v {m : Md} {md : List Nat} {t : TE} {d : E} (h : ERd K W io m md t d) : TRd K W io md (fun σ H Q => t σ H fun x H' => ∃ k, x = .bl k ∧ Q k H') (dTv d) := fun ρ ts σ H Q S q => by
  refine h ρ ts σ H _ S ?_
  unfold dTv at q
  cases ea : d (T.ers ts) with
  | no => rw [ea] at q; exact q
  | ex c fs s => rw [ea] at q; exact q
  | ok p =>
    obtain ⟨x, s⟩ := p
    rw [ea] at q
    intro ts1 t1 H1 S1 e1 et ok1 mr1 st1 pu1
    simp only [R.bind] at q
    split at q
    · rename_i b
      have := er_v et; subst this
      exact ⟨b, rfl, q ts1 H1 S1 e1 st1.tail pu1⟩
    · exact q.elim
theorem trd_t {m : Md} {md : List Nat} {t : TE} {d : E} (h : ERd K W io m md t d) : TRd K W io md (fun σ H Q => t σ H fun x H' => ∃ k, TruV K x H' k ∧ Q k H') (dTt d) := fun ρ ts σ H Q S q => by
  refine h ρ ts σ H _ S ?_
  unfold dTt at q
  cases ea : d (T.ers ts) with
  | no => rw [ea] at q; exact q
  | ex c fs s => rw [ea] at q; exact q
  | ok p =>
    obtain ⟨x, s⟩ := p
    rw [ea] at q
    intro ts1 t1 H1 S1 e1 et ok1 mr1 st1 pu1
    simp only [R.bind] at q
    cases eb : x.tru with
    | none => rw [eb] at q; exact q.elim
    | some b => rw [eb] at q; exact ⟨b, tru_of ok1 (by rw [et]; exact eb), q ts1 H1 S1 e1 st1.tail pu1⟩
def dTand (a b : B) : B := fun s => (a s).bind fun q => if q.1 = true then b q.2 else .ok (false, q.2)
def dTor (a b : B) : B := fun s => (a s).bind fun q => if q.1 = true then .ok (true, q.2) else b q.2
def dTnot (a : B) : B := fun s => (a s).bind fun q => .ok (!q.1, q.2)
theorem TPost.after {ρ : Nat → V} {d1 d2 : List Nat} {ts ts1 : List T} {σ : L2.St} {H H1 : Hp} {Q : Bool → Hp → Prop} {r : R (Bool × List D)} (h : TPost K W io ρ (d1 ++ d2) ts σ H Q r) (st1 : Step H ts H1 ts1) (pu1 : ∀ j, j ∉ d1 → ts1[j]? = ts[j]?) :
    TPost K W io ρ d2 ts1 σ H1 Q r := by
  cases r with
  | no => exact h
  | ex c fs s => exact fun ts2 H2 d S2 e2 st2 x => h ts2 H2 d S2 e2 (st1.trans st2) x
  | ok q => exact fun ts2 H2 S2 e2 st2 pu2 => h ts2 H2 S2 e2 (st1.trans st2) fun j hj => (pu2 j fun z => hj (List.mem_append_right _ z)).trans (pu1 j fun z => hj (List.mem_append_left _ z))
theorem TPost.wide {ρ : Nat → V} {d1 d2 : List Nat} {ts : List T} {σ : L2.St} {H : Hp} {Q : Bool → Hp → Prop} {r : R (Bool × List D)} (h : TPost K W io ρ d2 ts σ H Q r) (hd : ∀ j, j ∈ d1 → j ∈ d2) : TPost K W io ρ d1 ts σ H Q r := by
  cases r with
  | no => exact h
  | ex c fs s => exact h
  | ok q => exact fun ts2 H2 S2 e2 st2 pu2 => h ts2 H2 S2 e2 st2 fun j hj => pu2 j fun z => hj (hd j z)
theorem trd_and {d1 d2 : List Nat} {t u : TT} {a b : B} (ha : TRd K W io d1 t a) (hb : TRd K W io d2 u b) : TRd K W io (d1 ++ d2) (tAnd t u) (dTand a b) := fun ρ ts σ H Q S q => by
  refine ha ρ ts σ H _ S ?_
  unfold dTand at q
  cases ea : a (T.ers ts) with
  | no => rw [ea] at q; exact q
  | ex c fs s => rw [ea] at q; exact q
  | ok p =>
    obtain ⟨x, s⟩ := p
    rw [ea] at q
    intro ts1 H1 S1 e1 st1 pu1
    simp only [R.bind] at q
    cases x with
    | true => rw [if_pos rfl] at q ⊢; exact hb ρ ts1 σ H1 Q S1 (by rw [e1]; exact q.after st1 pu1)
    | false =>
      rw [if_neg Bool.false_ne_true] at q ⊢
      exact q ts1 H1 S1 e1 st1 fun j hj => by rw [List.mem_append, not_or] at hj; exact pu1 j hj.1
theorem trd_or {d1 d2 : List Nat} {t u : TT} {a b : B} (ha : TRd K W io d1 t a) (hb : TRd K W io d2 u b) : TRd K W io (d1 ++ d2) (tOr t u) (dTor a b) := fun ρ ts σ H Q S q => by
  refine ha ρ ts σ H _ S ?_
  unfold dTor at q
  cases ea : a (T.ers ts) with
  | no => rw [ea] at q; exact q
  | ex c fs s => rw [ea] at q; exact q
  | ok p =>
    obtain ⟨x, s⟩ := p
    rw [ea] at q
    intro ts1 H1 S1 e1 st1 pu1
    simp only [R.bind] at q
    cases x with
    | false => rw [if_neg Bool.false_ne_true] at q ⊢; exact hb ρ ts1 σ H1 Q S1 (by rw [e1]; exact q.after st1 pu1)
    | true =>
      rw [if_pos rfl] at q ⊢
      exact q ts1 H1 S1 e1 st1 fun j hj => by rw [List.mem_append, not_or] at hj; exact pu1 j hj.1
theorem trd_not {d1 : List Nat} {t : TT} {a : B} (ha : TRd K W io d1 t a) : TRd K W io d1 (tNot t) (dTnot a) := fun ρ ts σ H Q S q => by
  refine ha ρ ts σ H _ S ?_
  unfold dTnot at q
  cases ea : a (T.ers ts) with
  | no => rw [ea] at q; exact q
  | ex c fs s => rw [ea] at q; exact q
  | ok p => rw [ea] at q; exact fun ts1 H1 S1 e1 st1 pu1 => q ts1 H1 S1 e1 st1 pu1
end
section
variable {X : Cx} {W : WX} {io : List Nat} {e a b : Expr} {rest : List Expr} {pos : Pos} {md d1 d2 : List Nat} {m : Md}
theorem dt_v {t : TE} {d : E} (hp : PT X e (fun σ H Q => t σ H fun x H' => ∃ k, x = .bl k ∧ Q k H')) (h : ERd X.K W io m md t d) : DT X W io md e (fun σ H Q => t σ H fun x H' => ∃ k, x = .bl k ∧ Q k H') (dTv d) := ⟨hp, trd_v h⟩
theorem dt_t {t : TE} {d : E} (h : DE X W io m md e t d) (he : ∀ whole, isTrue e X.env whole = (do let v ← whole; standAt e.pos; holding [v] (truthy v)) := by intro _; rfl) :
    DT X W io md e (fun σ H Q => t σ H fun x H' => ∃ k, TruV X.K x H' k ∧ Q k H') (dTt d) := ⟨pt_truth h.pe he, trd_t h.rd⟩
theorem dw_and1 {t : TT} {d : B} (h : DT X W io md a t d) : DW X W io md (.BoolOp .And [a] pos) t d := ⟨pw_and1 h.pt, h.rd⟩
theorem dw_or1 {t : TT} {d : B} (h : DT X W io md a t d) : DW X W io md (.BoolOp .Or [a] pos) t d := ⟨pw_or1 h.pt, h.rd⟩
theorem dw_and {t u : TT} {da db : B} (ha : DT X W io d1 a t da) (hb : DW X W io d2 (.BoolOp .And (b :: rest) pos) u db) : DW X W io (d1 ++ d2) (.BoolOp .And (a :: b :: rest) pos) (tAnd t u) (dTand da db) := ⟨pw_and ha.pt hb.pw, trd_and ha.rd hb.rd⟩
theorem dw_or {t u : TT} {da db : B} (ha : DT X W io d1 a t da) (hb : DW X W io d2 (.BoolOp .Or (b :: rest) pos) u db) : DW X W io (d1 ++ d2) (.BoolOp .Or (a :: b :: rest) pos) (tOr t u) (dTor da db) := ⟨pw_or ha.pt hb.pw, trd_or ha.rd hb.rd⟩
theorem DW.dt {t : TT} {d : B} (h : DW X W io md e t d) : DT X W io md e t d := ⟨h.pw.pt, h.rd⟩
theorem dt_not {t : TT} {d : B} (h : DT X W io md a t d) : DT X W io md (.UnaryOp .Not a pos) (tNot t) (dTnot d) := ⟨pt_not h.pt, trd_not h.rd⟩
end

/-! ### values of and, or, not, if -/
def dVof (b : B) : E := fun s => (b s).bind fun q => .ok (.v (.bl q.1), q.2)
section
variable {K : PySem.W.Frag} {W : WX} {io : List Nat}
theorem EPost.after {ρ : Nat → V} {d1 d2 : List Nat} {m : Md} {ts ts1 : List T} {σ : L2.St} {H H1 : Hp} {Q : VK} {r : R (D × List D)} (h : EPost K W io ρ m (d1 ++ d2) ts σ H Q r) (st1 : Step H ts H1 ts1) (pu1 : ∀ j, j ∉ d1 → ts1[j]? = ts[j]?) :
    EPost K W io ρ m d2 ts1 σ H1 Q r := by
  cases r with
  | no => exact h
  | ex c fs s => exact fun ts2 H2 d S2 e2 st2 x => h ts2 H2 d S2 e2 (st1.trans st2) x
  | ok q => exact fun ts2 t H2 S2 e2 et ok mr st2 pu2 => h ts2 t H2 S2 e2 et ok mr (st1.trans st2) fun j hj => (pu2 j fun z => hj (List.mem_append_right _ z)).trans (pu1 j fun z => hj (List.mem_append_left _ z))
theorem EPost.wide {ρ : Nat → V} {d1 d2 : List Nat} {m : Md} {ts : List T} {σ : L2.St} {H : Hp} {Q : VK} {r : R (D × List D)} (h : EPost K W io ρ m d2 ts σ H Q r) (hd : ∀ j, j ∈ d1 → j ∈ d2) : EPost K W io ρ m d1 ts σ H Q r := by
  cases r with
  | no => exact h
  | ex c fs s => exact h
  | ok q => exact fun ts2 t H2 S2 e2 et ok mr st2 pu2 => h ts2 t H2 S2 e2 et ok mr st2 fun j hj => pu2 j fun z => hj (hd j z)
theorem trel_v {x : V} {ts : List T} : TRel (.v x) ts := ⟨trivial, fun u _ => ⟨fun a m => (nomatch m), fun a _ m => (nomatch m)⟩⟩
/-- a bool value that a test has given -/
theorem EPost.bool {ρ : Nat → V} {md : List Nat} {ts ts1 : List T} {σ : L2.St} {H H1 : Hp} {Q : VK} {b : Bool} {s : List D} (h : EPost K W io ρ .tmp md ts σ H Q (.ok (.v (.bl b), s))) (S1 : Sim K io ρ ts1 σ H1) (e1 : T.ers ts1 = s) (st1 : Step H ts H1 ts1) (pu1 : ∀ j, j ∉ md → ts1[j]? = ts[j]?) : Q (.bl b) H1 :=
  h ts1 (.v (.bl b)) H1 S1 e1 rfl trivial trel_v st1.consV pu1
def dVand (da db : E) : E := fun s => (da s).bind fun q => match q.1 with
  | .v (.bl true) => db q.2
  | .v (.bl false) => .ok (.v (.bl false), q.2)
  | _ => .no
def dVor (da db : E) : E := fun s => (da s).bind fun q => match q.1 with
  | .v (.bl false) => db q.2
  | .v (.bl true) => .ok (.v (.bl true), q.2)
  | _ => .no
def dVnot (da : E) : E := fun s => (da s).bind fun q => match q.1 with
  | .v (.bl b) => .ok (.v (.bl (!b)), q.2)
  | _ => .no
theorem erd_and {m : Md} {d1 d2 : List Nat} {ta tb : TE} {da db : E} (ha : ERd K W io m d1 ta da) (hb : ERd K W io .tmp d2 tb db) : ERd K W io .tmp (d1 ++ d2) (tAndV ta tb) (dVand da db) := fun ρ ts σ H Q S q => by
  refine ha ρ ts σ H _ S ?_
  unfold dVand at q
  cases ea : da (T.ers ts) with
  | no => rw [ea] at q; exact q
  | ex c fs s => rw [ea] at q; exact q
  | ok p =>
    obtain ⟨x, s⟩ := p
    rw [ea] at q
    intro ts1 t1 H1 S1 e1 et ok1 mr1 st1 pu1
    simp only [R.bind] at q
    split at q
    · have := er_v et; subst this
      refine ⟨true, rfl, ?_⟩
      rw [if_pos rfl]
      exact hb ρ ts1 σ H1 Q S1 (by rw [e1]; exact q.after st1.tail pu1)
    · have := er_v et; subst this
      refine ⟨false, rfl, ?_⟩
      rw [if_neg Bool.false_ne_true]
      exact q.bool S1 e1 st1.tail fun j hj => by rw [List.mem_append, not_or] at hj; exact pu1 j hj.1
    · exact q.elim
theorem erd_or {m : Md} {d1 d2 : List Nat} {ta tb : TE} {da db : E} (ha : ERd K W io m d1 ta da) (hb : ERd K W io .tmp d2 tb db) : ERd K W io .tmp (d1 ++ d2) (tOrV ta tb) (dVor da db) := fun ρ ts σ H Q S q => by
  refine ha ρ ts σ H _ S ?_
  unfold dVor at q
  cases ea : da (T.ers ts) with
  | no => rw [ea] at q; exact q
  | ex c fs s => rw [ea] at q; exact q
  | ok p =>
    obtain ⟨x, s⟩ := p
    rw [ea] at q
    intro ts1 t1 H1 S1 e1 et ok1 mr1 st1 pu1
    simp only [R.bind] at q
    split at q
    · have := er_v et; subst this
      refine ⟨false, rfl, ?_⟩
      rw [if_neg Bool.false_ne_true]
      exact hb ρ ts1 σ H1 Q S1 (by rw [e1]; exact q.after st1.tail pu1)
    · have := er_v et; subst this
      refine ⟨true, rfl, ?_⟩
      rw [if_pos rfl]
      exact q.bool S1 e1 st1.tail fun j hj => by rw [List.mem_append, not_or] at hj; exact pu1 j hj.1
    · exact q.elim
theorem erd_not {m : Md} {d1 : List Nat} {ta : TE} {da : E} (ha : ERd K W io m d1 ta da) : ERd K W io .tmp d1 (tNotV ta) (dVnot da) := fun ρ ts σ H Q S q => by
  refine ha ρ ts σ H _ S ?_
  unfold dVnot at q
  cases ea : da (T.ers ts) with
  | no => rw [ea] at q; exact q
  | ex c fs s => rw [ea] at q; exact q
  | ok p =>
    obtain ⟨x, s⟩ := p
    rw [ea] at q
    intro ts1 t1 H1 S1 e1 et ok1 mr1 st1 pu1
    simp only [R.bind] at q
    split at q
    · rename_i b
      have := er_v et; subst this
      exact ⟨b, rfl, q.bool S1 e1 st1.tail pu1⟩
    · exact q.elim
/-- a view without nodes of its own, as a temporary -/
def dTmp (m : Md) (da : E) : E := fun s => (da s).bind fun q => if (m.isTmp || !q.1.hasOwn) = true then .ok q else .no
theorem erd_tmp {m : Md} {d1 : List Nat} {ta : TE} {da : E} (ha : ERd K W io m d1 ta da) : ERd K W io .tmp d1 ta (dTmp m da) := fun ρ ts σ H Q S q => by
  refine ha ρ ts σ H _ S ?_
  unfold dTmp at q
  cases ea : da (T.ers ts) with
  | no => rw [ea] at q; exact q
  | ex c fs s => rw [ea] at q; exact q
  | ok p =>
    obtain ⟨x, s⟩ := p
    rw [ea] at q
    intro ts1 t1 H1 S1 e1 et ok1 mr1 st1 pu1
    simp only [R.bind] at q
    split at q
    · rename_i hc
      refine q ts1 t1 H1 S1 e1 et ok1 ?_ st1 pu1
      cases m with
      | tmp => exact mr1
      | vw src =>
        have : x.hasOwn = false := by cases z : x.hasOwn with | false => rfl | true => rw [z] at hc; cases hc
        exact mr1.tmp S1.wf (T.own_nil (by rw [et]; exact this))
    · exact q.elim
def dIf (c : B) (da db : E) : E := fun s => (c s).bind fun q => if q.1 = true then da q.2 else db q.2
theorem erd_if {m : Md} {d1 d2 d3 : List Nat} {t : TT} {ta tb : TE} {c : B} {da db : E} (hc : TRd K W io d1 t c) (ha : ERd K W io m d2 ta da) (hb : ERd K W io m d3 tb db) : ERd K W io m (d1 ++ (d2 ++ d3)) (tIf t ta tb) (dIf c da db) := fun ρ ts σ H Q S q => by
  refine hc ρ ts σ H _ S ?_
  unfold dIf at q
  cases ea : c (T.ers ts) with
  | no => rw [ea] at q; exact q
  | ex c fs s => rw [ea] at q; exact q
  | ok p =>
    obtain ⟨x, s⟩ := p
    rw [ea] at q
    intro ts1 H1 S1 e1 st1 pu1
    simp only [R.bind] at q
    cases x with
    | true => rw [if_pos rfl] at q ⊢; exact ha ρ ts1 σ H1 Q S1 (by rw [e1]; exact (q.after st1 pu1).wide fun j hj => List.mem_append_left _ hj)
    | false => rw [if_neg Bool.false_ne_true] at q ⊢; exact hb ρ ts1 σ H1 Q S1 (by rw [e1]; exact (q.after st1 pu1).wide fun j hj => List.mem_append_right _ hj)
end
section
variable {X : Cx} {W : WX} {io : List Nat} {e a b c : Expr} {rest : List Expr} {pos : Pos} {md d1 d2 d3 : List Nat} {m : Md} {op : BoolOp}
theorem de_one1 {t : TE} {d : E} (h : DE X W io m md a t d) : DE X W io .tmp md (.BoolOp op [a] pos) t (dTmp m d) := ⟨pe_one h.pe, erd_tmp h.rd⟩
theorem de_and {ta tb : TE} {da db : E} (ha : DE X W io m d1 a ta da) (hb : DE X W io .tmp d2 (.BoolOp .And (b :: rest) pos) tb db) : DE X W io .tmp (d1 ++ d2) (.BoolOp .And (a :: b :: rest) pos) (tAndV ta tb) (dVand da db) := ⟨pe_and ha.pe hb.pe, erd_and ha.rd hb.rd⟩
theorem de_or {ta tb : TE} {da db : E} (ha : DE X W io m d1 a ta da) (hb : DE X W io .tmp d2 (.BoolOp .Or (b :: rest) pos) tb db) : DE X W io .tmp (d1 ++ d2) (.BoolOp .Or (a :: b :: rest) pos) (tOrV ta tb) (dVor da db) := ⟨pe_or ha.pe hb.pe, erd_or ha.rd hb.rd⟩
theorem de_not {ta : TE} {da : E} (ha : DE X W io m md a ta da) : DE X W io .tmp md (.UnaryOp .Not a pos) (tNotV ta) (dVnot da) := ⟨pe_not ha.pe, erd_not ha.rd⟩
theorem de_if {t : TT} {ta tb : TE} {dc : B} {da db : E} {m1 m2 : Md} (hc : DT X W io d1 c t dc) (ha : DE X W io m1 d2 a ta da) (hb : DE X W io m2 d3 b tb db) :
    DE X W io .tmp (d1 ++ (d2 ++ d3)) (.IfExp c a b pos) (tIf t ta tb) (dIf dc (dTmp m1 da) (dTmp m2 db)) := ⟨pe_ifExp hc.pt ha.pe hb.pe, erd_if hc.rd (erd_tmp ha.rd) (erd_tmp hb.rd)⟩
end
end VS
namespace VS
open PySem PySem.Spec PyProof.Rows L2

/-! ### statements -/
inductive O where
  | nx (s : List D)
  | rt (x : D) (s : List D)
  | bk (s : List D)
  | ct (s : List D)
  | ex (c : Value) (fs : XF) (s : List D)
  | no
abbrev S := List D → O
def RRel (io : List Nat) (t : T) (ts : List T) : Prop := t.good ∧ ∀ i ∈ io, ∀ u, ts[i]? = some u → Dj t u
def SPost (K : PySem.W.Frag) (W : WX) (io : List Nat) (ρ : Nat → V) (md : List Nat) (ts : List T) (H : Hp) (Z : Ends) : O → Prop
  | .nx s => ∀ ts' σ' H', Sim K io ρ ts' σ' H' → T.ers ts' = s → Step H ts H' ts' → (∀ j, j ∉ md → ts'[j]? = ts[j]?) → Z.nx σ' H'
  | .bk s => ∀ ts' σ' H', Sim K io ρ ts' σ' H' → T.ers ts' = s → Step H ts H' ts' → (∀ j, j ∉ md → ts'[j]? = ts[j]?) → Z.bk σ' H'
  | .ct s => ∀ ts' σ' H', Sim K io ρ ts' σ' H' → T.ers ts' = s → Step H ts H' ts' → (∀ j, j ∉ md → ts'[j]? = ts[j]?) → Z.ct σ' H'
  | .rt x s => ∀ ts' σ' t H', Sim K io ρ ts' σ' H' → T.ers ts' = s → t.er = x → t.ok K H' → RRel io t ts' → Step H ts H' (t :: ts') → Z.rt t.rt H'
  | .ex c fs s => ∀ ts' σ' H' d, Sim K io ρ ts' σ' H' → T.ers ts' = s → Step H ts H' ts' → XRel H' d fs → W c d σ' H'
  | .no => False
def SRd (K : PySem.W.Frag) (W : WX) (io : List Nat) (md : List Nat) (t : TS) (d : S) : Prop :=
  ∀ ρ ts σ H Z, Sim K io ρ ts σ H → SPost K W io ρ md ts H Z (d (T.ers ts)) → t Z σ H
structure DS (X : Cx) (W : WX) (io : List Nat) (md : List Nat) (st : Stmt) (t : TS) (d : S) : Prop where
  ps : PS X st t
  rd : SRd X.K W io md t d
structure DSs (X : Cx) (W : WX) (io : List Nat) (md : List Nat) (st : List Stmt) (t : TS) (d : S) : Prop where
  ps : PSs X st t
  rd : SRd X.K W io md t d
def sNx : S := fun s => .nx s
def sBk : S := fun s => .bk s
def sCt : S := fun s => .ct s
def sRtN : S := fun s => .rt (.v .non) s
def sSeq (a b : S) : S := fun s => match a s with
  | .nx s1 => b s1
  | o => o
def sIf (c : B) (a b : S) : S := fun s => match c s with
  | .ok q => if q.1 = true then a q.2 else b q.2
  | .ex c fs s => .ex c fs s
  | .no => .no
def sDrop (d : E) : S := fun s => match d s with
  | .ok q => .nx q.2
  | .ex c fs s => .ex c fs s
  | .no => .no
def sRt (m : Md) (io : List Nat) (d : E) : S := fun s => match d s with
  | .ok q => if (clr m io || !q.1.hasOwn) = true then .rt q.1 q.2 else .no
  | .ex c fs s => .ex c fs s
  | .no => .no
section
variable {K : PySem.W.Frag} {W : WX} {io : List Nat} {ρ : Nat → V}
theorem SPost.after {d1 d2 : List Nat} {ts ts1 : List T} {H H1 : Hp} {Z : Ends} {r : O} (h : SPost K W io ρ (d1 ++ d2) ts H Z r) (st1 : Step H ts H1 ts1) (pu1 : ∀ j, j ∉ d1 → ts1[j]? = ts[j]?) : SPost K W io ρ d2 ts1 H1 Z r := by
  have un : ∀ {ts2 : List T}, (∀ j, j ∉ d2 → ts2[j]? = ts1[j]?) → ∀ j, j ∉ d1 ++ d2 → ts2[j]? = ts[j]? := fun pu2 j hj => (pu2 j fun z => hj (List.mem_append_right _ z)).trans (pu1 j fun z => hj (List.mem_append_left _ z))
  cases r with
  | no => exact h
  | ex c fs s => exact fun ts2 σ2 H2 d S2 e2 st2 x => h ts2 σ2 H2 d S2 e2 (st1.trans st2) x
  | nx s => exact fun ts2 σ2 H2 S2 e2 st2 pu2 => h ts2 σ2 H2 S2 e2 (st1.trans st2) (un pu2)
  | bk s => exact fun ts2 σ2 H2 S2 e2 st2 pu2 => h ts2 σ2 H2 S2 e2 (st1.trans st2) (un pu2)
  | ct s => exact fun ts2 σ2 H2 S2 e2 st2 pu2 => h ts2 σ2 H2 S2 e2 (st1.trans st2) (un pu2)
  | rt x s => exact fun ts2 σ2 t H2 S2 e2 et ok rr st2 => h ts2 σ2 t H2 S2 e2 et ok rr (st1.trans st2)
theorem SPost.wide {d1 d2 : List Nat} {ts : List T} {H : Hp} {Z : Ends} {r : O} (h : SPost K W io ρ d2 ts H Z r) (hd : ∀ j, j ∈ d1 → j ∈ d2) : SPost K W io ρ d1 ts H Z r := by
  have un : ∀ {ts2 : List T}, (∀ j, j ∉ d1 → ts2[j]? = ts[j]?) → ∀ j, j ∉ d2 → ts2[j]? = ts[j]? := fun pu2 j hj => pu2 j fun z => hj (hd j z)
  cases r with
  | no => exact h
  | ex c fs s => exact h
  | nx s => exact fun ts2 σ2 H2 S2 e2 st2 pu2 => h ts2 σ2 H2 S2 e2 st2 (un pu2)
  | bk s => exact fun ts2 σ2 H2 S2 e2 st2 pu2 => h ts2 σ2 H2 S2 e2 st2 (un pu2)
  | ct s => exact fun ts2 σ2 H2 S2 e2 st2 pu2 => h ts2 σ2 H2 S2 e2 st2 (un pu2)
  | rt x s => exact h
theorem srd_nx : SRd K W io [] tNext sNx := fun ρ ts σ H Z S h => h ts σ H S rfl Step.refl fun _ _ => rfl
theorem srd_bk : SRd K W io [] tBreak sBk := fun ρ ts σ H Z S h => h ts σ H S rfl Step.refl fun _ _ => rfl
theorem srd_ct : SRd K W io [] tCont sCt := fun ρ ts σ H Z S h => h ts σ H S rfl Step.refl fun _ _ => rfl
theorem srd_rtN : SRd K W io [] tRetN sRtN := fun ρ ts σ H Z S h => h ts σ (.v .non) H S rfl rfl trivial ⟨trivial, fun i _ u _ => ⟨fun a m => (nomatch m), fun a _ m => (nomatch m)⟩⟩ Step.refl.consV
theorem srd_seq {d1 d2 : List Nat} {t u : TS} {a b : S} (ha : SRd K W io d1 t a) (hb : SRd K W io d2 u b) : SRd K W io (d1 ++ d2) (tSeq t u) (sSeq a b) := fun ρ ts σ H Z S h => by
  refine ha ρ ts σ H _ S ?_
  unfold sSeq at h
  have h1 := h
  cases ea : a (T.ers ts) with
  | nx s =>
    rw [ea] at h
    exact fun ts1 σ1 H1 S1 e1 st1 pu1 => hb ρ ts1 σ1 H1 Z S1 (by rw [e1]; exact h.after st1 pu1)
  | no => rw [ea] at h; exact h
  | ex c fs s => rw [ea] at h; exact h
  | bk s => rw [ea] at h; exact (h.wide (d1 := d1) fun j hj => List.mem_append_left _ hj)
  | ct s => rw [ea] at h; exact (h.wide (d1 := d1) fun j hj => List.mem_append_left _ hj)
  | rt x s => rw [ea] at h; exact h
theorem srd_if {d1 d2 d3 : List Nat} {c : TT} {t u : TS} {dc : B} {a b : S} (hc : TRd K W io d1 c dc) (ha : SRd K W io d2 t a) (hb : SRd K W io d3 u b) : SRd K W io (d1 ++ (d2 ++ d3)) (tIfS c t u) (sIf dc a b) := fun ρ ts σ H Z S h => by
  refine hc ρ ts σ H _ S ?_
  unfold sIf at h
  cases ea : dc (T.ers ts) with
  | no => rw [ea] at h; exact h
  | ex c fs s => rw [ea] at h; exact fun ts1 H1 d S1 e1 st1 x => h ts1 σ H1 d S1 e1 st1 x
  | ok q =>
    obtain ⟨k, s⟩ := q
    rw [ea] at h
    intro ts1 H1 S1 e1 st1 pu1
    cases k with
    | true => rw [if_pos rfl]; simp only [if_true] at h; exact ha ρ ts1 σ H1 Z S1 (by rw [e1]; exact (h.after st1 pu1).wide fun j hj => List.mem_append_left _ hj)
    | false => rw [if_neg Bool.false_ne_true]; simp only [Bool.false_eq_true, if_false] at h; exact hb ρ ts1 σ H1 Z S1 (by rw [e1]; exact (h.after st1 pu1).wide fun j hj => List.mem_append_right _ hj)
theorem srd_drop {m : Md} {d1 : List Nat} {t : TE} {d : E} (hd : ERd K W io m d1 t d) : SRd K W io d1 (tDrop t) (sDrop d) := fun ρ ts σ H Z S h => by
  refine hd ρ ts σ H _ S ?_
  unfold sDrop at h
  cases ea : d (T.ers ts) with
  | no => rw [ea] at h; exact h
  | ex c fs s => rw [ea] at h; exact fun ts1 H1 d S1 e1 st1 x => h ts1 σ H1 d S1 e1 st1 x
  | ok q => rw [ea] at h; exact fun ts1 t1 H1 S1 e1 et ok1 mr1 st1 pu1 => h ts1 σ H1 S1 e1 st1.tail pu1
theorem srd_rt {m : Md} {d1 : List Nat} {t : TE} {d : E} (hd : ERd K W io m d1 t d) : SRd K W io d1 (tRet t) (sRt m io d) := fun ρ ts σ H Z S h => by
  refine hd ρ ts σ H _ S ?_
  unfold sRt at h
  cases ea : d (T.ers ts) with
  | no => rw [ea] at h; exact h
  | ex c fs s => rw [ea] at h; exact fun ts1 H1 d S1 e1 st1 x => h ts1 σ H1 d S1 e1 st1 x
  | ok q =>
    obtain ⟨x, s⟩ := q
    rw [ea] at h
    intro ts1 t1 H1 S1 e1 et ok1 mr1 st1 pu1
    by_cases hc : (clr m io || !x.hasOwn) = true
    · simp only [hc, if_true] at h
      refine h ts1 σ t1 H1 S1 e1 et ok1 ⟨mr1.good S1.wf, fun i mi u eu => ?_⟩ st1
      cases m with
      | tmp => exact mr1.2 u (List.mem_of_getElem? eu)
      | vw src =>
        rcases mr1 with ⟨k, mk, w, ew, sb⟩ | ⟨_, tr⟩
        · by_cases ho : x.hasOwn = false
          · have mr2 : MRel (.vw src) t1 ts1 := .inl ⟨k, mk, w, ew, sb⟩
            exact (mr2.tmp S1.wf (T.own_nil (by rw [et]; exact ho))).2 u (List.mem_of_getElem? eu)
          · have hx : x.hasOwn = true := by cases q : x.hasOwn with | true => rfl | false => exact absurd q ho
            rw [hx, Bool.not_true, Bool.or_false] at hc
            have hk : k ∉ io := by
              have := (List.all_eq_true.mp hc) k mk
              simpa using this
            have ne : k ≠ i := fun z => hk (by rw [z]; exact mi)
            have dj := S1.wf.get ne ew eu
            exact ⟨fun a ma => dj.1 a (sb.col ma), fun a ma z => dj.2 a ma (sb.col z)⟩
        · exact tr.2 u (List.mem_of_getElem? eu)
    · simp only [hc] at h
      exact h.elim
end
section
variable {X : Cx} {W : WX} {io : List Nat} {md d1 d2 d3 : List Nat} {m : Md} {st : Stmt} {rest : List Stmt} {e : Expr} {pos : Pos}
theorem dss_nil : DSs X W io [] [] tNext sNx := ⟨pss_nil, srd_nx⟩
theorem dss_cons {t u : TS} {a b : S} (h1 : DS X W io d1 st t a) (h2 : DSs X W io d2 rest u b) : DSs X W io (d1 ++ d2) (st :: rest) (tSeq t u) (sSeq a b) := ⟨pss_cons h1.ps h2.ps, srd_seq h1.rd h2.rd⟩
theorem dss_one {t : TS} {a : S} (h1 : DS X W io d1 st t a) : DSs X W io d1 [st] t a := ⟨pss_one h1.ps, h1.rd⟩
theorem ds_pass : DS X W io [] (.Pass pos) tNext sNx := ⟨ps_pass, srd_nx⟩
theorem ds_break : DS X W io [] (.Break pos) tBreak sBk := ⟨ps_break, srd_bk⟩
theorem ds_cont : DS X W io [] (.Continue pos) tCont sCt := ⟨ps_continue, srd_ct⟩
theorem ds_rtN : DS X W io [] (.Return none pos) tRetN sRtN := ⟨ps_retN, srd_rtN⟩
theorem ds_rt {t : TE} {d : E} (h : DE X W io m md e t d) : DS X W io md (.Return (some e) pos) (tRet t) (sRt m io d) := ⟨ps_ret h.pe, srd_rt h.rd⟩
theorem ds_expr {t : TE} {d : E} (h : DE X W io m md e t d) (hs : swapsWith e none pos.line X.env = pure false := by rfl) : DS X W io md (.Expr e pos) (tDrop t) (sDrop d) := ⟨ps_expr h.pe hs, srd_drop h.rd⟩
theorem ds_if {c : Expr} {a b : List Stmt} {tc : TT} {t u : TS} {dc : B} {da db : S} (hc : DT X W io d1 c tc dc) (ha : DSs X W io d2 a t da) (hb : DSs X W io d3 b u db) : DS X W io (d1 ++ (d2 ++ d3)) (.If c a b pos) (tIfS tc t u) (sIf dc da db) := ⟨ps_if hc.pt ha.ps hb.ps, srd_if hc.rd ha.rd hb.rd⟩
end

/-! ### targets -/
/-- where the nodes of the slots come from -/
abbrev Gd := D → List D → Option (List D)
def GRd (K : PySem.W.Frag) (io : List Nat) (mg : List Nat) (g : TG) (d : Gd) : Prop :=
  ∀ ρ ts σ H u (Q : L2.St → Hp → Prop), Sim K io ρ ts σ H → u.ok K H → TRel u ts → (∀ s, d u.er (T.ers ts) = some s → ∀ ts' σ', Sim K io ρ ts' σ' H → T.ers ts' = s → Step H (u :: ts) H ts' → (∀ j, j ∉ mg → ts'[j]? = ts[j]?) → (σ'.length = σ.length ∧ ∀ j, j ∉ mg → σ'[j]? = σ[j]?) → Q σ' H) → (d u.er (T.ers ts) ≠ none) → g u.rt σ H Q
theorem ers_set (ts : List T) (i : Nat) (t : T) : T.ers (ts.set i t) = (T.ers ts).set i t.er := by rw [T.ers_map, T.ers_map, List.map_set]
theorem Sim.set {K : PySem.W.Frag} {io : List Nat} {ρ : Nat → V} {ts : List T} {σ : L2.St} {H : Hp} {u : T} {i : Nat} (S : Sim K io ρ ts σ H) (ok : u.ok K H) (tr : TRel u ts) (hi : i ∉ io) : Sim K io ρ (ts.set i u) (σ.set i (some u.rt)) H := by
  refine ⟨by rw [List.length_set, List.length_set]; exact S.len, fun j t e ne => ?_, fun t m => ?_, S.wf.set tr.1 fun j w _ ew => tr.2 w (List.mem_of_getElem? ew), fun j mj => ?_⟩
  · by_cases hj : j = i
    · subst hj
      have hl : j < ts.length := by
        have := (List.getElem?_eq_some_iff.mp e).1
        simpa using this
      rw [List.getElem?_set_self hl] at e
      cases e
      rw [List.getElem?_set_self (by rw [← S.len]; exact hl)]
    · rw [List.getElem?_set_ne (Ne.symm hj)] at e
      rw [List.getElem?_set_ne (Ne.symm hj)]
      exact S.rt j t e ne
  · rcases List.mem_or_eq_of_mem_set m with m | rfl
    · exact S.ok t m
    · exact ok
  · obtain ⟨t, e, ne, r⟩ := S.pin j mj
    have nij : i ≠ j := fun z => hi (by rw [z]; exact mj)
    exact ⟨t, by rw [List.getElem?_set_ne nij]; exact e, ne, r⟩
theorem step_set {H : Hp} {ts : List T} {u : T} {i : Nat} : Step H (u :: ts) H (ts.set i u) :=
  Step.refl.sub fun t m => (List.mem_or_eq_of_mem_set m).elim (fun m => List.mem_cons_of_mem _ m) fun e => by rw [e]; exact List.mem_cons_self
def gdN (i : Nat) : Gd := fun x s => some (s.set i x)
theorem grd_n {K : PySem.W.Frag} {io : List Nat} {i : Nat} (hi : io.contains i = false) : GRd K io [i] (gName i) (gdN i) := fun ρ ts σ H u Q S ok tr h _ => by
  have hi' : i ∉ io := by simpa using hi
  refine h _ rfl (ts.set i u) (σ.set i (some u.rt)) (S.set ok tr hi') (ers_set ts i u) step_set (fun j hj => ?_) ⟨List.length_set, fun j hj => ?_⟩
  · rw [List.getElem?_set_ne (fun z => hj (by rw [z]; simp))]
  · rw [List.getElem?_set_ne (fun z => hj (by rw [z]; simp))]
/-- target = value -/
def sAsg (m : Md) (d : E) (g : Gd) : S := fun s => match d s with
  | .ok q => if (m.isTmp || !q.1.hasOwn) = true then (match g q.1 q.2 with | some s' => .nx s' | none => .no) else .no
  | .ex c fs s => .ex c fs s
  | .no => .no
theorem srd_asg {K : PySem.W.Frag} {W : WX} {io : List Nat} {m : Md} {d1 mg : List Nat} {t : TE} {d : E} {g : TG} {gd : Gd} (hd : ERd K W io m d1 t d) (hg : GRd K io mg g gd) : SRd K W io (d1 ++ mg) (tAsg t g) (sAsg m d gd) := fun ρ ts σ H Z S h => by
  refine hd ρ ts σ H _ S ?_
  unfold sAsg at h
  cases ea : d (T.ers ts) with
  | no => rw [ea] at h; exact h
  | ex c fs s => rw [ea] at h; exact fun ts1 H1 d S1 e1 st1 x => h ts1 σ H1 d S1 e1 st1 x
  | ok q =>
    obtain ⟨x, s⟩ := q
    rw [ea] at h
    intro ts1 t1 H1 S1 e1 et ok1 mr1 st1 pu1
    by_cases hc : (m.isTmp || !x.hasOwn) = true
    · simp only [hc, if_true] at h
      have tr : TRel t1 ts1 := by
        cases m with
        | tmp => exact mr1
        | vw src =>
          have : x.hasOwn = false := by cases z : x.hasOwn with | false => rfl | true => rw [z] at hc; cases hc
          exact mr1.tmp S1.wf (T.own_nil (by rw [et]; exact this))
      refine hg ρ ts1 σ H1 t1 _ S1 ok1 tr (fun s' es ts2 σ2 S2 e2 st2 pu2 _ => ?_) (fun z => ?_)
      · rw [et, e1] at es
        rw [es] at h
        exact h ts2 σ2 H1 S2 e2 (st1.trans st2) fun j hj => (pu2 j fun z => hj (List.mem_append_right _ z)).trans (pu1 j fun z => hj (List.mem_append_left _ z))
      · rw [et, e1] at z
        rw [z] at h
        exact h
    · simp only [hc] at h
      exact h.elim
section
variable {X : Cx} {W : WX} {io : List Nat} {md mg : List Nat} {m : Md} {e tg : Expr} {pos : Pos}
structure DG (X : Cx) (io : List Nat) (mg : List Nat) (tg : Expr) (g : TG) (d : Gd) : Prop where
  pg : PG X tg g
  rd : GRd X.K io mg g d
theorem dg_n (i : Nat) {x : Str} {pos : Pos} (hN : X.N.Nodup) (hi : X.N[i]? = some x := by rfl) (hx : Loc X.env.scope x := by first | exact Or.inl rfl | exact Or.inr rfl)
    (hf : X.fn x = true ∨ X.env.scope.names.lookup x = some .local := by first | exact .inl rfl | exact .inr rfl) (hio : io.contains i = false := by rfl) : DG X io [i] (.Name x pos) (gName i) (gdN i) := ⟨pg_name hN hi hx hf, grd_n hio⟩
theorem ds_asg {te : TE} {d : E} {g : TG} {gd : Gd} (he : DE X W io m md e te d) (hg : DG X io mg tg g gd) (hs : swapsWithSole [tg] e pos.line X.env = pure false := by rfl) (hw : swappedStores [tg] e X.env = pure none := by rfl)
    (h1 : (assignEach [tg] X.env).map (·.2) = [assign tg X.env] := by rfl) : DS X W io (md ++ mg) (.Assign [tg] e pos) (tAsg te g) (sAsg m d gd) := ⟨ps_asg he.pe hg.pg hs hw h1, srd_asg he.rd hg.rd⟩
end
end VS
namespace VS
open PySem PySem.Spec PyProof.Rows L2

/-! ### several names at once -/
def gNames : List Nat → TGs
  | [] => gNil
  | i :: r => gCons (gName i) (gNames r)
def setAll : List Nat → List D → List D → List D
  | i :: r, x :: xs, s => setAll r xs (s.set i x)
  | _, _, s => s
def gdT (is : List Nat) : Gd := fun x s => match x with
  | .nd .tup xs => if xs.length = is.length then some (setAll is xs s) else none
  | _ => none
theorem gNames_rd {K : PySem.W.Frag} {io : List Nat} {ρ : Nat → V} {H : Hp} {A : List T} : ∀ (is : List Nat) (us ts : List T) (σ : L2.St) (Q : L2.St → Hp → Prop), (∀ i ∈ is, i ∉ io) → us.length = is.length → Sim K io ρ ts σ H → (∀ u ∈ us, u.ok K H) → WF us → (∀ u ∈ us, ∀ w ∈ ts, Dj u w) →
    Step H A H (us ++ ts) → (∀ ts' σ', Sim K io ρ ts' σ' H → T.ers ts' = setAll is (T.ers us) (T.ers ts) → Step H A H ts' → (∀ j, j ∉ is → ts'[j]? = ts[j]?) → (σ'.length = σ.length ∧ ∀ j, j ∉ is → σ'[j]? = σ[j]?) → Q σ' H) → gNames is (T.rts us) σ H Q
  | [], [], ts, σ, Q, _, _, S, _, _, _, st, h => ⟨rfl, h ts σ S rfl st (fun _ _ => rfl) ⟨rfl, fun _ _ => rfl⟩⟩
  | i :: r, u :: us, ts, σ, Q, hi, hl, S, ok, wf, dj, st, h => by
    refine ⟨u.rt, T.rts us, rfl, ?_⟩
    have tr : TRel u ts := ⟨wf.head.1, dj u List.mem_cons_self⟩
    have S1 := S.set (ok u List.mem_cons_self) tr (hi i List.mem_cons_self)
    have sub : ∀ w ∈ us ++ ts.set i u, w ∈ u :: us ++ ts := fun w m => by
      rcases List.mem_append.mp m with m | m
      · exact List.mem_append_left _ (List.mem_cons_of_mem _ m)
      · rcases List.mem_or_eq_of_mem_set m with m | m
        · exact List.mem_append_right _ m
        · rw [m]; exact List.mem_append_left _ List.mem_cons_self
    refine gNames_rd r us (ts.set i u) _ Q (fun j m => hi j (List.mem_cons_of_mem _ m)) (by simpa using hl) S1 (fun w m => ok w (List.mem_cons_of_mem _ m)) wf.head.2.2 (fun w mw z mz => ?_) (st.sub sub) fun ts' σ' S' e' st' pu' ps' => ?_
    · rcases List.mem_or_eq_of_mem_set mz with mz | rfl
      · exact dj w (List.mem_cons_of_mem _ mw) z mz
      · exact (wf.head.2.1 w mw).symm
    · refine h ts' σ' S' (by rw [e', ers_set]; rfl) st' (fun j hj => ?_) ⟨by rw [ps'.1, List.length_set], fun j hj => ?_⟩
      · rw [List.mem_cons, not_or] at hj
        rw [pu' j hj.2, List.getElem?_set_ne (Ne.symm hj.1)]
      · rw [List.mem_cons, not_or] at hj
        rw [ps'.2 j hj.2, List.getElem?_set_ne (Ne.symm hj.1)]
  | [], _ :: _, _, _, _, _, hl, _, _, _, _, _, _ => by cases hl
  | _ :: _, [], _, _, _, _, hl, _, _, _, _, _, _ => by cases hl
theorem node_parts {a : Addr} {xs : List T} {ts : List T} (tr : TRel (.nd a .tup xs) ts) : WF xs ∧ ∀ u ∈ xs, ∀ w ∈ ts, Dj u w := by
  have g := tr.1
  rw [T.good] at g
  refine ⟨g.2.2, fun u mu w mw => ?_⟩
  have d := tr.2 w mw
  exact ⟨fun z mz => d.1 z (T.mem_col.mpr (.inr ⟨u, mu, mz⟩)), fun z mz q => d.2 z mz (T.mem_col.mpr (.inr ⟨u, mu, q⟩))⟩
theorem grd_t {K : PySem.W.Frag} {io : List Nat} {is : List Nat} (hi : (is.all fun i => !io.contains i) = true) : GRd K io is (gTup K is.length (gNames is)) (gdT is) := fun ρ ts σ H u Q S ok tr h hn => by
  unfold gdT at h hn
  split at hn
  · rename_i xs e
    obtain ⟨a, us, rfl, e2⟩ := er_nd e
    by_cases hl : xs.length = is.length
    · rw [T.er] at h
      simp only [e2, hl, if_true] at h
      have hul : us.length = is.length := by rw [← hl, ← e2, ers_len]
      obtain ⟨wf, dj⟩ := node_parts tr
      have up : ∀ {p : NK → Bool} {u' : T} {z : Addr}, u' ∈ us → z ∈ u'.col p → z ∈ (T.nd a .tup us).col p := fun mu mz => T.mem_col.mpr (.inr ⟨_, mu, mz⟩)
      have st : Step H (.nd a .tup us :: ts) H (us ++ ts) := ⟨fun _ _ e _ => e, fun _ e => e, fun w m z mz => .inl ((List.mem_append.mp m).elim (fun m => ⟨_, List.mem_cons_self, up m mz⟩) fun m => ⟨w, List.mem_cons_of_mem _ m, mz⟩),
        fun w m z mz => .inl ((List.mem_append.mp m).elim (fun m => ⟨_, List.mem_cons_self, up m mz⟩) fun m => ⟨w, List.mem_cons_of_mem _ m, mz⟩), fun w m z mz => .inl ((List.mem_append.mp m).elim (fun m => ⟨_, List.mem_cons_self, up m mz⟩) fun m => ⟨w, List.mem_cons_of_mem _ m, mz⟩)⟩
      refine ⟨a, T.rts us, rfl, ok.sqT, by rw [rts_len]; exact hul, gNames_rd (A := .nd a .tup us :: ts) is us ts σ Q (fun i m => ?_) hul S (fun w m => ok.child m) wf dj st fun ts' σ' S' e' st' pu' ps' => h _ rfl ts' σ' S' (by rw [e', e2]) st' pu' ps'⟩
      have := List.all_eq_true.mp hi i m
      simpa using this
    · rw [if_neg hl] at hn; exact absurd rfl hn
  · exact absurd rfl hn

/-! ### what is walked -/
/-- the walk J, over the thing t, gives xs -/
structure Yl (K : PySem.W.Frag) (J : It) (t : T) (xs : List D) : Prop where
  go : ∀ H, t.ok K H → ∀ (i : Nat) (d : D), xs[i]? = some d → J.go i H
  yld : ∀ H, t.ok K H → ∀ (i : Nat) (d : D), xs[i]? = some d → ∀ x H', J.yld i H x H' → ∃ u : T, u.er = d ∧ u.rt = x ∧ u.ok K H' ∧ Same H H' ∧ (u.own = [] → ∀ a ∈ u.trk, a ∈ t.trk ∧ (t.good → a ∉ t.own)) ∧ ∀ a ∈ u.imm, a ∈ t.imm
  stop : ∀ H, t.ok K H → J.stop xs.length H
abbrev I := List D → R ((D × List D) × List D)
def IPost (K : PySem.W.Frag) (W : WX) (io : List Nat) (ρ : Nat → V) (m : Md) (md : List Nat) (ts : List T) (σ : L2.St) (H : Hp) (Q : It → Hp → Prop) : R ((D × List D) × List D) → Prop
  | .ok ((w, xs), s) => ∀ ts' t H' J, Sim K io ρ ts' σ H' → T.ers ts' = s → t.er = w → t.ok K H' → MRel m t ts' → Step H ts H' (t :: ts') → (∀ j, j ∉ md → ts'[j]? = ts[j]?) → Yl K J t xs → Q J H'
  | .ex c fs s => ∀ ts' H' d, Sim K io ρ ts' σ H' → T.ers ts' = s → Step H ts H' ts' → XRel H' d fs → W c d σ H'
  | .no => False
def IRd (K : PySem.W.Frag) (W : WX) (io : List Nat) (m : Md) (md : List Nat) (t : TI) (d : I) : Prop :=
  ∀ ρ ts σ H Q, Sim K io ρ ts σ H → IPost K W io ρ m md ts σ H Q (d (T.ers ts)) → t σ H Q
structure DI (X : Cx) (W : WX) (io : List Nat) (m : Md) (md : List Nat) (tg e : Expr) (t : TI) (d : I) : Prop where
  pi : PI X tg e t
  rd : IRd X.K W io m md t d
/-- a list, a tuple, a text, walked -/
def D.items : D → Option (List D)
  | .nd .tup xs => some xs
  | .nd .scr xs => some xs
  | .nd (.lst _) xs => some xs
  | .v (.str z) => some (z.cps.toList.map fun c => .v (.str ⟨#[c]⟩))
  | _ => none
def dIt (d : E) : I := fun s => (d s).bind fun q => match q.1.items with
  | some xs => .ok ((q.1, xs), q.2)
  | none => .no

def iAny (K : PySem.W.Frag) (te : TE) : TI := fun σ H R => te σ H fun x H1 => (∃ a, x = .ref a ∧ (∃ xs, SqL K H1 a xs) ∧ R (Itl K a) H1) ∨ (∃ a, x = .ref a ∧ (∃ xs, SqT K H1 a xs) ∧ R (Itt K a) H1) ∨ ∃ z, x = .str z ∧ R (Its z) H1
theorem pi_any {X : Cx} {tg e : Expr} {te : TE} (he : PE X e te) : PI X tg e (iAny X.K te) := by
  refine ⟨fun pins s σ H R I0 h => thn (he.run pins s σ H _ I0 h) fun v s1 ⟨x, H1, I1, rx, w⟩ => ?_⟩
  rcases w with ⟨a, ex, ⟨xs, hs⟩, q⟩ | ⟨a, ex, ⟨xs, hs⟩, q⟩ | ⟨z, ex, q⟩
  · subst ex; cases rx
    obtain ⟨its, _, pl, _⟩ := I1.list hs
    exact wpAny_pyIter_list pl.isList (pi_one (tk := s1.toks) I1 _ (turn_list a _) ⟨_, Heap.get?_push_size _ rfl, rfl, rfl⟩ q)
  · subst ex; cases rx
    obtain ⟨its, _, pl, _⟩ := I1.tuple hs
    exact wpAny_pyIter_tuple (show s1.heap.IsTuple a its.toArray from pl) (pi_one (tk := s1.toks) I1 _ (turn_tuple a _) ⟨_, Heap.get?_push_size _ rfl, rfl, rfl⟩ q)
  · subst ex
    obtain ⟨t, et⟩ := rx
    subst et
    cases hw : z.cps.all (· < 128)
    · exact wpAny_pyIter_wide hw (pi_one (tk := s1.toks) I1 _ (turn_str _ z t "str_iterator" (.inr rfl)) ⟨_, Heap.get?_push_size _ rfl, rfl, rfl⟩ q)
    · exact wpAny_pyIter_ascii hw (pi_one (tk := s1.toks) I1 _ (turn_str _ z t "str_ascii_iterator" (.inl rfl)) ⟨_, Heap.get?_push_size _ rfl, rfl, rfl⟩ q)
theorem rts_get {us : List T} {i : Nat} {d : D} (h : (T.ers us)[i]? = some d) : ∃ u, us[i]? = some u ∧ u.er = d ∧ (T.rts us)[i]? = some u.rt := by
  obtain ⟨u, e1, e2⟩ := ers_get h
  exact ⟨u, e1, e2, by rw [T.rts_map, List.getElem?_map, e1]; rfl⟩
theorem kid {a : Addr} {k : NK} {us : List T} {u : T} (m : u ∈ us) : (u.own = [] → ∀ z ∈ u.trk, z ∈ (T.nd a k us).trk ∧ ((T.nd a k us).good → z ∉ (T.nd a k us).own)) ∧ ∀ z ∈ u.imm, z ∈ (T.nd a k us).imm :=
  ⟨fun ho z mz => ⟨T.mem_col.mpr (.inr ⟨u, m, mz⟩), fun g => ((Sub0.child g m ho).tr z mz).2⟩, fun z mz => T.mem_col.mpr (.inr ⟨u, m, mz⟩)⟩
theorem yl_list {K : PySem.W.Frag} {a : Addr} {k : NK} {us : List T} (h : ∀ H, (T.nd a k us).ok K H → SqL K H a (T.rts us)) : Yl K (Itl K a) (.nd a k us) (T.ers us) := by
  refine ⟨fun H ok i d e => ?_, fun H ok i d e x H' y => ?_, fun H ok => ⟨_, h H ok, by rw [rts_len, ers_len]; exact Nat.le_refl _⟩⟩
  · obtain ⟨u, e1, e2, e3⟩ := rts_get e
    exact ⟨_, _, h H ok, e3⟩
  · obtain ⟨u, e1, e2, e3⟩ := rts_get e
    obtain ⟨rfl, f⟩ := y
    have ex : x = u.rt := Option.some.inj ((f _ (h H' ok)).symm.trans e3)
    have m := List.mem_of_getElem? e1
    exact ⟨u, e2, ex.symm, ok.child m, Same.refl _, (kid m).1, (kid m).2⟩
theorem yl_tup {K : PySem.W.Frag} {a : Addr} {us : List T} : Yl K (Itt K a) (.nd a .tup us) (T.ers us) := by
  refine ⟨fun H ok i d e => ?_, fun H ok i d e x H' y => ?_, fun H ok => ⟨_, ok.sqT, by rw [rts_len, ers_len]; exact Nat.le_refl _⟩⟩
  · obtain ⟨u, e1, e2, e3⟩ := rts_get e
    exact ⟨_, _, ok.sqT, e3⟩
  · obtain ⟨u, e1, e2, e3⟩ := rts_get e
    obtain ⟨rfl, f⟩ := y
    have ex : x = u.rt := Option.some.inj ((f _ ok.sqT).symm.trans e3)
    have m := List.mem_of_getElem? e1
    exact ⟨u, e2, ex.symm, ok.child m, Same.refl _, (kid m).1, (kid m).2⟩
theorem yl_str {K : PySem.W.Frag} {z : Str} : Yl K (Its z) (.v (.str z)) (z.cps.toList.map fun c => .v (.str ⟨#[c]⟩)) := by
  refine ⟨fun H ok i d e => ?_, fun H ok i d e x H' y => ?_, fun H ok => by show z.cps.size ≤ _; simp⟩
  · have := (List.getElem?_eq_some_iff.mp e).1
    show i < z.cps.size
    simpa using this
  · obtain ⟨rfl, c, hc, rfl⟩ := y
    rw [List.getElem?_map, Array.getElem?_toList, hc] at e
    cases e
    exact ⟨.v _, rfl, rfl, trivial, Same.refl _, fun _ _ m => (nomatch m), fun _ m => (nomatch m)⟩
theorem yl_rng {K : PySem.W.Frag} {lo : Int} {n : Nat} {t : T} : Yl K (Itr lo n) t ((List.range n).map fun (i : Nat) => D.int (lo + i)) := by
  refine ⟨fun H ok i d e => ?_, fun H ok i d e x H' y => ?_, fun H ok => by show n ≤ _; simp⟩
  · have := (List.getElem?_eq_some_iff.mp e).1
    show i < n
    simpa using this
  · obtain ⟨rfl, rfl⟩ := y
    have hi := (List.getElem?_eq_some_iff.mp e).1
    rw [List.length_map, List.length_range] at hi
    rw [List.getElem?_map, List.getElem?_range hi] at e
    cases e
    exact ⟨.v _, rfl, rfl, trivial, Same.refl _, fun _ _ m => (nomatch m), fun _ m => (nomatch m)⟩
section
variable {K : PySem.W.Frag} {W : WX} {io : List Nat}
theorem ird_any {m : Md} {md : List Nat} {t : TE} {d : E} (h : ERd K W io m md t d) : IRd K W io m md (iAny K t) (dIt d) := fun ρ ts σ H Q S q => by
  refine h ρ ts σ H _ S ?_
  unfold dIt at q
  cases ea : d (T.ers ts) with
  | no => rw [ea] at q; exact q
  | ex c fs s => rw [ea] at q; exact q
  | ok p =>
    obtain ⟨x, s⟩ := p
    rw [ea] at q
    intro ts1 t1 H1 S1 e1 et ok1 mr1 st1 pu1
    simp only [R.bind] at q
    cases eb : x.items with
    | none => rw [eb] at q; exact q.elim
    | some xs =>
      rw [eb] at q
      have go := fun J => q ts1 t1 H1 J S1 e1 et ok1 mr1 st1 pu1
      unfold D.items at eb
      split at eb
      · obtain ⟨a, us, rfl, e2⟩ := er_nd et
        cases eb
        exact .inr (.inl ⟨a, rfl, ⟨_, ok1.sqT⟩, go _ (by rw [← e2]; exact yl_tup)⟩)
      · obtain ⟨a, us, rfl, e2⟩ := er_nd et
        cases eb
        exact .inl ⟨a, rfl, ⟨_, ok1.sqS⟩, go _ (by rw [← e2]; exact yl_list fun H ok => ok.sqS)⟩
      · obtain ⟨a, us, rfl, e2⟩ := er_nd et
        cases eb
        exact .inl ⟨a, rfl, ⟨_, ok1.sqL⟩, go _ (by rw [← e2]; exact yl_list fun H ok => ok.sqL)⟩
      · have := er_v et; subst this
        cases eb
        exact .inr (.inr ⟨_, rfl, go _ yl_str⟩)
      · cases eb
/-- ranges -/
def dRg1 (d : EA) : I := fun s => (d s).bind fun q => match q.1 with
  | [.v (.int j)] => if j.natAbs < 4000000000000000000 then .ok ((.v .non, (List.range j.toNat).map fun (i : Nat) => D.int (0 + i)), q.2) else .no
  | _ => .no
def dRg2 (d : EA) : I := fun s => (d s).bind fun q => match q.1 with
  | [.v (.int i), .v (.int j)] => if i.natAbs < 4000000000000000000 ∧ j.natAbs < 4000000000000000000 then .ok ((.v .non, (List.range (j - i).toNat).map fun (k : Nat) => D.int (i + k)), q.2) else .no
  | _ => .no
theorem step_drop {H H' : Hp} {A us B : List T} (st : Step H A H' (us ++ B)) : Step H A H' B := st.sub fun _ m => List.mem_append_right _ m
theorem ird_rg1 {ms : List Md} {md : List Nat} {t : TA} {d : EA} (h : ARd K W io ms md t d) : IRd K W io .tmp md (iRng1 t) (dRg1 d) := fun ρ ts σ H Q S q => by
  refine h ρ ts σ H _ S ?_
  unfold dRg1 at q
  cases ea : d (T.ers ts) with
  | no => rw [ea] at q; exact q
  | ex c fs s => rw [ea] at q; exact q
  | ok p =>
    obtain ⟨xs, s⟩ := p
    rw [ea] at q
    intro ts1 us H1 S1 e1 eu ok1 ar1 st1 pu1
    simp only [R.bind] at q
    split at q
    · obtain ⟨u, r, rfl, e2, e3⟩ := ers_cons eu
      have := er_v e2; subst this
      have := ers_nil e3; subst this
      split at q
      · rename_i hb
        exact ⟨_, rfl, by omega, by omega, q ts1 (.v .non) H1 _ S1 e1 rfl trivial trel_v (step_drop st1).consV pu1 yl_rng⟩
      · exact q.elim
    · exact q.elim
theorem ird_rg2 {ms : List Md} {md : List Nat} {t : TA} {d : EA} (h : ARd K W io ms md t d) : IRd K W io .tmp md (iRng2 t) (dRg2 d) := fun ρ ts σ H Q S q => by
  refine h ρ ts σ H _ S ?_
  unfold dRg2 at q
  cases ea : d (T.ers ts) with
  | no => rw [ea] at q; exact q
  | ex c fs s => rw [ea] at q; exact q
  | ok p =>
    obtain ⟨xs, s⟩ := p
    rw [ea] at q
    intro ts1 us H1 S1 e1 eu ok1 ar1 st1 pu1
    simp only [R.bind] at q
    split at q
    · obtain ⟨u, r, rfl, e2, e3⟩ := ers_cons eu
      have := er_v e2; subst this
      obtain ⟨u, r, rfl, e4, e5⟩ := ers_cons e3
      have := er_v e4; subst this
      have := ers_nil e5; subst this
      split at q
      · rename_i hb
        exact ⟨_, _, rfl, ⟨by omega, by omega, by omega, by omega⟩, q ts1 (.v .non) H1 _ S1 e1 rfl trivial trel_v (step_drop st1).consV pu1 yl_rng⟩
      · exact q.elim
    · exact q.elim
end

/-! ### for -/
def forL (g : Gd) (body : S) : List D → List D → O
  | [], s => .nx s
  | x :: r, s => match g x s with
    | none => .no
    | some s1 => match body s1 with
      | .nx s2 => forL g body r s2
      | .ct s2 => forL g body r s2
      | .bk s2 => .nx s2
      | .rt x s2 => .rt x s2
      | .ex c fs s2 => .ex c fs s2
      | .no => .no
def sFor (m : Md) (mb : List Nat) (it : I) (g : Gd) (body : S) : S := fun s => match it s with
  | .ok q => if ((clr m mb || !q.1.1.hasOwn) && !D.hass NK.isOwn q.1.2) = true then forL g body q.1.2 q.2 else .no
  | .ex c fs s => .ex c fs s
  | .no => .no
/-- a thing held while the slots at mb may change -/
structure Hold (K : PySem.W.Frag) (m : Md) (mb : List Nat) (t : T) (ts : List T) (H : Hp) : Prop where
  ok : t.ok K H
  rel : TRel t ts ∨ ∃ i u, ts[i]? = some u ∧ Sbt t u ∧ i ∉ mb
theorem Hold.of {K : PySem.W.Frag} {m : Md} {mb : List Nat} {t : T} {ts : List T} {H : Hp} (ok : t.ok K H) (mr : MRel m t ts) (wf : WF ts) (h : (clr m mb || !t.er.hasOwn) = true) : Hold K m mb t ts H := by
  refine ⟨ok, ?_⟩
  by_cases ho : t.er.hasOwn = false
  · exact .inl (mr.tmp wf (T.own_nil ho))
  · have hx : t.er.hasOwn = true := by cases q : t.er.hasOwn with | true => rfl | false => exact absurd q ho
    rw [hx, Bool.not_true, Bool.or_false] at h
    cases m with
    | tmp => exact .inl mr
    | vw src =>
      rcases mr with ⟨i, mi, u, eu, sb⟩ | ⟨_, tr⟩
      · refine .inr ⟨i, u, eu, sb, ?_⟩
        have := List.all_eq_true.mp h i mi
        simpa using this
      · exact .inl tr
theorem Hold.step {K : PySem.W.Frag} {m : Md} {mb : List Nat} {t : T} {ts ts' : List T} {H H' : Hp} (h : Hold K m mb t ts H) (okA : ∀ u ∈ ts, u.ok K H) (okB : ∀ u ∈ ts', u.ok K H') (st : Step H ts H' ts') (pu : ∀ j, j ∉ mb → ts'[j]? = ts[j]?) : Hold K m mb t ts' H' := by
  rcases h.rel with tr | ⟨i, u, eu, sb, hi⟩
  · exact ⟨keepT h.ok okA st fun u mu a ma => (tr.2 u mu).2 a ma, .inl ⟨tr.1, djStep h.ok tr.2 st⟩⟩
  · have eu' := (pu i hi).trans eu
    exact ⟨sb.ok (okB u (List.mem_of_getElem? eu')), .inr ⟨i, u, eu', sb, hi⟩⟩
/-- what the slots own is not among the rest of a held thing's nodes -/
theorem Hold.apart {K : PySem.W.Frag} {m : Md} {mb : List Nat} {t : T} {ts : List T} {H : Hp} (h : Hold K m mb t ts H) (wf : WF ts) : t.good ∧ ∀ u ∈ ts, ∀ a ∈ u.own, a ∉ t.own → a ∉ t.trk := by
  rcases h.rel with tr | ⟨i, u, eu, sb, _⟩
  · exact ⟨tr.1, fun u mu a ma _ => (tr.2 u mu).2 a ma⟩
  · have mr : MRel (.vw [i]) t ts := .inl ⟨i, by simp, u, eu, sb⟩
    exact ⟨mr.good wf, mr.own wf⟩
theorem Hold.trk {K : PySem.W.Frag} {m : Md} {mb : List Nat} {t : T} {ts : List T} {H : Hp} (h : Hold K m mb t ts H) {a : Addr} (ha : a ∈ t.trk) : ∃ o, H a = some o := T.trk_s h.ok ha
theorem hass_get {xs : List D} (h : D.hass NK.isOwn xs = false) {i : Nat} {d : D} (e : xs[i]? = some d) : d.hasOwn = false := by
  rw [D.hass_any] at h
  have := List.any_eq_false.mp h d (List.mem_of_getElem? e)
  simpa using this
/-- a turn's thing, ready to be stored -/
theorem turn_item {K : PySem.W.Frag} {io : List Nat} {ρ : Nat → V} {m : Md} {mb : List Nat} {t u : T} {ts : List T} {σ : L2.St} {H H' : Hp} (h : Hold K m mb t ts H) (S : Sim K io ρ ts σ H) (uo : u.own = []) (ok : u.ok K H') (sm : Same H H')
    (ht : ∀ a ∈ u.trk, a ∈ t.trk ∧ (t.good → a ∉ t.own)) : Sim K io ρ ts σ H' ∧ TRel u ts ∧ Hold K m mb t ts H' := by
  obtain ⟨g, ap⟩ := h.apart S.wf
  refine ⟨⟨S.len, S.rt, fun w mw => T.ok_same (S.ok w mw) sm, S.wf, S.pin⟩, ⟨T.good_of uo, fun w mw => ⟨fun a ma => (by rw [uo] at ma; cases ma), fun a ma z => ?_⟩⟩, T.ok_same h.ok sm, h.rel⟩
  obtain ⟨q1, q2⟩ := ht a z
  exact ap w mw a ma (q2 g) q1
end VS
namespace VS
open PySem PySem.Spec PyProof.Rows L2

theorem Hold.store {K : PySem.W.Frag} {m : Md} {mb : List Nat} {t u : T} {ts ts' : List T} {H : Hp} (h : Hold K m mb t ts H) (uo : u.own = []) (ut : ∀ a ∈ u.trk, a ∉ t.own) (okB : ∀ w ∈ ts', w.ok K H) (st : Step H (u :: ts) H ts') (pu : ∀ j, j ∉ mb → ts'[j]? = ts[j]?) : Hold K m mb t ts' H := by
  rcases h.rel with tr | ⟨i, w, ew, sb, hi⟩
  · refine ⟨h.ok, .inl ⟨tr.1, djStep h.ok (A := u :: ts) (fun w mw => ?_) st⟩⟩
    rcases List.mem_cons.mp mw with rfl | mw
    · exact ⟨fun a ma z => ut a z ma, fun a ma => (by rw [uo] at ma; cases ma)⟩
    · exact tr.2 w mw
  · exact ⟨h.ok, .inr ⟨i, w, (pu i hi).trans ew, sb, hi⟩⟩
/-- the slots behind a turn's store, the held thing beside them -/
theorem step_store {H0 H H' : Hp} {A ts ts' : List T} {t u : T} (st : Step H0 A H (t :: ts)) (sm : Same H H') (uo : u.own = []) (ut : ∀ a ∈ u.trk, a ∈ t.trk) (ui : ∀ a ∈ u.imm, a ∈ t.imm) (s2 : Step H' (u :: ts) H' ts') : Step H0 A H' (t :: ts') := by
  have s1 : Step H0 A H' (t :: ts) := ⟨fun b o e n => sm b o (st.fr b o e n), fun b e => st.al b (sm.free e), st.ow, st.tr, st.im⟩
  refine ⟨s1.fr, s1.al, fun w mw a ma => ?_, fun w mw a ma => ?_, fun w mw a ma => ?_⟩
  · rcases List.mem_cons.mp mw with rfl | mw
    · exact s1.ow _ List.mem_cons_self a ma
    · rcases s2.ow w mw a ma with ⟨z, mz, za⟩ | q
      · rcases List.mem_cons.mp mz with rfl | mz
        · rw [uo] at za; cases za
        · exact s1.ow z (List.mem_cons_of_mem _ mz) a za
      · exact .inr (s1.al a q)
  · rcases List.mem_cons.mp mw with rfl | mw
    · exact s1.tr _ List.mem_cons_self a ma
    · rcases s2.tr w mw a ma with ⟨z, mz, za⟩ | q
      · rcases List.mem_cons.mp mz with rfl | mz
        · exact s1.tr t List.mem_cons_self a (ut a za)
        · exact s1.tr z (List.mem_cons_of_mem _ mz) a za
      · exact .inr (s1.al a q)
  · rcases List.mem_cons.mp mw with rfl | mw
    · exact s1.im _ List.mem_cons_self a ma
    · rcases s2.im w mw a ma with ⟨z, mz, za⟩ | q
      · rcases List.mem_cons.mp mz with rfl | mz
        · exact s1.im t List.mem_cons_self a (ui a za)
        · exact s1.im z (List.mem_cons_of_mem _ mz) a za
      · exact .inr (s1.al a q)
/-- a held thing beside the slots that step on -/
theorem step_beside {H0 H H' : Hp} {A ts ts' : List T} {t : T} (st : Step H0 A H (t :: ts)) (s2 : Step H ts H' ts') : Step H0 A H' (t :: ts') :=
  (st.tail.trans s2).cons (st.ow t List.mem_cons_self) (st.tr t List.mem_cons_self) (st.im t List.mem_cons_self)
theorem drop_get {α : Type} {xs : List α} {i : Nat} (h : i < xs.length) : xs.drop i = xs[i] :: xs.drop (i + 1) := by
  rw [List.drop_eq_getElem_cons h]
section
variable {K : PySem.W.Frag} {W : WX} {io : List Nat}
theorem srd_for {m : Md} {mi mg mb : List Nat} {ti : TI} {g : TG} {tb : TS} {it : I} {gd : Gd} {body : S} (hi : IRd K W io m mi ti it) (hg : GRd K io mg g gd) (hb : SRd K W io mb tb body) :
    SRd K W io (mi ++ (mg ++ mb)) (tFor ti g tb) (sFor m (mg ++ mb) it gd body) := fun ρ ts σ H Z S h => by
  refine hi ρ ts σ H _ S ?_
  unfold sFor at h
  cases ea : it (T.ers ts) with
  | no => rw [ea] at h; exact h
  | ex c fs s => rw [ea] at h; exact fun ts1 H1 d S1 e1 st1 x => h ts1 σ H1 d S1 e1 st1 x
  | ok q =>
    obtain ⟨⟨w, xs⟩, s⟩ := q
    rw [ea] at h
    intro ts1 t H1 J S1 e1 et ok1 mr1 st1 pu1 yl
    by_cases hc : ((clr m (mg ++ mb) || !w.hasOwn) && !D.hass NK.isOwn xs) = true
    · simp only [hc, if_true] at h
      rw [Bool.and_eq_true] at hc
      have hxs : D.hass NK.isOwn xs = false := by
        cases q : D.hass NK.isOwn xs with
        | false => rfl
        | true => rw [q] at hc; cases hc.2
      have hold1 : Hold K m (mg ++ mb) t ts1 H1 := Hold.of ok1 mr1 S1.wf (by rw [et]; exact hc.1)
      refine ⟨fun i n σ2 H2 => n = xs.length - i ∧ i ≤ xs.length ∧ ∃ ts2, Sim K io ρ ts2 σ2 H2 ∧ Hold K m (mg ++ mb) t ts2 H2 ∧ Step H ts H2 (t :: ts2) ∧ (∀ j, j ∉ mi ++ (mg ++ mb) → ts2[j]? = ts[j]?) ∧
        SPost K W io ρ (mi ++ (mg ++ mb)) ts H Z (forL gd body (xs.drop i) (T.ers ts2)), ⟨xs.length, rfl, Nat.zero_le _, ts1, S1, hold1, st1, fun j hj => pu1 j fun z => hj (List.mem_append_left _ z), by rw [List.drop_zero, e1]; exact h⟩, ?_⟩
      rintro i n σ2 H2 ⟨rfl, hil, ts2, S2, hold2, st2, pu2, p2⟩
      by_cases hlt : i < xs.length
      · refine .inr ⟨yl.go H2 hold2.ok i _ (List.getElem?_eq_getElem hlt), fun σ' H' => (xs.length - (i + 1) = xs.length - (i + 1)) ∧ i + 1 ≤ xs.length ∧ ∃ ts2, Sim K io ρ ts2 σ' H' ∧ Hold K m (mg ++ mb) t ts2 H' ∧ Step H ts H' (t :: ts2) ∧ (∀ j, j ∉ mi ++ (mg ++ mb) → ts2[j]? = ts[j]?) ∧
          SPost K W io ρ (mi ++ (mg ++ mb)) ts H Z (forL gd body (xs.drop (i + 1)) (T.ers ts2)), fun σ' H' q => ⟨xs.length - (i + 1), by omega, q⟩, fun x H3 y => ?_⟩
        obtain ⟨u, eu, er, oku, sm, ut, ui⟩ := yl.yld H2 hold2.ok i _ (List.getElem?_eq_getElem hlt) x H3 y
        have uo : u.own = [] := T.own_nil (by rw [eu]; exact hass_get hxs (List.getElem?_eq_getElem hlt))
        obtain ⟨S3, tr3, hold3⟩ := turn_item hold2 S2 uo oku sm (ut uo)
        have tg : t.good := (hold2.apart S2.wf).1
        rw [drop_get hlt, forL] at p2
        rw [← er]
        cases eg : gd (xs[i]) (T.ers ts2) with
        | none => rw [eg] at p2; exact p2.elim
        | some s3 =>
          rw [eg] at p2
          simp only at p2
          refine hg ρ ts2 σ2 H3 u _ S3 oku tr3 (fun s4 e4 ts4 σ4 S4 e5 st4 pu4 _ => ?_) (by rw [eu, eg]; intro z; cases z)
          rw [eu, eg] at e4
          cases e4
          have hold4 := hold3.store uo (fun a ma => (ut uo a ma).2 tg) S4.ok st4 fun j hj => pu4 j fun z => hj (List.mem_append_left _ z)
          have st5 := step_store st2 sm uo (fun a ma => (ut uo a ma).1) ui st4
          have pu5 : ∀ j, j ∉ mi ++ (mg ++ mb) → ts4[j]? = ts[j]? := fun j hj => (pu4 j fun z => hj (List.mem_append_right _ (List.mem_append_left _ z))).trans (pu2 j hj)
          have nxt : ∀ {ts6 : List T} {σ6 : L2.St} {H6 : Hp}, Sim K io ρ ts6 σ6 H6 → Step H3 ts4 H6 ts6 → (∀ j, j ∉ mb → ts6[j]? = ts4[j]?) → Hold K m (mg ++ mb) t ts6 H6 ∧ Step H ts H6 (t :: ts6) ∧ ∀ j, j ∉ mi ++ (mg ++ mb) → ts6[j]? = ts[j]? := fun S6 st6 pu6 =>
            ⟨hold4.step S4.ok S6.ok st6 fun j hj => pu6 j fun z => hj (List.mem_append_right _ z), step_beside st5 st6, fun j hj => (pu6 j fun z => hj (List.mem_append_right _ (List.mem_append_right _ z))).trans (pu5 j hj)⟩
          refine hb ρ ts4 σ4 H3 _ S4 ?_
          rw [e5]
          cases eb : body s3 with
          | no => rw [eb] at p2; exact p2
          | ex c fs s6 => rw [eb] at p2; exact fun ts6 σ6 H6 d S6 e6 st6 x => p2 ts6 σ6 H6 d S6 e6 (st5.tail.trans st6) x
          | nx s6 =>
            rw [eb] at p2
            intro ts6 σ6 H6 S6 e6 st6 pu6
            obtain ⟨a1, a2, a3⟩ := nxt S6 st6 pu6
            exact ⟨rfl, hlt, ts6, S6, a1, a2, a3, by rw [e6]; exact p2⟩
          | ct s6 =>
            rw [eb] at p2
            intro ts6 σ6 H6 S6 e6 st6 pu6
            obtain ⟨a1, a2, a3⟩ := nxt S6 st6 pu6
            exact ⟨rfl, hlt, ts6, S6, a1, a2, a3, by rw [e6]; exact p2⟩
          | bk s6 =>
            rw [eb] at p2
            intro ts6 σ6 H6 S6 e6 st6 pu6
            obtain ⟨a1, a2, a3⟩ := nxt S6 st6 pu6
            exact p2 ts6 σ6 H6 S6 e6 a2.tail a3
          | rt x s6 =>
            rw [eb] at p2
            exact fun ts6 σ6 t6 H6 S6 e6 et6 ok6 rr6 st6 => p2 ts6 σ6 t6 H6 S6 e6 et6 ok6 rr6 (st5.tail.trans st6)
      · have hi2 : i = xs.length := by omega
        subst hi2
        rw [List.drop_length, forL] at p2
        exact .inl ⟨yl.stop H2 hold2.ok, p2 ts2 σ2 H2 S2 rfl st2.tail pu2⟩
    · simp only [hc] at h
      exact h.elim
/-! ### while -/
def whL (c : B) (body : S) : Nat → List D → O
  | 0, _ => .no
  | n + 1, s => match c s with
    | .ok q => if q.1 = true then (match body q.2 with
        | .nx s2 => whL c body n s2
        | .ct s2 => whL c body n s2
        | .bk s2 => .nx s2
        | .rt x s2 => .rt x s2
        | .ex c fs s2 => .ex c fs s2
        | .no => .no) else .nx q.2
    | .ex c fs s => .ex c fs s
    | .no => .no
def sWh (n : Nat) (c : B) (body : S) : S := fun s => whL c body n s
theorem srd_wh {mc mb : List Nat} {tc : TT} {tb : TS} {c : B} {body : S} {n : Nat} (hc : TRd K W io mc tc c) (hb : SRd K W io mb tb body) : SRd K W io (mc ++ mb) (tWhile tc tb) (sWh n c body) := fun ρ ts σ H Z S h => by
  refine ⟨fun k σ2 H2 => ∃ ts2, Sim K io ρ ts2 σ2 H2 ∧ Step H ts H2 ts2 ∧ (∀ j, j ∉ mc ++ mb → ts2[j]? = ts[j]?) ∧ SPost K W io ρ (mc ++ mb) ts H Z (whL c body k (T.ers ts2)), ⟨n, ts, S, Step.refl, fun _ _ => rfl, h⟩, ?_⟩
  rintro k σ2 H2 ⟨ts2, S2, st2, pu2, p2⟩
  refine hc ρ ts2 σ2 H2 _ S2 ?_
  cases k with
  | zero => exact p2.elim
  | succ k =>
    rw [whL] at p2
    cases ea : c (T.ers ts2) with
    | no => rw [ea] at p2; exact p2
    | ex c fs s => rw [ea] at p2; exact fun ts1 H1 d S1 e1 st1 x => p2 ts1 σ2 H1 d S1 e1 (st2.trans st1) x
    | ok q =>
      obtain ⟨b, s⟩ := q
      rw [ea] at p2
      intro ts3 H3 S3 e3 st3 pu3
      have st4 := st2.trans st3
      have pu4 : ∀ j, j ∉ mc ++ mb → ts3[j]? = ts[j]? := fun j hj => (pu3 j fun z => hj (List.mem_append_left _ z)).trans (pu2 j hj)
      cases b with
      | false =>
        rw [if_neg Bool.false_ne_true]
        simp only [Bool.false_eq_true, if_false] at p2
        exact p2 ts3 σ2 H3 S3 e3 st4 pu4
      | true =>
        rw [if_pos rfl]
        simp only [if_true] at p2
        refine ⟨fun σ' H' => ∃ ts2, Sim K io ρ ts2 σ' H' ∧ Step H ts H' ts2 ∧ (∀ j, j ∉ mc ++ mb → ts2[j]? = ts[j]?) ∧ SPost K W io ρ (mc ++ mb) ts H Z (whL c body k (T.ers ts2)), fun σ' H' q => ⟨k, Nat.lt_succ_self k, q⟩, ?_⟩
        refine hb ρ ts3 σ2 H3 _ S3 ?_
        rw [e3]
        have un : ∀ {ts6 : List T}, (∀ j, j ∉ mb → ts6[j]? = ts3[j]?) → ∀ j, j ∉ mc ++ mb → ts6[j]? = ts[j]? := fun pu6 j hj => (pu6 j fun z => hj (List.mem_append_right _ z)).trans (pu4 j hj)
        cases eb : body s with
        | no => rw [eb] at p2; exact p2
        | ex c fs s6 => rw [eb] at p2; exact fun ts6 σ6 H6 d S6 e6 st6 x => p2 ts6 σ6 H6 d S6 e6 (st4.trans st6) x
        | nx s6 =>
          rw [eb] at p2
          exact fun ts6 σ6 H6 S6 e6 st6 pu6 => ⟨ts6, S6, st4.trans st6, un pu6, by rw [e6]; exact p2⟩
        | ct s6 =>
          rw [eb] at p2
          exact fun ts6 σ6 H6 S6 e6 st6 pu6 => ⟨ts6, S6, st4.trans st6, un pu6, by rw [e6]; exact p2⟩
        | bk s6 =>
          rw [eb] at p2
          exact fun ts6 σ6 H6 S6 e6 st6 pu6 => p2 ts6 σ6 H6 S6 e6 (st4.trans st6) (un pu6)
        | rt x s6 =>
          rw [eb] at p2
          exact fun ts6 σ6 t6 H6 S6 e6 et6 ok6 rr6 st6 => p2 ts6 σ6 t6 H6 S6 e6 et6 ok6 rr6 (st4.trans st6)
end
section
variable {X : Cx} {W : WX} {io : List Nat} {mi mg mb mc : List Nat} {m : Md} {tg iter c : Expr} {body : List Stmt} {pos : Pos}
theorem di_any {t : TE} {d : E} (h : DE X W io m mi iter t d) : DI X W io m mi tg iter (iAny X.K t) (dIt d) := ⟨pi_any h.pe, ird_any h.rd⟩
theorem di_rg1 {ms : List Md} {a : Expr} {t : TA} {d : EA} {p : Pos} (hg : Gl X "range") (hm : X.mg "range" = none) (h : DA X W io ms mi [a] t d) (hs : starEach [a] X.env = [(false, eval a X.env)] := by rfl) : DI X W io .tmp mi tg (.Call (.Name "range" p) [a] [] pos) (iRng1 t) (dRg1 d) := ⟨pi_range1 hg hm h.pa hs, ird_rg1 h.rd⟩
theorem di_rg2 {ms : List Md} {a b : Expr} {t : TA} {d : EA} {p : Pos} (hg : Gl X "range") (hm : X.mg "range" = none) (h : DA X W io ms mi [a, b] t d) (hs : starEach [a, b] X.env = [(false, eval a X.env), (false, eval b X.env)] := by rfl) (hs2 : starEach [b] X.env = [(false, eval b X.env)] := by rfl) :
    DI X W io .tmp mi tg (.Call (.Name "range" p) [a, b] [] pos) (iRng2 t) (dRg2 d) := ⟨pi_range2 hg hm h.pa hs hs2, ird_rg2 h.rd⟩
theorem ds_for {ti : TI} {g : TG} {tb : TS} {it : I} {gd : Gd} {db : S} (hp : PassesOwn (model X.prog X.w) X.A X.env X.xe) (hcalm : X.calm = true) (hi : DI X W io m mi tg iter ti it) (hg : DG X io mg tg g gd) (hb : DSs X W io mb body tb db)
    (hs : ∀ x, foldedSetIterable iter X.env x = pure x := by intro _; rfl) : DS X W io (mi ++ (mg ++ mb)) (.For tg iter body [] pos) (tFor ti g tb) (sFor m (mg ++ mb) it gd db) := ⟨ps_for hp hcalm hi.pi hg.pg hb.ps hs, srd_for hi.rd hg.rd hb.rd⟩
theorem ds_wh (n : Nat) {tc : TT} {tb : TS} {dc : B} {db : S} (hp : PassesOwn (model X.prog X.w) X.A X.env X.xe) (hc : DT X W io mc c tc dc) (hb : DSs X W io mb body tb db) : DS X W io (mc ++ mb) (.While c body [] pos) (tWhile tc tb) (sWh n dc db) := ⟨ps_while hp hc.pt hb.ps, srd_wh hc.rd hb.rd⟩
theorem dg_t (is : List Nat) {es : List Expr} {k : Nat} (hc : X.calm = true) (h : PGs X es (gNames is)) (hl : (assignEach es X.env).length = is.length := by rfl) (hst : (assignEach es X.env).findIdx? (·.1) = none := by rfl) (hio : (is.all fun i => !io.contains i) = true := by rfl) :
    DG X io is (.Tuple es k pos) (gTup X.K is.length (gNames is)) (gdT is) := ⟨pg_tup hc h hl hst, grd_t hio⟩
end
end VS
namespace VS
open PySem PySem.Spec PyProof.Rows L2

abbrev W0 : WX := fun _ _ _ _ => False
def nox {α : Type} : R α → R α
  | .ok a => .ok a
  | _ => .no
/-! ### the slots of a comprehension's own names -/
def wipeD (vs : List Nat) (s : List D) : List D := vs.foldr (fun v s => s.set v .un) s
def wipeT (vs : List Nat) (ts : List T) : List T := vs.foldr (fun v s => s.set v .un) ts
theorem ers_wipe (vs : List Nat) (ts : List T) : T.ers (wipeT vs ts) = wipeD vs (T.ers ts) := by
  induction vs with
  | nil => rfl
  | cons v vs ih =>
    show T.ers ((wipeT vs ts).set v .un) = (wipeD vs (T.ers ts)).set v .un
    rw [ers_set, ih]; rfl
theorem wipe_out {vs : List Nat} {j : Nat} (h : j ∉ vs) : ∀ (σ : L2.St), (wipe σ vs)[j]? = σ[j]? := by
  intro σ
  induction vs with
  | nil => rfl
  | cons v vs ih =>
    rw [List.mem_cons, not_or] at h
    unfold wipe
    rw [List.getElem?_set_ne (Ne.symm h.1), ih h.2]
theorem wipe_in {vs : List Nat} {j : Nat} (h : j ∈ vs) : ∀ (σ : L2.St), (wipe σ vs)[j]? = if j < σ.length then some none else none := by
  intro σ
  induction vs with
  | nil => cases h
  | cons v vs ih =>
    unfold wipe
    by_cases hv : v = j
    · subst hv
      by_cases hl : v < σ.length
      · rw [if_pos hl, List.getElem?_set_self (by rw [wipe_length]; exact hl)]
      · rw [if_neg hl, List.getElem?_eq_none (by rw [List.length_set, wipe_length]; omega)]
    · rw [List.getElem?_set_ne hv]
      rcases List.mem_cons.mp h with e | h
      · exact absurd e.symm hv
      · exact ih h
theorem wipe_eq {vs : List Nat} {σ σ' : L2.St} (hl : σ'.length = σ.length) (h : ∀ j, j ∉ vs → σ'[j]? = σ[j]?) : wipe σ' vs = wipe σ vs := by
  apply List.ext_getElem?
  intro j
  by_cases hj : j ∈ vs
  · rw [wipe_in hj, wipe_in hj, hl]
  · rw [wipe_out hj, wipe_out hj, h j hj]
theorem wipe_twice {vs : List Nat} {σ : L2.St} : wipe (wipe σ vs) vs = wipe σ vs := wipe_eq (wipe_length σ vs) fun j hj => wipe_out hj σ
theorem wipeT_mem {vs : List Nat} {ts : List T} {t : T} (h : t ∈ wipeT vs ts) : t = .un ∨ t ∈ ts := by
  induction vs with
  | nil => exact .inr h
  | cons v vs ih =>
    rcases List.mem_or_eq_of_mem_set (show t ∈ (wipeT vs ts).set v .un from h) with m | rfl
    · exact ih m
    · exact .inl rfl
theorem wipeT_out {vs : List Nat} {j : Nat} (h : j ∉ vs) (ts : List T) : (wipeT vs ts)[j]? = ts[j]? := by
  induction vs with
  | nil => rfl
  | cons v vs ih =>
    rw [List.mem_cons, not_or] at h
    show ((wipeT vs ts).set v .un)[j]? = _
    rw [List.getElem?_set_ne (Ne.symm h.1), ih h.2]
theorem wipeT_in {vs : List Nat} {j : Nat} (h : j ∈ vs) {ts : List T} {t : T} (e : (wipeT vs ts)[j]? = some t) : t = .un := by
  induction vs with
  | nil => cases h
  | cons v vs ih =>
    have e : ((wipeT vs ts).set v .un)[j]? = some t := e
    by_cases hv : v = j
    · subst hv
      have hl : v < (wipeT vs ts).length := by
        have := (List.getElem?_eq_some_iff.mp e).1
        simpa using this
      rw [List.getElem?_set_self hl] at e
      exact (Option.some.inj e).symm
    · rw [List.getElem?_set_ne hv] at e
      rcases List.mem_cons.mp h with q | h
      · exact absurd q.symm hv
      · exact ih h e
theorem wipeT_len (vs : List Nat) (ts : List T) : (wipeT vs ts).length = ts.length := by
  induction vs with
  | nil => rfl
  | cons v vs ih =>
    show ((wipeT vs ts).set v .un).length = _
    rw [List.length_set, ih]
theorem dj_un {u : T} : Dj .un u := ⟨fun a m => (nomatch m), fun a _ m => (nomatch m)⟩
theorem wf_wipe {vs : List Nat} {ts : List T} (h : WF ts) : WF (wipeT vs ts) := by
  induction vs with
  | nil => exact h
  | cons v vs ih => exact WF.set ih trivial fun j u _ _ => dj_un
theorem Sim.wipe {K : PySem.W.Frag} {io : List Nat} {ρ : Nat → V} {ts : List T} {σ σ' : L2.St} {H : Hp} {vs : List Nat} (S : Sim K io ρ ts σ H) (hv : ∀ i ∈ io, i ∉ vs) (hl : σ'.length = σ.length) (h : ∀ j, j ∉ vs → σ'[j]? = σ[j]?) : Sim K io ρ (wipeT vs ts) σ' H := by
  refine ⟨by rw [wipeT_len, hl]; exact S.len, fun j t e ne => ?_, fun t m => ?_, wf_wipe S.wf, fun i mi => ?_⟩
  · by_cases hj : j ∈ vs
    · exact absurd (wipeT_in hj e) ne
    · rw [wipeT_out hj] at e
      rw [h j hj]
      exact S.rt j t e ne
  · rcases wipeT_mem m with rfl | m
    · exact trivial
    · exact S.ok t m
  · obtain ⟨t, e, ne, r⟩ := S.pin i mi
    exact ⟨t, by rw [wipeT_out (hv i mi)]; exact e, ne, r⟩
theorem step_wipe {H H' : Hp} {A B : List T} {vs : List Nat} (st : Step H A H' B) : Step H A H' (wipeT vs B) :=
  ⟨st.fr, st.al, fun t m a ma => (wipeT_mem m).elim (fun e => by subst e; cases ma) fun m => st.ow t m a ma, fun t m a ma => (wipeT_mem m).elim (fun e => by subst e; cases ma) fun m => st.tr t m a ma, fun t m a ma => (wipeT_mem m).elim (fun e => by subst e; cases ma) fun m => st.im t m a ma⟩

/-! ### list comprehensions -/
def lcL (vs : List Nat) (g : Gd) (c : B) (m : Md) (e : E) : List D → List D → R (List D × List D)
  | [], s => .ok ([], s)
  | x :: r, s => match g x s with
    | none => .no
    | some s1 => (nox (c s1)).bind fun q => if q.1 = true then (nox (e q.2)).bind fun p => if (m.isTmp || !p.1.hasOwn) = true then (lcL vs g c m e r (wipeD vs p.2)).bind fun z => .ok (p.1 :: z.1, z.2) else .no
      else lcL vs g c m e r (wipeD vs q.2)
def dLc (mi : Md) (mb vs : List Nat) (it : I) (g : Gd) (c : B) (m : Md) (e : E) : E := fun s => (it s).bind fun q =>
  if ((clr mi mb || !q.1.1.hasOwn) && !D.hass NK.isOwn q.1.2 && decide (q.1.2.length ≤ sizeLine)) = true then (lcL vs g c m e q.1.2 (wipeD vs q.2)).bind fun z => .ok (.nd (.lst true) z.1, z.2) else .no
def bYes : B := fun s => .ok (true, s)
theorem trd_yes {K : PySem.W.Frag} {W : WX} {io : List Nat} : TRd K W io [] tYes bYes := fun ρ ts σ H Q S h => h ts H S rfl Step.refl fun _ _ => rfl
/-- one more thing at the end of the list at L -/
theorem app_node {K : PySem.W.Frag} {H : Hp} {L : Addr} {cs : List T} {y : T} (okn : (T.nd L (.lst true) cs).ok K H) (oky : y.ok K H) (gn : (T.nd L (.lst true) cs).good) (gy : y.good) (dj : Dj (.nd L (.lst true) cs) y) :
    (T.nd L (.lst true) (cs ++ [y])).ok K (upd H L (.lst (T.rts cs ++ [y.rt]))) ∧ (T.nd L (.lst true) (cs ++ [y])).good ∧ H L = some (.lst (T.rts cs)) ∧ L ∉ y.trk := by
  have hL : L ∈ (T.nd L (.lst true) cs).own := T.mem_col.mpr (.inl ⟨rfl, rfl⟩)
  have ny : L ∉ y.trk := dj.1 L hL
  rw [T.good] at gn
  have nc : L ∉ T.cols NK.isTrk cs := gn.1 rfl
  have keep : ∀ c : T, c.ok K H → L ∉ c.trk → c.ok K (upd H L (.lst (T.rts cs ++ [y.rt]))) := fun c okc nt => T.ok_keep okc fun b o e z => by
    have : b ≠ L := by
      rintro rfl
      rcases z with z | z
      · exact nt z
      · rw [okn.atL] at e; cases e; cases z
    rw [upd_ne this]; exact e
  have up : ∀ {p : NK → Bool} {c : T} {z : Addr}, c ∈ cs → z ∈ c.col p → z ∈ (T.nd L (.lst true) cs).col p := fun m mz => T.mem_col.mpr (.inr ⟨_, m, mz⟩)
  refine ⟨?_, ?_, okn.atL, ny⟩
  · rw [T.ok]
    refine ⟨?_, T.oks_all.mpr fun c m => ?_⟩
    · show upd H L _ L = _
      rw [upd_same, rts_append]; rfl
    · rcases List.mem_append.mp m with m | m
      · exact keep c (okn.child m) fun z => nc (T.mem_cols.mpr ⟨c, m, z⟩)
      · have : c = y := by simpa using m
        subst this
        exact keep c oky ny
  · rw [T.good]
    refine ⟨fun _ z => ?_, fun _ z => ?_, WF.append gn.2.2 (WF.cons gy (fun _ m => nomatch m) WF.nil) fun c mc w mw => ?_⟩
    · obtain ⟨c, mc, mz⟩ := T.mem_cols.mp z
      rcases List.mem_append.mp mc with mc | mc
      · exact nc (T.mem_cols.mpr ⟨c, mc, mz⟩)
      · have : c = y := by simpa using mc
        subst this; exact ny mz
    · obtain ⟨c, mc, mz⟩ := T.mem_cols.mp z
      rcases List.mem_append.mp mc with mc | mc
      · exact nc (T.mem_cols.mpr ⟨c, mc, T.own_trk mz⟩)
      · have : c = y := by simpa using mc
        subst this; exact ny (T.own_trk mz)
    · have : w = y := by simpa using mw
      subst this
      exact ⟨fun z mz => dj.1 z (up mc mz), fun z mz q => dj.2 z mz (up mc q)⟩
theorem keep_upd {K : PySem.W.Frag} {H : Hp} {L : Addr} {xs ys : List V} {t : T} (ok : t.ok K H) (hL : H L = some (.lst xs)) (n : L ∉ t.trk) : t.ok K (upd H L (.lst ys)) := T.ok_keep ok fun b o e z => by
  have : b ≠ L := by
    rintro rfl
    rcases z with z | z
    · exact n z
    · rw [hL] at e; cases e; cases z
  rw [upd_ne this]; exact e
theorem dj_app {L : Addr} {k : NK} {cs : List T} {y w : T} (h1 : Dj (.nd L k cs) w) (h2 : Dj y w) : Dj (.nd L k (cs ++ [y])) w := by
  have inv : ∀ {p : NK → Bool} {z : Addr}, z ∈ (T.nd L k (cs ++ [y])).col p → z ∈ (T.nd L k cs).col p ∨ z ∈ y.col p := fun m => by
    rcases T.mem_col.mp m with ⟨a, b⟩ | ⟨c, mc, mz⟩
    · exact .inl (T.mem_col.mpr (.inl ⟨a, b⟩))
    · rcases List.mem_append.mp mc with mc | mc
      · exact .inl (T.mem_col.mpr (.inr ⟨c, mc, mz⟩))
      · have : c = y := by simpa using mc
        subst this; exact .inr mz
  exact ⟨fun a ma => (inv ma).elim (h1.1 a) (h2.1 a), fun a ma z => (inv z).elim (h1.2 a ma) (h2.2 a ma)⟩
theorem app_inv {L : Addr} {k : NK} {cs : List T} {y : T} {p : NK → Bool} {z : Addr} (m : z ∈ (T.nd L k (cs ++ [y])).col p) : z ∈ (T.nd L k cs).col p ∨ z ∈ y.col p := by
  rcases T.mem_col.mp m with ⟨a, b⟩ | ⟨c, mc, mz⟩
  · exact .inl (T.mem_col.mpr (.inl ⟨a, b⟩))
  · rcases List.mem_append.mp mc with mc | mc
    · exact .inl (T.mem_col.mpr (.inr ⟨c, mc, mz⟩))
    · have : c = y := by simpa using mc
      subst this; exact .inr mz
/-- what holds at a turn of a comprehension: t is walked, the new list stands at L with the trees cs -/
structure LcI (K : PySem.W.Frag) (io : List Nat) (ρ : Nat → V) (mi : Md) (mb : List Nat) (ts : List T) (H : Hp) (L : Addr) (t : T) (cs ts2 : List T) (σ2 : L2.St) (H2 : Hp) : Prop where
  sim : Sim K io ρ ts2 σ2 H2
  hold : Hold K mi mb t ts2 H2
  dnt : ∀ a ∈ (T.nd L (.lst true) cs).own, a ∉ t.trk
  okn : (T.nd L (.lst true) cs).ok K H2
  rel : TRel (.nd L (.lst true) cs) ts2
  step : Step H ts H2 (t :: .nd L (.lst true) cs :: ts2)
theorem own_head {L : Addr} {cs : List T} : L ∈ (T.nd L (.lst true) cs).own := T.mem_col.mpr (.inl ⟨rfl, rfl⟩)
theorem Step.three {H H1 H' : Hp} {A B C : List T} {t n : T} (s : Step H A H1 (t :: n :: B)) (s2 : Step H A H' C) : Step H A H' (t :: n :: C) :=
  (s2.cons (s.ow n (by simp)) (s.tr n (by simp)) (s.im n (by simp))).cons (s.ow t (by simp)) (s.tr t (by simp)) (s.im t (by simp))
theorem Step.sm {H H1 H' : Hp} {A B : List T} (s : Step H A H1 B) (sm : Same H1 H') : Step H A H' B :=
  ⟨fun b o e n => sm b o (s.fr b o e n), fun b e => s.al b (sm.free e), s.ow, s.tr, s.im⟩
/-- the slots step on beside what is walked and the new list -/
theorem LcI.on {K : PySem.W.Frag} {io : List Nat} {ρ : Nat → V} {mi : Md} {mb : List Nat} {ts : List T} {H : Hp} {L : Addr} {t : T} {cs ts2 ts5 : List T} {σ2 : L2.St} {H2 H5 : Hp} {B : List T} (I : LcI K io ρ mi mb ts H L t cs ts2 σ2 H2) (S5 : Sim K io ρ ts5 σ2 H5) (st : Step H2 ts2 H5 (B ++ ts5)) (pu : ∀ j, j ∉ mb → ts5[j]? = ts2[j]?) :
    LcI K io ρ mi mb ts H L t cs ts5 σ2 H5 ∧ ∀ y ∈ B, Dj (.nd L (.lst true) cs) y := by
  have st' : Step H2 ts2 H5 ts5 := st.sub fun _ m => List.mem_append_right _ m
  have dj := djStep I.okn I.rel.2 st
  refine ⟨⟨S5, I.hold.step I.sim.ok S5.ok st' pu, I.dnt, keepT I.okn I.sim.ok st' fun u mu a ma => (I.rel.2 u mu).2 a ma, ⟨I.rel.1, fun u mu => dj u (List.mem_append_right _ mu)⟩, ?_⟩, fun y my => dj y (List.mem_append_left _ my)⟩
  exact I.step.three ((I.step.sub fun _ m => List.mem_cons_of_mem _ (List.mem_cons_of_mem _ m)).trans st')
theorem lc_turn {K : PySem.W.Frag} {io : List Nat} {ρ : Nat → V} {mi m : Md} {mg mt me mb vs : List Nat} {ts : List T} {H : Hp} {L : Addr} {t : T} {g : TG} {tt : TT} {te : TE} {gd : Gd} {c : B} {e : E} {σ : L2.St}
    (hg : GRd K io mg g gd) (ht : TRd K W0 io mt tt c) (he : ERd K W0 io m me te e) (hmg : ∀ j, j ∈ mg → j ∈ vs) (hio : ∀ i ∈ io, i ∉ vs) (hb : ∀ j, j ∈ mg ++ (mt ++ me) ++ vs → j ∈ mb) (HL : H L = none)
    {cs ts2 : List T} {H2 : Hp} (I : LcI K io ρ mi mb ts H L t cs ts2 (wipe σ vs) H2) {x : D} {r : List D} (hx : x.hasOwn = false) (hz : cs.length < sizeLine) {z : List D × List D} (hl : lcL vs gd c m e (x :: r) (T.ers ts2) = .ok z)
    {xv : V} {H3 : Hp} {u : T} (eu : u.er = x) (er : u.rt = xv) (oku : u.ok K H3) (sm : Same H2 H3) (ut : u.own = [] → ∀ a ∈ u.trk, a ∈ t.trk ∧ (t.good → a ∉ t.own)) (ui : ∀ a ∈ u.imm, a ∈ t.imm)
    (Nx : Hp → Prop) (hN : ∀ cs' ts' H' z', LcI K io ρ mi mb ts H L t cs' ts' (wipe σ vs) H' → cs'.length ≤ cs.length + 1 → lcL vs gd c m e r (T.ers ts') = .ok z' → T.ers cs' ++ z'.1 = T.ers cs ++ z.1 → z'.2 = z.2 → (∀ j, j ∉ mb → ts'[j]? = ts2[j]?) → Nx H') :
    g xv (wipe σ vs) H3 fun σ4 H4 => wipe σ4 vs = wipe σ vs ∧ tt σ4 H4 fun b H5 => if b = true then te σ4 H5 fun y H6 => ∃ acc, H6 L = some (.lst acc) ∧ acc.length < sizeLine ∧ Nx (upd H6 L (.lst (acc ++ [y]))) else Nx H5 := by
  have uo : u.own = [] := T.own_nil (by rw [eu]; exact hx)
  obtain ⟨S3, tr3, hold3⟩ := turn_item I.hold I.sim uo oku sm (ut uo)
  have tg : t.good := (I.hold.apart I.sim.wf).1
  rw [lcL] at hl
  rw [← er]
  cases eg : gd x (T.ers ts2) with
  | none => rw [eg] at hl; cases hl
  | some s3 =>
    rw [eg] at hl
    simp only at hl
    refine hg ρ ts2 _ H3 u _ S3 oku tr3 (fun s4 e4 ts4 σ4 S4 e5 st4 pu4 ps4 => ?_) (by rw [eu, eg]; intro z; cases z)
    rw [eu, eg] at e4
    cases e4
    have hw : wipe σ4 vs = wipe σ vs := (wipe_eq ps4.1 fun j hj => ps4.2 j fun z => hj (hmg j z)).trans wipe_twice
    refine ⟨hw, ?_⟩
    have hold4 := hold3.store uo (fun a ma => (ut uo a ma).2 tg) S4.ok st4 fun j hj => pu4 j fun z => hj (hb j (List.mem_append_left _ (List.mem_append_left _ z)))
    have ok3 : (T.nd L (.lst true) cs).ok K H3 := T.ok_same I.okn sm
    have dju : Dj (.nd L (.lst true) cs) u := ⟨fun a ma z => I.dnt a ma (ut uo a z).1, fun a ma => (by rw [uo] at ma; cases ma)⟩
    have dj4 := djStep (A := u :: ts2) ok3 (fun w mw => (List.mem_cons.mp mw).elim (fun e => by rw [e]; exact dju) (I.rel.2 w)) st4
    have I4 : LcI K io ρ mi mb ts H L t cs ts4 σ4 H3 := ⟨S4, hold4, I.dnt, ok3, ⟨I.rel.1, dj4⟩,
      (I.step.sm sm).three (step_store (I.step.sub fun w mw => (List.mem_cons.mp mw).elim (fun e => by rw [e]; exact List.mem_cons_self) fun mw => List.mem_cons_of_mem _ (List.mem_cons_of_mem _ mw)) sm uo (fun a ma => (ut uo a ma).1) ui st4).tail⟩
    have pv4 : ∀ j, j ∉ mb → ts4[j]? = ts2[j]? := fun j hj => pu4 j fun z => hj (hb j (List.mem_append_left _ (List.mem_append_left _ z)))
    -- the slots wiped behind a turn
    have wiped : ∀ {cs5 ts5 : List T} {H5 : Hp}, LcI K io ρ mi mb ts H L t cs5 ts5 σ4 H5 → LcI K io ρ mi mb ts H L t cs5 (wipeT vs ts5) (wipe σ vs) H5 := fun {cs5 ts5 H5} J => by
      refine ⟨J.sim.wipe hio (by rw [← hw, wipe_length]) (fun j hj => by rw [← hw, wipe_out hj]), ⟨J.hold.ok, ?_⟩, J.dnt, J.okn, ⟨J.rel.1, fun w mw => ?_⟩, J.step.three (step_wipe (J.step.sub fun _ m => List.mem_cons_of_mem _ (List.mem_cons_of_mem _ m)))⟩
      · rcases J.hold.rel with tr | ⟨i, w, ew, sb, hi⟩
        · exact .inl ⟨tr.1, fun w mw => (wipeT_mem mw).elim (fun e => by rw [e]; exact dj_un.symm) (tr.2 w)⟩
        · exact .inr ⟨i, w, by rw [wipeT_out fun z => hi (hb i (List.mem_append_right _ z))]; exact ew, sb, hi⟩
      · exact (wipeT_mem mw).elim (fun e => by rw [e]; exact dj_un.symm) (J.rel.2 w)
    have pw : ∀ {ts5 : List T}, (∀ j, j ∉ mb → ts5[j]? = ts2[j]?) → ∀ j, j ∉ mb → (wipeT vs ts5)[j]? = ts2[j]? := fun h j hj => by
      rw [wipeT_out fun z => hj (hb j (List.mem_append_right _ z))]; exact h j hj
    refine ht ρ ts4 σ4 H3 _ S4 ?_
    rw [e5]
    cases ec : c s3 with
    | no => rw [ec] at hl; cases hl
    | ex _ _ _ => rw [ec] at hl; cases hl
    | ok q =>
      obtain ⟨b, s5⟩ := q
      rw [ec] at hl
      simp only [nox, R.bind] at hl
      intro ts5 H5 S5 e5' st5 pu5
      have hmt : ∀ j, j ∉ mb → ts5[j]? = ts4[j]? := fun j hj => pu5 j fun z => hj (hb j (List.mem_append_left _ (List.mem_append_right _ (List.mem_append_left _ z))))
      have I5 := (I4.on (B := []) S5 (by simpa using st5) hmt).1
      have pv5 : ∀ j, j ∉ mb → ts5[j]? = ts2[j]? := fun j hj => (hmt j hj).trans (pv4 j hj)
      cases b with
      | false =>
        rw [if_neg Bool.false_ne_true]
        simp only [Bool.false_eq_true, if_false] at hl
        exact hN cs (wipeT vs ts5) H5 z (wiped I5) (Nat.le_succ _) (by rw [ers_wipe, e5']; exact hl) rfl rfl (pw pv5)
      | true =>
        rw [if_pos rfl]
        simp only [if_true] at hl
        refine he ρ ts5 σ4 H5 _ S5 ?_
        rw [e5']
        cases ee : e s5 with
        | no => rw [ee] at hl; cases hl
        | ex _ _ _ => rw [ee] at hl; cases hl
        | ok p =>
          obtain ⟨y, s6⟩ := p
          rw [ee] at hl
          simp only [nox, R.bind] at hl
          intro ts6 ty H6 S6 e6 et6 ok6 mr6 st6 pu6
          by_cases hc : (m.isTmp || !y.hasOwn) = true
          · rw [if_pos hc] at hl
            have try6 : TRel ty ts6 := by
              cases m with
              | tmp => exact mr6
              | vw src =>
                have : y.hasOwn = false := by cases z : y.hasOwn with | false => rfl | true => rw [z] at hc; cases hc
                exact mr6.tmp S6.wf (T.own_nil (by rw [et6]; exact this))
            have hme : ∀ j, j ∉ mb → ts6[j]? = ts5[j]? := fun j hj => pu6 j fun z => hj (hb j (List.mem_append_left _ (List.mem_append_right _ (List.mem_append_right _ z))))
            obtain ⟨I6, djy⟩ := I5.on (B := [ty]) S6 (by simpa using st6) hme
            have dny : Dj (.nd L (.lst true) cs) ty := djy ty (by simp)
            obtain ⟨okn', gn', atL, nLy⟩ := app_node I6.okn ok6 I6.rel.1 try6.1 dny
            refine ⟨T.rts cs, atL, by rw [rts_len]; exact hz, ?_⟩
            cases el : lcL vs gd c m e r (wipeD vs s6) with
            | no => rw [el] at hl; cases hl
            | ex _ _ _ => rw [el] at hl; cases hl
            | ok z' =>
              rw [el] at hl
              injection hl with hl
              subst hl
              have kp : ∀ w : T, w.ok K H6 → L ∉ w.trk → w.ok K (upd H6 L (.lst (T.rts cs ++ [ty.rt]))) := fun w okw n => keep_upd okw atL n
              have S7 : Sim K io ρ ts6 σ4 (upd H6 L (.lst (T.rts cs ++ [ty.rt]))) := ⟨S6.len, S6.rt, fun w mw => kp w (S6.ok w mw) ((I6.rel.2 w mw).1 L own_head), S6.wf, S6.pin⟩
              have I7 : LcI K io ρ mi mb ts H L t (cs ++ [ty]) ts6 σ4 (upd H6 L (.lst (T.rts cs ++ [ty.rt]))) := by
                refine ⟨S7, ⟨kp t I6.hold.ok (I6.dnt L own_head), I6.hold.rel⟩, fun a ma z => ?_, okn', ⟨gn', fun w mw => dj_app (I6.rel.2 w mw) (try6.2 w mw)⟩, ?_⟩
                · rcases app_inv ma with ma | ma
                  · exact I6.dnt a ma z
                  · rcases I6.hold.rel with tr | ⟨i, w, ew, sb, hi⟩
                    · rcases st6.ow ty List.mem_cons_self a ma with ⟨w, mw, zw⟩ | q
                      · rcases I5.hold.rel with tr5 | ⟨i5, w5, ew5, sb5, hi5⟩
                        · exact (tr5.2 w mw).2 a zw z
                        · exact (try6.2 w5 (List.mem_of_getElem? ((hme i5 hi5).trans ew5))).1 a ma (sb5.col z)
                      · obtain ⟨o, eo⟩ := T.trk_s I5.hold.ok z
                        rw [q] at eo; cases eo
                    · exact (try6.2 w (List.mem_of_getElem? ew)).1 a ma (sb.col z)
                · have st7 : Step H ts H6 (ty :: t :: .nd L (.lst true) cs :: ts6) := by
                    have q := (I5.step.sub fun _ m => List.mem_cons_of_mem _ (List.mem_cons_of_mem _ m)).trans st6
                    exact I6.step.cons (q.ow ty List.mem_cons_self) (q.tr ty List.mem_cons_self) (q.im ty List.mem_cons_self)
                  have nb : ∀ b o, H b = some o → b ≠ L := fun b o e z => by rw [z, HL] at e; cases e
                  have src : ∀ {p : NK → Bool} {w : T} {a : Addr}, w ∈ t :: .nd L (.lst true) (cs ++ [ty]) :: ts6 → a ∈ w.col p → ∃ w' ∈ ty :: t :: .nd L (.lst true) cs :: ts6, a ∈ w'.col p := fun mw ma => by
                    rcases List.mem_cons.mp mw with rfl | mw
                    · exact ⟨_, by simp, ma⟩
                    · rcases List.mem_cons.mp mw with rfl | mw
                      · rcases app_inv ma with ma | ma
                        · exact ⟨_, by simp, ma⟩
                        · exact ⟨_, by simp, ma⟩
                      · exact ⟨_, by simp [mw], ma⟩
                  refine ⟨fun b o e n => ?_, fun b e => ?_, fun w mw a ma => ?_, fun w mw a ma => ?_, fun w mw a ma => ?_⟩
                  · rw [upd_ne (nb b o e)]; exact st7.fr b o e n
                  · by_cases hb : b = L
                    · rw [hb, upd_same] at e; cases e
                    · rw [upd_ne hb] at e; exact st7.al b e
                  · obtain ⟨w', mw', ma'⟩ := src mw ma; exact st7.ow w' mw' a ma'
                  · obtain ⟨w', mw', ma'⟩ := src mw ma; exact st7.tr w' mw' a ma'
                  · obtain ⟨w', mw', ma'⟩ := src mw ma; exact st7.im w' mw' a ma'
              refine hN (cs ++ [ty]) (wipeT vs ts6) _ z' (wiped I7) (by rw [List.length_append]; exact Nat.le_refl _) (by rw [ers_wipe, e6]; exact el) ?_ rfl (pw fun j hj => (hme j hj).trans (pv5 j hj))
              rw [ers_append, T.ers, T.ers, et6, List.append_assoc]; rfl
          · rw [if_neg hc] at hl; cases hl
theorem erd_lc {K : PySem.W.Frag} {W : WX} {io : List Nat} {mi m : Md} {md mg mt me vs : List Nat} {ti : TI} {g : TG} {tt : TT} {te : TE} {it : I} {gd : Gd} {c : B} {e : E}
    (hi : IRd K W io mi md ti it) (hg : GRd K io mg g gd) (ht : TRd K W0 io mt tt c) (he : ERd K W0 io m me te e) (hmg : (mg.all fun j => vs.contains j) = true) (hio : (io.all fun i => !vs.contains i) = true) :
    ERd K W io .tmp (md ++ (mg ++ (mt ++ me) ++ vs)) (tLc ti g tt te vs) (dLc mi (mg ++ (mt ++ me) ++ vs) vs it gd c m e) := fun ρ ts σ H Q S h => by
  have hmg' : ∀ j, j ∈ mg → j ∈ vs := fun j hj => by simpa using List.all_eq_true.mp hmg j hj
  have hio' : ∀ i ∈ io, i ∉ vs := fun i mi => by simpa using List.all_eq_true.mp hio i mi
  refine hi ρ ts σ H _ S ?_
  unfold dLc at h
  cases ea : it (T.ers ts) with
  | no => rw [ea] at h; exact h
  | ex c fs s => rw [ea] at h; exact h
  | ok q =>
    obtain ⟨⟨w, xs⟩, s⟩ := q
    rw [ea] at h
    simp only [R.bind] at h
    intro ts1 t H1 J S1 e1 et ok1 mr1 st1 pu1 yl L hL
    by_cases hc : ((clr mi (mg ++ (mt ++ me) ++ vs) || !w.hasOwn) && !D.hass NK.isOwn xs && decide (xs.length ≤ sizeLine)) = true
    · rw [if_pos hc] at h
      rw [Bool.and_eq_true, Bool.and_eq_true] at hc
      have hz := of_decide_eq_true hc.2
      have hxs : D.hass NK.isOwn xs = false := by
        cases q : D.hass NK.isOwn xs with
        | false => rfl
        | true => rw [q] at hc; cases hc.1.2
      cases el : lcL vs gd c m e xs (wipeD vs s) with
      | no => rw [el] at h; exact h.elim
      | ex c' fs s' =>
        exfalso
        -- an exception does not come out of a comprehension
        have nex : ∀ (xs : List D) (s : List D) c' fs s', lcL vs gd c m e xs s ≠ .ex c' fs s' := by
          intro xs
          induction xs with
          | nil => intro s c' fs s' z; rw [lcL] at z; cases z
          | cons x r ih =>
            intro s c' fs s' z
            rw [lcL] at z
            split at z
            · cases z
            · rename_i s1 _
              cases ec : c s1 with
              | no => rw [ec] at z; cases z
              | ex _ _ _ => rw [ec] at z; cases z
              | ok q =>
                rw [ec] at z
                simp only [nox, R.bind] at z
                split at z
                · cases ee : e q.2 with
                  | no => rw [ee] at z; cases z
                  | ex _ _ _ => rw [ee] at z; cases z
                  | ok p =>
                    rw [ee] at z
                    simp only [nox, R.bind] at z
                    split at z
                    · cases el : lcL vs gd c m e r (wipeD vs p.2) with
                      | no => rw [el] at z; cases z
                      | ok _ => rw [el] at z; cases z
                      | ex _ _ _ => exact ih _ _ _ _ el
                    · cases z
                · exact ih _ _ _ _ z
        exact nex _ _ _ _ _ el
      | ok z =>
        rw [el] at h
        simp only [R.bind] at h
        have hold1 : Hold K mi (mg ++ (mt ++ me) ++ vs) t ts1 H1 := Hold.of ok1 mr1 S1.wf (by rw [et]; exact hc.1.1)
        have HLn : H L = none := st1.al L hL
        have nLt : L ∉ t.trk := fun z => by obtain ⟨o, e⟩ := T.trk_s ok1 z; rw [hL] at e; cases e
        have sm0 : Same H1 (upd H1 L (.lst [])) := same_upd hL
        have S1' : Sim K io ρ ts1 σ (upd H1 L (.lst [])) := ⟨S1.len, S1.rt, fun u m => T.ok_same (S1.ok u m) sm0, S1.wf, S1.pin⟩
        have nLts : ∀ u ∈ ts1, L ∉ u.trk := fun u mu z => by obtain ⟨o, e⟩ := T.trk_s (S1.ok u mu) z; rw [hL] at e; cases e
        have node0 : ∀ {p : NK → Bool} {a : Addr}, a ∈ (T.nd L (.lst true) []).col p → a = L := fun m => by
          rcases T.mem_col.mp m with ⟨_, e⟩ | ⟨c, mc, _⟩
          · exact e
          · cases mc
        have I0 : LcI K io ρ mi (mg ++ (mt ++ me) ++ vs) ts H L t [] (wipeT vs ts1) (wipe σ vs) (upd H1 L (.lst [])) := by
          refine ⟨S1'.wipe hio' (wipe_length σ vs) (fun j hj => wipe_out hj σ), ⟨T.ok_same ok1 sm0, ?_⟩, fun a ma => by rw [node0 ma]; exact nLt, ?_, ⟨?_, fun u mu => ?_⟩, ?_⟩
          · rcases hold1.rel with tr | ⟨i, w, ew, sb, hi⟩
            · exact .inl ⟨tr.1, fun w mw => (wipeT_mem mw).elim (fun e => by rw [e]; exact dj_un.symm) (tr.2 w)⟩
            · exact .inr ⟨i, w, by rw [wipeT_out fun z => hi (List.mem_append_right _ z)]; exact ew, sb, hi⟩
          · rw [T.ok]; exact ⟨upd_same, by rw [T.oks]; trivial⟩
          · rw [T.good]; exact ⟨fun _ m => (nomatch m), fun _ m => (nomatch m), WF.nil⟩
          · rcases wipeT_mem mu with rfl | mu
            · exact dj_un.symm
            · exact ⟨fun a ma => by rw [node0 ma]; exact nLts u mu, fun a ma z => nLts u mu (by rw [← node0 z]; exact T.own_trk ma)⟩
          · have s2 : Step H ts (upd H1 L (.lst [])) (t :: ts1) := st1.sm sm0
            exact ((step_wipe s2.tail).cons (fun a ma => .inr (by rw [node0 ma]; exact HLn)) (fun a ma => .inr (by rw [node0 ma]; exact HLn)) (fun a ma => by
              rcases T.mem_col.mp ma with ⟨e, _⟩ | ⟨c, mc, _⟩
              · cases e
              · cases mc)).cons (s2.ow t List.mem_cons_self) (s2.tr t List.mem_cons_self) (s2.im t List.mem_cons_self)
        refine ⟨fun i n H2 => n = xs.length - i ∧ i ≤ xs.length ∧ ∃ cs ts2 z2, LcI K io ρ mi (mg ++ (mt ++ me) ++ vs) ts H L t cs ts2 (wipe σ vs) H2 ∧ cs.length ≤ i ∧ lcL vs gd c m e (xs.drop i) (T.ers ts2) = .ok z2 ∧ T.ers cs ++ z2.1 = z.1 ∧ z2.2 = z.2 ∧ ∀ j, j ∉ mg ++ (mt ++ me) ++ vs → ts2[j]? = ts1[j]?,
          ⟨xs.length, rfl, Nat.zero_le _, [], wipeT vs ts1, z, I0, Nat.le_refl _, by rw [List.drop_zero, ers_wipe, e1]; exact el, rfl, rfl, fun j hj => wipeT_out (fun z => hj (List.mem_append_right _ z)) ts1⟩, ?_⟩
        rintro i n H2 ⟨rfl, hil, cs, ts2, z2, I2, hcs, hl2, hz2, hs2, pu2⟩
        by_cases hlt : i < xs.length
        · refine .inr ⟨yl.go H2 I2.hold.ok i _ (List.getElem?_eq_getElem hlt), fun H' => (xs.length - (i + 1) = xs.length - (i + 1)) ∧ i + 1 ≤ xs.length ∧ ∃ cs ts2 z2, LcI K io ρ mi (mg ++ (mt ++ me) ++ vs) ts H L t cs ts2 (wipe σ vs) H' ∧ cs.length ≤ i + 1 ∧ lcL vs gd c m e (xs.drop (i + 1)) (T.ers ts2) = .ok z2 ∧ T.ers cs ++ z2.1 = z.1 ∧ z2.2 = z.2 ∧ ∀ j, j ∉ mg ++ (mt ++ me) ++ vs → ts2[j]? = ts1[j]?,
            fun H' q => ⟨xs.length - (i + 1), by omega, q⟩, fun x H3 y => ?_⟩
          obtain ⟨u, eu, er, oku, sm, ut, ui⟩ := yl.yld H2 I2.hold.ok i _ (List.getElem?_eq_getElem hlt) x H3 y
          rw [drop_get hlt] at hl2
          refine lc_turn hg ht he hmg' hio' (fun j hj => hj) HLn I2 (hass_get hxs (List.getElem?_eq_getElem hlt)) (by omega) hl2 eu er oku sm ut ui _ fun cs' ts' H' z' I' hc' hl' hz' hs' pu' => ?_
          exact ⟨rfl, hlt, cs', ts', z', I', by omega, hl', hz'.trans hz2, hs'.trans hs2, fun j hj => (pu' j hj).trans (pu2 j hj)⟩
        · have hi2 : i = xs.length := by omega
          subst hi2
          rw [List.drop_length, lcL] at hl2
          injection hl2 with hl2
          subst hl2
          refine .inl ⟨yl.stop H2 I2.hold.ok, ?_⟩
          have e2 : T.ers cs = z.1 := by rw [← hz2, List.append_nil]
          -- the frame's slots, the block's own names wiped
          have S2 : Sim K io ρ ts2 σ H2 := by
            have q := I2.sim
            refine ⟨by rw [q.len, wipe_length], fun j w ew ne => ?_, q.ok, q.wf, q.pin⟩
            have r := q.rt j w ew ne
            by_cases hj : j ∈ vs
            · rw [wipe_in hj] at r
              split at r <;> cases r
            · rw [wipe_out hj] at r; exact r
          refine h ts2 (.nd L (.lst true) cs) H2 S2 hs2 (by rw [T.er, e2]) I2.okn I2.rel (I2.step.sub fun w mw => List.mem_cons_of_mem _ mw) fun j hj => ?_
          rw [List.mem_append, not_or] at hj
          exact (pu2 j hj.2).trans (pu1 j hj.1)
    · rw [if_neg hc] at h; exact h.elim
end VS
namespace VS
open PySem PySem.Spec PyProof.Rows L2

/-! ### arguments of a def -/
inductive AK where
  | val (m : Md)
  | io (i : Nat)
  | mv (i : Nat)
inductive PM where
  | val | io | mv
  deriving DecidableEq
def AK.pm : AK → PM
  | .val _ => .val
  | .io _ => .io
  | .mv _ => .mv
def ixs : List AK → List Nat
  | [] => []
  | .val _ :: r => ixs r
  | .io i :: r => i :: ixs r
  | .mv i :: r => i :: ixs r
abbrev EC := List D → R (List (Option D) × List D)
def oer : List (Option T) → List (Option D) := List.map (Option.map T.er)
abbrev fl (us : List (Option T)) : List T := us.filterMap id
def CRel : List AK → List (Option T) → List V → List T → L2.St → Prop
  | [], [], [], _, _ => True
  | .val m :: ks, some u :: us, v :: vs, ts, σ => v = u.rt ∧ MRel m u ts ∧ CRel ks us vs ts σ
  | .io i :: ks, none :: us, v :: vs, ts, σ => σ[i]? = some (some v) ∧ CRel ks us vs ts σ
  | .mv i :: ks, none :: us, v :: vs, ts, σ => σ[i]? = some (some v) ∧ CRel ks us vs ts σ
  | _, _, _, _, _ => False
def CPost (K : PySem.W.Frag) (W : WX) (io : List Nat) (ρ : Nat → V) (ks : List AK) (md : List Nat) (ts : List T) (σ : L2.St) (H : Hp) (Q : List V → Hp → Prop) : R (List (Option D) × List D) → Prop
  | .ok (xs, s) => ∀ ts' us vs H', Sim K io ρ ts' σ H' → T.ers ts' = s → oer us = xs → (∀ u ∈ fl us, u.ok K H') → CRel ks us vs ts' σ → Step H ts H' (fl us ++ ts') → (∀ j, j ∉ md → ts'[j]? = ts[j]?) → Q vs H'
  | .ex c fs s => ∀ ts' H' d, Sim K io ρ ts' σ H' → T.ers ts' = s → Step H ts H' ts' → XRel H' d fs → W c d σ H'
  | .no => False
def CRd (K : PySem.W.Frag) (W : WX) (io : List Nat) (ks : List AK) (md : List Nat) (t : TA) (d : EC) : Prop :=
  ∀ ρ ts σ H Q, Sim K io ρ ts σ H → CPost K W io ρ ks md ts σ H Q (d (T.ers ts)) → t σ H Q
structure DC (X : Cx) (W : WX) (io : List Nat) (ks : List AK) (md : List Nat) (es : List Expr) (t : TA) (d : EC) : Prop where
  pa : PA X es t
  rd : CRd X.K W io ks md t d
def dCnil : EC := fun s => .ok ([], s)
def dCval (m : Md) (mr : List Nat) (de : E) (dr : EC) : EC := fun s => (de s).bind fun q => if (clr m mr || !q.1.hasOwn) = true then (dr q.2).bind fun r => .ok (some q.1 :: r.1, r.2) else .no
def dCvalC (chk : D → Bool) (m : Md) (mr : List Nat) (de : E) (dr : EC) : EC := fun s => (de s).bind fun q => if chk q.1 = true then (if (clr m mr || !q.1.hasOwn) = true then (dr q.2).bind fun r => .ok (some q.1 :: r.1, r.2) else .no) else .no
def dCslot (i : Nat) (dr : EC) : EC := fun s => (dn i s).bind fun q => (dr q.2).bind fun r => .ok (none :: r.1, r.2)
section
variable {K : PySem.W.Frag} {W : WX} {io : List Nat}
theorem crd_nil : CRd K W io [] [] tNil dCnil := fun ρ ts σ H Q S h => h ts [] [] H S rfl rfl (fun _ m => nomatch m) trivial Step.refl fun _ _ => rfl
theorem ccons_tail {m : Md} {ks : List AK} {md mr : List Nat} {tr : TA} {dr : EC} {ρ : Nat → V} {ts ts1 : List T} {σ : L2.St} {H H1 : Hp} {Q : List V → Hp → Prop} {x : D} {s : List D} {t : T} (hr : CRd K W io ks mr tr dr)
    (h : CPost K W io ρ (.val m :: ks) (md ++ mr) ts σ H Q (if (clr m mr || !x.hasOwn) = true then (dr s).bind fun r => .ok (some x :: r.1, r.2) else .no))
    (S1 : Sim K io ρ ts1 σ H1) (e1 : T.ers ts1 = s) (et : t.er = x) (ok1 : t.ok K H1) (mr1 : MRel m t ts1) (st1 : Step H ts H1 (t :: ts1)) (pu1 : ∀ j, j ∉ md → ts1[j]? = ts[j]?) :
    tr σ H1 fun xs H2 => Q (t.rt :: xs) H2 := by
  by_cases hc : (clr m mr || !x.hasOwn) = true
  · rw [if_pos hc] at h
    refine hr ρ ts1 σ H1 _ S1 ?_
    rw [e1]
    cases eb : dr s with
    | no => rw [eb] at h; exact h
    | ex c fs s2 =>
      rw [eb] at h
      exact fun ts2 H2 d S2 e2 st2 xr => h ts2 H2 d S2 e2 (st1.tail.trans st2) xr
    | ok q2 =>
      obtain ⟨xs, s2⟩ := q2
      rw [eb] at h
      intro ts2 us vs H2 S2 e2 eus okus cr st2 pu2
      have key : t.ok K H2 ∧ MRel m t ts2 := by
        have free : (∀ u ∈ ts1, Dj t u) → t.ok K H2 ∧ ∀ u ∈ ts2, Dj t u := fun hd =>
          ⟨keepT ok1 S1.ok st2 fun u mu a ma => (hd u mu).2 a ma, fun u mu => djStep ok1 hd st2 u (List.mem_append_right _ mu)⟩
        have fr2 : t.own = [] → t.ok K H2 ∧ MRel m t ts2 := fun on => by
          obtain ⟨k1, k2⟩ := free (mr1.tmp S1.wf on).2
          exact ⟨k1, TRel.of ⟨mr1.good S1.wf, k2⟩ on⟩
        cases m with
        | tmp =>
          obtain ⟨k1, k2⟩ := free mr1.2
          exact ⟨k1, mr1.1, k2⟩
        | vw src =>
          rcases mr1 with ⟨i, mi, u, eu, sb⟩ | ⟨on, _⟩
          · by_cases ho : x.hasOwn = false
            · exact fr2 (T.own_nil (by rw [et]; exact ho))
            · have hx : x.hasOwn = true := by cases q : x.hasOwn with | true => rfl | false => exact absurd q ho
              rw [hx, Bool.not_true, Bool.or_false] at hc
              have hi : i ∉ mr := by
                have := (List.all_eq_true.mp hc) i mi
                simpa using this
              have e2' : ts2[i]? = some u := (pu2 i hi).trans eu
              exact ⟨sb.ok (S2.ok u (List.mem_of_getElem? e2')), .inl ⟨i, mi, u, e2', sb⟩⟩
          · exact fr2 on
      obtain ⟨k1, k2⟩ := key
      refine h ts2 (some t :: us) (t.rt :: vs) H2 S2 e2 (by rw [← et, ← eus]; rfl) (fun u mu => ?_) ⟨rfl, k2, cr⟩ ?_ fun j hj => ?_
      · rcases List.mem_cons.mp (show u ∈ t :: fl us from mu) with rfl | mu
        · exact k1
        · exact okus u mu
      · have s3 := st1.tail.trans st2
        exact s3.cons (st1.ow _ List.mem_cons_self) (st1.tr _ List.mem_cons_self) (st1.im _ List.mem_cons_self)
      · rw [List.mem_append, not_or] at hj
        exact (pu2 j hj.2).trans (pu1 j hj.1)
  · rw [if_neg hc] at h; exact h.elim
theorem crd_val {m : Md} {ks : List AK} {md mr : List Nat} {te : TE} {tr : TA} {de : E} {dr : EC} (he : ERd K W io m md te de) (hr : CRd K W io ks mr tr dr) : CRd K W io (.val m :: ks) (md ++ mr) (tCons te tr) (dCval m mr de dr) := by
  refine fun ρ ts σ H Q S h => ?_
  refine he ρ ts σ H _ S ?_
  unfold dCval at h
  cases ea : de (T.ers ts) with
  | no => rw [ea] at h; exact h
  | ex c fs s => rw [ea] at h; exact h
  | ok q =>
    rw [ea] at h
    exact fun ts1 t H1 S1 e1 et ok1 mr1 st1 pu1 => ccons_tail hr h S1 e1 et ok1 mr1 st1 pu1
theorem crd_valC {C : V → Hp → Prop} {chk : D → Bool} {m : Md} {ks : List AK} {md mr : List Nat} {te : TE} {tr : TA} {de : E} {dr : EC} (he : ERd K W io m md te de) (hr : CRd K W io ks mr tr dr)
    (hC : ∀ (H : Hp) (t : T), t.ok K H → chk t.er = true → C t.rt H) : CRd K W io (.val m :: ks) (md ++ mr) (tConsC C te tr) (dCvalC chk m mr de dr) := by
  refine fun ρ ts σ H Q S h => ?_
  refine he ρ ts σ H _ S ?_
  unfold dCvalC at h
  cases ea : de (T.ers ts) with
  | no => rw [ea] at h; exact h
  | ex c fs s => rw [ea] at h; exact h
  | ok q =>
    rw [ea] at h
    obtain ⟨x, s⟩ := q
    intro ts1 t H1 S1 e1 et ok1 mr1 st1 pu1
    simp only [R.bind] at h
    by_cases hk : chk x = true
    · rw [if_pos hk] at h
      exact ⟨hC H1 t ok1 (by rw [et]; exact hk), ccons_tail hr h S1 e1 et ok1 mr1 st1 pu1⟩
    · rw [if_neg hk] at h; exact h.elim
theorem crd_slot {k : AK} {i : Nat} {ks : List AK} {mr : List Nat} {tr : TA} {dr : EC} (hk : k = .io i ∨ k = .mv i) (hr : CRd K W io ks mr tr dr) : CRd K W io (k :: ks) mr (tCons (tVar i) tr) (dCslot i dr) := fun ρ ts σ H Q S h => by
  unfold dCslot dn at h
  cases e : (T.ers ts)[i]? with
  | none => rw [e] at h; exact h.elim
  | some d =>
    obtain ⟨t, et, ed⟩ := ers_get e
    rw [e] at h
    have go : t ≠ .un → CPost K W io ρ (k :: ks) mr ts σ H Q ((dr (T.ers ts)).bind fun r => .ok (none :: r.1, r.2)) → tCons (tVar i) tr σ H Q := fun ne h => by
      have ev := S.rt i t et ne
      refine ⟨t.rt, ev, hr ρ ts σ H _ S ?_⟩
      cases eb : dr (T.ers ts) with
      | no => rw [eb] at h; exact h
      | ex c fs s2 => rw [eb] at h; exact h
      | ok q2 =>
        obtain ⟨xs, s2⟩ := q2
        rw [eb] at h
        intro ts2 us vs H2 S2 e2 eus okus cr st2 pu2
        refine h ts2 (none :: us) (t.rt :: vs) H2 S2 e2 (by rw [← eus]; rfl) okus ?_ st2 pu2
        rcases hk with rfl | rfl
        · exact ⟨ev, cr⟩
        · exact ⟨ev, cr⟩
    cases d with
    | un => exact h.elim
    | v x => exact go (er_un (by rw [ed]; intro z; cases z)) h
    | nd k xs => exact go (er_un (by rw [ed]; intro z; cases z)) h
end
section
variable {X : Cx} {W : WX} {io : List Nat}
theorem dc_nil : DC X W io [] [] [] tNil dCnil := ⟨pa_nil, crd_nil⟩
theorem dc_val {m : Md} {ks : List AK} {md mr : List Nat} {e : Expr} {es : List Expr} {te : TE} {tr : TA} {de : E} {dr : EC} (he : DE X W io m md e te de) (hr : DC X W io ks mr es tr dr)
    (hs : starEach (e :: es) X.env = (false, eval e X.env) :: starEach es X.env := by rfl) : DC X W io (.val m :: ks) (md ++ mr) (e :: es) (tCons te tr) (dCval m mr de dr) := ⟨pa_cons he.pe hr.pa hs, crd_val he.rd hr.rd⟩
theorem dc_io (i : Nat) {ks : List AK} {mr : List Nat} {x : Str} {pos : Pos} {es : List Expr} {tr : TA} {dr : EC} (hr : DC X W io ks mr es tr dr) (hN : X.N[i]? = some x := by rfl) (hv : Vis X.env.scope x := by first | exact Or.inl rfl | exact Or.inr (Or.inl rfl) | exact Or.inr (Or.inr rfl)) (hd : (x == ("__debug__" : Str)) = false := by decide)
    (hcd : (x == ("__classdict__" : Str)) = false := by decide) (hs : starEach (.Name x pos :: es) X.env = (false, eval (.Name x pos) X.env) :: starEach es X.env := by rfl) : DC X W io (.io i :: ks) mr (.Name x pos :: es) (tCons (tVar i) tr) (dCslot i dr) := ⟨pa_cons (pe_var hN hv hd hcd) hr.pa hs, crd_slot (.inl rfl) hr.rd⟩
theorem dc_mv (i : Nat) {ks : List AK} {mr : List Nat} {x : Str} {pos : Pos} {es : List Expr} {tr : TA} {dr : EC} (hr : DC X W io ks mr es tr dr) (hN : X.N[i]? = some x := by rfl) (hv : Vis X.env.scope x := by first | exact Or.inl rfl | exact Or.inr (Or.inl rfl) | exact Or.inr (Or.inr rfl)) (hd : (x == ("__debug__" : Str)) = false := by decide)
    (hcd : (x == ("__classdict__" : Str)) = false := by decide) (hs : starEach (.Name x pos :: es) X.env = (false, eval (.Name x pos) X.env) :: starEach es X.env := by rfl) : DC X W io (.mv i :: ks) mr (.Name x pos :: es) (tCons (tVar i) tr) (dCslot i dr) := ⟨pa_cons (pe_var hN hv hd hcd) hr.pa hs, crd_slot (.inr rfl) hr.rd⟩
end

/-! ### what the callee is handed -/
def asmD : List AK → List (Option D) → List D → Option (List D)
  | [], [], _ => some []
  | .val _ :: ks, some x :: xs, s => (asmD ks xs s).map fun r => x.fz :: r
  | .io i :: ks, none :: xs, s => match s[i]? with
    | none => none
    | some .un => none
    | some d => (asmD ks xs s).map fun r => d :: r
  | .mv i :: ks, none :: xs, s => match s[i]? with
    | none => none
    | some .un => none
    | some d => (asmD ks xs s).map fun r => d :: r
  | _, _, _ => none
def valOk (is : List Nat) : List AK → List (Option D) → Bool
  | .val m :: ks, some x :: xs => (clr m is || !x.hasOwn) && valOk is ks xs
  | _ :: ks, _ :: xs => valOk is ks xs
  | _, _ => true
def valFree : List AK → List (Option D) → Bool
  | .val m :: ks, some x :: xs => (m.isTmp || !x.hasOwn) && valFree ks xs
  | _ :: ks, _ :: xs => valFree ks xs
  | _, _ => true
/-- a callee's tree: a view, frozen; or the slot's own -/
inductive Arg (is : List Nat) (ts : List T) (us : List T) : T → Prop
  | val {u : T} (m : u ∈ us) : Arg is ts us u.fz
  | slot {i : Nat} {t : T} (m : i ∈ is) (e : ts[i]? = some t) (ne : t ≠ .un) : Arg is ts us t
theorem asm_ok {K : PySem.W.Frag} {io : List Nat} {ρ : Nat → V} {ts : List T} {σ : L2.St} {H : Hp} (S : Sim K io ρ ts σ H) : ∀ (ks : List AK) (us : List (Option T)) (vs : List V) (args : List D) (is : List Nat), CRel ks us vs ts σ → asmD ks (oer us) (T.ers ts) = some args → (∀ i ∈ ixs ks, i ∈ is) → valOk is ks (oer us) = true → (ixs ks).Nodup →
    ∃ cs : List T, T.ers cs = args ∧ vs = T.rts cs ∧ (∀ c ∈ cs, Arg (ixs ks) ts (fl us) c) ∧ WF cs ∧ cs.length = ks.length ∧ (∀ (i : Nat) (c : T), cs[i]? = some c → (ks.map AK.pm)[i]? = some PM.val → c.own = []) := by
  intro ks
  induction ks with
  | nil =>
    intro us vs args is cr ha _ _ _
    cases us with
    | cons _ _ => exact (by cases vs <;> exact cr.elim)
    | nil => cases vs with
      | cons _ _ => exact cr.elim
      | nil => cases ha; exact ⟨[], rfl, rfl, fun _ m => (nomatch m), WF.nil, rfl, fun i c e => by simp at e⟩
  | cons k ks ih =>
    intro us vs args is cr ha hi hv hn
    have wide : ∀ {is2 : List Nat} {c : T}, (∀ i ∈ ixs ks, i ∈ is2) → ∀ {us2 us3 : List T}, (∀ u ∈ us2, u ∈ us3) → Arg (ixs ks) ts us2 c → Arg is2 ts us3 c := by
      intro is2 c hh us2 us3 hu a
      cases a with
      | val m => exact .val (hu _ m)
      | slot m e ne => exact .slot (hh _ m) e ne
    -- a slot's tree
    have slotCase : ∀ (i : Nat) (us' : List (Option T)) (v : V) (vs' : List V) (pmk : PM), σ[i]? = some (some v) → CRel ks us' vs' ts σ → pmk ≠ .val → i ∉ ixs ks → i ∈ is →
        (match (T.ers ts)[i]? with
          | none => none
          | some .un => none
          | some d => (asmD ks (oer us') (T.ers ts)).map fun r => d :: r) = some args → (∀ i ∈ ixs ks, i ∈ is) → valOk is ks (oer us') = true → (ixs ks).Nodup →
        ∃ cs : List T, T.ers cs = args ∧ v :: vs' = T.rts cs ∧ (∀ c ∈ cs, Arg (i :: ixs ks) ts (fl us') c) ∧ WF cs ∧ cs.length = ks.length + 1 ∧ (∀ (j : Nat) (c : T), cs[j]? = some c → (pmk :: ks.map AK.pm)[j]? = some PM.val → c.own = []) := by
      intro i us' v vs' pmk hσ cr' hpm hni hii ha' hi' hv' hn'
      cases e : (T.ers ts)[i]? with
      | none => rw [e] at ha'; cases ha'
      | some d =>
        obtain ⟨t, et, ed⟩ := ers_get e
        rw [e] at ha'
        have ne : t ≠ .un := fun z => by
          rw [z] at ed
          rw [← ed] at ha'
          cases ha'
        have ha2 : (asmD ks (oer us') (T.ers ts)).map (fun r => d :: r) = some args := by
          cases d with
          | un => cases ha'
          | v x => exact ha'
          | nd k xs => exact ha'
        cases eb : asmD ks (oer us') (T.ers ts) with
        | none => rw [eb] at ha2; cases ha2
        | some r =>
          rw [eb] at ha2
          cases ha2
          obtain ⟨cs, c1, c2, c3, c4, c5, c6⟩ := ih us' vs' r is cr' eb hi' hv' hn'
          have hrt : v = t.rt := by
            have := S.rt i t et ne
            rw [hσ] at this
            cases this; rfl
          refine ⟨t :: cs, by rw [T.ers, ed, c1], by rw [T.rts, ← c2, hrt], fun c mc => ?_, WF.cons (S.wf.mem (List.mem_of_getElem? et)) (fun c mc => ?_) c4, by rw [List.length_cons, c5], fun j c ej pj => ?_⟩
          · rcases List.mem_cons.mp mc with rfl | mc
            · exact .slot (by simp) et ne
            · exact wide (fun j mj => List.mem_cons_of_mem _ mj) (fun _ m => m) (c3 c mc)
          · cases c3 c mc with
            | slot m e' ne' => exact S.wf.get (fun z => hni (by rw [z]; exact m)) et e'
            | @val u m =>
              refine ⟨fun a ma z => ?_, fun a ma => (by rw [T.fz_own] at ma; cases ma)⟩
              rw [T.fz_trk] at z
              -- the view's own nodes are not this slot's
              obtain ⟨j, ej⟩ := List.getElem?_of_mem (List.mem_filterMap.mp m).choose_spec.1
              have go : ∀ (ks : List AK) (us' : List (Option T)) (vs' : List V), CRel ks us' vs' ts σ → valOk is ks (oer us') = true → ∀ u ∈ fl us', a ∉ u.trk := by
                intro ks
                induction ks with
                | nil =>
                  intro us' vs' cr _ u mu
                  cases us' with
                  | nil => cases mu
                  | cons _ _ => exact (by cases vs' <;> exact cr.elim)
                | cons k ks ih2 =>
                  intro us' vs' cr hv u mu
                  cases us' with
                  | nil => cases mu
                  | cons o us' =>
                    cases vs' with
                    | nil => exact (by cases k <;> cases o <;> exact cr.elim)
                    | cons v vs' =>
                      cases k with
                      | val m =>
                        cases o with
                        | none => exact cr.elim
                        | some w =>
                          obtain ⟨_, mr, cr⟩ := cr
                          have hv : ((clr m is || !w.er.hasOwn) && valOk is ks (oer us')) = true := hv
                          rw [Bool.and_eq_true] at hv
                          rcases List.mem_cons.mp (show u ∈ w :: fl us' from mu) with rfl | mu
                          · by_cases ho : u.er.hasOwn = false
                            · exact mr.own S.wf t (List.mem_of_getElem? et) a ma (by rw [T.own_nil ho]; simp)
                            · have hx : u.er.hasOwn = true := by cases q : u.er.hasOwn with | true => rfl | false => exact absurd q ho
                              have hv1 := hv.1
                              rw [hx, Bool.not_true, Bool.or_false] at hv1
                              cases m with
                              | tmp => exact (mr.2 t (List.mem_of_getElem? et)).2 a ma
                              | vw src =>
                                rcases mr with ⟨q, mq, w', ew, sb⟩ | ⟨_, tr⟩
                                · have nq : q ∉ is := by
                                    have := List.all_eq_true.mp hv1 q mq
                                    simpa using this
                                  exact fun z => (S.wf.get (fun y => nq (by rw [y]; exact hii)) ew et).2 a ma (sb.col z)
                                · exact (tr.2 t (List.mem_of_getElem? et)).2 a ma
                          · exact ih2 us' vs' cr hv.2 u mu
                      | io q =>
                        cases o with
                        | some _ => exact cr.elim
                        | none => exact ih2 us' vs' cr.2 hv u mu
                      | mv q =>
                        cases o with
                        | some _ => exact cr.elim
                        | none => exact ih2 us' vs' cr.2 hv u mu
              exact go ks us' vs' cr' hv' u m z
          · cases j with
            | zero =>
              have : pmk = PM.val := by simpa using pj
              exact absurd this hpm
            | succ j => exact c6 j c (by simpa using ej) (by simpa using pj)
    cases us with
    | nil => exact (by cases k <;> cases vs <;> exact cr.elim)
    | cons o us =>
      cases vs with
      | nil => exact (by cases k <;> cases o <;> exact cr.elim)
      | cons v vs =>
        cases k with
        | val mm =>
          cases o with
          | none => exact cr.elim
          | some u =>
            obtain ⟨rfl, mr, cr⟩ := cr
            have hv : ((clr mm is || !u.er.hasOwn) && valOk is ks (oer us)) = true := hv
            rw [Bool.and_eq_true] at hv
            have ha : (asmD ks (oer us) (T.ers ts)).map (fun r => u.er.fz :: r) = some args := ha
            cases eb : asmD ks (oer us) (T.ers ts) with
            | none => rw [eb] at ha; cases ha
            | some r =>
              rw [eb] at ha
              cases ha
              obtain ⟨cs, c1, c2, c3, c4, c5, c6⟩ := ih us vs r is cr eb hi hv.2 hn
              refine ⟨u.fz :: cs, by rw [T.ers, T.fz_er, c1], by rw [T.rts, T.fz_rt, ← c2], fun c mc => ?_, WF.cons (T.fz_good u) (fun c mc => ?_) c4, by rw [List.length_cons, List.length_cons, c5], fun j c ej pj => ?_⟩
              · rcases List.mem_cons.mp mc with rfl | mc
                · exact .val (show u ∈ u :: fl us from List.mem_cons_self)
                · exact wide (fun j mj => mj) (fun w m => (show w ∈ u :: fl us from List.mem_cons_of_mem _ m)) (c3 c mc)
              · refine ⟨fun a ma => (by rw [T.fz_own] at ma; cases ma), fun a ma z => ?_⟩
                rw [T.fz_trk] at z
                cases c3 c mc with
                | val m => rw [T.fz_own] at ma; cases ma
                | @slot i _ m e ne =>
                  by_cases ho : u.er.hasOwn = false
                  · exact mr.own S.wf c (List.mem_of_getElem? e) a ma (by rw [T.own_nil ho]; simp) z
                  · have hx : u.er.hasOwn = true := by cases q : u.er.hasOwn with | true => rfl | false => exact absurd q ho
                    have hv1 := hv.1
                    rw [hx, Bool.not_true, Bool.or_false] at hv1
                    cases mm with
                    | tmp => exact (mr.2 c (List.mem_of_getElem? e)).2 a ma z
                    | vw src =>
                      rcases mr with ⟨q, mq, w', ew, sb⟩ | ⟨_, tr⟩
                      · have nq : q ∉ is := by
                          have := List.all_eq_true.mp hv1 q mq
                          simpa using this
                        exact (S.wf.get (fun y => nq (by rw [y]; exact hi i m)) ew e).2 a ma (sb.col z)
                      · exact (tr.2 c (List.mem_of_getElem? e)).2 a ma z
              · cases j with
                | zero =>
                  have : u.fz = c := by simpa using ej
                  subst this
                  exact T.fz_own u
                | succ j => exact c6 j c (by simpa using ej) (by simpa using pj)
        | io i =>
          cases o with
          | some _ => exact cr.elim
          | none =>
            have hn2 := List.nodup_cons.mp (show (i :: ixs ks).Nodup from hn)
            exact slotCase i us v vs .io cr.1 cr.2 (by intro z; cases z) hn2.1 (hi i List.mem_cons_self) ha (fun j mj => hi j (List.mem_cons_of_mem _ mj)) hv hn2.2
        | mv i =>
          cases o with
          | some _ => exact cr.elim
          | none =>
            have hn2 := List.nodup_cons.mp (show (i :: ixs ks).Nodup from hn)
            exact slotCase i us v vs .mv cr.1 cr.2 (by intro z; cases z) hn2.1 (hi i List.mem_cons_self) ha (fun j mj => hi j (List.mem_cons_of_mem _ mj)) hv hn2.2
end VS
namespace VS
open PySem PySem.Spec PyProof.Rows L2

def D.isUn : D → Bool
  | .un => true
  | _ => false
theorem isUn_er {t : T} (h : t.er.isUn = false) : t ≠ .un := fun z => by rw [z] at h; cases h
/-! ### behind a call -/
def putD' : List AK → List D → List D → List D
  | .val _ :: ks, os, s => putD' ks os s
  | .mv _ :: ks, os, s => putD' ks os s
  | .io i :: ks, o :: os, s => putD' ks os (s.set i o)
  | _, _, s => s
def putT' : List AK → List T → List T → List T
  | .val _ :: ks, os, s => putT' ks os s
  | .mv _ :: ks, os, s => putT' ks os s
  | .io i :: ks, o :: os, s => putT' ks os (s.set i o)
  | _, _, s => s
def putD (ks : List AK) (os s : List D) : List D := putD' ks os (wipeD (ixs ks) s)
theorem ers_put : ∀ (ks : List AK) (us ts : List T), T.ers (putT' ks us ts) = putD' ks (T.ers us) (T.ers ts)
  | .val _ :: ks, us, ts => by rw [putT', putD', ers_put ks us ts]
  | .mv _ :: ks, us, ts => by rw [putT', putD', ers_put ks us ts]
  | .io i :: ks, u :: us, ts => by rw [putT', ers_put ks us, ers_set, T.ers, putD']
  | .io i :: ks, [], ts => by rw [putT', T.ers, putD'] <;> (intros; simp_all)
  | [], us, ts => by rw [putT', putD'] <;> (intros; simp_all)
theorem put_len : ∀ (ks : List AK) (us ts : List T), (putT' ks us ts).length = ts.length
  | .val _ :: ks, us, ts => by rw [putT', put_len ks us ts]
  | .mv _ :: ks, us, ts => by rw [putT', put_len ks us ts]
  | .io i :: ks, u :: us, ts => by rw [putT', put_len ks us, List.length_set]
  | .io i :: ks, [], ts => by rw [putT'] <;> (intros; simp_all)
  | [], us, ts => by rw [putT'] <;> (intros; simp_all)
theorem put_mem : ∀ (ks : List AK) (us ts : List T) (w : T), w ∈ putT' ks us ts → w ∈ ts ∨ w ∈ us
  | .val _ :: ks, us, ts, w, h => by rw [putT'] at h; exact put_mem ks us ts w h
  | .mv _ :: ks, us, ts, w, h => by rw [putT'] at h; exact put_mem ks us ts w h
  | .io i :: ks, u :: us, ts, w, h => by
    rw [putT'] at h
    rcases put_mem ks us _ w h with m | m
    · rcases List.mem_or_eq_of_mem_set m with m | rfl
      · exact .inl m
      · exact .inr List.mem_cons_self
    · exact .inr (List.mem_cons_of_mem _ m)
  | .io i :: ks, [], ts, w, h => by
    have e : putT' (.io i :: ks) [] ts = ts := by rw [putT'] <;> (intros; simp_all)
    rw [e] at h; exact .inl h
  | [], us, ts, w, h => by
    have e : putT' [] us ts = ts := by rw [putT'] <;> (intros; simp_all)
    rw [e] at h; exact .inl h
theorem put_out : ∀ (ks : List AK) (us ts : List T) (j : Nat), j ∉ ixs ks → (putT' ks us ts)[j]? = ts[j]?
  | .val _ :: ks, us, ts, j, h => by rw [putT']; exact put_out ks us ts j h
  | .mv _ :: ks, us, ts, j, h => by
    rw [putT']
    have h : j ∉ _ :: ixs ks := h
    rw [List.mem_cons, not_or] at h
    exact put_out ks us ts j h.2
  | .io i :: ks, u :: us, ts, j, h => by
    have h : j ∉ i :: ixs ks := h
    rw [List.mem_cons, not_or] at h
    rw [putT', put_out ks us _ j h.2, List.getElem?_set_ne (Ne.symm h.1)]
  | .io i :: ks, [], ts, j, h => by
    have e : putT' (.io i :: ks) [] ts = ts := by rw [putT'] <;> (intros; simp_all)
    rw [e]
  | [], us, ts, j, h => by
    have e : putT' [] us ts = ts := by rw [putT'] <;> (intros; simp_all)
    rw [e]
theorem wf_put : ∀ (ks : List AK) (us ts : List T), WF us → WF ts → (∀ u ∈ us, ∀ w ∈ ts, Dj u w) → WF (putT' ks us ts)
  | .val _ :: ks, us, ts, h1, h2, h => by rw [putT']; exact wf_put ks us ts h1 h2 h
  | .mv _ :: ks, us, ts, h1, h2, h => by rw [putT']; exact wf_put ks us ts h1 h2 h
  | .io i :: ks, u :: us, ts, h1, h2, h => by
    rw [putT']
    refine wf_put ks us _ h1.head.2.2 (h2.set h1.head.1 fun j w _ e => h u List.mem_cons_self w (List.mem_of_getElem? e)) fun v mv w mw => ?_
    rcases List.mem_or_eq_of_mem_set mw with mw | rfl
    · exact h v (List.mem_cons_of_mem _ mv) w mw
    · exact (h1.head.2.1 v mv).symm
  | .io i :: ks, [], ts, h1, h2, h => by
    have e : putT' (.io i :: ks) [] ts = ts := by rw [putT'] <;> (intros; simp_all)
    rw [e]; exact h2
  | [], us, ts, h1, h2, h => by
    have e : putT' [] us ts = ts := by rw [putT'] <;> (intros; simp_all)
    rw [e]; exact h2
def iov : List PM → List V → List V
  | .io :: ps, v :: vs => v :: iov ps vs
  | .val :: ps, _ :: vs => iov ps vs
  | .mv :: ps, _ :: vs => iov ps vs
  | _, _ => []
/-- the roots at the slots -/
theorem put_rt {ts1 : List T} {σ : L2.St} : ∀ (ks : List AK) (os : List (Option T)) (us : List T) (vs : List V) (ts : List T), CRel ks os vs ts1 σ → T.rts us = iov (ks.map AK.pm) vs → ∀ (j : Nat) (w : T), (putT' ks us ts)[j]? = some w → ts[j]? = some w ∨ σ[j]? = some (some w.rt)
  | [], _, us, vs, ts, _, _, j, w, e => by
    have q : putT' [] us ts = ts := by rw [putT'] <;> (intros; simp_all)
    rw [q] at e; exact .inl e
  | k :: ks, [], us, vs, ts, cr, _, j, w, e => by cases k <;> cases vs <;> exact cr.elim
  | k :: ks, o :: os, us, [], ts, cr, _, j, w, e => by cases k <;> cases o <;> exact cr.elim
  | .val m :: ks, o :: os, us, v :: vs, ts, cr, hr, j, w, e => by
    cases o with
    | none => exact cr.elim
    | some u =>
      rw [putT'] at e
      exact put_rt ks os us vs ts cr.2.2 hr j w e
  | .mv i :: ks, o :: os, us, v :: vs, ts, cr, hr, j, w, e => by
    cases o with
    | some u => exact cr.elim
    | none =>
      rw [putT'] at e
      exact put_rt ks os us vs ts cr.2 hr j w e
  | .io i :: ks, o :: os, us, v :: vs, ts, cr, hr, j, w, e => by
    cases o with
    | some u => exact cr.elim
    | none =>
      cases us with
      | nil => rw [T.rts] at hr; cases hr
      | cons u us =>
        rw [T.rts] at hr
        have hr : u.rt :: T.rts us = v :: iov (ks.map AK.pm) vs := hr
        injection hr with h1 h2
        rw [putT'] at e
        rcases put_rt ks os us vs _ cr.2 h2 j w e with q | q
        · by_cases hj : i = j
          · subst hj
            have hl : i < ts.length := by
              have := (List.getElem?_eq_some_iff.mp q).1
              simpa using this
            rw [List.getElem?_set_self hl] at q
            cases q
            exact .inr (by rw [h1]; exact cr.1)
          · rw [List.getElem?_set_ne hj] at q
            exact .inl q
        · exact .inr q
/-- each slot that was handed in and comes back stands again -/
def ioIx : List AK → List Nat
  | [] => []
  | .io i :: r => i :: ioIx r
  | .val _ :: r => ioIx r
  | .mv _ :: r => ioIx r
theorem ioIx_sub : ∀ {ks : List AK} {i : Nat}, i ∈ ioIx ks → i ∈ ixs ks
  | .io j :: r, i, h => by
    rcases List.mem_cons.mp (show i ∈ j :: ioIx r from h) with e | h
    · exact List.mem_cons.mpr (.inl e)
    · exact List.mem_cons_of_mem _ (ioIx_sub h)
  | .val _ :: r, i, h => ioIx_sub (ks := r) h
  | .mv _ :: r, i, h => List.mem_cons_of_mem _ (ioIx_sub (ks := r) h)
theorem put_in {ts1 : List T} {σ : L2.St} : ∀ (ks : List AK) (os : List (Option T)) (us : List T) (vs : List V) (ts : List T), CRel ks os vs ts1 σ → T.rts us = iov (ks.map AK.pm) vs → (ixs ks).Nodup → ∀ (j : Nat), j ∈ ioIx ks → j < ts.length → ∃ w ∈ us, (putT' ks us ts)[j]? = some w
  | k :: ks, [], us, vs, ts, cr, _, _, j, _, _ => by cases k <;> cases vs <;> exact cr.elim
  | k :: ks, o :: os, us, [], ts, cr, _, _, j, _, _ => by cases k <;> cases o <;> exact cr.elim
  | .val m :: ks, o :: os, us, v :: vs, ts, cr, hr, hn, j, hj, hl => by
    cases o with
    | none => exact cr.elim
    | some u => rw [putT']; exact put_in ks os us vs ts cr.2.2 hr hn j hj hl
  | .mv i :: ks, o :: os, us, v :: vs, ts, cr, hr, hn, j, hj, hl => by
    cases o with
    | some u => exact cr.elim
    | none => rw [putT']; exact put_in ks os us vs ts cr.2 hr (List.nodup_cons.mp (show (i :: ixs ks).Nodup from hn)).2 j hj hl
  | .io i :: ks, o :: os, us, v :: vs, ts, cr, hr, hn, j, hj, hl => by
    cases o with
    | some u => exact cr.elim
    | none =>
      cases us with
      | nil => rw [T.rts] at hr; cases hr
      | cons u us =>
        rw [T.rts] at hr
        have hr : u.rt :: T.rts us = v :: iov (ks.map AK.pm) vs := hr
        injection hr with h1 h2
        have hn2 := List.nodup_cons.mp (show (i :: ixs ks).Nodup from hn)
        rw [putT']
        rcases List.mem_cons.mp (show j ∈ i :: ioIx ks from hj) with rfl | hj
        · exact ⟨u, List.mem_cons_self, by rw [put_out ks us _ j hn2.1, List.getElem?_set_self hl]⟩
        · obtain ⟨w, mw, e⟩ := put_in ks os us vs (ts.set i u) cr.2 h2 hn2.2 j hj (by rw [List.length_set]; exact hl)
          exact ⟨w, List.mem_cons_of_mem _ mw, e⟩

/-! ### what a def promises -/
abbrev FD := List D → R (D × List D)
def FPost (K : PySem.W.Frag) (pm : List PM) (ts : List T) (vs : List V) (H : Hp) (Q : VK) (E : XK) : R (D × List D) → Prop
  | .ok (x, os) => ∀ t us H', t.er = x → T.ers us = os → T.rts us = iov pm vs → (∀ u ∈ us, u ≠ .un) → t.ok K H' → (∀ u ∈ us, u.ok K H') → WF (t :: us) → Step H ts H' (t :: us) → Q t.rt H'
  | .ex c fs os => ∀ us H' d, T.ers us = os → T.rts us = iov pm vs → (∀ u ∈ us, u ≠ .un) → (∀ u ∈ us, u.ok K H') → WF us → Step H ts H' us → XRel H' d fs → E c d H'
  | .no => False
def spOf (K : PySem.W.Frag) (pm : List PM) (F : FD) : Sp := fun vs H Q E => ∃ ts : List T, vs = T.rts ts ∧ (∀ t ∈ ts, t.ok K H) ∧ WF ts ∧ ts.length = pm.length ∧
  (∀ (i : Nat) (t : T), ts[i]? = some t → pm[i]? = some PM.val → t.own = []) ∧ (∀ t ∈ ts, t ≠ .un) ∧ FPost K pm ts vs H Q E (F (T.ers ts))
/-- a call's denotation -/
def dCall (F : FD) (ks : List AK) (dc : EC) : E := fun s => (dc s).bind fun q => match asmD ks q.1 q.2 with
  | none => .no
  | some args => if (valOk (ixs ks) ks q.1 && args.all fun x => !x.isUn) = true then (match F args with
      | .ok r => if (valFree ks q.1 || (!r.1.hasShr && !D.hass NK.isShr r.2)) = true then .ok (r.1, putD ks r.2 q.2) else .no
      | .ex c fs os => if (valFree ks q.1 || !D.hass NK.isShr os) = true then .ex c fs (putD ks os q.2) else .no
      | .no => .no)
    else .no
/-- what the caller's other slots own is not among what comes back -/
theorem after_call {K : PySem.W.Frag} {io : List Nat} {ρ : Nat → V} {ts1 cs B : List T} {us : List (Option T)} {vs : List V} {σ : L2.St} {H1 H' : Hp} {ks : List AK} (S1 : Sim K io ρ ts1 σ H1) (cr : CRel ks us vs ts1 σ) (ha : ∀ c ∈ cs, Arg (ixs ks) ts1 (fl us) c) (st : Step H1 cs H' B)
    (hf : valFree ks (oer us) = true ∨ ∀ b ∈ B, b.col NK.isShr = []) {j : Nat} {w : T} (hj : j ∉ ixs ks) (ej : ts1[j]? = some w) : ∀ b ∈ B, Dj b w := by
  have okw := S1.ok w (List.mem_of_getElem? ej)
  -- the views
  have views : ∀ u ∈ fl us, (∀ a ∈ w.own, a ∉ u.own → a ∉ u.trk) ∧ u.good := by
    have go : ∀ (ks : List AK) (us : List (Option T)) (vs : List V), CRel ks us vs ts1 σ → ∀ u ∈ fl us, (∀ a ∈ w.own, a ∉ u.own → a ∉ u.trk) ∧ u.good := by
      intro ks
      induction ks with
      | nil =>
        intro us vs cr u mu
        cases us with
        | nil => cases mu
        | cons _ _ => exact (by cases vs <;> exact cr.elim)
      | cons k ks ih =>
        intro us vs cr u mu
        cases us with
        | nil => cases mu
        | cons o us =>
          cases vs with
          | nil => exact (by cases k <;> cases o <;> exact cr.elim)
          | cons v vs =>
            cases k with
            | val m =>
              cases o with
              | none => exact cr.elim
              | some z =>
                rcases List.mem_cons.mp (show u ∈ z :: fl us from mu) with rfl | mu
                · exact ⟨cr.2.1.own S1.wf w (List.mem_of_getElem? ej), cr.2.1.good S1.wf⟩
                · exact ih us vs cr.2.2 u mu
            | io i =>
              cases o with
              | some _ => exact cr.elim
              | none => exact ih us vs cr.2 u mu
            | mv i =>
              cases o with
              | some _ => exact cr.elim
              | none => exact ih us vs cr.2 u mu
    exact go ks us vs cr
  have free : valFree ks (oer us) = true → ∀ u ∈ fl us, ∀ a ∈ w.own, a ∉ u.trk := by
    have go : ∀ (ks : List AK) (us : List (Option T)) (vs : List V), CRel ks us vs ts1 σ → valFree ks (oer us) = true → ∀ u ∈ fl us, ∀ a ∈ w.own, a ∉ u.trk := by
      intro ks
      induction ks with
      | nil =>
        intro us vs cr _ u mu
        cases us with
        | nil => cases mu
        | cons _ _ => exact (by cases vs <;> exact cr.elim)
      | cons k ks ih =>
        intro us vs cr hv u mu
        cases us with
        | nil => cases mu
        | cons o us =>
          cases vs with
          | nil => exact (by cases k <;> cases o <;> exact cr.elim)
          | cons v vs =>
            cases k with
            | val m =>
              cases o with
              | none => exact cr.elim
              | some z =>
                have hv : ((m.isTmp || !z.er.hasOwn) && valFree ks (oer us)) = true := hv
                rw [Bool.and_eq_true] at hv
                rcases List.mem_cons.mp (show u ∈ z :: fl us from mu) with rfl | mu
                · intro a ma
                  have mr := cr.2.1
                  cases m with
                  | tmp => exact (mr.2 w (List.mem_of_getElem? ej)).2 a ma
                  | vw src =>
                    have : u.er.hasOwn = false := by
                      cases q : u.er.hasOwn with
                      | false => rfl
                      | true => rw [q] at hv; cases hv.1
                    exact mr.own S1.wf w (List.mem_of_getElem? ej) a ma (by rw [T.own_nil this]; simp)
                · exact ih us vs cr.2.2 hv.2 u mu
            | io i =>
              cases o with
              | some _ => exact cr.elim
              | none => exact ih us vs cr.2 hv u mu
            | mv i =>
              cases o with
              | some _ => exact cr.elim
              | none => exact ih us vs cr.2 hv u mu
    exact go ks us vs cr
  have slotDj : ∀ {i : Nat} {t : T}, i ∈ ixs ks → ts1[i]? = some t → Dj t w := fun {i t} mi ei => S1.wf.get (fun z => hj (by rw [← z]; exact mi)) ei ej
  have ownB : ∀ b ∈ B, ∀ a ∈ b.own, a ∉ w.trk := fun b mb a ma z => by
    rcases st.ow b mb a ma with ⟨c, mc, zc⟩ | q
    · cases ha c mc with
      | val m => rw [T.fz_own] at zc; cases zc
      | slot m e ne => exact (slotDj m e).1 a zc z
    · obtain ⟨o, e⟩ := T.trk_s okw z
      rw [q] at e; cases e
  intro b mb
  refine ⟨ownB b mb, fun a ma z => ?_⟩
  have some : ∃ o, H1 a = some o := let ⟨o, e, _⟩ := T.own_m okw ma; ⟨o, e⟩
  have viaTrk : (∀ u ∈ fl us, a ∉ u.trk) → False := fun hu => by
    rcases st.tr b mb a z with ⟨c, mc, zc⟩ | q
    · cases ha c mc with
      | @val u m => rw [T.fz_trk] at zc; exact hu u m zc
      | slot m e ne => exact (slotDj m e).2 a ma zc
    · obtain ⟨o, e⟩ := some
      rw [q] at e; cases e
  rcases hf with hf | hf
  · exact viaTrk fun u mu => free hf u mu a ma
  · rcases T.trk_cases b a z with y | y | y
    · exact ownB b mb a y (T.own_trk ma)
    · rcases st.im b mb a y with ⟨c, mc, zc⟩ | q
      · cases ha c mc with
        | @val u m =>
          rw [T.fz_imm] at zc
          by_cases ho : a ∈ u.own
          · exact (T.good_own (views u m).2 ho).1 zc
          · exact (views u m).1 a ma ho (T.imm_trk zc)
        | slot m e ne => exact (slotDj m e).2 a ma (T.imm_trk zc)
      · obtain ⟨o, e⟩ := some
        rw [q] at e; cases e
    · rw [hf b mb] at y; cases y
end VS
namespace VS
open PySem PySem.Spec PyProof.Rows L2

/-- the caller's slots behind a call -/
theorem slots_after {K : PySem.W.Frag} {io : List Nat} {ρ : Nat → V} {ts ts1 cs us' B : List T} {us : List (Option T)} {vs : List V} {σ : L2.St} {H H1 H' : Hp} {ks : List AK} {md : List Nat}
    (S1 : Sim K io ρ ts1 σ H1) (ok1 : ∀ u ∈ fl us, u.ok K H1) (cr : CRel ks us vs ts1 σ) (st1 : Step H ts H1 (fl us ++ ts1)) (pu1 : ∀ j, j ∉ md → ts1[j]? = ts[j]?) (hn : (ixs ks).Nodup) (hmv : ((ixs ks).all fun i => !io.contains i || (ioIx ks).contains i) = true)
    (ha : ∀ c ∈ cs, Arg (ixs ks) ts1 (fl us) c) (okc : ∀ c ∈ cs, c.ok K H1) (hr : T.rts us' = iov (ks.map AK.pm) vs) (nu : ∀ u ∈ us', u ≠ .un) (oku : ∀ u ∈ us', u.ok K H') (sub : ∀ u ∈ us', u ∈ B) (wf : WF us') (st : Step H1 cs H' B)
    (hf : valFree ks (oer us) = true ∨ ∀ b ∈ B, b.col NK.isShr = []) :
    Sim K io ρ (putT' ks us' (wipeT (ixs ks) ts1)) σ H' ∧ Step H ts H' (B ++ putT' ks us' (wipeT (ixs ks) ts1)) ∧ (∀ j, j ∉ md ++ ixs ks → (putT' ks us' (wipeT (ixs ks) ts1))[j]? = ts[j]?) ∧ ∀ b ∈ B, (∀ u ∈ us', Dj b u) → ∀ w ∈ putT' ks us' (wipeT (ixs ks) ts1), Dj b w := by
  have wip : ∀ {w : T}, w ∈ wipeT (ixs ks) ts1 → w = .un ∨ ∃ j, j ∉ ixs ks ∧ ts1[j]? = some w := fun {w} m => by
    obtain ⟨j, ej⟩ := List.getElem?_of_mem m
    by_cases hj : j ∈ ixs ks
    · exact .inl (wipeT_in hj ej)
    · rw [wipeT_out hj] at ej; exact .inr ⟨j, hj, ej⟩
  have dj : ∀ b ∈ B, ∀ w ∈ wipeT (ixs ks) ts1, Dj b w := fun b mb w mw => by
    rcases wip mw with rfl | ⟨j, hj, ej⟩
    · exact dj_un.symm
    · exact after_call S1 cr ha st hf hj ej b mb
  have keepW : ∀ w ∈ wipeT (ixs ks) ts1, w.ok K H' := fun w mw => by
    rcases wip mw with rfl | ⟨j, hj, ej⟩
    · exact trivial
    · refine keepT (S1.ok w (List.mem_of_getElem? ej)) okc st fun c mc a ma z => ?_
      cases ha c mc with
      | val m => rw [T.fz_own] at ma; cases ma
      | slot m e ne => exact (S1.wf.get (fun y => hj (by rw [← y]; exact m)) e ej).1 a ma z
  -- where the nodes come from
  have srcO : ∀ c ∈ cs, ∀ a ∈ c.own, ∃ w ∈ fl us ++ ts1, a ∈ w.own := fun c mc a ma => by
    cases ha c mc with
    | val m => rw [T.fz_own] at ma; cases ma
    | slot m e ne => exact ⟨c, List.mem_append_right _ (List.mem_of_getElem? e), ma⟩
  have srcT : ∀ c ∈ cs, ∀ a ∈ c.trk, ∃ w ∈ fl us ++ ts1, a ∈ w.trk := fun c mc a ma => by
    cases ha c mc with
    | @val u m => rw [T.fz_trk] at ma; exact ⟨u, List.mem_append_left _ m, ma⟩
    | slot m e ne => exact ⟨c, List.mem_append_right _ (List.mem_of_getElem? e), ma⟩
  have srcI : ∀ c ∈ cs, ∀ a ∈ c.imm, ∃ w ∈ fl us ++ ts1, a ∈ w.imm := fun c mc a ma => by
    cases ha c mc with
    | @val u m => rw [T.fz_imm] at ma; exact ⟨u, List.mem_append_left _ m, ma⟩
    | slot m e ne => exact ⟨c, List.mem_append_right _ (List.mem_of_getElem? e), ma⟩
  have st2 : Step H1 (fl us ++ ts1) H' B := ⟨fun b o e n => st.fr b o e fun c mc z => by
      obtain ⟨w, mw, zw⟩ := srcO c mc b z
      exact n w mw zw, st.al, fun b mb a ma => (st.ow b mb a ma).imp (fun ⟨c, mc, zc⟩ => srcO c mc a zc) id, fun b mb a ma => (st.tr b mb a ma).imp (fun ⟨c, mc, zc⟩ => srcT c mc a zc) id, fun b mb a ma => (st.im b mb a ma).imp (fun ⟨c, mc, zc⟩ => srcI c mc a zc) id⟩
  have stB : Step H ts H' B := st1.trans st2
  have old : ∀ w ∈ wipeT (ixs ks) ts1, w = .un ∨ w ∈ ts1 := fun w mw => (wip mw).imp id fun ⟨j, _, e⟩ => List.mem_of_getElem? e
  have cases3 : ∀ w ∈ putT' ks us' (wipeT (ixs ks) ts1), w = .un ∨ w ∈ ts1 ∨ w ∈ B := fun w mw => by
    rcases put_mem ks us' _ w mw with m | m
    · exact (old w m).imp id .inl
    · exact .inr (.inr (sub w m))
  refine ⟨⟨by rw [put_len, wipeT_len]; exact S1.len, fun j w e ne => ?_, fun w mw => ?_, wf_put ks us' _ wf (wf_wipe S1.wf) fun u mu w mw => dj u (sub u mu) w mw, fun i mi => ?_⟩, ?_, fun j hj => ?_, fun b mb hb w mw => ?_⟩
  · rcases put_rt ks us us' vs (wipeT (ixs ks) ts1) cr hr j w e with q | q
    · by_cases hj : j ∈ ixs ks
      · exact absurd (wipeT_in hj q) ne
      · rw [wipeT_out hj] at q
        exact S1.rt j w q ne
    · exact q
  · rcases put_mem ks us' _ w mw with m | m
    · exact keepW w m
    · exact oku w m
  · obtain ⟨t, e, ne, r⟩ := S1.pin i mi
    by_cases hi : i ∈ ixs ks
    · have q := List.all_eq_true.mp hmv i hi
      have hio : i ∈ ioIx ks := by
        have : io.contains i = true := by simpa using mi
        rw [this, Bool.not_true, Bool.false_or] at q
        simpa using q
      have hl : i < (wipeT (ixs ks) ts1).length := by rw [wipeT_len]; exact (List.getElem?_eq_some_iff.mp e).1
      obtain ⟨w, mw, ew⟩ := put_in ks us us' vs (wipeT (ixs ks) ts1) cr hr hn i hio hl
      refine ⟨w, ew, nu w mw, ?_⟩
      rcases put_rt ks us us' vs (wipeT (ixs ks) ts1) cr hr i w ew with q | q
      · exact absurd (wipeT_in hi q) (nu w mw)
      · have := S1.rt i t e ne
        rw [q] at this
        have h2 : w.rt = t.rt := Option.some.inj (Option.some.inj this)
        rw [h2, r]
    · exact ⟨t, by rw [put_out ks us' _ i hi, wipeT_out hi]; exact e, ne, r⟩
  · -- the whole step
    have fromTs1 : ∀ w ∈ ts1, w ∈ fl us ++ ts1 := fun w m => List.mem_append_right _ m
    refine ⟨stB.fr, stB.al, fun w mw a ma => ?_, fun w mw a ma => ?_, fun w mw a ma => ?_⟩
    · rcases List.mem_append.mp mw with m | m
      · exact stB.ow w m a ma
      · rcases cases3 w m with rfl | m | m
        · cases ma
        · exact st1.ow w (fromTs1 w m) a ma
        · exact stB.ow w m a ma
    · rcases List.mem_append.mp mw with m | m
      · exact stB.tr w m a ma
      · rcases cases3 w m with rfl | m | m
        · cases ma
        · exact st1.tr w (fromTs1 w m) a ma
        · exact stB.tr w m a ma
    · rcases List.mem_append.mp mw with m | m
      · exact stB.im w m a ma
      · rcases cases3 w m with rfl | m | m
        · cases ma
        · exact st1.im w (fromTs1 w m) a ma
        · exact stB.im w m a ma
  · rw [List.mem_append, not_or] at hj
    rw [put_out ks us' _ j hj.2, wipeT_out hj.2]
    exact pu1 j hj.1
  · rcases put_mem ks us' _ w mw with m | m
    · exact dj b mb w m
    · exact hb w m
theorem arg_ok {K : PySem.W.Frag} {io : List Nat} {ρ : Nat → V} {ts1 : List T} {us : List T} {σ : L2.St} {H1 : Hp} {is : List Nat} (S1 : Sim K io ρ ts1 σ H1) (ok1 : ∀ u ∈ us, u.ok K H1) {c : T} (a : Arg is ts1 us c) : c.ok K H1 := by
  cases a with
  | val m => exact T.ok_fz (ok1 _ m)
  | slot m e ne => exact S1.ok _ (List.mem_of_getElem? e)
theorem shr_of {t : T} (h : t.er.hasShr = false) : t.col NK.isShr = [] := T.shr_nil h
theorem hass_shr {xs : List T} (h : D.hass NK.isShr (T.ers xs) = false) : ∀ c ∈ xs, c.col NK.isShr = [] := fun c m => by
  have e := (T.hass_er xs).mp h
  cases q : c.col NK.isShr with
  | nil => rfl
  | cons z r =>
    have : z ∈ T.cols NK.isShr xs := T.mem_cols.mpr ⟨c, m, by rw [q]; simp⟩
    rw [e] at this; cases this
theorem erd_call {K : PySem.W.Frag} {W : WX} {io : List Nat} {ks : List AK} {md : List Nat} {t : TA} {dc : EC} {F : FD} {Ef : L2.St → XK} (hc : CRd K W io ks md t dc) (hE : ∀ σ c d H', W c d σ H' → Ef σ c d H') (hn : (ixs ks).Nodup)
    (hmv : ((ixs ks).all fun i => !io.contains i || (ioIx ks).contains i) = true) : ERd K W io .tmp (md ++ ixs ks) (tCallSD (spOf K (ks.map AK.pm) F) [] Ef t) (dCall F ks dc) := fun ρ ts σ H Q S h => by
  refine hc ρ ts σ H _ S ?_
  unfold dCall at h
  cases ea : dc (T.ers ts) with
  | no => rw [ea] at h; exact h
  | ex c fs s => rw [ea] at h; exact h
  | ok q =>
    obtain ⟨xs, s⟩ := q
    rw [ea] at h
    simp only [R.bind] at h
    intro ts1 us vs H1 S1 e1 eus ok1 cr st1 pu1
    rw [List.append_nil]
    cases em : asmD ks xs s with
    | none => rw [em] at h; exact h.elim
    | some args =>
      rw [em] at h
      simp only at h
      by_cases hk : (valOk (ixs ks) ks xs && args.all fun x => !x.isUn) = true
      · rw [if_pos hk] at h
        rw [Bool.and_eq_true] at hk
        obtain ⟨cs, c1, c2, c3, c4, c5, c6⟩ := asm_ok S1 ks us vs args (ixs ks) cr (by rw [eus, e1]; exact em) (fun _ m => m) (by rw [eus]; exact hk.1) hn
        refine ⟨cs, c2, fun c mc => arg_ok S1 ok1 (c3 c mc), c4, by rw [c5, List.length_map], c6, fun c mc => isUn_er ?_, ?_⟩
        · have := List.all_eq_true.mp hk.2 c.er (by rw [← c1, T.ers_map]; exact List.mem_map.mpr ⟨c, mc, rfl⟩)
          simpa using this
        · rw [c1]
          cases ef : F args with
          | no => rw [ef] at h; exact h
          | ok r =>
            obtain ⟨x, os⟩ := r
            rw [ef] at h
            simp only at h
            by_cases hz : (valFree ks xs || (!x.hasShr && !D.hass NK.isShr os)) = true
            · rw [if_pos hz] at h
              intro t' us' H' et eu hr nu okt oku wf st
              have hf : valFree ks (oer us) = true ∨ ∀ b ∈ t' :: us', b.col NK.isShr = [] := by
                rw [Bool.or_eq_true] at hz
                rcases hz with z | z
                · exact .inl (by rw [eus]; exact z)
                · rw [Bool.and_eq_true] at z
                  refine .inr fun b mb => ?_
                  rcases List.mem_cons.mp mb with rfl | mb
                  · exact shr_of (by rw [et]; simpa using z.1)
                  · exact hass_shr (by rw [eu]; simpa using z.2) b mb
              obtain ⟨S2, st2, pu2, dj2⟩ := slots_after (B := t' :: us') S1 ok1 cr st1 pu1 hn hmv c3 (fun c mc => arg_ok S1 ok1 (c3 c mc)) hr nu oku (fun u m => List.mem_cons_of_mem _ m) wf.head.2.2 st hf
              refine h _ t' H' S2 ?_ et okt ⟨wf.head.1, dj2 t' List.mem_cons_self wf.head.2.1⟩ (st2.sub fun w mw => ?_) pu2
              · rw [ers_put, ers_wipe, e1, eu]; rfl
              · rcases List.mem_cons.mp mw with rfl | mw
                · simp
                · exact List.mem_append_right _ mw
            · rw [if_neg hz] at h; exact h.elim
          | ex c fs os =>
            rw [ef] at h
            simp only at h
            by_cases hz : (valFree ks xs || !D.hass NK.isShr os) = true
            · rw [if_pos hz] at h
              intro us' H' d eu hr nu oku wf st xr
              have hf : valFree ks (oer us) = true ∨ ∀ b ∈ us', b.col NK.isShr = [] := by
                rw [Bool.or_eq_true] at hz
                rcases hz with z | z
                · exact .inl (by rw [eus]; exact z)
                · exact .inr fun b mb => hass_shr (by rw [eu]; simpa using z) b mb
              obtain ⟨S2, st2, pu2, dj2⟩ := slots_after (B := us') S1 ok1 cr st1 pu1 hn hmv c3 (fun c mc => arg_ok S1 ok1 (c3 c mc)) hr nu oku (fun u m => m) wf st hf
              exact hE σ c d H' (h _ H' d S2 (by rw [ers_put, ers_wipe, e1, eu]; rfl) (st2.sub fun w mw => List.mem_append_right _ mw) xr)
            · rw [if_neg hz] at h; exact h.elim
      · rw [if_neg hk] at h; exact h.elim

/-! ### a def by its body -/
def outs (io : List Nat) (s : List D) : List D := io.map fun i => s.getD i .un
def fnD (n : Nat) (io : List Nat) (body : S) : FD := fun args => match body (args ++ List.replicate (n - args.length) .un) with
  | .rt x s => .ok (x, outs io s)
  | .nx s => .ok (.v .non, outs io s)
  | .ex c fs s => .ex c fs (outs io s)
  | _ => .no
def pmIx (b : Nat) : List PM → List Nat
  | [] => []
  | .io :: r => b :: pmIx (b + 1) r
  | .val :: r => pmIx (b + 1) r
  | .mv :: r => pmIx (b + 1) r
theorem pick_all {K : PySem.W.Frag} {io : List Nat} {ρ : Nat → V} {ts : List T} {σ : L2.St} {H : Hp} (S : Sim K io ρ ts σ H) (hn : io.Nodup) : ∃ us : List T, T.ers us = outs io (T.ers ts) ∧ T.rts us = io.map ρ ∧ (∀ u ∈ us, u ≠ .un ∧ ∃ i ∈ io, ts[i]? = some u) ∧ WF us := by
  have go : ∀ l : List Nat, (∀ i ∈ l, i ∈ io) → l.Nodup → ∃ us : List T, T.ers us = outs l (T.ers ts) ∧ T.rts us = l.map ρ ∧ (∀ u ∈ us, u ≠ .un ∧ ∃ i ∈ l, ts[i]? = some u) ∧ WF us := by
    intro l
    induction l with
    | nil => exact fun _ _ => ⟨[], rfl, rfl, fun _ m => (nomatch m), WF.nil⟩
    | cons i r ih =>
      intro hi hn
      obtain ⟨us, u1, u2, u3, u4⟩ := ih (fun j m => hi j (List.mem_cons_of_mem _ m)) (List.nodup_cons.mp hn).2
      obtain ⟨t, e, ne, er⟩ := S.pin i (hi i List.mem_cons_self)
      refine ⟨t :: us, ?_, by rw [T.rts, u2, er]; rfl, fun u m => ?_, WF.cons (S.wf.mem (List.mem_of_getElem? e)) (fun u m => ?_) u4⟩
      · rw [T.ers, u1]
        show _ = (T.ers ts).getD i .un :: outs r (T.ers ts)
        rw [T.ers_map, List.getD_eq_getElem?_getD, List.getElem?_map, e]; rfl
      · rcases List.mem_cons.mp m with rfl | m
        · exact ⟨ne, i, List.mem_cons_self, e⟩
        · obtain ⟨q1, j, q2, q3⟩ := u3 u m
          exact ⟨q1, j, List.mem_cons_of_mem _ q2, q3⟩
      · obtain ⟨_, j, mj, ej⟩ := u3 u m
        exact S.wf.get (fun z => (List.nodup_cons.mp hn).1 (by rw [z]; exact mj)) e ej
  exact go io (fun _ m => m) hn
end VS
namespace VS
open PySem PySem.Spec PyProof.Rows L2

theorem iov_ix : ∀ (pm : List PM) (pre vs : List V), pm.length = vs.length → iov pm vs = (pmIx pre.length pm).map fun i => (pre ++ vs).getD i .non
  | [], pre, vs, h => by
    cases vs with
    | nil => rfl
    | cons _ _ => cases h
  | p :: pm, pre, [], h => by cases h
  | p :: pm, pre, v :: vs, h => by
    have ih := iov_ix pm (pre ++ [v]) vs (by simpa using h)
    rw [List.length_append, List.append_assoc] at ih
    have ih : iov pm vs = (pmIx (pre.length + 1) pm).map fun i => (pre ++ v :: vs).getD i .non := ih
    cases p with
    | val => exact ih
    | mv => exact ih
    | io =>
      show v :: iov pm vs = (pre.length :: pmIx (pre.length + 1) pm).map _
      rw [List.map_cons, ih]
      congr 1
      rw [List.getD_eq_getElem?_getD, List.getElem?_append_right (Nat.le_refl _), Nat.sub_self]; rfl
theorem pmIx_lt : ∀ (pm : List PM) (b i : Nat), i ∈ pmIx b pm → b ≤ i ∧ i < b + pm.length
  | [], b, i, h => by cases h
  | p :: pm, b, i, h => by
    have go : i ∈ pmIx (b + 1) pm → b ≤ i ∧ i < b + (p :: pm).length := fun h => by
      have := pmIx_lt pm (b + 1) i h
      rw [List.length_cons]; omega
    cases p with
    | val => exact go h
    | mv => exact go h
    | io =>
      rcases List.mem_cons.mp (show i ∈ b :: pmIx (b + 1) pm from h) with rfl | h
      · rw [List.length_cons]; omega
      · exact go h
theorem pmIx_nd : ∀ (pm : List PM) (b : Nat), (pmIx b pm).Nodup
  | [], b => List.nodup_nil
  | .val :: pm, b => pmIx_nd pm (b + 1)
  | .mv :: pm, b => pmIx_nd pm (b + 1)
  | .io :: pm, b => List.nodup_cons.mpr ⟨fun h => by have := (pmIx_lt pm (b + 1) b h).1; omega, pmIx_nd pm (b + 1)⟩
theorem wf_un (n : Nat) : WF (List.replicate n T.un) := by
  induction n with
  | zero => exact WF.nil
  | succ n ih =>
    rw [List.replicate_succ]
    exact WF.cons trivial (fun u m => by rw [List.eq_of_mem_replicate m]; exact dj_un) ih
theorem ers_un (n : Nat) : T.ers (List.replicate n T.un) = List.replicate n D.un := by rw [T.ers_map, List.map_replicate]; rfl
/-- a body keeps what its def promises -/
theorem body_ok {K : PySem.W.Frag} {pm : List PM} {md : List Nat} {d : S} {t : TS} {N : List Str} {vs : List V} {H : Hp} {Q : VK} {E : XK} (hl : pm.length ≤ N.length) (hb : SRd K (fun c d _ H => E c d H) (pmIx 0 pm) md t d)
    (h : spOf K pm (fnD N.length (pmIx 0 pm) d) vs H Q E) : t { nx := fun _ H' => Q .non H', rt := Q } (L2.start N vs) H := by
  obtain ⟨ts, hv, ok, wf, len, val, nu, post⟩ := h
  have lv : vs.length = ts.length := by rw [hv, rts_len]
  have iox : iov pm vs = (pmIx 0 pm).map fun i => vs.getD i .non := iov_ix pm [] vs (by rw [lv, len])
  have S0 : Sim K (pmIx 0 pm) (fun i => vs.getD i .non) (ts ++ List.replicate (N.length - ts.length) .un) (L2.start N vs) H := by
    refine ⟨?_, fun i w e ne => ?_, fun w m => ?_, WF.append wf (wf_un _) fun u _ w mw => ?_, fun i mi => ?_⟩
    · unfold L2.start
      rw [List.length_append, List.length_append, List.length_replicate, List.length_replicate, List.length_map, lv]
    · by_cases hi : i < ts.length
      · rw [List.getElem?_append_left hi] at e
        unfold L2.start
        rw [List.getElem?_append_left (by rw [List.length_map, lv]; exact hi), List.getElem?_map, hv, T.rts_map, List.getElem?_map, e]; rfl
      · rw [List.getElem?_append_right (by omega), List.getElem?_replicate] at e
        split at e
        · exact absurd (Option.some.inj e).symm ne
        · cases e
    · rcases List.mem_append.mp m with m | m
      · exact ok w m
      · rw [List.eq_of_mem_replicate m]; exact trivial
    · rw [List.eq_of_mem_replicate mw]; exact dj_un.symm
    · have := pmIx_lt pm 0 i mi
      have hi : i < ts.length := by omega
      refine ⟨ts[i], by rw [List.getElem?_append_left hi, List.getElem?_eq_getElem hi], nu _ (List.getElem_mem hi), ?_⟩
      rw [List.getD_eq_getElem?_getD, hv, T.rts_map, List.getElem?_map, List.getElem?_eq_getElem hi]; rfl
  have unA : ∀ {H' : Hp} {B : List T}, Step H (ts ++ List.replicate (N.length - ts.length) .un) H' B → Step H ts H' B := fun {H' B} st => by
    have back : ∀ {p : NK → Bool} {a : Addr}, (∃ u ∈ ts ++ List.replicate (N.length - ts.length) T.un, a ∈ u.col p) → ∃ u ∈ ts, a ∈ u.col p := fun ⟨u, mu, ma⟩ => by
      rcases List.mem_append.mp mu with m | m
      · exact ⟨u, m, ma⟩
      · rw [List.eq_of_mem_replicate m] at ma; cases ma
    refine ⟨fun b o e n => st.fr b o e fun u mu => ?_, st.al, fun b mb a ma => (st.ow b mb a ma).imp back id, fun b mb a ma => (st.tr b mb a ma).imp back id, fun b mb a ma => (st.im b mb a ma).imp back id⟩
    rcases List.mem_append.mp mu with m | m
    · exact n u m
    · rw [List.eq_of_mem_replicate m]; intro z; cases z
  have ee : T.ers (ts ++ List.replicate (N.length - ts.length) .un) = T.ers ts ++ List.replicate (N.length - (T.ers ts).length) .un := by rw [ers_append, ers_un, ers_len]
  refine hb _ _ _ _ _ S0 ?_
  rw [ee]
  unfold fnD at post
  have fin : ∀ {x : D} {s : List D} {ts' : List T} {σ' : L2.St} {t' : T} {H' : Hp}, FPost K pm ts vs H Q E (.ok (x, outs (pmIx 0 pm) s)) → Sim K (pmIx 0 pm) (fun i => vs.getD i .non) ts' σ' H' → T.ers ts' = s → t'.er = x → t'.ok K H' → RRel (pmIx 0 pm) t' ts' →
      Step H (ts ++ List.replicate (N.length - ts.length) .un) H' (t' :: ts') → Q t'.rt H' := fun post S' e' et okt rr st => by
    obtain ⟨us, u1, u2, u3, u4⟩ := pick_all S' (pmIx_nd pm 0)
    refine post _ us _ et (by rw [u1, e']) (by rw [u2, iox]) (fun u m => (u3 u m).1) okt (fun u m => ?_) (WF.cons rr.1 (fun u m => ?_) u4) ((unA st).sub fun w m => ?_)
    · obtain ⟨_, i, _, e⟩ := u3 u m
      exact S'.ok u (List.mem_of_getElem? e)
    · obtain ⟨_, i, mi, e⟩ := u3 u m
      exact rr.2 i mi u e
    · rcases List.mem_cons.mp m with rfl | m
      · exact List.mem_cons_self
      · obtain ⟨_, i, _, e⟩ := u3 w m
        exact List.mem_cons_of_mem _ (List.mem_of_getElem? e)
  cases ed : d (T.ers ts ++ List.replicate (N.length - (T.ers ts).length) .un) with
  | no => rw [ed] at post; exact post
  | bk s => rw [ed] at post; exact post.elim
  | ct s => rw [ed] at post; exact post.elim
  | rt x s =>
    rw [ed] at post
    exact fun ts' σ' t' H' S' e' et okt rr st => fin post S' e' et okt rr st
  | nx s =>
    rw [ed] at post
    exact fun ts' σ' H' S' e' st pu => fin (t' := .v .non) post S' e' rfl trivial ⟨trivial, fun i _ u _ => ⟨fun a m => (nomatch m), fun a _ m => (nomatch m)⟩⟩ st.consV
  | ex c fs s =>
    rw [ed] at post
    intro ts' σ' H' dd S' e' st xr
    obtain ⟨us, u1, u2, u3, u4⟩ := pick_all S' (pmIx_nd pm 0)
    refine post us H' dd (by rw [u1, e']) (by rw [u2, iox]) (fun u m => (u3 u m).1) (fun u m => ?_) u4 ((unA st).sub fun w m => ?_) xr
    · obtain ⟨_, i, _, e⟩ := u3 u m
      exact S'.ok u (List.mem_of_getElem? e)
    · obtain ⟨_, i, _, e⟩ := u3 w m
      exact List.mem_of_getElem? e
theorem sp_len {K : PySem.W.Frag} {pm : List PM} {F : FD} {vs : List V} {H : Hp} {Q : VK} {E : XK} (h : spOf K pm F vs H Q E) : vs.length = pm.length := by
  obtain ⟨ts, hv, _, _, len, _⟩ := h
  rw [hv, rts_len, len]
section
variable {P : Program} {w : World} {K : PySem.W.Frag} {mg : Str → Option Value} {base : Heap}
def fnN (n : Nat) (io : List Nat) (body : S) : FD := fun a => nox (fnD n io body a)
/-- THE RULE for a def that lets nothing out -/
theorem fn_vs {x qual : Str} {st : Stmt} {f : Addr} {fd : FuncData} {N ps : List Str} {k : Nat} (pm : List PM) {d : S} (F : Fun K x qual st f fd) (S : FnScope N ps (defScope st)) (hp : pm.length = ps.length) (hl : pm.length ≤ N.length)
    (hbody : ∀ (cdv : Value) (A : Around) (outer : List Env) (s : Shared) (H : Hp) (E : XK), Room k (A.deeper (envOfC qual (defScope st) s.heap.objs.size f cdv)) →
      ∃ t md, DSs (cxOf CX0 P w K mg base N qual (defScope st) f cdv A outer s H E).nox W0 (pmIx 0 pm) md (defBody st) t d) : FnOk P w K mg base CX0 (k + 1) f fd ps (spOf K pm (fnN N.length (pmIx 0 pm) d)) := by
  refine F.ok S (fun vs H Q E h => by rw [sp_len h, hp]) fun cdv A outer s H vs Q E hr h => ?_
  obtain ⟨t, md, hb⟩ := hbody cdv A outer s H E hr
  refine ⟨t, hb.ps, ?_⟩
  obtain ⟨ts, hv, ok, wf, len, val, nu, post⟩ := h
  have post0 : FPost K pm ts vs H Q (fun _ _ _ => False) (fnD N.length (pmIx 0 pm) d (T.ers ts)) := by
    unfold fnN at post
    cases e : fnD N.length (pmIx 0 pm) d (T.ers ts) with
    | no => rw [e] at post; exact post.elim
    | ok r => rw [e] at post; exact post
    | ex c fs os => rw [e] at post; exact post.elim
  exact body_ok (E := fun _ _ _ => False) hl hb.rd ⟨ts, hv, ok, wf, len, val, nu, post0⟩
end
end VS
namespace VS
open PySem PySem.Spec PyProof.Rows L2

/-! ### a place within a slot's tree -/
def D.at : List Nat → D → Option D
  | [], d => some d
  | c :: p, .nd _ xs => match xs[c]? with
    | some x => D.at p x
    | none => none
  | _ :: _, _ => none
def T.at : List Nat → T → Option T
  | [], d => some d
  | c :: p, .nd _ _ xs => match xs[c]? with
    | some x => T.at p x
    | none => none
  | _ :: _, _ => none
def D.put (y : D) : List Nat → D → D
  | [], _ => y
  | c :: p, .nd k xs => match xs[c]? with
    | some x => .nd k (xs.set c (D.put y p x))
    | none => .nd k xs
  | _ :: _, d => d
def T.put (y : T) : List Nat → T → T
  | [], _ => y
  | c :: p, .nd a k xs => match xs[c]? with
    | some x => .nd a k (xs.set c (T.put y p x))
    | none => .nd a k xs
  | _ :: _, d => d
theorem at_er : ∀ (p : List Nat) (t : T) (d : D), D.at p t.er = some d → ∃ n, T.at p t = some n ∧ n.er = d
  | [], t, d, h => ⟨t, rfl, Option.some.inj h⟩
  | c :: p, .un, d, h => by cases h
  | c :: p, .v x, d, h => by cases h
  | c :: p, .nd a k xs, d, h => by
    rw [T.er, D.at] at h
    cases e : (T.ers xs)[c]? with
    | none => rw [e] at h; cases h
    | some y =>
      rw [e] at h
      obtain ⟨u, e1, e2⟩ := ers_get e
      rw [← e2] at h
      obtain ⟨n, h1, h2⟩ := at_er p u d h
      exact ⟨n, by rw [T.at, e1]; exact h1, h2⟩
theorem put_er (y : T) : ∀ (p : List Nat) (t : T), (T.put y p t).er = D.put y.er p t.er
  | [], t => rfl
  | c :: p, .un => rfl
  | c :: p, .v x => rfl
  | c :: p, .nd a k xs => by
    rw [T.put, T.er, D.put]
    cases e : xs[c]? with
    | none =>
      have : (T.ers xs)[c]? = none := by rw [T.ers_map, List.getElem?_map, e]; rfl
      rw [this]; rfl
    | some x =>
      have : (T.ers xs)[c]? = some x.er := by rw [T.ers_map, List.getElem?_map, e]; rfl
      rw [this]
      show T.er (.nd a k (xs.set c (T.put y p x))) = _
      rw [T.er, ers_set, put_er y p x]
theorem at_sbt : ∀ (p : List Nat) (t n : T), T.at p t = some n → Sbt n t
  | [], t, n, h => by cases h; exact .refl _
  | c :: p, .un, n, h => by cases h
  | c :: p, .v x, n, h => by cases h
  | c :: p, .nd a k xs, n, h => by
    rw [T.at] at h
    cases e : xs[c]? with
    | none => rw [e] at h; cases h
    | some x => rw [e] at h; exact .child (List.mem_of_getElem? e) (at_sbt p x n h)
/-- the nodes of x' are nodes of x or of ys -/
structure Frm (x' x : T) (ys : List T) : Prop where
  ow : ∀ a ∈ x'.own, a ∈ x.own ∨ ∃ y ∈ ys, a ∈ y.own
  tr : ∀ a ∈ x'.trk, a ∈ x.trk ∨ ∃ y ∈ ys, a ∈ y.trk
  im : ∀ a ∈ x'.imm, a ∈ x.imm ∨ ∃ y ∈ ys, a ∈ y.imm
theorem Frm.dj {x' x w : T} {ys : List T} (f : Frm x' x ys) (h : Dj x w) (hy : ∀ y ∈ ys, Dj y w) : Dj x' w :=
  ⟨fun a ma => (f.ow a ma).elim (h.1 a) fun ⟨y, my, m⟩ => (hy y my).1 a m, fun a ma z => (f.tr a z).elim (h.2 a ma) fun ⟨y, my, m⟩ => (hy y my).2 a ma m⟩
theorem rts_set_same {xs : List T} {c : Nat} {x y : T} (e : xs[c]? = some x) (h : y.rt = x.rt) : T.rts (xs.set c y) = T.rts xs := by
  rw [T.rts_map, T.rts_map, List.map_set, h]
  apply List.ext_getElem?
  intro j
  by_cases hj : c = j
  · subst hj
    have hl := (List.getElem?_eq_some_iff.mp e).1
    rw [List.getElem?_set_self (by rw [List.length_map]; exact hl), List.getElem?_map, e]; rfl
  · rw [List.getElem?_set_ne hj]
theorem keep_updA {K : PySem.W.Frag} {H : Hp} {a : Addr} {u o : HO} {t : T} (ok : t.ok K H) (ha : H a = some u) (hm : isM u = true) (n : a ∉ t.trk) : t.ok K (upd H a o) := T.ok_keep ok fun b q e z => by
  have : b ≠ a := by
    rintro rfl
    rcases z with z | z
    · exact n z
    · rw [ha] at e; cases e; rw [hm] at z; cases z
  rw [upd_ne this]; exact e
/-- the node at the path is changed: the whole tree -/
theorem put_ok {K : PySem.W.Frag} {H : Hp} {a : Addr} {o u : HO} {k k' : NK} {xs xs' : List T} {ys : List T} (ha : H a = some u) (hm : isM u = true) (hown : k.isOwn = true) (okn : (T.nd a k' xs').ok K (upd H a o)) (gn : (T.nd a k' xs').good) (fr : Frm (.nd a k' xs') (.nd a k xs) ys) :
    ∀ (p : List Nat) (t : T), t.ok K H → t.good → (∀ y ∈ ys, Dj y t) → T.at p t = some (.nd a k xs) → (T.put (.nd a k' xs') p t).ok K (upd H a o) ∧ (T.put (.nd a k' xs') p t).good ∧ (T.put (.nd a k' xs') p t).rt = t.rt ∧ Frm (T.put (.nd a k' xs') p t) t ys
  | [], t, ok, g, dy, h => by
    cases h
    exact ⟨okn, gn, rfl, fr⟩
  | c :: p, .un, ok, g, dy, h => by cases h
  | c :: p, .v x, ok, g, dy, h => by cases h
  | c :: p, .nd b kb zs, ok, g, dy, h => by
    rw [T.at] at h
    cases e : zs[c]? with
    | none => rw [e] at h; cases h
    | some x =>
      rw [e] at h
      have mx := List.mem_of_getElem? e
      have up : ∀ {q : NK → Bool} {z : Addr} {w : T}, w ∈ zs → z ∈ w.col q → z ∈ (T.nd b kb zs).col q := fun mw mz => T.mem_col.mpr (.inr ⟨_, mw, mz⟩)
      have g0 := g
      rw [T.good] at g
      have dyx : ∀ y ∈ ys, Dj y x := fun y my => ⟨fun z mz q => (dy y my).1 z mz (up mx q), fun z mz q => (dy y my).2 z (up mx mz) q⟩
      obtain ⟨i1, i2, i3, i4⟩ := put_ok ha hm hown okn gn fr p x (ok.child mx) (goods_mem g.2.2 mx) dyx h
      have ax : a ∈ x.own := (at_sbt p x _ h).col (T.mem_col.mpr (.inl ⟨hown, rfl⟩))
      rw [T.put, e]
      -- the siblings
      have sib : ∀ (j : Nat) (w : T), j ≠ c → zs[j]? = some w → Dj x w := fun j w hj ew => WF.get g.2.2 (Ne.symm hj) e ew
      have dys : ∀ w ∈ zs, ∀ y ∈ ys, Dj y w := fun w mw y my => ⟨fun z mz q => (dy y my).1 z mz (up mw q), fun z mz q => (dy y my).2 z (up mw mz) q⟩
      have inv : ∀ {w : T}, w ∈ zs.set c (T.put (.nd a k' xs') p x) → w = T.put (.nd a k' xs') p x ∨ ∃ j, j ≠ c ∧ zs[j]? = some w := fun {w} m => by
        obtain ⟨j, ej⟩ := List.getElem?_of_mem m
        by_cases hj : j = c
        · subst hj
          rw [List.getElem?_set_self (List.getElem?_eq_some_iff.mp e).1] at ej
          exact .inl (Option.some.inj ej).symm
        · rw [List.getElem?_set_ne (Ne.symm hj)] at ej
          exact .inr ⟨j, hj, ej⟩
      have frAll : Frm (.nd b kb (zs.set c (T.put (.nd a k' xs') p x))) (.nd b kb zs) ys := by
        have go : ∀ {q : NK → Bool}, (∀ z ∈ (T.put (.nd a k' xs') p x).col q, z ∈ x.col q ∨ ∃ y ∈ ys, z ∈ y.col q) → ∀ z ∈ (T.nd b kb (zs.set c (T.put (.nd a k' xs') p x))).col q, z ∈ (T.nd b kb zs).col q ∨ ∃ y ∈ ys, z ∈ y.col q := fun hq z mz => by
          rcases T.mem_col.mp mz with m | ⟨w, mw, m⟩
          · exact .inl (T.mem_col.mpr (.inl m))
          · rcases inv mw with rfl | ⟨j, _, ej⟩
            · exact (hq z m).imp (up mx) id
            · exact .inl (up (List.mem_of_getElem? ej) m)
        exact ⟨go i4.ow, go i4.tr, go i4.im⟩
      refine ⟨?_, ?_, rfl, frAll⟩
      · show T.ok K (upd H a o) (.nd b kb (zs.set c (T.put (.nd a k' xs') p x)))
        rw [T.ok, rts_set_same e i3]
        refine ⟨ok.node.keep fun q eq hz => ?_, T.oks_all.mpr fun w mw => ?_⟩
        · have : b ≠ a := by
            rintro rfl
            cases hk : kb.isTrk with
            | true => exact g.2.1 hk (T.mem_cols.mpr ⟨x, mx, ax⟩)
            | false => rw [ha] at eq; cases eq; rw [hz hk] at hm; cases hm
          rw [upd_ne this]; exact eq
        · rcases inv mw with rfl | ⟨j, hj, ej⟩
          · exact i1
          · exact keep_updA (ok.child (List.mem_of_getElem? ej)) ha hm ((sib j w hj ej).1 a ax)
      · show T.good (.nd b kb (zs.set c (T.put (.nd a k' xs') p x)))
        rw [T.good]
        refine ⟨fun hk m => ?_, fun hk m => ?_, WF.set g.2.2 i2 fun j w hj ew => i4.dj (sib j w hj ew) (dys w (List.mem_of_getElem? ew))⟩
        · obtain ⟨w, mw, mz⟩ := T.mem_cols.mp m
          rcases inv mw with rfl | ⟨j, hj, ej⟩
          · rcases i4.tr b mz with q | ⟨y, my, q⟩
            · exact g.1 hk (T.mem_cols.mpr ⟨x, mx, q⟩)
            · exact (dy y my).2 b (T.mem_col.mpr (.inl ⟨hk, rfl⟩)) q
          · exact g.1 hk (T.mem_cols.mpr ⟨w, List.mem_of_getElem? ej, mz⟩)
        · obtain ⟨w, mw, mz⟩ := T.mem_cols.mp m
          rcases inv mw with rfl | ⟨j, hj, ej⟩
          · rcases i4.ow b mz with q | ⟨y, my, q⟩
            · exact g.2.1 hk (T.mem_cols.mpr ⟨x, mx, q⟩)
            · exact (dy y my).1 b q (T.mem_col.mpr (.inl ⟨hk, rfl⟩))
          · exact g.2.1 hk (T.mem_cols.mpr ⟨w, List.mem_of_getElem? ej, mz⟩)
/-- a slot's node changed: the slots, the step -/
theorem mut_fin {K : PySem.W.Frag} {io : List Nat} {ρ : Nat → V} {ts : List T} {σ : L2.St} {H : Hp} {i : Nat} {tr : T} {p : List Nat} {a : Addr} {o u : HO} {k k' : NK} {xs xs' : List T} {ys : List T} (S : Sim K io ρ ts σ H) (ei : ts[i]? = some tr) (hat : T.at p tr = some (.nd a k xs)) (ha : H a = some u) (hm : isM u = true) (hown : k.isOwn = true)
    (okn : (T.nd a k' xs').ok K (upd H a o)) (gn : (T.nd a k' xs').good) (fr : Frm (.nd a k' xs') (.nd a k xs) ys) (rel : ∀ y ∈ ys, TRel y ts) :
    Sim K io ρ (ts.set i (T.put (.nd a k' xs') p tr)) σ (upd H a o) ∧ (∀ {H0 : Hp} {A B : List T}, Step H0 A H (B ++ ts) → (∀ y ∈ ys, y ∈ B) → (∀ w ∈ B, True) → Step H0 A (upd H a o) (B ++ ts.set i (T.put (.nd a k' xs') p tr))) ∧ ∀ t : T, t.ok K H → TRel t ts → (∀ y ∈ ys, Dj t y) → t.ok K (upd H a o) ∧ TRel t (ts.set i (T.put (.nd a k' xs') p tr)) := by
  have mi := List.mem_of_getElem? ei
  obtain ⟨p1, p2, p3, p4⟩ := put_ok ha hm hown okn gn fr p tr (S.ok tr mi) (S.wf.mem mi) (fun y my => (rel y my).2 tr mi) hat
  have atr : a ∈ tr.own := (at_sbt p tr _ hat).col (T.mem_col.mpr (.inl ⟨hown, rfl⟩))
  have other : ∀ (j : Nat) (w : T), j ≠ i → ts[j]? = some w → Dj tr w := fun j w hj ew => S.wf.get (Ne.symm hj) ei ew
  have trun : tr ≠ .un := fun z => by rw [z] at atr; cases atr
  have inv : ∀ {w : T}, w ∈ ts.set i (T.put (.nd a k' xs') p tr) → w = T.put (.nd a k' xs') p tr ∨ ∃ j, j ≠ i ∧ ts[j]? = some w := fun {w} m => by
    obtain ⟨j, ej⟩ := List.getElem?_of_mem m
    by_cases hj : j = i
    · subst hj
      rw [List.getElem?_set_self (List.getElem?_eq_some_iff.mp ei).1] at ej
      exact .inl (Option.some.inj ej).symm
    · rw [List.getElem?_set_ne (Ne.symm hj)] at ej
      exact .inr ⟨j, hj, ej⟩
  have pun : T.put (.nd a k' xs') p tr ≠ .un := fun z => by
    cases p with
    | nil => cases z
    | cons c p =>
      cases tr with
      | un => exact trun rfl
      | v x => cases hat
      | nd b kb zs =>
        rw [T.put] at z
        cases e : zs[c]? with
        | none => rw [e] at z; cases z
        | some x => rw [e] at z; cases z
  refine ⟨⟨by rw [List.length_set]; exact S.len, fun j w e ne => ?_, fun w mw => ?_, S.wf.set p2 fun j w hj ew => p4.dj (other j w hj ew) fun y my => (rel y my).2 w (List.mem_of_getElem? ew), fun j mj => ?_⟩, fun {H0 A B} st hB _ => ?_, fun t okt rt dt => ?_⟩
  · by_cases hj : j = i
    · subst hj
      rw [List.getElem?_set_self (List.getElem?_eq_some_iff.mp ei).1] at e
      cases e
      rw [p3]; exact S.rt j tr ei trun
    · rw [List.getElem?_set_ne (Ne.symm hj)] at e
      exact S.rt j w e ne
  · rcases inv mw with rfl | ⟨j, hj, ej⟩
    · exact p1
    · exact keep_updA (S.ok w (List.mem_of_getElem? ej)) ha hm ((other j w hj ej).1 a atr)
  · obtain ⟨w, e, ne, r⟩ := S.pin j mj
    by_cases hj : j = i
    · subst hj
      rw [ei] at e; cases e
      exact ⟨_, by rw [List.getElem?_set_self (List.getElem?_eq_some_iff.mp ei).1], pun, by rw [p3]; exact r⟩
    · exact ⟨w, by rw [List.getElem?_set_ne (Ne.symm hj)]; exact e, ne, r⟩
  · have up : ∀ {q : NK → Bool}, (∀ z ∈ (T.put (.nd a k' xs') p tr).col q, z ∈ tr.col q ∨ ∃ y ∈ ys, z ∈ y.col q) → ∀ w ∈ B ++ ts.set i (T.put (.nd a k' xs') p tr), ∀ z ∈ w.col q, ∃ w' ∈ B ++ ts, z ∈ w'.col q := fun hq w mw z mz => by
      rcases List.mem_append.mp mw with m | m
      · exact ⟨w, List.mem_append_left _ m, mz⟩
      · rcases inv m with rfl | ⟨j, hj, ej⟩
        · rcases hq z mz with m | ⟨y, my, m⟩
          · exact ⟨tr, List.mem_append_right _ mi, m⟩
          · exact ⟨y, List.mem_append_left _ (hB y my), m⟩
        · exact ⟨w, List.mem_append_right _ (List.mem_of_getElem? ej), mz⟩
    refine ⟨fun b q e n => ?_, fun b e => ?_, fun w mw z mz => ?_, fun w mw z mz => ?_, fun w mw z mz => ?_⟩
    · by_cases hb : b = a
      · subst hb
        rcases st.ow tr (List.mem_append_right _ mi) b atr with ⟨w, mw, zw⟩ | q'
        · exact absurd zw (n w mw)
        · rw [e] at q'; cases q'
      · rw [upd_ne hb]; exact st.fr b q e n
    · by_cases hb : b = a
      · rw [hb, upd_same] at e; cases e
      · rw [upd_ne hb] at e; exact st.al b e
    · obtain ⟨w', mw', m⟩ := up p4.ow w mw z mz; exact st.ow w' mw' z m
    · obtain ⟨w', mw', m⟩ := up p4.tr w mw z mz; exact st.tr w' mw' z m
    · obtain ⟨w', mw', m⟩ := up p4.im w mw z mz; exact st.im w' mw' z m
  · refine ⟨keep_updA okt ha hm ((rt.2 tr mi).2 a atr), rt.1, fun w mw => ?_⟩
    rcases inv mw with rfl | ⟨j, hj, ej⟩
    · exact (p4.dj (rt.2 tr mi).symm fun y my => (dt y my).symm).symm
    · exact rt.2 w (List.mem_of_getElem? ej)
end VS
namespace VS
open PySem PySem.Spec PyProof.Rows L2

abbrev EP' := List D → R (List Nat × List D)
def PlPost (K : PySem.W.Frag) (W : WX) (io : List Nat) (ρ : Nat → V) (i : Nat) (md : List Nat) (ts : List T) (σ : L2.St) (H : Hp) (Q : VK) : R (List Nat × List D) → Prop
  | .ok (p, s) => ∀ ts' H' tr n, Sim K io ρ ts' σ H' → T.ers ts' = s → ts'[i]? = some tr → T.at p tr = some n → Step H ts H' ts' → (∀ j, j ∉ md → ts'[j]? = ts[j]?) → Q n.rt H'
  | .ex c fs s => ∀ ts' H' d, Sim K io ρ ts' σ H' → T.ers ts' = s → Step H ts H' ts' → XRel H' d fs → W c d σ H'
  | .no => False
def PlRd (K : PySem.W.Frag) (W : WX) (io : List Nat) (i : Nat) (md : List Nat) (t : TE) (d : EP') : Prop :=
  ∀ ρ ts σ H Q, Sim K io ρ ts σ H → PlPost K W io ρ i md ts σ H Q (d (T.ers ts)) → t σ H Q
structure DP (X : Cx) (W : WX) (io : List Nat) (i : Nat) (md : List Nat) (e : Expr) (t : TE) (d : EP') : Prop where
  pe : PE X e t
  rd : PlRd X.K W io i md t d
def dpN (i : Nat) : EP' := fun s => match s[i]? with
  | none => .no
  | some .un => .no
  | some _ => .ok ([], s)
/-- the items of a list or a tuple -/
def D.kids : D → Option (List D)
  | .nd .tup xs => some xs
  | .nd .scr xs => some xs
  | .nd (.lst _) xs => some xs
  | _ => none
def dpIx (i : Nat) (dp : EP') (db : E) : EP' := fun s => (dp s).bind fun q => (db q.2).bind fun r => match r.1 with
  | .v (.int j) => match r.2[i]? with
    | none => .no
    | some t => match D.at q.1 t with
      | none => .no
      | some n => match n.kids with
        | none => .no
        | some xs => match ixN xs.length j with
          | none => .no
          | some c => .ok (q.1 ++ [c], r.2)
  | _ => .no
theorem at_snoc : ∀ (p : List Nat) (c : Nat) (t n : T), T.at (p ++ [c]) t = some n → ∃ a k xs, T.at p t = some (.nd a k xs) ∧ xs[c]? = some n
  | [], c, .un, n, h => by cases h
  | [], c, .v x, n, h => by cases h
  | [], c, .nd a k xs, n, h => by
    rw [List.nil_append, T.at] at h
    cases e : xs[c]? with
    | none => rw [e] at h; cases h
    | some x => rw [e] at h; cases h; exact ⟨a, k, xs, rfl, e⟩
  | d :: p, c, .un, n, h => by cases h
  | d :: p, c, .v x, n, h => by cases h
  | d :: p, c, .nd a k xs, n, h => by
    rw [List.cons_append, T.at] at h
    cases e : xs[d]? with
    | none => rw [e] at h; cases h
    | some x =>
      rw [e] at h
      obtain ⟨b, kb, zs, h1, h2⟩ := at_snoc p c x n h
      exact ⟨b, kb, zs, by rw [T.at, e]; exact h1, h2⟩
theorem at_un : ∀ (p : List Nat) (t : T) (d : D), D.at p t.er = some d → d ≠ .un → ∃ n, T.at p t = some n ∧ n.er = d ∧ n ≠ .un := fun p t d h hd => by
  obtain ⟨n, h1, h2⟩ := at_er p t d h
  exact ⟨n, h1, h2, er_un (by rw [h2]; exact hd)⟩
section
variable {K : PySem.W.Frag} {W : WX} {io : List Nat}
theorem pl_n {i : Nat} : PlRd K W io i [] (tVar i) (dpN i) := fun ρ ts σ H Q S h => by
  unfold dpN at h
  cases e : (T.ers ts)[i]? with
  | none => rw [e] at h; exact h.elim
  | some d =>
    obtain ⟨t, et, ed⟩ := ers_get e
    rw [e] at h
    have go : t ≠ .un → PlPost K W io ρ i [] ts σ H Q (.ok ([], T.ers ts)) → tVar i σ H Q := fun ne h => ⟨t.rt, S.rt i t et ne, h ts H t t S rfl et rfl Step.refl fun _ _ => rfl⟩
    cases d with
    | un => exact h.elim
    | v x => exact go (er_un (by rw [ed]; intro z; cases z)) h
    | nd k xs => exact go (er_un (by rw [ed]; intro z; cases z)) h
theorem kids_sq {H : Hp} {t : T} {xs : List D} (ok : t.ok K H) (h : t.er.kids = some xs) : ∃ a k us, t = .nd a k us ∧ T.ers us = xs ∧ (SqL K H a (T.rts us) ∨ SqT K H a (T.rts us)) := by
  unfold D.kids at h
  split at h
  · rename_i e; obtain ⟨a, us, rfl, e2⟩ := er_nd e; cases h; exact ⟨a, _, us, rfl, e2, .inr ok.sqT⟩
  · rename_i e; obtain ⟨a, us, rfl, e2⟩ := er_nd e; cases h; exact ⟨a, _, us, rfl, e2, .inl ok.sqS⟩
  · rename_i e; obtain ⟨a, us, rfl, e2⟩ := er_nd e; cases h; exact ⟨a, _, us, rfl, e2, .inl ok.sqL⟩
  · cases h
theorem rIx_of {H : Hp} {a : Addr} {us : List T} {j : Int} {c : Nat} {u : T} {Q : VK} (h : SqL K H a (T.rts us) ∨ SqT K H a (T.rts us)) (hc : ixN us.length j = some c) (e : us[c]? = some u) (q : Q u.rt H) : rIx K (.ref a) (.int j) H Q := by
  have at' : atI (T.rts us) j = some u.rt := by
    unfold atI
    rw [rts_len, hc]
    show (T.rts us)[c]? = _
    rw [T.rts_map, List.getElem?_map, e]; rfl
  rcases h with h | h
  · exact .inl ⟨a, _, j, _, rfl, rfl, h, at', q⟩
  · exact .inr (.inl ⟨a, _, j, _, rfl, rfl, h, at', q⟩)
theorem pl_ix {i : Nat} {m : Md} {d1 d2 : List Nat} {tp tb : TE} {dp : EP'} {db : E} (hp : PlRd K W io i d1 tp dp) (hb : ERd K W io m d2 tb db) (hi : d2.contains i = false) : PlRd K W io i (d1 ++ d2) (tOp (rIx K) tp tb) (dpIx i dp db) := fun ρ ts σ H Q S h => by
  have hi' : i ∉ d2 := by simpa using hi
  refine hp ρ ts σ H _ S ?_
  unfold dpIx at h
  cases ea : dp (T.ers ts) with
  | no => rw [ea] at h; exact h
  | ex c fs s => rw [ea] at h; exact h
  | ok q =>
    obtain ⟨p, s⟩ := q
    rw [ea] at h
    intro ts1 H1 tr n S1 e1 ei en st1 pu1
    simp only [R.bind] at h
    refine hb ρ ts1 σ H1 _ S1 ?_
    rw [e1]
    cases eb : db s with
    | no => rw [eb] at h; exact h
    | ex c fs s2 => rw [eb] at h; exact fun ts2 H2 d S2 e2 st2 x => h ts2 H2 d S2 e2 (st1.trans st2) x
    | ok r =>
      obtain ⟨x, s2⟩ := r
      rw [eb] at h
      intro ts2 t H2 S2 e2 et ok2 mr2 st2 pu2
      have ei2 : ts2[i]? = some tr := (pu2 i hi').trans ei
      have ok2' := S2.ok tr (List.mem_of_getElem? ei2)
      simp only at h
      split at h
      · have := er_v et; subst this
        rename_i j
        have es : s2[i]? = some tr.er := by rw [← e2, T.ers_map, List.getElem?_map, ei2]; rfl
        rw [es] at h
        simp only at h
        cases ed : D.at p tr.er with
        | none => rw [ed] at h; exact h.elim
        | some d =>
          obtain ⟨n', h1, h2⟩ := at_er p tr d ed
          rw [en] at h1; cases h1
          rw [ed] at h
          simp only at h
          cases ek : d.kids with
          | none => rw [ek] at h; exact h.elim
          | some xs =>
            rw [ek] at h
            simp only at h
            obtain ⟨a, k, us, rfl, eu, sq⟩ := kids_sq ((at_sbt p tr n en).ok ok2') (by rw [h2]; exact ek)
            cases ec : ixN xs.length j with
            | none => rw [ec] at h; exact h.elim
            | some c =>
              rw [ec] at h
              simp only at h
              have hc : ixN us.length j = some c := by rw [← ers_len us, eu]; exact ec
              have hcl := (ixN_seq hc).2.1
              -- the item
              have hat : T.at (p ++ [c]) tr = some us[c] := by
                have go : ∀ (p : List Nat) (t : T), T.at p t = some (.nd a k us) → T.at (p ++ [c]) t = some us[c] := by
                  intro p
                  induction p with
                  | nil => intro t e; cases e; rw [List.nil_append, T.at, List.getElem?_eq_getElem hcl]; rfl
                  | cons b p ih =>
                    intro t e
                    cases t with
                    | un => cases e
                    | v x => cases e
                    | nd a' k' zs =>
                      rw [T.at] at e
                      rw [List.cons_append, T.at]
                      cases ez : zs[b]? with
                      | none => rw [ez] at e; cases e
                      | some z => rw [ez] at e; exact ih z e
                exact go p tr en
              exact rIx_of sq hc (List.getElem?_eq_getElem hcl) (h ts2 H2 tr us[c] S2 e2 ei2 hat (st1.trans st2.tail) fun j hj => (pu2 j fun z => hj (List.mem_append_right _ z)).trans (pu1 j fun z => hj (List.mem_append_left _ z)))
      · exact h.elim
/-! ### a list changed by a method -/
/-- the list at the place, in the slots s -/
def lstAt (i : Nat) (p : List Nat) (s : List D) : Option (List D) := match s[i]? with
  | none => none
  | some t => match D.at p t with
    | some (.nd (.lst true) xs) => some xs
    | _ => none
def putAt (i : Nat) (p : List Nat) (y : D) (s : List D) : List D := match s[i]? with
  | none => s
  | some t => s.set i (D.put y p t)
theorem lstAt_of {ts : List T} {i : Nat} {p : List Nat} {xs : List D} {tr n : T} (h : lstAt i p (T.ers ts) = some xs) (ei : ts[i]? = some tr) (en : T.at p tr = some n) : ∃ a us, n = .nd a (.lst true) us ∧ T.ers us = xs := by
  unfold lstAt at h
  have es : (T.ers ts)[i]? = some tr.er := by rw [T.ers_map, List.getElem?_map, ei]; rfl
  rw [es] at h
  simp only at h
  split at h
  · rename_i e
    obtain ⟨n', h1, h2⟩ := at_er p tr _ e
    rw [en] at h1; cases h1
    obtain ⟨a, us, q1, q2⟩ := er_nd h2
    cases h
    exact ⟨a, us, q1, q2⟩
  · cases h
theorem putAt_of {ts : List T} {i : Nat} {p : List Nat} {tr y : T} (ei : ts[i]? = some tr) : T.ers (ts.set i (T.put y p tr)) = putAt i p y.er (T.ers ts) := by
  unfold putAt
  have es : (T.ers ts)[i]? = some tr.er := by rw [T.ers_map, List.getElem?_map, ei]; rfl
  rw [es, ers_set, put_er]
/-- a method that gives r and makes the list xs out of what is handed in: the outcome by data -/
abbrev LM := List D → List D → Option (List D × D)
/-- m by trees: the new list's children, and what is given, are the old children's or the arguments' -/
def LmOk (K : PySem.W.Frag) (r : V → List V → Hp → VK → Prop) (m : LM) : Prop :=
  ∀ (H : Hp) (a : Addr) (us ys : List T) (zs : List D) (d : D) (Q : VK), H a = some (.lst (T.rts us)) → (∀ y ∈ ys, y.ok K H) → (∀ u ∈ us, u.ok K H) → WF us → WF ys → (∀ u ∈ us, ∀ y ∈ ys, Dj u y) → (∀ y ∈ ys, y.er.hasOwn = true → True) → m (T.ers us) (T.ers ys) = some (zs, d) →
    (∀ (us' : List T) (g : T), T.ers us' = zs → g.er = d → WF (g :: us') → (∀ w ∈ g :: us', (∃ u ∈ us ++ ys, Sbt w u) ∨ (w.own = [] ∧ w.trk = [] ∧ w.imm = [])) → (∀ w ∈ g :: us', w.ok K H) → Q g.rt (upd H a (.lst (T.rts us')))) → r (.ref a) (T.rts ys) H Q
def dMeth (i : Nat) (ms : List Md) (dp : EP') (m : LM) (dA : EA) : E := fun s => (dp s).bind fun q => match lstAt i q.1 q.2 with
  | none => .no
  | some _ => (dA q.2).bind fun r => match lstAt i q.1 r.2 with
    | none => .no
    | some xs => if (List.zipWith (fun m (x : D) => m.isTmp || !x.hasOwn) ms r.1).all id = true then (match m xs r.1 with
      | none => .no
      | some z => .ok (z.2, putAt i q.1 (.nd (.lst true) z.1) r.2)) else .no
end
end VS
namespace VS
open PySem PySem.Spec PyProof.Rows L2

theorem put_dj {n n' g : T} {ys : List T} (fg : Frm g n ys) (dn : Dj g n') : ∀ (p : List Nat) (t : T), t.good → (∀ y ∈ ys, Dj y t) → T.at p t = some n → Dj g (T.put n' p t)
  | [], t, _, _, h => dn
  | c :: p, .un, _, _, h => by cases h
  | c :: p, .v x, _, _, h => by cases h
  | c :: p, .nd b kb zs, gd, dy, h => by
    rw [T.at] at h
    cases e : zs[c]? with
    | none => rw [e] at h; cases h
    | some x =>
      rw [e] at h
      have mx := List.mem_of_getElem? e
      have up : ∀ {q : NK → Bool} {z : Addr} {w : T}, w ∈ zs → z ∈ w.col q → z ∈ (T.nd b kb zs).col q := fun mw mz => T.mem_col.mpr (.inr ⟨_, mw, mz⟩)
      have gd0 := gd
      rw [T.good] at gd
      have dyw : ∀ w ∈ zs, ∀ y ∈ ys, Dj y w := fun w mw y my => ⟨fun z mz q => (dy y my).1 z mz (up mw q), fun z mz q => (dy y my).2 z (up mw mz) q⟩
      have sb := at_sbt p x n h
      have own : ∀ z ∈ g.own, z ∈ x.own ∨ ∃ y ∈ ys, z ∈ y.own := fun z mz => (fg.ow z mz).imp (fun m => sb.col m) id
      have trk : ∀ z ∈ g.trk, z ∈ x.trk ∨ ∃ y ∈ ys, z ∈ y.trk := fun z mz => (fg.tr z mz).imp (fun m => sb.col m) id
      have ih := put_dj fg dn p x (goods_mem gd.2.2 mx) (dyw x mx) h
      rw [T.put, e]
      have inv : ∀ {w : T}, w ∈ zs.set c (T.put n' p x) → w = T.put n' p x ∨ ∃ j, j ≠ c ∧ zs[j]? = some w := fun {w} m => by
        obtain ⟨j, ej⟩ := List.getElem?_of_mem m
        by_cases hj : j = c
        · subst hj
          rw [List.getElem?_set_self (List.getElem?_eq_some_iff.mp e).1] at ej
          exact .inl (Option.some.inj ej).symm
        · rw [List.getElem?_set_ne (Ne.symm hj)] at ej
          exact .inr ⟨j, hj, ej⟩
      have sib : ∀ w, (∃ j, j ≠ c ∧ zs[j]? = some w) → Dj g w := fun w ⟨j, hj, ej⟩ => by
        have d := WF.get gd.2.2 (Ne.symm hj) e ej
        have dw := dyw w (List.mem_of_getElem? ej)
        exact ⟨fun z mz q => (own z mz).elim (fun m => d.1 z m q) fun ⟨y, my, m⟩ => (dw y my).1 z m q, fun z mz q => (trk z q).elim (fun m => d.2 z mz m) fun ⟨y, my, m⟩ => (dw y my).2 z mz m⟩
      show Dj g (.nd b kb (zs.set c (T.put n' p x)))
      refine ⟨fun z mz q => ?_, fun z mz q => ?_⟩
      · rcases T.mem_col.mp q with ⟨hk, rfl⟩ | ⟨w, mw, m⟩
        · rcases own z mz with m | ⟨y, my, m⟩
          · exact gd.2.1 hk (T.mem_cols.mpr ⟨x, mx, m⟩)
          · exact (dy y my).1 z m (T.mem_col.mpr (.inl ⟨hk, rfl⟩))
        · rcases inv mw with rfl | hw
          · exact ih.1 z mz m
          · exact (sib w hw).1 z mz m
      · rcases T.mem_col.mp mz with ⟨hk, rfl⟩ | ⟨w, mw, m⟩
        · rcases trk z q with m | ⟨y, my, m⟩
          · exact gd.1 hk (T.mem_cols.mpr ⟨x, mx, m⟩)
          · exact (dy y my).2 z (T.mem_col.mpr (.inl ⟨hk, rfl⟩)) m
        · rcases inv mw with rfl | hw
          · exact ih.2 z m q
          · exact (sib w hw).2 z m q
theorem zip_chk {ms : List Md} {ys : List T} {ts : List T} (ar : ARel ms ys ts) (wf : WF ts) (h : (List.zipWith (fun m (x : D) => m.isTmp || !x.hasOwn) ms (T.ers ys)).all id = true) : (∀ y ∈ ys, TRel y ts) ∧ WF ys := by
  induction ms generalizing ys with
  | nil =>
    cases ys with
    | nil => exact ⟨fun _ m => (nomatch m), WF.nil⟩
    | cons _ _ => exact ar.elim
  | cons m ms ih =>
    cases ys with
    | nil => exact ar.elim
    | cons y ys =>
      rw [T.ers, List.zipWith_cons_cons, List.all_cons, Bool.and_eq_true] at h
      obtain ⟨i1, i2⟩ := ih ar.2.2 h.2
      have ty : TRel y ts := by
        cases m with
        | tmp => exact ar.1
        | vw src =>
          have : y.er.hasOwn = false := by
            cases q : y.er.hasOwn with
            | false => rfl
            | true => have := h.1; rw [q] at this; cases this
          exact ar.1.tmp wf (T.own_nil this)
      refine ⟨fun z mz => ?_, WF.cons ty.1 (fun u mu => ?_) i2⟩
      · rcases List.mem_cons.mp mz with rfl | mz
        · exact ty
        · exact i1 z mz
      · obtain ⟨j, ej⟩ := List.getElem?_of_mem mu
        have hl := ar.2.2.len
        have hj : j < ms.length := by rw [hl]; exact (List.getElem?_eq_some_iff.mp ej).1
        by_cases hm : m.isTmp = true ∨ (ms[j]).isTmp = true
        · exact ar.2.1 j u _ ej (List.getElem?_eq_getElem hj) hm
        · rw [not_or] at hm
          have oy : y.own = [] := T.own_nil (by
            cases q : y.er.hasOwn with
            | false => rfl
            | true =>
              have := h.1
              rw [q] at this
              cases m with
              | tmp => exact absurd rfl hm.1
              | vw _ => cases this)
          have ou : u.own = [] := T.own_nil (by
            have hz : (List.zipWith (fun m (x : D) => m.isTmp || !x.hasOwn) ms (T.ers ys))[j]? = some ((ms[j]).isTmp || !u.er.hasOwn) := by
              rw [List.getElem?_zipWith, List.getElem?_eq_getElem hj, T.ers_map, List.getElem?_map, ej]; rfl
            have := List.all_eq_true.mp h.2 _ (List.mem_of_getElem? hz)
            have this : ((ms[j]).isTmp || !u.er.hasOwn) = true := this
            cases q : u.er.hasOwn with
            | false => rfl
            | true =>
              rw [q] at this
              cases hmj : ms[j] with
              | tmp => rw [hmj] at hm; exact absurd rfl hm.2
              | vw _ => rw [hmj] at this; cases this)
          exact ⟨fun a ma => (by rw [oy] at ma; cases ma), fun a ma => (by rw [ou] at ma; cases ma)⟩
section
variable {K : PySem.W.Frag} {W : WX} {io : List Nat}
theorem erd_meth {i : Nat} {ms : List Md} {d1 d2 : List Nat} {to : TE} {t : TA} {r : V → List V → Hp → VK → Prop} {dp : EP'} {m : LM} {dA : EA} (hp : PlRd K W io i d1 to dp) (hA : ARd K W io ms d2 t dA) (hi : d2.contains i = false) (hm : LmOk K r m) :
    ERd K W io .tmp (d1 ++ (d2 ++ [i])) (tBM K "list" r to t) (dMeth i ms dp m dA) := fun ρ ts σ H Q S h => by
  have hi' : i ∉ d2 := by simpa using hi
  refine hp ρ ts σ H _ S ?_
  unfold dMeth at h
  cases ea : dp (T.ers ts) with
  | no => rw [ea] at h; exact h
  | ex c fs s => rw [ea] at h; exact h
  | ok q =>
    obtain ⟨p, s⟩ := q
    rw [ea] at h
    intro ts1 H1 tr n S1 e1 ei en st1 pu1
    simp only [R.bind] at h
    cases el : lstAt i p s with
    | none => rw [el] at h; exact h.elim
    | some xs0 =>
      rw [el] at h
      simp only at h
      obtain ⟨a, us, rfl, eu⟩ := lstAt_of (by rw [e1]; exact el) ei en
      have okn1 := (at_sbt p tr _ en).ok (S1.ok tr (List.mem_of_getElem? ei))
      refine ⟨.inl ⟨rfl, _, okn1.sqL⟩, ?_⟩
      refine hA ρ ts1 σ H1 _ S1 ?_
      rw [e1]
      cases eb : dA s with
      | no => rw [eb] at h; exact h
      | ex c fs s2 => rw [eb] at h; exact fun ts2 H2 d S2 e2 st2 x => h ts2 H2 d S2 e2 (st1.trans st2) x
      | ok rr =>
        obtain ⟨ds, s2⟩ := rr
        rw [eb] at h
        intro ts2 ys H2 S2 e2 ey oky ar st2 pu2
        simp only at h
        have ei2 : ts2[i]? = some tr := (pu2 i hi').trans ei
        have mi2 := List.mem_of_getElem? ei2
        cases el2 : lstAt i p s2 with
        | none => rw [el2] at h; exact h.elim
        | some xs =>
          rw [el2] at h
          simp only at h
          obtain ⟨a', us', en', eu'⟩ := lstAt_of (by rw [e2]; exact el2) ei2 en
          cases en'
          by_cases hz : (List.zipWith (fun m (x : D) => m.isTmp || !x.hasOwn) ms ds).all id = true
          · rw [if_pos hz] at h
            obtain ⟨rel, wfy⟩ := zip_chk ar S2.wf (by rw [ey]; exact hz)
            cases em : m xs ds with
            | none => rw [em] at h; exact h.elim
            | some z =>
              obtain ⟨zs, d⟩ := z
              rw [em] at h
              simp only at h
              have sbn := at_sbt p tr _ en
              have okn2 := sbn.ok (S2.ok tr mi2)
              have gn := sbn.good (S2.wf.mem mi2)
              have gn0 := gn
              rw [T.good] at gn
              have an : a ∈ (T.nd a (.lst true) us).own := T.mem_col.mpr (.inl ⟨rfl, rfl⟩)
              have upn : ∀ {q : NK → Bool} {z : Addr} {w : T}, w ∈ us → z ∈ w.col q → z ∈ (T.nd a (.lst true) us).col q := fun mw mz => T.mem_col.mpr (.inr ⟨_, mw, mz⟩)
              have dyu : ∀ u ∈ us, ∀ y ∈ ys, Dj u y := fun u mu y my => by
                have d := (rel y my).2 tr mi2
                exact ⟨fun z mz q => d.2 z (sbn.col (upn mu mz)) q, fun z mz q => d.1 z mz (sbn.col (upn mu q))⟩
              refine hm H2 a us ys zs d Q okn2.atL oky (fun u mu => okn2.child mu) gn.2.2 wfy dyu (fun _ _ _ => trivial) (by rw [eu', ey]; exact em) fun us2 g e3 e4 wf2 src ok3 => ?_
              -- the new node
              have frm : ∀ w ∈ g :: us2, Frm w (.nd a (.lst true) us) ys := fun w mw => by
                rcases src w mw with ⟨u, mu, sb⟩ | ⟨o1, o2, o3⟩
                · rcases List.mem_append.mp mu with mu | mu
                  · exact ⟨fun z mz => .inl (upn mu (sb.col mz)), fun z mz => .inl (upn mu (sb.col mz)), fun z mz => .inl (upn mu (sb.col mz))⟩
                  · exact ⟨fun z mz => .inr ⟨u, mu, sb.col mz⟩, fun z mz => .inr ⟨u, mu, sb.col mz⟩, fun z mz => .inr ⟨u, mu, sb.col mz⟩⟩
                · exact ⟨fun z mz => (by rw [o1] at mz; cases mz), fun z mz => (by rw [o2] at mz; cases mz), fun z mz => (by rw [o3] at mz; cases mz)⟩
              have na : ∀ w ∈ g :: us2, a ∉ w.trk := fun w mw z => by
                rcases src w mw with ⟨u, mu, sb⟩ | ⟨_, o2, _⟩
                · rcases List.mem_append.mp mu with mu | mu
                  · exact gn.1 rfl (T.mem_cols.mpr ⟨u, mu, sb.col z⟩)
                  · exact ((rel u mu).2 tr mi2).2 a (sbn.col an) (sb.col z)
                · rw [o2] at z; cases z
              have okw : ∀ w ∈ g :: us2, w.ok K (upd H2 a (.lst (T.rts us2))) := fun w mw => keep_updA (ok3 w mw) okn2.atL rfl (na w mw)
              have okn3 : (T.nd a (.lst true) us2).ok K (upd H2 a (.lst (T.rts us2))) := by
                rw [T.ok]
                exact ⟨upd_same, T.oks_all.mpr fun w mw => okw w (List.mem_cons_of_mem _ mw)⟩
              have gn3 : (T.nd a (.lst true) us2).good := by
                rw [T.good]
                refine ⟨fun _ m => ?_, fun _ m => ?_, wf2.head.2.2⟩
                · obtain ⟨w, mw, mz⟩ := T.mem_cols.mp m
                  exact na w (List.mem_cons_of_mem _ mw) mz
                · obtain ⟨w, mw, mz⟩ := T.mem_cols.mp m
                  exact na w (List.mem_cons_of_mem _ mw) (T.own_trk mz)
              have fr3 : Frm (.nd a (.lst true) us2) (.nd a (.lst true) us) ys := by
                have go : ∀ {q : NK → Bool}, (∀ w ∈ g :: us2, ∀ z ∈ w.col q, z ∈ (T.nd a (.lst true) us).col q ∨ ∃ y ∈ ys, z ∈ y.col q) → ∀ z ∈ (T.nd a (.lst true) us2).col q, z ∈ (T.nd a (.lst true) us).col q ∨ ∃ y ∈ ys, z ∈ y.col q := fun hq z mz => by
                  rcases T.mem_col.mp mz with m | ⟨w, mw, m⟩
                  · exact .inl (T.mem_col.mpr (.inl m))
                  · exact hq w (List.mem_cons_of_mem _ mw) z m
                exact ⟨go fun w mw => (frm w mw).ow, go fun w mw => (frm w mw).tr, go fun w mw => (frm w mw).im⟩
              obtain ⟨S3, st3, _⟩ := mut_fin S2 ei2 en okn2.atL rfl rfl okn3 gn3 fr3 rel
              -- what is given
              have dgn : Dj g (.nd a (.lst true) us2) := by
                refine ⟨fun z mz q => ?_, fun z mz q => ?_⟩
                · rcases T.mem_col.mp q with ⟨_, rfl⟩ | ⟨w, mw, m⟩
                  · exact na g List.mem_cons_self (T.own_trk mz)
                  · exact (wf2.head.2.1 w mw).1 z mz m
                · rcases T.mem_col.mp mz with ⟨_, rfl⟩ | ⟨w, mw, m⟩
                  · exact na g List.mem_cons_self q
                  · exact (wf2.head.2.1 w mw).2 z m q
              have tg : TRel g (ts2.set i (T.put (.nd a (.lst true) us2) p tr)) := by
                refine ⟨wf2.head.1, fun w mw => ?_⟩
                obtain ⟨j, ej⟩ := List.getElem?_of_mem mw
                by_cases hj : j = i
                · subst hj
                  rw [List.getElem?_set_self (List.getElem?_eq_some_iff.mp ei2).1] at ej
                  cases ej
                  exact put_dj (frm g List.mem_cons_self) dgn p tr (S2.wf.mem mi2) (fun y my => (rel y my).2 tr mi2) en
                · rw [List.getElem?_set_ne (Ne.symm hj)] at ej
                  have dtw := S2.wf.get (Ne.symm hj) ei2 ej
                  have f := frm g List.mem_cons_self
                  exact ⟨fun z mz q => (f.ow z mz).elim (fun m => dtw.1 z (sbn.col m) q) fun ⟨y, my, m⟩ => ((rel y my).2 w (List.mem_of_getElem? ej)).1 z m q, fun z mz q => (f.tr z q).elim (fun m => dtw.2 z mz (sbn.col m)) fun ⟨y, my, m⟩ => ((rel y my).2 w (List.mem_of_getElem? ej)).2 z mz m⟩
              have st4 := st3 (st1.trans st2) (fun y my => my) fun _ _ => trivial
              refine h _ g (upd H2 a (.lst (T.rts us2))) S3 ?_ e4 (okw g List.mem_cons_self) tg ?_ fun j hj => ?_
              · rw [putAt_of ei2, T.er, e3, e2]
              · have up2 : ∀ {q : NK → Bool} {z : Addr}, (z ∈ (T.nd a (.lst true) us).col q ∨ ∃ y ∈ ys, z ∈ y.col q) → ∃ w ∈ ys ++ ts2, z ∈ w.col q := fun h => h.elim (fun m => ⟨tr, List.mem_append_right _ mi2, sbn.col m⟩) fun ⟨y, my, m⟩ => ⟨y, List.mem_append_left _ my, m⟩
                have f := frm g List.mem_cons_self
                have q := st1.trans st2
                exact (st4.sub fun w mw => List.mem_append_right _ mw).cons (fun z mz => let ⟨w, mw, m⟩ := up2 (f.ow z mz); q.ow w mw z m) (fun z mz => let ⟨w, mw, m⟩ := up2 (f.tr z mz); q.tr w mw z m) (fun z mz => let ⟨w, mw, m⟩ := up2 (f.im z mz); q.im w mw z m)
              · rw [List.mem_append, List.mem_append, not_or, not_or] at hj
                rw [List.getElem?_set_ne (fun z => hj.2.2 (by rw [z]; simp)), pu2 j hj.2.1, pu1 j hj.1]
          · rw [if_neg hz] at h; exact h.elim
end
end VS
namespace VS
open PySem PySem.Spec PyProof.Rows L2

theorem none3 : (T.v .non).own = [] ∧ (T.v .non).trk = [] ∧ (T.v .non).imm = [] := ⟨rfl, rfl, rfl⟩
theorem dj_v {x : V} {u : T} : Dj (.v x) u := ⟨fun a m => (nomatch m), fun a _ m => (nomatch m)⟩
def mAppend : LM := fun xs ys => match ys with
  | [y] => if xs.length < sizeLine then some (xs ++ [y], .v .non) else none
  | _ => none
theorem mAppend_ok {K : PySem.W.Frag} : LmOk K rAppend mAppend := by
  intro H a us ys zs d Q ha oky oku wu wy dj _ hm q
  match ys, hm, oky, wy, dj, q with
  | [], hm, _, _, _, _ => rw [T.ers] at hm; cases hm
  | _ :: _ :: _, hm, _, _, _, _ => rw [T.ers, T.ers] at hm; cases hm
  | [y], hm, oky, wy, dj, q =>
    rw [T.ers, T.ers] at hm
    unfold mAppend at hm
    simp only at hm
    split at hm
    · rename_i hl
      cases hm
      rw [ers_len] at hl
      refine ⟨a, T.rts us, y.rt, rfl, rfl, ha, by rw [rts_len]; exact hl, ?_⟩
      have e : T.rts us ++ [y.rt] = T.rts (us ++ [y]) := by rw [rts_append]; rfl
      rw [e]
      refine q (us ++ [y]) (.v .non) (by rw [ers_append]; rfl) rfl (WF.cons trivial (fun _ _ => dj_v) (WF.append wu wy fun u mu w mw => dj u mu w mw)) (fun w mw => ?_) fun w mw => ?_
      · rcases List.mem_cons.mp mw with rfl | mw
        · exact .inr none3
        · exact .inl ⟨w, mw, .refl w⟩
      · rcases List.mem_cons.mp mw with rfl | mw
        · exact trivial
        · rcases List.mem_append.mp mw with m | m
          · exact oku w m
          · exact oky w m
    · cases hm
def mExtend : LM := fun xs ys => match ys with
  | [.nd (.lst _) zs] => if xs.length + zs.length ≤ sizeLine then some (xs ++ zs, .v .non) else none
  | _ => none
theorem mExtend_ok {K : PySem.W.Frag} : LmOk K rExtend mExtend := by
  intro H a us ys zs d Q ha oky oku wu wy dj _ hm q
  match ys, hm, oky, wy, dj, q with
  | [], hm, _, _, _, _ => rw [T.ers] at hm; cases hm
  | _ :: _ :: _, hm, _, _, _, _ => exfalso; rw [T.ers, T.ers] at hm; revert hm; unfold mExtend; split <;> intro hm <;> simp_all
  | [y], hm, oky, wy, dj, q =>
    rw [T.ers, T.ers] at hm
    unfold mExtend at hm
    split at hm
    · rename_i o ws heq
      injection heq with heq _
      obtain ⟨b, us2, rfl, e2⟩ := er_nd heq
      split at hm
      · rename_i hl
        cases hm
        subst e2
        rw [ers_len, ers_len] at hl
        have oky := oky _ List.mem_cons_self
        refine ⟨a, b, T.rts us, T.rts us2, rfl, rfl, ha, oky.atL, by rw [rts_len, rts_len]; exact hl, ?_⟩
        have e : T.rts us ++ T.rts us2 = T.rts (us ++ us2) := by rw [rts_append]
        rw [e]
        have gy := wy.head.1
        rw [T.good] at gy
        have up : ∀ {q : NK → Bool} {z : Addr} {w : T}, w ∈ us2 → z ∈ w.col q → z ∈ (T.nd b (.lst o) us2).col q := fun mw mz => T.mem_col.mpr (.inr ⟨_, mw, mz⟩)
        refine q (us ++ us2) (.v .non) (by rw [ers_append]) rfl (WF.cons trivial (fun _ _ => dj_v) (WF.append wu gy.2.2 fun u mu w mw => ?_)) (fun w mw => ?_) fun w mw => ?_
        · have d := dj u mu _ List.mem_cons_self
          exact ⟨fun z mz q => d.1 z mz (up mw q), fun z mz q => d.2 z (up mw mz) q⟩
        · rcases List.mem_cons.mp mw with rfl | mw
          · exact .inr none3
          · rcases List.mem_append.mp mw with m | m
            · exact .inl ⟨w, List.mem_append_left _ m, .refl w⟩
            · exact .inl ⟨_, List.mem_append_right _ List.mem_cons_self, .child m (.refl w)⟩
        · rcases List.mem_cons.mp mw with rfl | mw
          · exact trivial
          · rcases List.mem_append.mp mw with m | m
            · exact oku w m
            · exact oky.child m
      · cases hm
    · cases hm
def mPop : LM := fun xs ys => match ys with
  | [] => match xs[xs.length - 1]? with
    | some y => some (xs.dropLast, y)
    | none => none
  | _ => none
theorem ers_dropLast (us : List T) : T.ers us.dropLast = (T.ers us).dropLast := by rw [T.ers_map, T.ers_map, List.map_dropLast]
theorem rts_dropLast (us : List T) : T.rts us.dropLast = (T.rts us).dropLast := by rw [T.rts_map, T.rts_map, List.map_dropLast]
theorem wf_last : ∀ {us : List T} {y : T}, WF us → us[us.length - 1]? = some y → WF (y :: us.dropLast) := fun {us y} h e => by
  have hne : us ≠ [] := fun z => by subst z; simp at e
  have hl : 0 < us.length := List.length_pos_iff.mpr hne
  refine WF.cons (h.mem (List.mem_of_getElem? e)) (fun u mu => ?_) (h.sub (List.dropLast_sublist us))
  obtain ⟨j, ej⟩ := List.getElem?_of_mem mu
  have hj := (List.getElem?_eq_some_iff.mp ej).1
  rw [List.length_dropLast] at hj
  have ej2 : us[j]? = some u := by
    rw [List.getElem?_eq_some_iff] at ej ⊢
    obtain ⟨h1, h2⟩ := ej
    exact ⟨by omega, by rw [← h2, List.getElem_dropLast]⟩
  exact h.get (by omega) e ej2
theorem mPop_ok {K : PySem.W.Frag} : LmOk K rPop mPop := by
  intro H a us ys zs d Q ha oky oku wu wy dj _ hm q
  match ys, hm, oky, wy, dj, q with
  | y :: ys, hm, _, _, _, _ => rw [T.ers] at hm; cases hm
  | [], hm, oky, wy, dj, q =>
    rw [T.ers] at hm
    unfold mPop at hm
    simp only at hm
    split at hm
    · rename_i y e
      cases hm
      rw [ers_len] at e
      obtain ⟨u, e1, e2, e3⟩ := rts_get e
      refine ⟨a, T.rts us, u.rt, rfl, rfl, ha, by rw [rts_len]; exact e3, ?_⟩
      rw [← rts_dropLast]
      refine q us.dropLast u (ers_dropLast us) e2 (wf_last wu e1) (fun w mw => ?_) fun w mw => ?_
      · rcases List.mem_cons.mp mw with rfl | mw
        · exact .inl ⟨w, List.mem_append_left _ (List.mem_of_getElem? e1), .refl w⟩
        · exact .inl ⟨w, List.mem_append_left _ ((List.dropLast_sublist us).subset mw), .refl w⟩
      · rcases List.mem_cons.mp mw with rfl | mw
        · exact oku w (List.mem_of_getElem? e1)
        · exact oku w ((List.dropLast_sublist us).subset mw)
    · cases hm

/-! ### place[i] = e -/
def sSetIx (i : Nat) (m : Md) (de : E) (dp : EP') (di : E) : S := fun s => match de s with
  | .no => .no
  | .ex c fs s => .ex c fs s
  | .ok q => if (m.isTmp || !q.1.hasOwn) = true then (match dp q.2 with
    | .no => .no
    | .ex c fs s => .ex c fs s
    | .ok r => match di r.2 with
      | .no => .no
      | .ex c fs s => .ex c fs s
      | .ok w => match w.1 with
        | .v (.int j) => match lstAt i r.1 w.2 with
          | none => .no
          | some xs => match ixN xs.length j with
            | none => .no
            | some c => .nx (putAt i r.1 (.nd (.lst true) (xs.set c q.1)) w.2)
        | _ => .no) else .no
section
variable {K : PySem.W.Frag} {W : WX} {io : List Nat}
theorem srd_setix {i : Nat} {m mi : Md} {d0 d1 d2 : List Nat} {te to ti : TE} {de di : E} {dp : EP'} (he : ERd K W io m d0 te de) (hp : PlRd K W io i d1 to dp) (hx : ERd K W io mi d2 ti di) (hi : d2.contains i = false) :
    SRd K W io (d0 ++ (d1 ++ (d2 ++ [i]))) (tAsg te (gSub to ti rSetL)) (sSetIx i m de dp di) := fun ρ ts σ H Z S h => by
  have hi' : i ∉ d2 := by simpa using hi
  refine he ρ ts σ H _ S ?_
  unfold sSetIx at h
  cases ee : de (T.ers ts) with
  | no => rw [ee] at h; exact h
  | ex c fs s => rw [ee] at h; exact fun ts1 H1 d S1 e1 st1 x => h ts1 σ H1 d S1 e1 st1 x
  | ok q =>
    obtain ⟨y0, s1⟩ := q
    rw [ee] at h
    intro ts1 y H1 S1 e1 ey oky mry st1 pu1
    by_cases hc : (m.isTmp || !y0.hasOwn) = true
    · simp only [hc, if_true] at h
      have try1 : TRel y ts1 := by
        cases m with
        | tmp => exact mry
        | vw src =>
          have : y0.hasOwn = false := by cases z : y0.hasOwn with | false => rfl | true => rw [z] at hc; cases hc
          exact mry.tmp S1.wf (T.own_nil (by rw [ey]; exact this))
      refine hp ρ ts1 σ H1 _ S1 ?_
      rw [e1]
      cases ea : dp s1 with
      | no => rw [ea] at h; exact h
      | ex c fs s => rw [ea] at h; exact fun ts2 H2 d S2 e2 st2 x => h ts2 σ H2 d S2 e2 (st1.tail.trans st2) x
      | ok r =>
        obtain ⟨p, s2⟩ := r
        rw [ea] at h
        intro ts2 H2 tr n S2 e2 ei en st2 pu2
        refine hx ρ ts2 σ H2 _ S2 ?_
        rw [e2]
        simp only at h
        cases eb : di s2 with
        | no => rw [eb] at h; exact h
        | ex c fs s => rw [eb] at h; exact fun ts3 H3 d S3 e3 st3 x => h ts3 σ H3 d S3 e3 ((st1.tail.trans st2).trans st3) x
        | ok w =>
          obtain ⟨x, s3⟩ := w
          rw [eb] at h
          intro ts3 t3 H3 S3 e3 et3 ok3 mr3 st3 pu3
          simp only at h
          split at h
          · rename_i j
            have := er_v et3; subst this
            have ei3 : ts3[i]? = some tr := (pu3 i hi').trans ei
            have mi3 := List.mem_of_getElem? ei3
            cases el : lstAt i p s3 with
            | none => rw [el] at h; exact h.elim
            | some xs =>
              rw [el] at h
              simp only at h
              obtain ⟨a, us, rfl, eu⟩ := lstAt_of (by rw [e3]; exact el) ei3 en
              cases ec : ixN xs.length j with
              | none => rw [ec] at h; exact h.elim
              | some c =>
                rw [ec] at h
                simp only at h
                -- the value, held so far
                have oky2 : y.ok K H2 := keepT oky S1.ok st2 fun u mu b mb => (try1.2 u mu).2 b mb
                have try2 : TRel y ts2 := ⟨try1.1, djStep oky try1.2 st2⟩
                have oky3 : y.ok K H3 := keepT oky2 S2.ok st3 fun u mu b mb => (try2.2 u mu).2 b mb
                have try3 : TRel y ts3 := ⟨try1.1, djStep oky2 try2.2 st3.tail⟩
                have sbn := at_sbt p tr _ en
                have okn := sbn.ok (S3.ok tr mi3)
                have gn := sbn.good (S3.wf.mem mi3)
                have an : a ∈ (T.nd a (.lst true) us).own := T.mem_col.mpr (.inl ⟨rfl, rfl⟩)
                rw [T.good] at gn
                have dyn : Dj y (.nd a (.lst true) us) := by
                  have d := try3.2 tr mi3
                  exact ⟨fun z mz q => d.1 z mz (sbn.col q), fun z mz q => d.2 z (sbn.col mz) q⟩
                have upn : ∀ {q : NK → Bool} {z : Addr} {w : T}, w ∈ us → z ∈ w.col q → z ∈ (T.nd a (.lst true) us).col q := fun mw mz => T.mem_col.mpr (.inr ⟨_, mw, mz⟩)
                have na : ∀ w ∈ us.set c y, a ∉ w.trk := fun w mw z => by
                  rcases List.mem_or_eq_of_mem_set mw with mw | rfl
                  · exact gn.1 rfl (T.mem_cols.mpr ⟨w, mw, z⟩)
                  · exact dyn.2 a an z
                have hcl : ixN us.length j = some c := by rw [← ers_len us, eu]; exact ec
                have okn3 : (T.nd a (.lst true) (us.set c y)).ok K (upd H3 a (.lst (T.rts (us.set c y)))) := by
                  rw [T.ok]
                  refine ⟨upd_same, T.oks_all.mpr fun w mw => keep_updA ?_ okn.atL rfl (na w mw)⟩
                  rcases List.mem_or_eq_of_mem_set mw with mw | rfl
                  · exact okn.child mw
                  · exact oky3
                have gn3 : (T.nd a (.lst true) (us.set c y)).good := by
                  rw [T.good]
                  refine ⟨fun _ m => ?_, fun _ m => ?_, WF.set gn.2.2 try3.1 fun k w hk ew => ?_⟩
                  · obtain ⟨w, mw, mz⟩ := T.mem_cols.mp m
                    exact na w mw mz
                  · obtain ⟨w, mw, mz⟩ := T.mem_cols.mp m
                    exact na w mw (T.own_trk mz)
                  · have mw := List.mem_of_getElem? ew
                    exact ⟨fun z mz q => dyn.1 z mz (upn mw q), fun z mz q => dyn.2 z (upn mw mz) q⟩
                have fr3 : Frm (.nd a (.lst true) (us.set c y)) (.nd a (.lst true) us) [y] := by
                  have go : ∀ {q : NK → Bool}, ∀ z ∈ (T.nd a (.lst true) (us.set c y)).col q, z ∈ (T.nd a (.lst true) us).col q ∨ ∃ y' ∈ [y], z ∈ y'.col q := fun z mz => by
                    rcases T.mem_col.mp mz with m | ⟨w, mw, m⟩
                    · exact .inl (T.mem_col.mpr (.inl m))
                    · rcases List.mem_or_eq_of_mem_set mw with mw | rfl
                      · exact .inl (upn mw m)
                      · exact .inr ⟨w, by simp, m⟩
                  exact ⟨fun z => go z, fun z => go z, fun z => go z⟩
                obtain ⟨S4, st4, _⟩ := mut_fin S3 ei3 en okn.atL rfl rfl okn3 gn3 fr3 (fun y' my => by
                  have : y' = y := by simpa using my
                  subst this; exact try3)
                refine ⟨a, T.rts us, j, c, rfl, rfl, okn.atL, by rw [rts_len]; exact hcl, ?_⟩
                have er : (T.rts us).set c y.rt = T.rts (us.set c y) := by rw [T.rts_map, T.rts_map, List.map_set]
                rw [er]
                have stA : Step H ts H3 ([y] ++ ts3) := by
                  have q := (st1.tail.trans st2).trans st3.tail
                  exact q.cons (st1.ow y List.mem_cons_self) (st1.tr y List.mem_cons_self) (st1.im y List.mem_cons_self)
                refine h _ σ _ S4 ?_ ((st4 stA (fun y' my => my) fun _ _ => trivial).sub fun w mw => List.mem_append_right _ mw) fun k hk => ?_
                · rw [putAt_of ei3, T.er, ers_set, eu, ey, e3]
                · rw [List.mem_append, List.mem_append, List.mem_append, not_or, not_or, not_or] at hk
                  rw [List.getElem?_set_ne (fun z => hk.2.2.2 (by rw [z]; simp)), pu3 k hk.2.2.1, pu2 k hk.2.1, pu1 k hk.1]
          · exact h.elim
    · simp only [hc] at h
      exact h.elim
end
section
variable {X : Cx} {W : WX} {io : List Nat} {i : Nat} {d0 d1 d2 : List Nat} {m mi : Md}
theorem dp_n (i : Nat) {x : Str} {pos : Pos} (hN : X.N[i]? = some x := by rfl) (hv : Vis X.env.scope x := by first | exact Or.inl rfl | exact Or.inr (Or.inl rfl) | exact Or.inr (Or.inr rfl)) (hd : (x == ("__debug__" : Str)) = false := by decide)
    (hcd : (x == ("__classdict__" : Str)) = false := by decide) : DP X W io i [] (.Name x pos) (tVar i) (dpN i) := ⟨pe_var hN hv hd hcd, pl_n⟩
theorem dp_ix {a b : Expr} {pos : Pos} {tp tb : TE} {dp : EP'} {db : E} (hp : DP X W io i d1 a tp dp) (hb : DE X W io m d2 b tb db) (hs : PlainIx b := by exact fun _ _ => rfl) (hi : d2.contains i = false := by rfl) : DP X W io i (d1 ++ d2) (.Subscript a b pos) (tOp (rIx X.K) tp tb) (dpIx i dp db) := ⟨pe_ix ix_seq hp.pe hb.pe hs, pl_ix hp.rd hb.rd hi⟩
theorem ds_setix {o ix e : Expr} {pos pos' : Pos} {te to ti : TE} {de di : E} {dp : EP'} (he : DE X W io m d0 e te de) (hp : DP X W io i d1 o to dp) (hx : DE X W io mi d2 ix ti di) (hi : d2.contains i = false := by rfl)
    (ha : ∀ v, assign (.Subscript o ix pos) X.env v = (do
      let ov ← holding [v] (eval o X.env)
      let iv ← holding [v, ov] (eval ix X.env)
      standAt pos
      holding [v, ov, iv] (setItem ov iv v)
      release [v, ov, iv] []) := by intro _; rfl)
    (hs : swapsWithSole [.Subscript o ix pos] e pos'.line X.env = pure false := by rfl) (hw : swappedStores [.Subscript o ix pos] e X.env = pure none := by rfl)
    (h1 : (assignEach [.Subscript o ix pos] X.env).map (·.2) = [assign (.Subscript o ix pos) X.env] := by rfl) :
    DS X W io (d0 ++ (d1 ++ (d2 ++ [i]))) (.Assign [.Subscript o ix pos] e pos') (tAsg te (gSub to ti rSetL)) (sSetIx i m de dp di) := ⟨ps_asg he.pe (pg_sub hp.pe hx.pe set_list ha) hs hw h1, srd_setix he.rd hp.rd hx.rd hi⟩
theorem de_append {o e : Expr} {apos cpos : Pos} {to te : TE} {dp : EP'} {de : E} (hp : DP X W io i d1 o to dp) (he : DE X W io m d2 e te de) (hi : (d2 ++ []).contains i = false := by rfl)
    (hbase : attributeBase o "append" X.env (eval o X.env) = eval o X.env := by rfl)
    (hfew : ((backTo cpos (starEach [e] X.env)).all (fun x => !x.1) && (backToKw cpos (keywordEach [] X.env)).all (fun x => x.1.isSome)
      && decide ([e].length + ([] : List Keyword).length + (if ([] : List Keyword).isEmpty then 0 else 1) < 30)) = true := by rfl)
    (hline : (apos.endLine == cpos.line) = true := by rfl) (hs : starEach [e] X.env = (false, eval e X.env) :: starEach [] X.env := by rfl) (hplain : (backTo cpos (starEach [] X.env)).any (·.1) = false := by rfl) :
    DE X W io .tmp (d1 ++ ((d2 ++ []) ++ [i])) (.Call (.Attribute o "append" apos) [e] [] cpos) (tBM X.K "list" rAppend to (tCons te tNil)) (dMeth i [m] dp mAppend (dAcons m [] de dAnil)) :=
  ⟨pe_bm PySem.F.plainAttrs_list PySem.F.slot_list_append PySem.F.type_list_append mt_append hp.pe (pa_cons he.pe pa_nil hs) hbase hfew hline hs hplain, erd_meth hp.rd (ard_cons he.rd ard_nil) hi mAppend_ok⟩
theorem de_extend {o e : Expr} {apos cpos : Pos} {to te : TE} {dp : EP'} {de : E} (hp : DP X W io i d1 o to dp) (he : DE X W io m d2 e te de) (hi : (d2 ++ []).contains i = false := by rfl)
    (hbase : attributeBase o "extend" X.env (eval o X.env) = eval o X.env := by rfl)
    (hfew : ((backTo cpos (starEach [e] X.env)).all (fun x => !x.1) && (backToKw cpos (keywordEach [] X.env)).all (fun x => x.1.isSome)
      && decide ([e].length + ([] : List Keyword).length + (if ([] : List Keyword).isEmpty then 0 else 1) < 30)) = true := by rfl)
    (hline : (apos.endLine == cpos.line) = true := by rfl) (hs : starEach [e] X.env = (false, eval e X.env) :: starEach [] X.env := by rfl) (hplain : (backTo cpos (starEach [] X.env)).any (·.1) = false := by rfl) :
    DE X W io .tmp (d1 ++ ((d2 ++ []) ++ [i])) (.Call (.Attribute o "extend" apos) [e] [] cpos) (tBM X.K "list" rExtend to (tCons te tNil)) (dMeth i [m] dp mExtend (dAcons m [] de dAnil)) :=
  ⟨pe_bm PySem.F.plainAttrs_list PySem.F.slot_list_extend PySem.F.type_list_extend mt_extend hp.pe (pa_cons he.pe pa_nil hs) hbase hfew hline hs hplain, erd_meth hp.rd (ard_cons he.rd ard_nil) hi mExtend_ok⟩
theorem de_pop {o : Expr} {apos cpos : Pos} {to : TE} {dp : EP'} (hp : DP X W io i d1 o to dp) (hi : ([] : List Nat).contains i = false := by rfl)
    (hbase : attributeBase o "pop" X.env (eval o X.env) = eval o X.env := by rfl)
    (hfew : ((backTo cpos (starEach [] X.env)).all (fun x => !x.1) && (backToKw cpos (keywordEach [] X.env)).all (fun x => x.1.isSome)
      && decide (([] : List Expr).length + ([] : List Keyword).length + (if ([] : List Keyword).isEmpty then 0 else 1) < 30)) = true := by rfl)
    (hline : (apos.endLine == cpos.line) = true := by rfl) :
    DE X W io .tmp (d1 ++ ([] ++ [i])) (.Call (.Attribute o "pop" apos) [] [] cpos) (tBM X.K "list" rPop to tNil) (dMeth i [] dp mPop dAnil) :=
  ⟨pe_bm0 PySem.F.plainAttrs_list PySem.F.slot_list_pop PySem.F.type_list_pop mt_pop hp.pe hbase hline, erd_meth hp.rd ard_nil hi mPop_ok⟩
end
end VS
namespace VS
open PySem PySem.Spec PyProof.Rows L2

/-! ### displays -/
def chkT (ms : List Md) (xs : List D) : Bool := (List.zipWith (fun m (x : D) => m.isTmp || !x.hasOwn) ms xs).all id
def dDis (k : NK) (ms : List Md) (dA : EA) : E := fun s => (dA s).bind fun q => if (chkT ms q.1 && decide (q.1.length ≤ sizeLine)) = true then .ok (.nd k q.1, q.2) else .no
section
variable {K : PySem.W.Frag} {W : WX} {io : List Nat}
theorem erd_dis {k : NK} {ms : List Md} {md : List Nat} {t : TA} {dA : EA} {o : List V → HO} {tt : TE} (hA : ARd K W io ms md t dA) (hk : k.isOwn = true ∨ k.isTrk = false) (hki : k.isImm = false)
    (ht : ∀ σ H Q, tt σ H Q = t σ H fun xs H1 => xs.length ≤ sizeLine ∧ ∀ p, H1 p = none → Q (.ref p) (upd H1 p (o xs))) (hn : ∀ H p vs, NodeAt K (upd H p (o vs)) p vs k) : ERd K W io .tmp md tt (dDis k ms dA) := fun ρ ts σ H Q S h => by
  rw [ht]
  refine hA ρ ts σ H _ S ?_
  unfold dDis at h
  cases ea : dA (T.ers ts) with
  | no => rw [ea] at h; exact h
  | ex c fs s => rw [ea] at h; exact h
  | ok q =>
    obtain ⟨xs, s⟩ := q
    rw [ea] at h
    simp only [R.bind] at h
    intro ts1 us H1 S1 e1 eu oku ar st1 pu1
    by_cases hc : (chkT ms xs && decide (xs.length ≤ sizeLine)) = true
    · rw [if_pos hc] at h
      rw [Bool.and_eq_true] at hc
      obtain ⟨rel, wfu⟩ := zip_chk ar S1.wf (by rw [eu]; exact hc.1)
      refine ⟨by rw [rts_len, ← ers_len us, eu]; exact of_decide_eq_true hc.2, fun p hp => ?_⟩
      have sm := same_upd (o := o (T.rts us)) hp
      have nu : ∀ u ∈ us, p ∉ u.trk := fun u mu z => by obtain ⟨o, e⟩ := T.trk_s (oku u mu) z; rw [hp] at e; cases e
      have nw : ∀ w ∈ ts1, p ∉ w.trk := fun w mw z => by obtain ⟨o, e⟩ := T.trk_s (S1.ok w mw) z; rw [hp] at e; cases e
      have HP : H p = none := st1.al p hp
      refine h ts1 (.nd p k us) _ ⟨S1.len, S1.rt, fun w mw => T.ok_same (S1.ok w mw) sm, S1.wf, S1.pin⟩ e1 (by rw [T.er, eu]) (ok_new hp (hn _ _ _) oku) ⟨?_, fun w mw => ⟨fun a ma z => ?_, fun a ma z => ?_⟩⟩ ?_ pu1
      · rw [T.good]
        refine ⟨fun _ m => ?_, fun _ m => ?_, wfu⟩
        · obtain ⟨u, mu, mz⟩ := T.mem_cols.mp m; exact nu u mu mz
        · obtain ⟨u, mu, mz⟩ := T.mem_cols.mp m; exact nu u mu (T.own_trk mz)
      · rcases T.mem_col.mp ma with ⟨_, rfl⟩ | ⟨u, mu, m⟩
        · exact nw w mw z
        · exact ((rel u mu).2 w mw).1 a m z
      · rcases T.mem_col.mp z with ⟨_, rfl⟩ | ⟨u, mu, m⟩
        · exact nw w mw (T.own_trk ma)
        · exact ((rel u mu).2 w mw).2 a ma m
      · have s2 := st1.sm sm
        refine (s2.sub fun w mw => List.mem_append_right _ mw).cons (fun a ma => ?_) (fun a ma => ?_) fun a ma => ?_
        · rcases T.mem_col.mp ma with ⟨_, rfl⟩ | ⟨u, mu, m⟩
          · exact .inr HP
          · exact s2.ow u (List.mem_append_left _ mu) a m
        · rcases T.mem_col.mp ma with ⟨_, rfl⟩ | ⟨u, mu, m⟩
          · exact .inr HP
          · exact s2.tr u (List.mem_append_left _ mu) a m
        · rcases T.mem_col.mp ma with ⟨e, _⟩ | ⟨u, mu, m⟩
          · rw [hki] at e; cases e
          · exact s2.im u (List.mem_append_left _ mu) a m
    · rw [if_neg hc] at h; exact h.elim
end
section
variable {X : Cx} {W : WX} {io : List Nat} {md : List Nat} {ms : List Md}
theorem de_lst {es : List Expr} {pos : Pos} {t : TA} {dA : EA} (h : DA X W io ms md es t dA) : DE X W io .tmp md (.List es pos) (tLst t) (dDis (.lst true) ms dA) :=
  ⟨pe_lst h.pa, erd_dis (o := .lst) h.rd (.inl rfl) rfl (fun _ _ _ => rfl) fun _ _ _ => upd_same⟩
theorem de_tup {es : List Expr} {x1 : Nat} {pos : Pos} {t : TA} {dA : EA} (h : DA X W io ms md es t dA) : DE X W io .tmp md (.Tuple es x1 pos) (tTup t) (dDis .tup ms dA) :=
  ⟨pe_tup h.pa, erd_dis (o := .tup) h.rd (.inr rfl) rfl (fun _ _ _ => rfl) fun _ _ _ => SqT.of upd_same⟩
end

/-! ### * -/
def oMul : D → D → Option D
  | .v (.int i), .v (.int j) => if i.natAbs.log2 + j.natAbs.log2 < 1000000 then some (.v (.int (i * j))) else none
  | .nd (.lst _) xs, .v (.int k) => if (decide (k.natAbs < 4000000000000000000 ∧ xs.length * k.toNat ≤ sizeLine) && !D.hass NK.isOwn xs) = true then some (.nd (.lst true) (List.replicate k.toNat xs).flatten) else none
  | .v (.str x), .v (.int k) => if 0 ≤ k ∧ k ≤ 16777216 ∧ x.length * k.toNat ≤ 16777216 then some (.v (.str (Txt.mul x k))) else none
  | _, _ => none
def rMulS : R2 := fun x y H Q => ∃ z k, x = .str z ∧ y = .int k ∧ MulOk z k ∧ Q (.str (Txt.mul z k)) H
theorem op_mulS {X : Cx} : OpR X (binaryOp .Mult) rMulS := fun pins s σ H x y v u Q I rx ry h => by
  obtain ⟨z, k, rfl, rfl, hc, q⟩ := h
  obtain ⟨t, rfl⟩ := rx
  obtain ⟨t', rfl⟩ := ry
  exact SB.mul hc fun t'' k' => ⟨.str (Txt.mul z k), H, I.tok _, ⟨_, rfl⟩, q⟩
theorem mulOk_of {z : Str} {k : Int} (h0 : 0 ≤ k) (h1 : k ≤ 16777216) (h2 : z.length * k.toNat ≤ 16777216) : MulOk z k := by
  refine ⟨?_, fun hk _ => ?_, fun _ _ => ?_⟩
  · rw [Bool.or_eq_false_iff]
    exact ⟨decide_eq_false (by omega), decide_eq_false (by omega)⟩
  · have e : (z.length : Int) * k ≤ 16777216 := by
      have : ((z.length * k.toNat : Nat) : Int) ≤ ((16777216 : Nat) : Int) := Int.ofNat_le.mpr h2
      rw [Int.natCast_mul] at this
      rw [show (k.toNat : Int) = k by omega] at this
      exact this
    have : (z.length : Int) ≤ (2 ^ 63 - 1) / k := Int.le_ediv_of_mul_le (by omega) (by omega)
    omega
  · show decide (z.length * k.toNat > sizeLine) = false
    exact decide_eq_false (by rw [sizeLine_eq]; omega)
def rMulA : R2 := fun x y H Q => (rI CMulW (fun i j => .int (i * j)) x y H Q ∨ rRep x y H Q) ∨ rMulS x y H Q
theorem op_mulA {X : Cx} : OpR X (binaryOp .Mult) rMulA := opr_or (opr_or op_mulW op_rep) op_mulS
theorem ers_rep (n : Nat) (us : List T) : T.ers (List.replicate n us).flatten = (List.replicate n (T.ers us)).flatten := by
  induction n with
  | zero => rfl
  | succ n ih => rw [List.replicate_succ, List.replicate_succ, List.flatten_cons, List.flatten_cons, ers_append, ih]
theorem rts_rep (n : Nat) (us : List T) : T.rts (List.replicate n us).flatten = (List.replicate n (T.rts us)).flatten := by
  induction n with
  | zero => rfl
  | succ n ih => rw [List.replicate_succ, List.replicate_succ, List.flatten_cons, List.flatten_cons, rts_append, ih]
theorem mem_rep {n : Nat} {us : List T} {u : T} (h : u ∈ (List.replicate n us).flatten) : u ∈ us := by
  obtain ⟨l, ml, m⟩ := List.mem_flatten.mp h
  rw [List.eq_of_mem_replicate ml] at m; exact m
theorem and2 {a b : Bool} (h : (a && !b) = true) : a = true ∧ b = false := by cases a <;> cases b <;> first | exact ⟨rfl, rfl⟩ | cases h
theorem oMul_ok {K : PySem.W.Frag} : Op2 K rMulA oMul := by
  intro H x y d Q okx oky gx gy e q
  unfold oMul at e
  split at e
  · rename_i i j e1 e2
    have := er_v e1; subst this
    have := er_v e2; subst this
    split at e
    · rename_i hc
      cases e
      exact .inl (.inl ⟨i, j, rfl, rfl, hc, q (.v _) H rfl trivial Frsh.atom⟩)
    · cases e
  · rename_i o xs k e1 e2
    obtain ⟨p1, us, rfl, h1⟩ := er_nd e1
    have := er_v e2; subst this
    split at e
    · rename_i hc
      obtain ⟨c1, c2⟩ := and2 hc
      obtain ⟨b1, b3⟩ := of_decide_eq_true c1
      subst h1
      cases e
      rw [ers_len] at b3
      refine .inl (.inr ⟨p1, k, T.rts us, rfl, rfl, okx.atL, by omega, by omega, by rw [rts_len]; exact b3, fun p hp => ?_⟩)
      refine q (.nd p (.lst true) (List.replicate k.toNat us).flatten) _ (by rw [T.er, ers_rep]) (ok_new hp ?_ fun c m => okx.child (mem_rep m)) (Frsh.node (K := K) hp (fun u m => ?_) fun c m => ⟨_, List.mem_cons_self, Sub0.child gx (mem_rep m) (hass_own c2 c (mem_rep m))⟩)
      · show upd H p _ p = _
        rw [upd_same, rts_rep]
      · rcases List.mem_cons.mp m with rfl | m
        · exact okx
        · have : u = T.v (.int k) := by simpa using m
          rw [this]; exact trivial
    · cases e
  · rename_i z k e1 e2
    have := er_v e1; subst this
    have := er_v e2; subst this
    split at e
    · rename_i hc
      cases e
      exact .inr ⟨z, k, rfl, rfl, mulOk_of hc.1 hc.2.1 hc.2.2, q (.v _) H rfl trivial Frsh.atom⟩
    · cases e
  · cases e

/-! ### == -/
mutual
def D.data : D → Option PyData
  | .v .non => some .none
  | .v (.bl b) => some (.bool b)
  | .v (.int i) => some (.int i)
  | .v (.str x) => some (.str x)
  | .nd .tup xs => (D.datas xs).map .tuple
  | .nd .scr xs => (D.datas xs).map .list
  | .nd (.lst _) xs => (D.datas xs).map .list
  | _ => none
def D.datas : List D → Option (List PyData)
  | [] => some []
  | x :: r => match x.data, D.datas r with
    | some d, some ds => some (d :: ds)
    | _, _ => none
end
mutual
theorem dp_of {K : PySem.W.Frag} {H : Hp} : ∀ (t : T) (d : PyData), t.ok K H → t.er.data = some d → Dp K H t.rt d
  | .un, d, ok, h => by cases h
  | .v x, d, ok, h => by
    cases x with
    | non => cases h; exact .non
    | bl b => cases h; exact .bl b
    | int i => cases h; exact .int i
    | str s => cases h; exact .str s
    | _ => cases h
  | .nd a k xs, d, ok, h => by
    rw [T.er] at h
    have all := T.oks_all.mp (show T.oks K H xs by rw [T.ok] at ok; exact ok.2)
    cases k with
    | tup =>
      rw [D.data] at h
      cases e : D.datas (T.ers xs) with
      | none => rw [e] at h; cases h
      | some ds => rw [e] at h; cases h; exact .tup ok.sqT (dps_of xs ds all e)
    | scr =>
      rw [D.data] at h
      cases e : D.datas (T.ers xs) with
      | none => rw [e] at h; cases h
      | some ds => rw [e] at h; cases h; exact .lst ok.sqS (dps_of xs ds all e)
    | lst o =>
      rw [D.data] at h
      cases e : D.datas (T.ers xs) with
      | none => rw [e] at h; cases h
      | some ds => rw [e] at h; cases h; exact .lst ok.sqL (dps_of xs ds all e)
    | ins _ _ => cases h
    | obj _ _ _ => cases h
    | dic _ _ => cases h
    | dit _ _ => cases h
theorem dps_of {K : PySem.W.Frag} {H : Hp} : ∀ (us : List T) (ds : List PyData), (∀ u ∈ us, u.ok K H) → D.datas (T.ers us) = some ds → DpAll K H (T.rts us) ds
  | [], ds, _, h => by rw [T.ers, D.datas] at h; cases h; exact .nil
  | u :: us, ds, ok, h => by
    rw [T.ers, D.datas] at h
    cases e1 : u.er.data with
    | none => rw [e1] at h; cases h
    | some d =>
      cases e2 : D.datas (T.ers us) with
      | none => rw [e1, e2] at h; cases h
      | some r =>
        rw [e1, e2] at h
        cases h
        exact .cons (dp_of u d (ok u List.mem_cons_self) e1) (dps_of us r (fun w m => ok w (List.mem_cons_of_mem _ m)) e2)
end
def deepEq (x y : D) : Option Bool := match x.data, y.data with
  | some d, some e => if (SeqAt.shaped d && SeqAt.shaped e) = true then some (PyData.eqv d e) else none
  | _, _ => none
def eqD (x y : D) : Option Bool := match x, y with
  | .v a, .v b => if scal a b = true then some (decide (a = b)) else deepEq x y
  | _, _ => deepEq x y
def oEq (x y : D) : Option D := (eqD x y).map D.bl
def oNe (x y : D) : Option D := (eqD x y).map fun b => D.bl (!b)
def rEqA (K : PySem.W.Frag) : R2 := fun x y H Q => rEq x y H Q ∨ rEqD K x y H Q
def rNeA (K : PySem.W.Frag) : R2 := fun x y H Q => rNe x y H Q ∨ rNeD K x y H Q
theorem op_eqA {X : Cx} (hu : X.A.units + 64 < cLine) : OpR X (compareOp .Eq) (rEqA X.K) := opr_or op_eq (op_eqD hu)
theorem op_neA {X : Cx} (hu : X.A.units + 64 < cLine) : OpR X (compareOp .NotEq) (rNeA X.K) := opr_or op_ne (op_neD hu)
theorem eqD_cases {K : PySem.W.Frag} {H : Hp} {x y : T} {b : Bool} (okx : x.ok K H) (oky : y.ok K H) (h : eqD x.er y.er = some b) :
    (scal x.rt y.rt = true ∧ b = decide (x.rt = y.rt)) ∨ ∃ d e, Dp K H x.rt d ∧ Dp K H y.rt e ∧ SeqAt.shaped d = true ∧ SeqAt.shaped e = true ∧ b = PyData.eqv d e := by
  have deep : deepEq x.er y.er = some b → ∃ d e, Dp K H x.rt d ∧ Dp K H y.rt e ∧ SeqAt.shaped d = true ∧ SeqAt.shaped e = true ∧ b = PyData.eqv d e := fun h => by
    unfold deepEq at h
    cases e1 : x.er.data with
    | none => rw [e1] at h; cases h
    | some d =>
      cases e2 : y.er.data with
      | none => rw [e1, e2] at h; cases h
      | some e =>
        rw [e1, e2] at h
        simp only at h
        split at h
        · rename_i hs
          rw [Bool.and_eq_true] at hs
          cases h
          exact ⟨d, e, dp_of x d okx e1, dp_of y e oky e2, hs.1, hs.2, rfl⟩
        · cases h
  unfold eqD at h
  split at h
  · rename_i a c e1 e2
    have := er_v e1; subst this
    have := er_v e2; subst this
    split at h
    · rename_i hs; cases h; exact .inl ⟨hs, rfl⟩
    · exact .inr (deep h)
  · exact .inr (deep h)
theorem oEq_ok {K : PySem.W.Frag} : Op2 K (rEqA K) oEq := by
  intro H x y d Q okx oky gx gy e q
  unfold oEq at e
  cases eb : eqD x.er y.er with
  | none => rw [eb] at e; cases e
  | some b =>
    rw [eb] at e; cases e
    have q := q (.v (.bl b)) H rfl trivial Frsh.atom
    rcases eqD_cases okx oky eb with ⟨h1, h2⟩ | ⟨d, e, h1, h2, h3, h4, h5⟩
    · exact .inl ⟨h1, by rw [← h2]; exact q⟩
    · exact .inr ⟨d, e, h1, h2, h3, h4, by rw [← h5]; exact q⟩
theorem oNe_ok {K : PySem.W.Frag} : Op2 K (rNeA K) oNe := by
  intro H x y d Q okx oky gx gy e q
  unfold oNe at e
  cases eb : eqD x.er y.er with
  | none => rw [eb] at e; cases e
  | some b =>
    rw [eb] at e; cases e
    have q := q (.v (.bl (!b))) H rfl trivial Frsh.atom
    rcases eqD_cases okx oky eb with ⟨h1, h2⟩ | ⟨d, e, h1, h2, h3, h4, h5⟩
    · exact .inl ⟨h1, by rw [← h2]; exact q⟩
    · exact .inr ⟨d, e, h1, h2, h3, h4, by rw [← h5]; exact q⟩

/-! ### order -/
def oCmp (f : Int → Int → Bool) (g : List Nat → List Nat → Bool) : D → D → Option D
  | .v (.int i), .v (.int j) => some (.v (.bl (f i j)))
  | .v (.str a), .v (.str b) => some (.v (.bl (g a.cps.toList b.cps.toList)))
  | _, _ => none
def rCmpS (g : List Nat → List Nat → Bool) : R2 := fun x y H Q => ∃ i j, x = .str i ∧ y = .str j ∧ Q (.bl (g i.cps.toList j.cps.toList)) H
theorem oCmp_ok {K : PySem.W.Frag} {f : Int → Int → Bool} {g : List Nat → List Nat → Bool} : Op2 K (fun x y H Q => rI0 (fun i j => .bl (f i j)) x y H Q ∨ rCmpS g x y H Q) (oCmp f g) := by
  intro H x y d Q okx oky gx gy e q
  unfold oCmp at e
  split at e
  · rename_i i j e1 e2
    have := er_v e1; subst this
    have := er_v e2; subst this
    cases e
    exact .inl ⟨i, j, rfl, rfl, q (.v _) H rfl trivial Frsh.atom⟩
  · rename_i a b e1 e2
    have := er_v e1; subst this
    have := er_v e2; subst this
    cases e
    exact .inr ⟨a, b, rfl, rfl, q (.v _) H rfl trivial Frsh.atom⟩
  · cases e
abbrev oLt := oCmp (fun i j => decide (i < j)) fun a b => decide (a < b)
abbrev oLe := oCmp (fun i j => decide (i ≤ j)) fun a b => !decide (b < a)
abbrev oGt := oCmp (fun i j => decide (j < i)) fun a b => decide (b < a)
abbrev oGe := oCmp (fun i j => decide (j ≤ i)) fun a b => !decide (a < b)
section
variable {X : Cx}
theorem op_ltA : OpR X (compareOp .Lt) (fun x y H Q => rI0 (fun i j => .bl (decide (i < j))) x y H Q ∨ rCmpS (fun a b => decide (a < b)) x y H Q) := opr_or op_lt op_lt_str
theorem op_leA : OpR X (compareOp .LtE) (fun x y H Q => rI0 (fun i j => .bl (decide (i ≤ j))) x y H Q ∨ rCmpS (fun a b => !decide (b < a)) x y H Q) := opr_or op_le op_le_str
theorem op_gtA : OpR X (compareOp .Gt) (fun x y H Q => rI0 (fun i j => .bl (decide (j < i))) x y H Q ∨ rCmpS (fun a b => decide (b < a)) x y H Q) := opr_or op_gt op_gt_str
theorem op_geA : OpR X (compareOp .GtE) (fun x y H Q => rI0 (fun i j => .bl (decide (j ≤ i))) x y H Q ∨ rCmpS (fun a b => !decide (a < b)) x y H Q) := opr_or op_ge op_ge_str
end
end VS
namespace VS
open PySem PySem.Spec PyProof.Rows L2

/-! ### comparisons -/
def CmpOk (K : PySem.W.Frag) (r : R2) (f : D → D → Option Bool) : Prop :=
  ∀ (H : Hp) (x y : T) (b : Bool) (Q : VK), x.ok K H → y.ok K H → f x.er y.er = some b → Q (.bl b) H → r x.rt y.rt H Q
def oB (f : D → D → Option Bool) : D → D → Option D := fun x y => (f x y).map D.bl
theorem CmpOk.op2 {K : PySem.W.Frag} {r : R2} {f : D → D → Option Bool} (h : CmpOk K r f) : Op2 K r (oB f) := by
  intro H x y d Q okx oky gx gy e q
  unfold oB at e
  cases ef : f x.er y.er with
  | none => rw [ef] at e; cases e
  | some b => rw [ef] at e; cases e; exact h H x y b Q okx oky ef (q (.v _) H rfl trivial Frsh.atom)
def dCmp (m : Md) (mb : List Nat) (f : D → D → Option Bool) (da db : E) : B := fun s => (da s).bind fun q => if (clr m mb || !q.1.hasOwn) = true then (db q.2).bind fun r => match f q.1 r.1 with
    | some b => .ok (b, r.2)
    | none => .no
  else .no
theorem dCmp_eq (m : Md) (mb : List Nat) (f : D → D → Option Bool) (da db : E) : dTv (dTwo m mb (oB f) da db) = dCmp m mb f da db := by
  funext s
  unfold dTv dTwo dCmp oB
  cases da s with
  | no => rfl
  | ex c fs s => rfl
  | ok q =>
    simp only [R.bind]
    by_cases h : (clr m mb || !q.1.hasOwn) = true
    · rw [if_pos h, if_pos h]
      cases db q.2 with
      | no => rfl
      | ex c fs s => rfl
      | ok r => simp only; cases f q.1 r.1 <;> rfl
    · rw [if_neg h, if_neg h]
section
variable {K : PySem.W.Frag} {W : WX} {io : List Nat} {ta tb : TE} {da db : E} {m1 m2 : Md} {d1 d2 : List Nat}
theorem erd_two {r : R2} {f : D → D → Option D} (ha : ERd K W io m1 d1 ta da) (hb : ERd K W io m2 d2 tb db) (hf : Op2 K r f) : ERd K W io .tmp (d1 ++ d2) (tOp r ta tb) (dTwo m1 d2 f da db) := fun ρ ts σ H Q S h => by
  rw [dTwo_eq m1 m2 _ _ _ _ (clr_nil m2)] at h
  have q := rdN (ard_cons ha (ard_cons hb ard_nil)) hf.n ρ ts σ H Q S (by rw [List.append_nil]; exact h)
  exact q
theorem erd_oneU {r : V → Hp → VK → Prop} {f : D → Option D} (ha : ERd K W io m1 d1 ta da) (hf : Op1 K r f) : ERd K W io .tmp d1 (tUn r ta) (dOne f da) := fun ρ ts σ H Q S h => by
  rw [dOne_eq m1] at h
  have q := rdN (ard_cons ha ard_nil) hf.n ρ ts σ H Q S (by rw [List.append_nil]; exact h)
  exact q
theorem trd_cmp {r : R2} {f : D → D → Option Bool} (ha : ERd K W io m1 d1 ta da) (hb : ERd K W io m2 d2 tb db) (hf : CmpOk K r f) : TRd K W io (d1 ++ d2) (tTest (tOp r ta tb)) (dCmp m1 d2 f da db) := by
  rw [← dCmp_eq]
  exact trd_v (erd_two ha hb hf.op2)
end
theorem eqd_ok {K : PySem.W.Frag} : CmpOk K (rEqA K) eqD := by
  intro H x y b Q okx oky eb q
  rcases eqD_cases okx oky eb with ⟨h1, h2⟩ | ⟨d, e, h1, h2, h3, h4, h5⟩
  · exact .inl ⟨h1, by rw [← h2]; exact q⟩
  · exact .inr ⟨d, e, h1, h2, h3, h4, by rw [← h5]; exact q⟩
def neD (x y : D) : Option Bool := (eqD x y).map fun b => !b
theorem ned_ok {K : PySem.W.Frag} : CmpOk K (rNeA K) neD := by
  intro H x y b Q okx oky eb q
  unfold neD at eb
  cases e : eqD x.er y.er with
  | none => rw [e] at eb; cases eb
  | some c =>
    rw [e] at eb; cases eb
    rcases eqD_cases okx oky e with ⟨h1, h2⟩ | ⟨d, e, h1, h2, h3, h4, h5⟩
    · exact .inl ⟨h1, by rw [← h2]; exact q⟩
    · exact .inr ⟨d, e, h1, h2, h3, h4, by rw [← h5]; exact q⟩
def cmpD (f : Int → Int → Bool) (g : List Nat → List Nat → Bool) : D → D → Option Bool
  | .v (.int i), .v (.int j) => some (f i j)
  | .v (.str i), .v (.str j) => some (g i.cps.toList j.cps.toList)
  | _, _ => none
theorem cmpd_ok {K : PySem.W.Frag} {f : Int → Int → Bool} {g : List Nat → List Nat → Bool} : CmpOk K (fun x y H Q => rI0 (fun i j => .bl (f i j)) x y H Q ∨ rCmpS g x y H Q) (cmpD f g) := by
  intro H x y b Q okx oky eb q
  unfold cmpD at eb
  split at eb
  · rename_i i j e1 e2
    have := er_v e1; subst this
    have := er_v e2; subst this
    cases eb
    exact .inl ⟨i, j, rfl, rfl, q⟩
  · rename_i i j e1 e2
    have := er_v e1; subst this
    have := er_v e2; subst this
    cases eb
    exact .inr ⟨i, j, rfl, rfl, q⟩
  · cases eb
abbrev ltD := cmpD (fun i j => decide (i < j)) fun a b => decide (a < b)
abbrev leD := cmpD (fun i j => decide (i ≤ j)) fun a b => !decide (b < a)
abbrev gtD := cmpD (fun i j => decide (j < i)) fun a b => decide (b < a)
abbrev geD := cmpD (fun i j => decide (j ≤ i)) fun a b => !decide (a < b)
def D.isNon : D → Option Bool
  | .un => none
  | .v .non => some true
  | _ => some false
def isNoneD (neg : Bool) (x y : D) : Option Bool := match y with
  | .v .non => x.isNon.map fun b => b != neg
  | _ => none
theorem isNon_rt {t : T} {b : Bool} (h : t.er.isNon = some b) : b = decide (t.rt = .non) := by
  cases t with
  | un => cases h
  | v x => cases x <;> cases h <;> rfl
  | nd a k xs => rw [T.er] at h; cases h; rfl
theorem is_ok {K : PySem.W.Frag} : CmpOk K (fun x y H Q => y = .non ∧ Q (.bl (decide (x = .non))) H) (isNoneD false) := by
  intro H x y b Q okx oky eb q
  unfold isNoneD at eb
  split at eb
  · rename_i e
    have := er_v e; subst this
    cases en : x.er.isNon with
    | none => rw [en] at eb; cases eb
    | some c => rw [en] at eb; cases eb; have := isNon_rt en; subst this; exact ⟨rfl, by simpa using q⟩
  · cases eb
theorem isnt_ok {K : PySem.W.Frag} : CmpOk K (fun x y H Q => y = .non ∧ Q (.bl (!decide (x = .non))) H) (isNoneD true) := by
  intro H x y b Q okx oky eb q
  unfold isNoneD at eb
  split at eb
  · rename_i e
    have := er_v e; subst this
    cases en : x.er.isNon with
    | none => rw [en] at eb; cases eb
    | some c => rw [en] at eb; cases eb; have := isNon_rt en; subst this; exact ⟨rfl, by simpa using q⟩
  · cases eb
section
variable {X : Cx} {W : WX} {io : List Nat} {a b c : Expr} {pos : Pos} {ta tb tc : TE} {da db dc : E} {m1 m2 m3 : Md} {d1 d2 d3 : List Nat} {op op' : CmpOp} {r r' : R2} {f f' : D → D → Option Bool}
/-- one operator, one operand, two -/
theorem de_bin {bop : Operator} {g : D → D → Option D} (ho : OpR X (binaryOp bop) r) (hf : Op2 X.K r g) (ha : DE X W io m1 d1 a ta da) (hb : DE X W io m2 d2 b tb db) : DE X W io .tmp (d1 ++ d2) (.BinOp a bop b pos) (tOp r ta tb) (dTwo m1 d2 g da db) := ⟨pe_op ho ha.pe hb.pe, erd_two ha.rd hb.rd hf⟩
theorem de_cmp (ho : OpR X (compareOp op) r) (hf : CmpOk X.K r f) (ha : DE X W io m1 d1 a ta da) (hb : DE X W io m2 d2 b tb db) (hm : behindInMarks op b = false := by with_unfolding_all rfl) : DE X W io .tmp (d1 ++ d2) (.Compare a [op] [b] pos) (tOp r ta tb) (dTwo m1 d2 (oB f) da db) := ⟨pe_cmpR ho ha.pe hb.pe hm, erd_two ha.rd hb.rd hf.op2⟩
theorem dt_cmp (ho : OpR X (compareOp op) r) (hf : CmpOk X.K r f) (ha : DE X W io m1 d1 a ta da) (hb : DE X W io m2 d2 b tb db) (hm : behindInMarks op b = false := by with_unfolding_all rfl) : DT X W io (d1 ++ d2) (.Compare a [op] [b] pos) (tTest (tOp r ta tb)) (dCmp m1 d2 f da db) := ⟨pt_cmpR ho ha.pe hb.pe hm, trd_cmp ha.rd hb.rd hf⟩
def oNeg : D → Option D
  | .v (.int i) => some (.v (.int (-i)))
  | _ => none
theorem neg_ok {K : PySem.W.Frag} : Op1 K (rU fun i => .int (-i)) oNeg := by
  intro H x d Q ok g e q
  unfold oNeg at e
  split at e
  · rename_i i e1
    have := er_v e1; subst this
    cases e
    exact ⟨i, rfl, q (.v _) H rfl trivial Frsh.atom⟩
  · cases e
theorem de_neg (ha : DE X W io m1 d1 a ta da) : DE X W io .tmp d1 (.UnaryOp .USub a pos) (tUn (rU fun i => .int (-i)) ta) (dOne oNeg da) := ⟨pe_un un_neg ha.pe, erd_oneU ha.rd neg_ok⟩
end

/-! ### chains -/
def dChn (f f' : D → D → Option Bool) (da db dc : E) : B := fun s => (da s).bind fun q => (db q.2).bind fun r => match q.1, r.1 with
  | .v x, .v y => match f (.v x) (.v y) with
    | some true => (dc r.2).bind fun p => match f' (.v y) p.1 with
      | some b => .ok (b, p.2)
      | none => .no
    | some false => .ok (false, r.2)
    | none => .no
  | _, _ => .no
section
variable {K : PySem.W.Frag} {W : WX} {io : List Nat} {ta tb tc : TE} {da db dc : E} {m1 m2 m3 : Md} {d1 d2 d3 : List Nat} {r r' : R2} {f f' : D → D → Option Bool}
theorem chn_core (ha : ERd K W io m1 d1 ta da) (hb : ERd K W io m2 d2 tb db) (hc : ERd K W io m3 d3 tc dc) (hf : CmpOk K r f) (hf' : CmpOk K r' f') {ρ : Nat → V} {ts : List T} {σ : L2.St} {H : Hp} {Q : VK} (S : Sim K io ρ ts σ H)
    (h : TPost K W io ρ (d1 ++ (d2 ++ d3)) ts σ H (fun b H' => Q (.bl b) H') (dChn f f' da db dc (T.ers ts))) : tChain r r' ta tb tc σ H Q := by
  refine ha ρ ts σ H _ S ?_
  unfold dChn at h
  cases ea : da (T.ers ts) with
  | no => rw [ea] at h; exact h
  | ex c fs s => rw [ea] at h; exact h
  | ok q =>
    obtain ⟨x, s⟩ := q
    rw [ea] at h
    intro ts1 t1 H1 S1 e1 et1 ok1 mr1 st1 pu1
    simp only [R.bind] at h
    refine hb ρ ts1 σ H1 _ S1 ?_
    rw [e1]
    have st1 := st1.tail
    cases eb : db s with
    | no => rw [eb] at h; exact h
    | ex c fs s2 => rw [eb] at h; exact fun ts2 H2 d S2 e2 st2 x => h ts2 H2 d S2 e2 (st1.trans st2) x
    | ok p =>
      obtain ⟨y, s2⟩ := p
      rw [eb] at h
      intro ts2 t2 H2 S2 e2 et2 ok2 mr2 st2 pu2
      simp only at h
      have st12 := st1.trans st2.tail
      have pu : ∀ j, j ∉ d1 ++ d2 → ts2[j]? = ts[j]? := fun j hj => (pu2 j fun z => hj (List.mem_append_right _ z)).trans (pu1 j fun z => hj (List.mem_append_left _ z))
      split at h
      · rename_i xv yv
        have := er_v et1; subst this
        have := er_v et2; subst this
        split at h
        · rename_i ef
          refine hf H2 (.v xv) (.v yv) true _ trivial trivial ef ⟨true, rfl, ?_⟩
          rw [if_pos rfl]
          refine hc ρ ts2 σ H2 _ S2 ?_
          rw [e2]
          cases ec : dc s2 with
          | no => rw [ec] at h; exact h
          | ex c fs s3 => rw [ec] at h; exact fun ts3 H3 d S3 e3 st3 x => h ts3 H3 d S3 e3 (st12.trans st3) x
          | ok w =>
            obtain ⟨z, s3⟩ := w
            rw [ec] at h
            intro ts3 t3 H3 S3 e3 et3 ok3 mr3 st3 pu3
            simp only at h
            split at h
            · rename_i b eg
              refine hf' H3 (.v yv) t3 b _ trivial ok3 (by rw [et3]; exact eg) (h ts3 H3 S3 e3 (st12.trans st3.tail) fun j hj => ?_)
              rw [List.mem_append, List.mem_append, not_or, not_or] at hj
              exact (pu3 j hj.2.2).trans (pu j fun z => by
                rcases List.mem_append.mp z with z | z
                · exact hj.1 z
                · exact hj.2.1 z)
            · exact h.elim
        · rename_i ef
          refine hf H2 (.v xv) (.v yv) false _ trivial trivial ef ⟨false, rfl, ?_⟩
          rw [if_neg Bool.false_ne_true]
          exact h ts2 H2 S2 e2 st12 fun j hj => pu j fun z => hj (by
            rcases List.mem_append.mp z with z | z
            · exact List.mem_append_left _ z
            · exact List.mem_append_right _ (List.mem_append_left _ z))
        · exact h.elim
      · exact h.elim
theorem trd_chn (ha : ERd K W io m1 d1 ta da) (hb : ERd K W io m2 d2 tb db) (hc : ERd K W io m3 d3 tc dc) (hf : CmpOk K r f) (hf' : CmpOk K r' f') : TRd K W io (d1 ++ (d2 ++ d3)) (tTest (tChain r r' ta tb tc)) (dChn f f' da db dc) := fun ρ ts σ H Q S h => by
  refine chn_core (Q := fun x H' => ∃ k, x = .bl k ∧ Q k H') ha hb hc hf hf' S ?_
  cases e : dChn f f' da db dc (T.ers ts) with
  | no => rw [e] at h; exact h
  | ex c fs s => rw [e] at h; exact h
  | ok q => rw [e] at h; exact fun ts1 H1 S1 e1 st1 pu1 => ⟨_, rfl, h ts1 H1 S1 e1 st1 pu1⟩
theorem erd_chn (ha : ERd K W io m1 d1 ta da) (hb : ERd K W io m2 d2 tb db) (hc : ERd K W io m3 d3 tc dc) (hf : CmpOk K r f) (hf' : CmpOk K r' f') : ERd K W io .tmp (d1 ++ (d2 ++ d3)) (tChain r r' ta tb tc) (dVof (dChn f f' da db dc)) := fun ρ ts σ H Q S h => by
  refine chn_core ha hb hc hf hf' S ?_
  unfold dVof at h
  cases e : dChn f f' da db dc (T.ers ts) with
  | no => rw [e] at h; exact h
  | ex c fs s => rw [e] at h; exact h
  | ok q => rw [e] at h; exact fun ts1 H1 S1 e1 st1 pu1 => EPost.bool h S1 e1 st1 pu1
end
section
variable {X : Cx} {W : WX} {io : List Nat} {a b c : Expr} {pos : Pos} {ta tb tc : TE} {da db dc : E} {m1 m2 m3 : Md} {d1 d2 d3 : List Nat} {op op' : CmpOp} {r r' : R2} {f f' : D → D → Option Bool}
theorem de_chn (ho : OpR X (compareOp op) r) (hf : CmpOk X.K r f) (ho' : OpR X (compareOp op') r') (hf' : CmpOk X.K r' f') (ha : DE X W io m1 d1 a ta da) (hb : DE X W io m2 d2 b tb db) (hc : DE X W io m3 d3 c tc dc)
    (hm : lastMarks [op, op'] [b, c] = false := by with_unfolding_all rfl) : DE X W io .tmp (d1 ++ (d2 ++ d3)) (.Compare a [op, op'] [b, c] pos) (tChain r r' ta tb tc) (dVof (dChn f f' da db dc)) := ⟨pe_chain ho ho' ha.pe hb.pe hc.pe hm, erd_chn ha.rd hb.rd hc.rd hf hf'⟩
theorem dt_chn (ho : OpR X (compareOp op) r) (hf : CmpOk X.K r f) (ho' : OpR X (compareOp op') r') (hf' : CmpOk X.K r' f') (ha : DE X W io m1 d1 a ta da) (hb : DE X W io m2 d2 b tb db) (hc : DE X W io m3 d3 c tc dc)
    (hm : lastMarks [op, op'] [b, c] = false := by with_unfolding_all rfl) : DT X W io (d1 ++ (d2 ++ d3)) (.Compare a [op, op'] [b, c] pos) (tTest (tChain r r' ta tb tc)) (dChn f f' da db dc) := ⟨pt_chain ho ho' ha.pe hb.pe hc.pe hm, trd_chn ha.rd hb.rd hc.rd hf hf'⟩
end
/-! ### what is never reached -/
def eNo : E := fun _ => .no
def sNo : S := fun _ => .no
def bNo : B := fun _ => .no
theorem de_no {X : Cx} {W : WX} {io : List Nat} {e : Expr} : DE X W io .tmp [] e (fun _ _ _ => False) eNo := ⟨⟨fun _ _ _ _ _ _ h => h.elim⟩, fun _ _ _ _ _ _ h => h⟩
theorem ds_no {X : Cx} {W : WX} {io : List Nat} {e : Stmt} : DS X W io [] e (fun _ _ _ => False) sNo := ⟨⟨fun _ _ _ _ _ _ h => h.elim⟩, fun _ _ _ _ _ _ h => h⟩
theorem dss_no {X : Cx} {W : WX} {io : List Nat} {e : List Stmt} : DSs X W io [] e (fun _ _ _ => False) sNo := ⟨⟨fun _ _ _ _ _ _ h => h.elim⟩, fun _ _ _ _ _ _ h => h⟩
theorem dt_no {X : Cx} {W : WX} {io : List Nat} {e : Expr} : DT X W io [] e (fun _ _ _ => False) bNo := ⟨⟨fun _ _ _ _ _ _ h => h.elim⟩, fun _ _ _ _ _ _ h => h⟩
/-! ### a global's value -/
theorem de_glob {X : Cx} {W : WX} {io : List Nat} {x : Str} {v : V} {u : Value} {pos : Pos} (hg : Gl X x) (hm : X.mg x = some u) (r : RelV v u) (hd : (x == ("__debug__" : Str)) = false := by decide) : DE X W io .tmp [] (.Name x pos) (tC v) (dc v) := de_c (pe_glob hg hm r hd)
theorem de_bltn {X : Cx} {W : WX} {io : List Nat} {x : Str} {v : V} {u : Value} {pos : Pos} (hg : Gl X x) (hm : X.mg x = none) (hv : bootBuiltins x = some u) (r : RelV v u) (hn : x ≠ "__name__" := by decide) (hd : (x == ("__debug__" : Str)) = false := by decide) : DE X W io .tmp [] (.Name x pos) (tC v) (dc v) := de_c (pe_bltn hg hm hv r hn hd)
end VS
namespace VS
open PySem PySem.Spec PyProof.Rows L2

/-- a held thing while more is evaluated -/
theorem held {K : PySem.W.Frag} {io : List Nat} {ρ : Nat → V} {m : Md} {mr : List Nat} {t : T} {ts1 ts2 us : List T} {σ : L2.St} {H1 H2 : Hp} (S1 : Sim K io ρ ts1 σ H1) (ok1 : t.ok K H1) (mr1 : MRel m t ts1) (S2 : Sim K io ρ ts2 σ H2)
    (st2 : Step H1 ts1 H2 (us ++ ts2)) (pu2 : ∀ j, j ∉ mr → ts2[j]? = ts1[j]?) (hc : (clr m mr || !t.er.hasOwn) = true) : t.ok K H2 ∧ MRel m t ts2 := by
  have viaDj : (∀ u ∈ ts1, Dj t u) → t.ok K H2 ∧ (∀ u ∈ ts2, Dj t u) := fun hd =>
    ⟨keepT ok1 S1.ok st2 fun u mu a ma => (hd u mu).2 a ma, fun u mu => djStep ok1 hd st2 u (List.mem_append_right _ mu)⟩
  have free : t.own = [] → t.ok K H2 ∧ MRel m t ts2 := fun on => by
    obtain ⟨k1, k2⟩ := viaDj (mr1.tmp S1.wf on).2
    exact ⟨k1, TRel.of ⟨mr1.good S1.wf, k2⟩ on⟩
  cases m with
  | tmp =>
    obtain ⟨k1, k2⟩ := viaDj mr1.2
    exact ⟨k1, mr1.1, k2⟩
  | vw src =>
    rcases mr1 with ⟨i, mi, u, eu, sb⟩ | ⟨on, _⟩
    · by_cases ho : t.er.hasOwn = false
      · exact free (T.own_nil ho)
      · have hx : t.er.hasOwn = true := by cases q : t.er.hasOwn with | true => rfl | false => exact absurd q ho
        rw [hx, Bool.not_true, Bool.or_false] at hc
        have hi : i ∉ mr := by
          have := (List.all_eq_true.mp hc) i mi
          simpa using this
        have e2' : ts2[i]? = some u := (pu2 i hi).trans eu
        exact ⟨sb.ok (S2.ok u (List.mem_of_getElem? e2')), .inl ⟨i, mi, u, e2', sb⟩⟩
    · exact free on
/-- a child is held as its node is -/
theorem MRel.child {m : Md} {a : Addr} {k : NK} {xs : List T} {c : T} {ts : List T} (h : MRel m (.nd a k xs) ts) (mc : c ∈ xs) : MRel m c ts := by
  have up : ∀ {p : NK → Bool} {z : Addr}, z ∈ c.col p → z ∈ (T.nd a k xs).col p := fun {p z} mz => T.mem_col.mpr (.inr ⟨c, mc, mz⟩)
  have tr : TRel (.nd a k xs) ts → TRel c ts := fun h => by
    have g := h.1
    rw [T.good] at g
    exact ⟨goods_mem g.2.2 mc, fun u mu => ⟨fun z mz => (h.2 u mu).1 z (up mz), fun z mz q => (h.2 u mu).2 z mz (up q)⟩⟩
  cases m with
  | tmp => exact tr h
  | vw src =>
    rcases h with ⟨i, mi, u, e, s⟩ | ⟨on, h⟩
    · exact .inl ⟨i, mi, u, e, (Sbt.child mc (.refl c)).trans s⟩
    · refine .inr ⟨?_, tr h⟩
      cases q : c.own with
      | nil => rfl
      | cons z r =>
        have : z ∈ (T.nd a k xs).own := up (show z ∈ c.own by rw [q]; simp)
        rw [on] at this; cases this
theorem Step.child {H H' : Hp} {A B : List T} {a : Addr} {k : NK} {xs : List T} {c : T} (s : Step H A H' (.nd a k xs :: B)) (mc : c ∈ xs) : Step H A H' (c :: B) := by
  have up : ∀ {p : NK → Bool} {z : Addr}, z ∈ c.col p → z ∈ (T.nd a k xs).col p := fun {p z} mz => T.mem_col.mpr (.inr ⟨c, mc, mz⟩)
  exact s.tail.cons (fun z mz => s.ow _ List.mem_cons_self z (up mz)) (fun z mz => s.tr _ List.mem_cons_self z (up mz)) (fun z mz => s.im _ List.mem_cons_self z (up mz))

/-! ### a[i] -/
def ixD : D → D → Option D
  | .v (.str z), .v (.int j) => if z.length ≤ sizeLine then (atI z.cps.toList j).map fun c => .v (.str ⟨#[c]⟩) else none
  | .nd k xs, .v (.int j) => match D.kids (.nd k xs) with
    | some ys => match ixN ys.length j with
      | some c => ys[c]?
      | none => none
    | none => none
  | _, _ => none
def dIx (m : Md) (mb : List Nat) (da db : E) : E := fun s => (da s).bind fun q => if (clr m mb || !q.1.hasOwn) = true then (db q.2).bind fun r => match ixD q.1 r.1 with
    | some d => .ok (d, r.2)
    | none => .no
  else .no
section
variable {K : PySem.W.Frag} {W : WX} {io : List Nat} {ta tb : TE} {da db : E} {m1 m2 : Md} {d1 d2 : List Nat}
theorem erd_ix (ha : ERd K W io m1 d1 ta da) (hb : ERd K W io m2 d2 tb db) : ERd K W io m1 (d1 ++ d2) (tOp (rIx K) ta tb) (dIx m1 d2 da db) := fun ρ ts σ H Q S h => by
  refine ha ρ ts σ H _ S ?_
  unfold dIx at h
  cases ea : da (T.ers ts) with
  | no => rw [ea] at h; exact h
  | ex c fs s => rw [ea] at h; exact h
  | ok q =>
    obtain ⟨x, s⟩ := q
    rw [ea] at h
    intro ts1 t1 H1 S1 e1 et1 ok1 mr1 st1 pu1
    simp only [R.bind] at h
    split at h
    · rename_i hc
      refine hb ρ ts1 σ H1 _ S1 ?_
      rw [e1]
      cases eb : db s with
      | no => rw [eb] at h; exact h
      | ex c fs s2 => rw [eb] at h; exact fun ts2 H2 d S2 e2 st2 x => h ts2 H2 d S2 e2 (st1.tail.trans st2) x
      | ok r =>
        obtain ⟨y, s2⟩ := r
        rw [eb] at h
        intro ts2 t2 H2 S2 e2 et2 ok2 mr2 st2 pu2
        simp only at h
        obtain ⟨ok1', mr1'⟩ := held (us := [t2]) S1 ok1 mr1 S2 st2 pu2 (by rw [et1]; exact hc)
        have stt : Step H ts H2 (t1 :: ts2) := (st1.tail.trans st2.tail).cons (st1.ow _ List.mem_cons_self) (st1.tr _ List.mem_cons_self) (st1.im _ List.mem_cons_self)
        have pu : ∀ j, j ∉ d1 ++ d2 → ts2[j]? = ts[j]? := fun j hj => (pu2 j fun z => hj (List.mem_append_right _ z)).trans (pu1 j fun z => hj (List.mem_append_left _ z))
        cases ed : ixD x y with
        | none => rw [ed] at h; exact h.elim
        | some d =>
          rw [ed] at h
          simp only at h
          unfold ixD at ed
          split at ed
          · have := er_v et1; subst this
            have := er_v et2; subst this
            split at ed
            · rename_i z j hz
              cases ec : atI z.cps.toList j with
              | none => rw [ec] at ed; cases ed
              | some c =>
                rw [ec] at ed; cases ed
                exact .inr (.inr ⟨z, j, c, rfl, rfl, hz, ec, h ts2 (.v _) H2 S2 e2 rfl trivial (TRel.of trel_v rfl) stt.tail.consV pu⟩)
            · cases ed
          · have := er_v et2; subst this
            rename_i k xs j
            cases ek : D.kids (.nd k xs) with
            | none => rw [ek] at ed; cases ed
            | some ys =>
              rw [ek] at ed
              simp only at ed
              cases ec : ixN ys.length j with
              | none => rw [ec] at ed; cases ed
              | some c =>
                rw [ec] at ed
                simp only at ed
                obtain ⟨a, k', us, rfl, eu, sq⟩ := kids_sq ok1' (by rw [et1]; exact ek)
                rw [← eu] at ed
                obtain ⟨u, eu1, eu2, _⟩ := rts_get ed
                have mu := List.mem_of_getElem? eu1
                exact rIx_of sq (by rw [← ers_len us, eu]; exact ec) eu1 (h ts2 u H2 S2 e2 eu2 (ok1'.child mu) (mr1'.child mu) (stt.child mu) pu)
          · cases ed
    · exact h.elim
/-! ### slices -/
def cutL {α : Type} (xs : List α) (lo hi : Option Int) : List α := (xs.drop (HT.sIx xs.length 0 lo)).take (HT.sIx xs.length xs.length hi - HT.sIx xs.length 0 lo)
def slD (x : D) (lo hi : Option Int) : Option D := match x with
  | .v (.str z) => if z.length ≤ sizeLine then some (.v (.str (cutS z lo hi))) else none
  | .nd .tup xs => if D.hass NK.isOwn xs = false then some (.nd .tup (cutL xs lo hi)) else none
  | .nd .scr xs => if D.hass NK.isOwn xs = false then some (.nd (.lst true) (cutL xs lo hi)) else none
  | .nd (.lst _) xs => if D.hass NK.isOwn xs = false then some (.nd (.lst true) (cutL xs lo hi)) else none
  | _ => none
def SlOk (K : PySem.W.Frag) (r : V → Option Int → Option Int → Hp → VK → Prop) (f : D → Option Int → Option Int → Option D) : Prop :=
  ∀ (H : Hp) (x : T) (lo hi : Option Int) (d : D) (Q : VK), x.ok K H → x.good → f x.er lo hi = some d → (∀ t H', t.er = d → t.ok K H' → Frsh H [x] H' t → Q t.rt H') → r x.rt lo hi H Q
def rSl (K : PySem.W.Frag) : V → Option Int → Option Int → Hp → VK → Prop := fun x lo hi H Q => rSlL K x lo hi H Q ∨ rSlS x lo hi H Q ∨ rSlA K x lo hi H Q
theorem sl_any {X : Cx} : SlR X (rSl X.K) := sl_list.or (sl_str.or sl_tupA)
theorem ers_cut (us : List T) (lo hi : Option Int) : T.ers (cutL us lo hi) = cutL (T.ers us) lo hi := by
  unfold cutL; rw [T.ers_map, T.ers_map, List.map_take, List.map_drop, List.length_map]
theorem rts_cut (us : List T) (lo hi : Option Int) : T.rts (cutL us lo hi) = cutV (T.rts us) lo hi := by
  unfold cutL cutV; rw [T.rts_map, T.rts_map, List.map_take, List.map_drop, List.length_map]
theorem mem_cut {α : Type} {us : List α} {lo hi : Option Int} {u : α} (h : u ∈ cutL us lo hi) : u ∈ us := List.mem_of_mem_drop (List.mem_of_mem_take h)
/-- a new list of some of a thing's items -/
theorem sub_new {k k' : NK} {a : Addr} {us ws : List T} {H : Hp} {o : HO} {p : Addr} (ok : (T.nd a k us).ok K H) (g : (T.nd a k us).good) (ho : D.hass NK.isOwn (T.ers us) = false) (hs : ∀ w ∈ ws, w ∈ us) (hp : H p = none) (hn : NodeAt K (upd H p o) p (T.rts ws) k') :
    (T.nd p k' ws).ok K (upd H p o) ∧ Frsh H [.nd a k us] (upd H p o) (.nd p k' ws) :=
  ⟨ok_new hp hn fun c m => ok.child (hs c m), Frsh.node hp (fun u m => by rw [List.mem_singleton.mp m]; exact ok) fun c m => ⟨_, List.mem_singleton_self _, Sub0.child g (hs c m) (hass_own ho c (hs c m))⟩⟩
theorem cut_whole {α : Type} {us : List α} {lo hi : Option Int} (h : HT.sIx us.length 0 lo = 0 ∧ HT.sIx us.length us.length hi = us.length) : cutL us lo hi = us := by
  unfold cutL; rw [h.1, h.2, List.drop_zero, Nat.sub_zero, List.take_length]
theorem sl_ok : SlOk K (rSl K) slD := by
  intro H x lo hi d Q ok g e q
  unfold slD at e
  split at e
  · rename_i z e1
    have := er_v e1; subst this
    split at e
    · rename_i hz; cases e; exact .inr (.inl ⟨z, rfl, hz, q (.v _) H rfl trivial Frsh.atom⟩)
    · cases e
  · rename_i xs e1
    obtain ⟨a, us, rfl, h1⟩ := er_nd e1
    subst h1
    split at e
    · rename_i ho
      cases e
      refine .inr (.inr ⟨a, T.rts us, rfl, ok.sqT, fun hw => ?_, fun _ p hp => ?_⟩)
      · rw [rts_len] at hw
        refine q (.nd a .tup us) H ?_ ok (frsh_self (List.mem_singleton_self _) g (tup_own ho))
        rw [T.er, cut_whole (by rw [ers_len]; exact hw)]
      · obtain ⟨h1, h2⟩ := sub_new (k' := .tup) (o := .tup (cutV (T.rts us) lo hi)) (ws := cutL us lo hi) ok g ho (fun w m => mem_cut m) hp (show SqT K _ p _ by rw [rts_cut]; exact SqT.of upd_same)
        exact q _ _ (by rw [T.er, ers_cut]) h1 h2
    · cases e
  · rename_i xs e1
    obtain ⟨a, us, rfl, h1⟩ := er_nd e1
    subst h1
    split at e
    · rename_i ho
      cases e
      refine .inl ⟨a, T.rts us, rfl, ok.sqS, fun p hp => ?_⟩
      obtain ⟨h1, h2⟩ := sub_new (k' := .lst true) (o := .lst (cutV (T.rts us) lo hi)) (ws := cutL us lo hi) ok g ho (fun w m => mem_cut m) hp (show upd H p _ p = _ by rw [upd_same, rts_cut])
      exact q _ _ (by rw [T.er, ers_cut]) h1 h2
    · cases e
  · rename_i o xs e1
    obtain ⟨a, us, rfl, h1⟩ := er_nd e1
    subst h1
    split at e
    · rename_i ho
      cases e
      refine .inl ⟨a, T.rts us, rfl, ok.sqL, fun p hp => ?_⟩
      obtain ⟨h1, h2⟩ := sub_new (k' := .lst true) (o := .lst (cutV (T.rts us) lo hi)) (ws := cutL us lo hi) ok g ho (fun w m => mem_cut m) hp (show upd H p _ p = _ by rw [upd_same, rts_cut])
      exact q _ _ (by rw [T.er, ers_cut]) h1 h2
    · cases e
  · cases e
/-- an int, looked at, ahead of the rest -/
def tConsI (te : TE) (tr : TA) : TA := fun σ H Q => te σ H fun x H1 => ∃ i, x = .int i ∧ tr σ H1 fun xs H2 => Q (.int i :: xs) H2
def dAconsI (de : E) (dr : EA) : EA := fun s => (de s).bind fun q => match q.1 with
  | .v (.int i) => (dr q.2).bind fun r => .ok (.v (.int i) :: r.1, r.2)
  | _ => .no
theorem ard_consI {m : Md} {ms : List Md} {md mr : List Nat} {te : TE} {tr : TA} {de : E} {dr : EA} (he : ERd K W io m md te de) (hr : ARd K W io ms mr tr dr) : ARd K W io (.tmp :: ms) (md ++ mr) (tConsI te tr) (dAconsI de dr) := fun ρ ts σ H Q S h => by
  refine he ρ ts σ H _ S ?_
  unfold dAconsI at h
  cases ea : de (T.ers ts) with
  | no => rw [ea] at h; exact h
  | ex c fs s => rw [ea] at h; exact h
  | ok q =>
    obtain ⟨x, s⟩ := q
    rw [ea] at h
    intro ts1 t H1 S1 e1 et ok1 mr1 st1 pu1
    simp only [R.bind] at h
    split at h
    · rename_i i
      have := er_v et; subst this
      refine ⟨i, rfl, ?_⟩
      refine cons_tail (m := .tmp) (x := .v (.int i)) (s := s) (t := .v (.int i)) hr ?_ S1 e1 rfl trivial trel_v st1 pu1
      rw [if_pos (by rfl)]
      exact h
    · exact h.elim
end
def rS11 (r : V → Option Int → Option Int → Hp → VK → Prop) : List V → Hp → VK → Prop := fun vs H Q => match vs with
  | [x, .int i, .int j] => r x (some i) (some j) H Q
  | _ => False
def rS10 (r : V → Option Int → Option Int → Hp → VK → Prop) : List V → Hp → VK → Prop := fun vs H Q => match vs with
  | [x, .int i] => r x (some i) none H Q
  | _ => False
def rS01 (r : V → Option Int → Option Int → Hp → VK → Prop) : List V → Hp → VK → Prop := fun vs H Q => match vs with
  | [x, .int i] => r x none (some i) H Q
  | _ => False
def rS00 (r : V → Option Int → Option Int → Hp → VK → Prop) : List V → Hp → VK → Prop := fun vs H Q => match vs with
  | [x] => r x none none H Q
  | _ => False
def fS11 (f : D → Option Int → Option Int → Option D) : List D → Option D
  | [x, .v (.int i), .v (.int j)] => f x (some i) (some j)
  | _ => none
def fS10 (f : D → Option Int → Option Int → Option D) : List D → Option D
  | [x, .v (.int i)] => f x (some i) none
  | _ => none
def fS01 (f : D → Option Int → Option Int → Option D) : List D → Option D
  | [x, .v (.int i)] => f x none (some i)
  | _ => none
def fS00 (f : D → Option Int → Option Int → Option D) : List D → Option D
  | [x] => f x none none
  | _ => none
section
variable {K : PySem.W.Frag}
theorem frsh_more {H H' : Hp} {A B : List T} {t : T} (f : Frsh H A H' t) (h : ∀ u ∈ A, u ∈ B) : Frsh H B H' t :=
  ⟨f.sm, f.gd, f.ow, fun a ma => (f.tr a ma).imp id fun ⟨u, mu, q⟩ => ⟨u, h u mu, q⟩, fun a ma => (f.im a ma).imp id fun ⟨u, mu, q⟩ => ⟨u, h u mu, q⟩⟩
theorem SlOk.n11 {r : V → Option Int → Option Int → Hp → VK → Prop} {f : D → Option Int → Option Int → Option D} (h : SlOk K r f) : OpN K (rS11 r) (fS11 f) := by
  intro H us d Q ok gd e q
  unfold fS11 at e
  split at e
  · rename_i x i j e1
    obtain ⟨u, w, rfl, e2, e3⟩ := ers_cons e1
    obtain ⟨u1, w, rfl, e4, e5⟩ := ers_cons e3
    obtain ⟨u2, w, rfl, e6, e7⟩ := ers_cons e5
    have := ers_nil e7; subst this
    have := er_v e4; subst this
    have := er_v e6; subst this
    subst e2
    exact h H u (some i) (some j) d Q (ok u (by simp)) (gd u (by simp)) e fun t H' et okt f => q t H' et okt (frsh_more f fun w m => by rw [List.mem_singleton.mp m]; simp)
  · cases e
theorem SlOk.n10 {r : V → Option Int → Option Int → Hp → VK → Prop} {f : D → Option Int → Option Int → Option D} (h : SlOk K r f) : OpN K (rS10 r) (fS10 f) := by
  intro H us d Q ok gd e q
  unfold fS10 at e
  split at e
  · rename_i x i e1
    obtain ⟨u, w, rfl, e2, e3⟩ := ers_cons e1
    obtain ⟨u1, w, rfl, e4, e5⟩ := ers_cons e3
    have := ers_nil e5; subst this
    have := er_v e4; subst this
    subst e2
    exact h H u (some i) none d Q (ok u (by simp)) (gd u (by simp)) e fun t H' et okt f => q t H' et okt (frsh_more f fun w m => by rw [List.mem_singleton.mp m]; simp)
  · cases e
theorem SlOk.n01 {r : V → Option Int → Option Int → Hp → VK → Prop} {f : D → Option Int → Option Int → Option D} (h : SlOk K r f) : OpN K (rS01 r) (fS01 f) := by
  intro H us d Q ok gd e q
  unfold fS01 at e
  split at e
  · rename_i x i e1
    obtain ⟨u, w, rfl, e2, e3⟩ := ers_cons e1
    obtain ⟨u1, w, rfl, e4, e5⟩ := ers_cons e3
    have := ers_nil e5; subst this
    have := er_v e4; subst this
    subst e2
    exact h H u none (some i) d Q (ok u (by simp)) (gd u (by simp)) e fun t H' et okt f => q t H' et okt (frsh_more f fun w m => by rw [List.mem_singleton.mp m]; simp)
  · cases e
theorem SlOk.n00 {r : V → Option Int → Option Int → Hp → VK → Prop} {f : D → Option Int → Option Int → Option D} (h : SlOk K r f) : OpN K (rS00 r) (fS00 f) := by
  intro H us d Q ok gd e q
  unfold fS00 at e
  split at e
  · rename_i x e1
    obtain ⟨u, w, rfl, e2, e3⟩ := ers_cons e1
    have := ers_nil e3; subst this
    subst e2
    exact h H u none none d Q (ok u (by simp)) (gd u (by simp)) e fun t H' et okt f => q t H' et okt (frsh_more f fun w m => by rw [List.mem_singleton.mp m]; simp)
  · cases e
end
section
variable {X : Cx} {W : WX} {io : List Nat} {a b c : Expr} {pos p2 : Pos} {ta tb tc : TE} {da db dc : E} {m1 m2 m3 : Md} {d1 d2 d3 : List Nat}
theorem de_ix (ha : DE X W io m1 d1 a ta da) (hb : DE X W io m2 d2 b tb db) (hs : PlainIx b := by exact fun _ _ => rfl) : DE X W io m1 (d1 ++ d2) (.Subscript a b pos) (tOp (rIx X.K) ta tb) (dIx m1 d2 da db) := ⟨pe_ix ix_seq ha.pe hb.pe hs, erd_ix ha.rd hb.rd⟩
abbrev dS11 (m1 : Md) (d23 d3 : List Nat) (da db dc : E) : E := dOp (fS11 slD) (dAcons m1 d23 da (dAconsI db (dAconsI dc dAnil)))
abbrev dS10 (m1 : Md) (d2 : List Nat) (da db : E) : E := dOp (fS10 slD) (dAcons m1 d2 da (dAconsI db dAnil))
abbrev dS01 (m1 : Md) (d2 : List Nat) (da db : E) : E := dOp (fS01 slD) (dAcons m1 d2 da (dAconsI db dAnil))
abbrev dS00 (m1 : Md) (da : E) : E := dOp (fS00 slD) (dAcons m1 [] da dAnil)
theorem de_s11 (ha : DE X W io m1 d1 a ta da) (hb : DE X W io m2 d2 b tb db) (hc : DE X W io m3 d3 c tc dc) : DE X W io .tmp (d1 ++ (d2 ++ (d3 ++ []))) (.Subscript a (.Slice (some b) (some c) none p2) pos) (tSl (rSl X.K) ta (tPart tb) (tPart tc)) (dS11 m1 (d2 ++ (d3 ++ [])) d3 da db dc) :=
  ⟨pe_slice sl_any ha.pe (po_some hb.pe) (po_some hc.pe), rdN (ard_cons ha.rd (ard_consI hb.rd (ard_consI hc.rd ard_nil))) sl_ok.n11⟩
theorem de_s10 (ha : DE X W io m1 d1 a ta da) (hb : DE X W io m2 d2 b tb db) : DE X W io .tmp (d1 ++ (d2 ++ [])) (.Subscript a (.Slice (some b) none none p2) pos) (tSl (rSl X.K) ta (tPart tb) tNoPart) (dS10 m1 (d2 ++ []) da db) :=
  ⟨pe_slice sl_any ha.pe (po_some hb.pe) po_none, rdN (ard_cons ha.rd (ard_consI hb.rd ard_nil)) sl_ok.n10⟩
theorem de_s01 (ha : DE X W io m1 d1 a ta da) (hb : DE X W io m2 d2 b tb db) : DE X W io .tmp (d1 ++ (d2 ++ [])) (.Subscript a (.Slice none (some b) none p2) pos) (tSl (rSl X.K) ta tNoPart (tPart tb)) (dS01 m1 (d2 ++ []) da db) :=
  ⟨pe_slice sl_any ha.pe po_none (po_some hb.pe), rdN (ard_cons ha.rd (ard_consI hb.rd ard_nil)) sl_ok.n01⟩
theorem de_s00 (ha : DE X W io m1 d1 a ta da) : DE X W io .tmp (d1 ++ []) (.Subscript a (.Slice none none none p2) pos) (tSl (rSl X.K) ta tNoPart tNoPart) (dS00 m1 da) :=
  ⟨pe_slice sl_any ha.pe po_none po_none, rdN (ard_cons ha.rd ard_nil) sl_ok.n00⟩
end
end VS
namespace VS
open PySem PySem.Spec PyProof.Rows L2

theorem call_or {X : Cx} {f : Value} {r r' : List V → Hp → VK → Prop} (h : CallR X f r) (h' : CallR X f r') : CallR X f (fun xs H Q => r xs H Q ∨ r' xs H Q) := by
  intro pins s σ H xs us Q I rx q
  rcases q with q | q
  · exact h pins s σ H xs us Q I rx q
  · exact h' pins s σ H xs us Q I rx q
/-- a built-in with one operand -/
def u1 (f : D → Option D) : List D → Option D
  | [x] => f x
  | _ => none
def One (K : PySem.W.Frag) (r : List V → Hp → VK → Prop) (f : D → Option D) : Prop :=
  ∀ (H : Hp) (x : T) (d : D) (Q : VK), x.ok K H → x.good → f x.er = some d → (∀ t H', t.er = d → t.ok K H' → Frsh H [x] H' t → Q t.rt H') → r [x.rt] H Q
theorem One.n {K : PySem.W.Frag} {r : List V → Hp → VK → Prop} {f : D → Option D} (h : One K r f) : OpN K r (u1 f) := by
  intro H us d Q ok gd e q
  match us, ok, gd, e, q with
  | [x], ok, gd, e, q => exact h H x d Q (ok x (by simp)) (gd x (by simp)) e q
  | [], _, _, e, _ => cases e
  | _ :: _ :: _, _, _, e, _ => cases e
def u2 (f : D → D → Option D) : List D → Option D
  | [x, y] => f x y
  | _ => none
/-! ### len -/
def lenD : D → Option D
  | .v (.str z) => if z.length ≤ sizeLine then some (.int z.length) else none
  | .nd .tup xs => some (.int xs.length)
  | .nd .scr xs => some (.int xs.length)
  | .nd (.lst _) xs => some (.int xs.length)
  | _ => none
abbrev rLen (K : PySem.W.Frag) : List V → Hp → VK → Prop := fun xs H Q => ∃ x n, xs = [x] ∧ LenV K x H n ∧ Q (.int n) H
section
variable {K : PySem.W.Frag}
theorem len_ok : One K (rLen K) lenD := by
  intro H x d Q ok g e q
  unfold lenD at e
  split at e
  · rename_i z e1; have := er_v e1; subst this
    split at e
    · rename_i hz; cases e; exact ⟨_, z.length, rfl, ⟨hz, rfl⟩, q (.v _) H rfl trivial Frsh.atom⟩
    · cases e
  · rename_i xs e1; obtain ⟨a, us, rfl, h1⟩ := er_nd e1
    cases e
    exact ⟨_, xs.length, rfl, .inr ⟨_, ok.sqT, by rw [rts_len, ← h1, ers_len]⟩, q (.v _) H rfl trivial Frsh.atom⟩
  · rename_i xs e1; obtain ⟨a, us, rfl, h1⟩ := er_nd e1
    cases e
    exact ⟨_, xs.length, rfl, .inl ⟨_, ok.sqS, by rw [rts_len, ← h1, ers_len]⟩, q (.v _) H rfl trivial Frsh.atom⟩
  · rename_i o xs e1; obtain ⟨a, us, rfl, h1⟩ := er_nd e1
    cases e
    exact ⟨_, xs.length, rfl, .inl ⟨_, ok.sqL, by rw [rts_len, ← h1, ers_len]⟩, q (.v _) H rfl trivial Frsh.atom⟩
  · cases e
/-! ### int, abs, min, max -/
def intD : D → Option D
  | .v (.int i) => some (.int i)
  | .v (.bl k) => some (.int (if k then 1 else 0))
  | _ => none
abbrev rInt : List V → Hp → VK → Prop := fun xs H Q => (∃ i, xs = [.int i] ∧ Q (.int i) H) ∨ ∃ k, xs = [.bl k] ∧ Q (.int (if k then 1 else 0)) H
theorem int_ok : One K rInt intD := by
  intro H x d Q ok g e q
  unfold intD at e
  split at e
  · rename_i i e1; have := er_v e1; subst this; cases e; exact .inl ⟨i, rfl, q (.v _) H rfl trivial Frsh.atom⟩
  · rename_i i e1; have := er_v e1; subst this; cases e; exact .inr ⟨i, rfl, q (.v _) H rfl trivial Frsh.atom⟩
  · cases e
def absD : D → Option D
  | .v (.int i) => some (.int (if i < 0 then -i else i))
  | _ => none
abbrev rAbs : List V → Hp → VK → Prop := fun xs H Q => ∃ i, xs = [.int i] ∧ Q (.int (if i < 0 then -i else i)) H
theorem abs_ok : One K rAbs absD := by
  intro H x d Q ok g e q
  unfold absD at e
  split at e
  · rename_i i e1; have := er_v e1; subst this; cases e; exact ⟨i, rfl, q (.v _) H rfl trivial Frsh.atom⟩
  · cases e
def i2D (g : Int → Int → Int) : List D → Option D
  | [.v (.int i), .v (.int j)] => some (.int (g i j))
  | _ => none
abbrev rI2 (g : Int → Int → Int) : List V → Hp → VK → Prop := fun xs H Q => ∃ i j, xs = [.int i, .int j] ∧ Q (.int (g i j)) H
theorem i2_ok {g : Int → Int → Int} : OpN K (rI2 g) (i2D g) := by
  intro H us d Q ok gd e q
  unfold i2D at e
  split at e
  · rename_i i j e1
    obtain ⟨u, w, rfl, e2, e3⟩ := ers_cons e1
    obtain ⟨u1, w, rfl, e4, e5⟩ := ers_cons e3
    have := ers_nil e5; subst this
    have := er_v e2; subst this
    have := er_v e4; subst this
    cases e
    exact ⟨i, j, rfl, q (.v _) H rfl trivial Frsh.atom⟩
  · cases e
abbrev minI : Int → Int → Int := fun i j => if j < i then j else i
abbrev maxI : Int → Int → Int := fun i j => if j > i then j else i
/-! ### ints of a list -/
def D.ints : List D → Option (List Int)
  | [] => some []
  | .v (.int i) :: r => (D.ints r).map fun ns => i :: ns
  | _ => none
theorem ints_of : ∀ {us : List T} {ns : List Int}, D.ints (T.ers us) = some ns → T.rts us = ns.map V.int
  | [], ns, h => by cases h; rfl
  | u :: r, ns, h => by
    rw [T.ers] at h
    unfold D.ints at h
    split at h
    · rename_i e; cases e
    · rename_i e
      injection e with e1 e2
      have := er_v e1; subst this
      subst e2
      cases ei : D.ints (T.ers r) with
      | none => rw [ei] at h; cases h
      | some ms => rw [ei] at h; cases h; rw [T.rts, ints_of ei]; rfl
    · cases h
def D.strs : List D → Option (List Str)
  | [] => some []
  | .v (.str i) :: r => (D.strs r).map fun ns => i :: ns
  | _ => none
theorem strs_of : ∀ {us : List T} {ns : List Str}, D.strs (T.ers us) = some ns → T.rts us = ns.map V.str
  | [], ns, h => by cases h; rfl
  | u :: r, ns, h => by
    rw [T.ers] at h
    unfold D.strs at h
    split at h
    · rename_i e; cases e
    · rename_i e
      injection e with e1 e2
      have := er_v e1; subst this
      subst e2
      cases ei : D.strs (T.ers r) with
      | none => rw [ei] at h; cases h
      | some ms => rw [ei] at h; cases h; rw [T.rts, strs_of ei]; rfl
    · cases h
def D.lstI : D → Option (List Int)
  | .nd (.lst _) xs => D.ints xs
  | .nd .scr xs => D.ints xs
  | _ => none
theorem lstI_of {H : Hp} {t : T} {ns : List Int} (ok : t.ok K H) (h : t.er.lstI = some ns) : ∃ a, t.rt = .ref a ∧ SqL K H a (ns.map V.int) := by
  unfold D.lstI at h
  split at h
  · rename_i o xs e1; obtain ⟨a, us, rfl, h1⟩ := er_nd e1; subst h1; exact ⟨a, rfl, by rw [← ints_of h]; exact ok.sqL⟩
  · rename_i xs e1; obtain ⟨a, us, rfl, h1⟩ := er_nd e1; subst h1; exact ⟨a, rfl, by rw [← ints_of h]; exact ok.sqS⟩
  · cases h
def sumD (x : D) : Option D := x.lstI.map fun ns => .int ns.sum
theorem sum_ok : One K (rSum K) sumD := by
  intro H x d Q ok g e q
  unfold sumD at e
  cases en : x.er.lstI with
  | none => rw [en] at e; cases e
  | some ns =>
    rw [en] at e; cases e
    obtain ⟨a, e1, e2⟩ := lstI_of ok en
    exact ⟨a, ns, by rw [e1], e2, q (.v _) H rfl trivial Frsh.atom⟩
def maxL : List Int → Int
  | [] => 0
  | [x] => x
  | x :: r => if maxL r ≤ x then x else maxL r
def minL : List Int → Int
  | [] => 0
  | [x] => x
  | x :: r => if x ≤ minL r then x else minL r
theorem maxL_ge : ∀ {ns : List Int} {x : Int}, x ∈ ns → x ≤ maxL ns
  | [y], x, h => by rw [List.mem_singleton.mp h]; exact Int.le_refl _
  | y :: z :: r, x, h => by
    unfold maxL
    rcases List.mem_cons.mp h with rfl | h
    · split
      · exact Int.le_refl _
      · omega
    · have := maxL_ge h
      split <;> omega
theorem maxL_mem : ∀ {ns : List Int}, ns ≠ [] → maxL ns ∈ ns
  | [y], _ => by simp [maxL]
  | y :: z :: r, _ => by
    unfold maxL
    split
    · exact List.mem_cons_self
    · exact List.mem_cons_of_mem _ (maxL_mem (by simp))
theorem minL_le : ∀ {ns : List Int} {x : Int}, x ∈ ns → minL ns ≤ x
  | [y], x, h => by rw [List.mem_singleton.mp h]; exact Int.le_refl _
  | y :: z :: r, x, h => by
    unfold minL
    rcases List.mem_cons.mp h with rfl | h
    · split
      · exact Int.le_refl _
      · omega
    · have := minL_le h
      split <;> omega
theorem minL_mem : ∀ {ns : List Int}, ns ≠ [] → minL ns ∈ ns
  | [y], _ => by simp [minL]
  | y :: z :: r, _ => by
    unfold minL
    split
    · exact List.mem_cons_self
    · exact List.mem_cons_of_mem _ (minL_mem (by simp))
def maxD (x : D) : Option D := match x.lstI with
  | some (n :: ns) => some (.int (maxL (n :: ns)))
  | _ => none
def minD (x : D) : Option D := match x.lstI with
  | some (n :: ns) => some (.int (minL (n :: ns)))
  | _ => none
theorem max_ok : One K (rMax K) maxD := by
  intro H x d Q ok g e q
  unfold maxD at e
  split at e
  · rename_i n ns en
    cases e
    obtain ⟨a, e1, e2⟩ := lstI_of ok en
    refine ⟨a, n :: ns, by rw [e1], e2, Nat.succ_pos _, fun m hm hg => ?_⟩
    have : m = maxL (n :: ns) := by
      have h1 := maxL_ge hm
      have h2 := hg _ (maxL_mem (ns := n :: ns) (by simp))
      omega
    rw [this]
    exact q (.v _) H rfl trivial Frsh.atom
  · cases e
theorem min_ok : One K (rMin K) minD := by
  intro H x d Q ok g e q
  unfold minD at e
  split at e
  · rename_i n ns en
    cases e
    obtain ⟨a, e1, e2⟩ := lstI_of ok en
    refine ⟨a, n :: ns, by rw [e1], e2, Nat.succ_pos _, fun m hm hg => ?_⟩
    have : m = minL (n :: ns) := by
      have h1 := minL_le hm
      have h2 := hg _ (minL_mem (ns := n :: ns) (by simp))
      omega
    rw [this]
    exact q (.v _) H rfl trivial Frsh.atom
  · cases e
/-! ### list, tuple -/
def listD : D → Option D
  | .nd .tup xs => if D.hass NK.isOwn xs = false then some (.nd (.lst true) xs) else none
  | .nd .scr xs => if D.hass NK.isOwn xs = false then some (.nd (.lst true) xs) else none
  | .nd (.lst _) xs => if D.hass NK.isOwn xs = false then some (.nd (.lst true) xs) else none
  | _ => none
abbrev rList (K : PySem.W.Frag) : List V → Hp → VK → Prop := fun xs H Q => ∃ p ys, xs = [.ref p] ∧ (SqL K H p ys ∨ SqT K H p ys) ∧ ∀ l, H l = none → Q (.ref l) (upd H l (.lst ys))
theorem list_ok : One K (rList K) listD := by
  intro H x d Q ok g e q
  have go : ∀ {k : NK} {a : Addr} {us : List T}, x = .nd a k us → D.hass NK.isOwn (T.ers us) = false → d = .nd (.lst true) (T.ers us) → (SqL K H a (T.rts us) ∨ SqT K H a (T.rts us)) → rList K [x.rt] H Q := fun {k a us} ex ho ed sq => by
    subst ex; subst ed
    refine ⟨a, T.rts us, rfl, sq, fun p hp => ?_⟩
    obtain ⟨h1, h2⟩ := sub_new (k' := .lst true) (o := .lst (T.rts us)) (ws := us) ok g ho (fun w m => m) hp (show upd H p _ p = _ by rw [upd_same])
    exact q _ _ (by rw [T.er]) h1 h2
  unfold listD at e
  split at e
  · rename_i xs e1; obtain ⟨a, us, rfl, h1⟩ := er_nd e1; subst h1
    split at e
    · rename_i ho; cases e; exact go rfl ho rfl (.inr ok.sqT)
    · cases e
  · rename_i xs e1; obtain ⟨a, us, rfl, h1⟩ := er_nd e1; subst h1
    split at e
    · rename_i ho; cases e; exact go rfl ho rfl (.inl ok.sqS)
    · cases e
  · rename_i o xs e1; obtain ⟨a, us, rfl, h1⟩ := er_nd e1; subst h1
    split at e
    · rename_i ho; cases e; exact go rfl ho rfl (.inl ok.sqL)
    · cases e
  · cases e
def tupD : D → Option D
  | .nd .tup xs => if D.hass NK.isOwn xs = false then some (.nd .tup xs) else none
  | .nd .scr xs => if D.hass NK.isOwn xs = false then some (.nd .tup xs) else none
  | .nd (.lst _) xs => if D.hass NK.isOwn xs = false then some (.nd .tup xs) else none
  | _ => none
abbrev rTuple (K : PySem.W.Frag) : List V → Hp → VK → Prop := fun xs H Q => ∃ p ys, xs = [.ref p] ∧ ((SqL K H p ys ∧ ∀ l, H l = none → Q (.ref l) (upd H l (.tup ys))) ∨ (SqT K H p ys ∧ Q (.ref p) H))
theorem tup_ok : One K (rTuple K) tupD := by
  intro H x d Q ok g e q
  have go : ∀ {k : NK} {a : Addr} {us : List T}, x = .nd a k us → D.hass NK.isOwn (T.ers us) = false → d = .nd .tup (T.ers us) → SqL K H a (T.rts us) → rTuple K [x.rt] H Q := fun {k a us} ex ho ed sq => by
    subst ex; subst ed
    refine ⟨a, T.rts us, rfl, .inl ⟨sq, fun p hp => ?_⟩⟩
    obtain ⟨h1, h2⟩ := sub_new (k' := .tup) (o := .tup (T.rts us)) (ws := us) ok g ho (fun w m => m) hp (SqT.of upd_same)
    exact q _ _ (by rw [T.er]) h1 h2
  unfold tupD at e
  split at e
  · rename_i xs e1; obtain ⟨a, us, rfl, h1⟩ := er_nd e1; subst h1
    split at e
    · rename_i ho; cases e
      exact ⟨a, _, rfl, .inr ⟨ok.sqT, q (.nd a .tup us) H (by rw [T.er]) ok (frsh_self (List.mem_singleton_self _) g (tup_own ho))⟩⟩
    · cases e
  · rename_i xs e1; obtain ⟨a, us, rfl, h1⟩ := er_nd e1; subst h1
    split at e
    · rename_i ho; cases e; exact go rfl ho rfl ok.sqS
    · cases e
  · rename_i o xs e1; obtain ⟨a, us, rfl, h1⟩ := er_nd e1; subst h1
    split at e
    · rename_i ho; cases e; exact go rfl ho rfl ok.sqL
    · cases e
  · cases e
/-- [::-1] of a list -/
def revD : D → Option D
  | .nd .scr xs => if D.hass NK.isOwn xs = false then some (.nd (.lst true) xs.reverse) else none
  | .nd (.lst _) xs => if D.hass NK.isOwn xs = false then some (.nd (.lst true) xs.reverse) else none
  | _ => none
def rRev (K : PySem.W.Frag) : V → Hp → VK → Prop := fun x H1 Q => ∃ a xs, x = .ref a ∧ SqL K H1 a xs ∧ ∀ p, H1 p = none → Q (.ref p) (upd H1 p (.lst xs.reverse))
theorem rev_ok : Op1 K (rRev K) revD := by
  intro H x d Q ok g e q
  have go : ∀ {k : NK} {a : Addr} {us : List T}, x = .nd a k us → D.hass NK.isOwn (T.ers us) = false → d = .nd (.lst true) (T.ers us).reverse → SqL K H a (T.rts us) → rRev K x.rt H Q := fun {k a us} ex ho ed sq => by
    subst ex; subst ed
    refine ⟨a, T.rts us, rfl, sq, fun p hp => ?_⟩
    obtain ⟨h1, h2⟩ := sub_new (k' := .lst true) (o := .lst (T.rts us).reverse) (ws := us.reverse) ok g ho (fun w m => List.mem_reverse.mp m) hp (show upd H p _ p = _ by rw [upd_same, T.rts_map, T.rts_map, List.map_reverse])
    exact q _ _ (by rw [T.er, T.ers_map, T.ers_map, List.map_reverse]) h1 h2
  unfold revD at e
  split at e
  · rename_i xs e1; obtain ⟨a, us, rfl, h1⟩ := er_nd e1; subst h1
    split at e
    · rename_i ho; cases e; exact go rfl ho rfl ok.sqS
    · cases e
  · rename_i o xs e1; obtain ⟨a, us, rfl, h1⟩ := er_nd e1; subst h1
    split at e
    · rename_i ho; cases e; exact go rfl ho rfl ok.sqL
    · cases e
  · cases e
/-- sorted of ints -/
def insI (x : Int) : List Int → List Int
  | [] => [x]
  | y :: r => if x ≤ y then x :: y :: r else y :: insI x r
def srtI : List Int → List Int
  | [] => []
  | x :: r => insI x (srtI r)
theorem insI_perm (x : Int) : ∀ r : List Int, (insI x r).Perm (x :: r)
  | [] => .refl _
  | y :: r => by
    unfold insI
    split
    · exact .refl _
    · exact ((insI_perm x r).cons y).trans (.swap x y r)
theorem srtI_perm : ∀ r : List Int, (srtI r).Perm r
  | [] => .refl _
  | x :: r => (insI_perm x _).trans ((srtI_perm r).cons x)
theorem insI_sorted {x : Int} : ∀ {r : List Int}, r.Pairwise (· ≤ ·) → (insI x r).Pairwise (· ≤ ·)
  | [], _ => by simp [insI]
  | y :: r, h => by
    rw [List.pairwise_cons] at h
    unfold insI
    split
    · rename_i hxy
      exact .cons (fun z hz => (List.mem_cons.mp hz).elim (fun e => by rw [e]; exact hxy) fun hz => Int.le_trans hxy (h.1 z hz)) (.cons h.1 h.2)
    · rename_i hxy
      refine .cons (fun z hz => ?_) (insI_sorted h.2)
      rcases List.mem_cons.mp ((insI_perm x r).mem_iff.mp hz) with rfl | hz
      · omega
      · exact h.1 z hz
theorem srtI_sorted : ∀ r : List Int, (srtI r).Pairwise (· ≤ ·)
  | [] => .nil
  | x :: r => insI_sorted (srtI_sorted r)
theorem sorted_unique {a b : List Int} (h : a.Perm b) (ha : a.Pairwise (· ≤ ·)) (hb : b.Pairwise (· ≤ ·)) : a = b := h.eq_of_pairwise (fun x y _ _ h1 h2 => Int.le_antisymm h1 h2) ha hb
def sortD (x : D) : Option D := x.lstI.map fun ns => .nd (.lst true) ((srtI ns).map D.int)
theorem ers_ints (ns : List Int) : T.ers (ns.map fun n => T.v (.int n)) = ns.map D.int := by rw [T.ers_map, List.map_map]; rfl
theorem rts_ints (ns : List Int) : T.rts (ns.map fun n => T.v (.int n)) = ns.map V.int := by rw [T.rts_map, List.map_map]; rfl
theorem new_atoms {H : Hp} {p : Addr} {A : List T} {vs : List V} (hp : H p = none) (okA : ∀ u ∈ A, u.ok K H) : (T.nd p (.lst true) (vs.map T.v)).ok K (upd H p (.lst vs)) ∧ Frsh H A (upd H p (.lst vs)) (.nd p (.lst true) (vs.map T.v)) := by
  have am : ∀ c ∈ vs.map T.v, ∃ v, c = T.v v := fun c m => by obtain ⟨v, _, e⟩ := List.mem_map.mp m; exact ⟨v, e.symm⟩
  refine ⟨ok_new hp (show upd H p _ p = _ by rw [upd_same, rts_vs]) fun c m => ?_, ?_⟩
  · obtain ⟨v, rfl⟩ := am c m; trivial
  · have cols : ∀ (q : NK → Bool) (a : Addr), a ∈ (T.nd p (.lst true) (vs.map T.v)).col q → a = p := fun q a ma => by
      rcases T.mem_col.mp ma with ⟨_, e⟩ | ⟨c, m, mz⟩
      · exact e
      · obtain ⟨v, rfl⟩ := am c m; cases mz
    have own0 : T.cols NK.isOwn (vs.map T.v) = [] := by
      cases e : T.cols NK.isOwn (vs.map T.v) with
      | nil => rfl
      | cons z r =>
        obtain ⟨c, m, mz⟩ := T.mem_cols.mp (show z ∈ T.cols NK.isOwn (vs.map T.v) by rw [e]; simp)
        obtain ⟨v, rfl⟩ := am c m; cases mz
    refine ⟨same_upd hp, ?_, fun a ma => by rw [cols _ a ma]; exact hp, fun a ma => .inl (by rw [cols _ a ma]; exact hp), fun a ma => .inl (by rw [cols _ a ma]; exact hp)⟩
    rw [T.good]
    refine ⟨fun _ m => ?_, fun _ m => ?_, T.goods_of own0⟩
    · obtain ⟨c, m, mz⟩ := T.mem_cols.mp m
      obtain ⟨v, rfl⟩ := am c m; cases mz
    · rw [own0] at m; cases m
theorem sort_ok : One K (rSortedI K) sortD := by
  intro H x d Q ok g e q
  unfold sortD at e
  cases en : x.er.lstI with
  | none => rw [en] at e; cases e
  | some ns =>
    rw [en] at e; cases e
    obtain ⟨a, e1, e2⟩ := lstI_of ok en
    refine ⟨a, ns, by rw [e1], e2, fun ns' p hp hs hn => ?_⟩
    have : ns' = srtI ns := sorted_unique (hp.trans (srtI_perm ns).symm) hs (srtI_sorted ns)
    subst this
    obtain ⟨h1, h2⟩ := new_atoms (K := K) (A := [x]) (vs := (srtI ns).map V.int) hn (fun u m => by rw [List.mem_singleton.mp m]; exact ok)
    refine q _ _ ?_ h1 h2
    rw [T.er, T.ers_map, List.map_map, List.map_map]; rfl
/-! ### methods that change nothing -/
def seqS : D → Option (List Str)
  | .nd .tup xs => D.strs xs
  | .nd .scr xs => D.strs xs
  | .nd (.lst _) xs => D.strs xs
  | _ => none
theorem seqS_of {H : Hp} {t : T} {ns : List Str} (ok : t.ok K H) (h : seqS t.er = some ns) : ∃ a, t.rt = .ref a ∧ (SqL K H a (ns.map V.str) ∨ SqT K H a (ns.map V.str)) := by
  unfold seqS at h
  split at h
  · rename_i xs e1; obtain ⟨a, us, rfl, h1⟩ := er_nd e1; subst h1; exact ⟨a, rfl, .inr (by rw [← strs_of h]; exact ok.sqT)⟩
  · rename_i xs e1; obtain ⟨a, us, rfl, h1⟩ := er_nd e1; subst h1; exact ⟨a, rfl, .inl (by rw [← strs_of h]; exact ok.sqS)⟩
  · rename_i o xs e1; obtain ⟨a, us, rfl, h1⟩ := er_nd e1; subst h1; exact ⟨a, rfl, .inl (by rw [← strs_of h]; exact ok.sqL)⟩
  · cases h
def rM (r : V → List V → Hp → VK → Prop) : List V → Hp → VK → Prop := fun vs H Q => match vs with
  | x :: xs => r x xs H Q
  | [] => False
def joinD : List D → Option D
  | [.v (.str a), y] => match seqS y with
    | some ys => if (ys.map (·.length)).sum + ys.length * a.length ≤ 16777216 then some (.v (.str (Txt.join a ys))) else none
    | none => none
  | _ => none
abbrev rJoin (K : PySem.W.Frag) : V → List V → Hp → VK → Prop := fun x xs H Q => ∃ a p, ∃ ys : List Str, x = .str a ∧ xs = [.ref p] ∧ (SqL K H p (ys.map V.str) ∨ SqT K H p (ys.map V.str)) ∧
    (ys.map (·.length)).sum + ys.length * a.length ≤ 16777216 ∧ Q (.str (Txt.join a ys)) H
theorem join_ok : OpN K (rM (rJoin K)) joinD := by
  intro H us d Q ok gd e q
  unfold joinD at e
  split at e
  · rename_i a y e1
    obtain ⟨u, w, rfl, e2, e3⟩ := ers_cons e1
    obtain ⟨u1, w, rfl, e4, e5⟩ := ers_cons e3
    have := ers_nil e5; subst this
    have := er_v e2; subst this
    subst e4
    split at e
    · rename_i ys es
      split at e
      · rename_i hz
        cases e
        obtain ⟨p, e6, e7⟩ := seqS_of (ok u1 (by simp)) es
        exact ⟨a, p, ys, rfl, by rw [T.rts, T.rts, e6], e7, hz, q (.v _) H rfl trivial Frsh.atom⟩
      · cases e
    · cases e
  · cases e
def scountD : List D → Option D
  | [.v (.str a), .v (.str b)] => some (.v (.int (Txt.count a b)))
  | _ => none
abbrev rScount : V → List V → Hp → VK → Prop := fun x xs H Q => ∃ a b, x = .str a ∧ xs = [.str b] ∧ Q (.int (Txt.count a b)) H
theorem scount_ok : OpN K (rM rScount) scountD := by
  intro H us d Q ok gd e q
  unfold scountD at e
  split at e
  · rename_i a b e1
    obtain ⟨u, w, rfl, e2, e3⟩ := ers_cons e1
    obtain ⟨u1, w, rfl, e4, e5⟩ := ers_cons e3
    have := ers_nil e5; subst this
    have := er_v e2; subst this
    have := er_v e4; subst this
    cases e
    exact ⟨a, b, rfl, rfl, q (.v _) H rfl trivial Frsh.atom⟩
  · cases e
def lcountD : List D → Option D
  | [x, .v (.int k)] => x.lstI.map fun ns => .v (.int (ns.count k : Nat))
  | _ => none
theorem lcount_ok : OpN K (rM (rCntI K)) lcountD := by
  intro H us d Q ok gd e q
  unfold lcountD at e
  split at e
  · rename_i x k e1
    obtain ⟨u, w, rfl, e2, e3⟩ := ers_cons e1
    obtain ⟨u1, w, rfl, e4, e5⟩ := ers_cons e3
    have := ers_nil e5; subst this
    have := er_v e4; subst this
    subst e2
    cases en : u.er.lstI with
    | none => rw [en] at e; cases e
    | some ns =>
      rw [en] at e; cases e
      obtain ⟨a, e6, e7⟩ := lstI_of (ok u (by simp)) en
      exact ⟨a, ns, k, e6, rfl, e7, q (.v _) H rfl trivial Frsh.atom⟩
  · cases e
def D.isStr : D → Bool
  | .v (.str _) => true
  | _ => false
def D.isLst : D → Bool
  | .nd (.lst _) _ => true
  | .nd .scr _ => true
  | _ => false
theorem tyS_of (H : Hp) (t : T) (ok : t.ok K H) (h : t.er.isStr = true) : tyV K "str" t.rt H := by
  unfold D.isStr at h
  split at h
  · rename_i e; have := er_v e; subst this; rfl
  · cases h
theorem tyL_of (H : Hp) (t : T) (ok : t.ok K H) (h : t.er.isLst = true) : tyV K "list" t.rt H := by
  unfold D.isLst at h
  split at h
  · rename_i o xs e; obtain ⟨a, us, rfl, h1⟩ := er_nd e; exact .inl ⟨rfl, _, ok.sqL⟩
  · rename_i xs e; obtain ⟨a, us, rfl, h1⟩ := er_nd e; exact .inl ⟨rfl, _, ok.sqS⟩
  · cases h
end
section
variable {X : Cx} {W : WX} {io : List Nat} {a b c o e : Expr} {es : List Expr} {pos p p2 apos cpos : Pos} {ta tb tc to : TE} {da db dc do' : E} {t : TA} {dA : EA} {m m1 m2 m3 : Md} {ms : List Md} {d1 d2 d3 md : List Nat} {x name : Str} {id T' : String}
/-- a built-in function called, a built-in type called -/
theorem de_callB {r : List V → Hp → VK → Prop} {f : List D → Option D} (hf : OpN X.K r f) (hc : CallR X (.builtin id) r) (hg : Gl X x) (hm : X.mg x = none) (hv : bootBuiltins x = some (.builtin id)) (ha : DA X W io ms md (e :: es) t dA) (hn : x ≠ "__name__" := by decide) (hdb : (x == ("__debug__" : Str)) = false := by decide)
    (he : starEach (e :: es) X.env = (false, eval e X.env) :: starEach es X.env := by rfl) (hpl : (backTo pos (starEach es X.env)).any (·.1) = false := by rfl) : DE X W io .tmp md (.Call (.Name x p) (e :: es) [] pos) (tCB r t) (dOp f dA) := ⟨pe_callB hc hg hm hv ha.pa hn hdb he hpl, rdN ha.rd hf⟩
theorem de_callT {r : List V → Hp → VK → Prop} {f : List D → Option D} (hf : OpN X.K r f) (hc : CallR X (.type T') r) (hg : Gl X x) (hm : X.mg x = none) (hv : bootBuiltins x = some (.type T')) (ha : DA X W io ms md (e :: es) t dA) (hn : x ≠ "__name__" := by decide) (hdb : (x == ("__debug__" : Str)) = false := by decide)
    (he : starEach (e :: es) X.env = (false, eval e X.env) :: starEach es X.env := by rfl) (hpl : (backTo pos (starEach es X.env)).any (·.1) = false := by rfl) : DE X W io .tmp md (.Call (.Name x p) (e :: es) [] pos) (tCB r t) (dOp f dA) := ⟨pe_callTy hc hg hm hv ha.pa hn hdb he hpl, rdN ha.rd hf⟩
theorem de_bm {r : V → List V → Hp → VK → Prop} {f : List D → Option D} {chk : D → Bool} (hf : OpN X.K (rM r) f) (hck : ∀ (H : Hp) (t : T), t.ok X.K H → chk t.er = true → tyV X.K T' t.rt H) (pa : PlainAttrs T') (slot : Slot T' name id) (hty : typeOf (.builtin id) = pure (.type "method_descriptor")) (hm : MtR X id r)
    (ho : DE X W io m d1 o to do') (ha : DA X W io ms md (e :: es) t dA)
    (hbase : attributeBase o name X.env (eval o X.env) = eval o X.env := by rfl)
    (hfew : ((backTo cpos (starEach (e :: es) X.env)).all (fun x => !x.1) && (backToKw cpos (keywordEach [] X.env)).all (fun x => x.1.isSome)
      && decide ((e :: es).length + ([] : List Keyword).length + (if ([] : List Keyword).isEmpty then 0 else 1) < 30)) = true := by rfl)
    (hline : (apos.endLine == cpos.line) = true := by rfl) (hs : starEach (e :: es) X.env = (false, eval e X.env) :: starEach es X.env := by rfl) (hplain : (backTo cpos (starEach es X.env)).any (·.1) = false := by rfl) :
    DE X W io .tmp (d1 ++ md) (.Call (.Attribute o name apos) (e :: es) [] cpos) (tBM X.K T' r to t) (dOp f (dAconsC chk m md do' dA)) :=
  ⟨pe_bm pa slot hty hm ho.pe ha.pa hbase hfew hline hs hplain, fun ρ ts σ H Q S h => rdN (ard_consC ho.rd ha.rd hck) hf ρ ts σ H Q S h⟩
theorem de_rev {k : Nat} {p1 p2 p3 : Pos} (ha : DE X W io m d1 a ta da) : DE X W io .tmp d1 (.Subscript a (.Slice none none (some (.UnaryOp .USub (.Constant (.int 1) k p1) p2)) p3) pos) (tRevL X.K ta) (dOne revD da) := ⟨pe_revL ha.pe, erd_oneU ha.rd rev_ok⟩
end
section
variable {X : Cx}
theorem boot_len : bootBuiltins "len" = some (.builtin "len") := by rfl
theorem boot_abs : bootBuiltins "abs" = some (.builtin "abs") := by rfl
theorem boot_min : bootBuiltins "min" = some (.builtin "min") := by rfl
theorem boot_max : bootBuiltins "max" = some (.builtin "max") := by rfl
theorem boot_sum : bootBuiltins "sum" = some (.builtin "sum") := by rfl
theorem boot_sorted : bootBuiltins "sorted" = some (.builtin "sorted") := by rfl
theorem boot_isi : bootBuiltins "isinstance" = some (.builtin "isinstance") := by rfl
theorem boot_int : bootBuiltins "int" = some (.type "int") := by rfl
theorem boot_lst : bootBuiltins "list" = some (.type "list") := by rfl
theorem boot_tup : bootBuiltins "tuple" = some (.type "tuple") := by rfl
theorem boot_str : bootBuiltins "str" = some (.type "str") := by rfl
theorem boot_bool : bootBuiltins "bool" = some (.type "bool") := by rfl
end
end VS
namespace VS
open PySem PySem.Spec PyProof.Rows L2

/-! ### defs called -/
section
variable {X : Cx} {W : WX} {io : List Nat} {CX : CXT} {k : Nat} {f : Addr} {fd : FuncData} {ps : List Str} {x : Str} {p pos apos : Pos} {e : Expr} {es : List Expr} {ks : List AK} {md : List Nat} {t : TA} {dc : EC} {F : FD}
/-- f(e, ..) of a def that lets nothing out, where W is what it likes -/
theorem de_call (FN : FnOk X.prog X.w X.K X.mg X.base CX0 k f fd ps (spOf X.K (ks.map AK.pm) F)) (hr : Room k X.A) (hg : Gl X x) (hm : X.mg x = some (.ref f)) (hk : PySem.W.keepIn X.K (.ref f) = true) (hb : Binds X.K fd ps []) (hc : DC X W0 io ks md (e :: es) t dc)
    (hn : (ixs ks).Nodup := by decide) (hmv : ((ixs ks).all fun i => !io.contains i || (ioIx ks).contains i) = true := by rfl)
    (hdb : (x == ("__debug__" : Str)) = false := by decide) (he : starEach (e :: es) X.env = (false, eval e X.env) :: starEach es X.env := by rfl) (hpl : (backTo pos (starEach es X.env)).any (·.1) = false := by rfl) :
    DE X W0 io .tmp (md ++ ixs ks) (.Call (.Name x p) (e :: es) [] pos) (tCallSD (spOf X.K (ks.map AK.pm) F) [] (fun _ _ _ _ => False) t) (dCall F ks dc) :=
  ⟨pe_callSD FN hr hg hm hk hb .nil (fun σ => by intro _ _ _ _ _ _ h; exact h.elim) hc.pa hdb he hpl, erd_call hc.rd (fun _ _ _ _ h => h.elim) hn hmv⟩
theorem de_call0 (FN : FnOk X.prog X.w X.K X.mg X.base CX0 k f fd ps (spOf X.K [] F)) (hr : Room k X.A) (hg : Gl X x) (hm : X.mg x = some (.ref f)) (hk : PySem.W.keepIn X.K (.ref f) = true) (hb : Binds X.K fd ps [])
    (hdb : (x == ("__debug__" : Str)) = false := by decide) :
    DE X W0 io .tmp ([] ++ ixs []) (.Call (.Name x p) [] [] pos) (tCall (spOf X.K [] F) [] (fun _ _ _ => False) tNil) (dCall F [] dCnil) :=
  ⟨pe_call0 FN hr hg hm hk hb .nil pass0 hdb, fun ρ ts σ H Q S h => erd_call (Ef := fun _ _ _ _ => False) (F := F) (crd_nil (W := W0)) (fun _ _ _ _ h => h.elim) (List.nodup_nil) (by rfl) ρ ts σ H Q S h⟩
end
/-! ### fields -/
def fIx (f : Str) : List Str → Option Nat
  | [] => none
  | g :: r => if f == g then some 0 else (fIx f r).map (· + 1)
theorem lookup_zip : ∀ (fs : List Str) (vs : List V) (f : Str) (i : Nat), fIx f fs = some i → (fs.zip vs).lookup f = vs[i]?
  | [], vs, f, i, h => by cases h
  | g :: r, [], f, i, h => by rw [List.zip_nil_right]; rfl
  | g :: r, v :: vs, f, i, h => by
    unfold fIx at h
    rw [List.zip_cons_cons, List.lookup_cons]
    by_cases hb : (f == g) = true
    · rw [if_pos hb] at h; cases h; rw [hb]; rfl
    · rw [if_neg hb] at h
      have hb : (f == g) = false := by simpa using hb
      rw [hb]
      cases e : fIx f r with
      | none => rw [e] at h; cases h
      | some j => rw [e] at h; cases h; exact lookup_zip r vs f j e
theorem lookup_zipN : ∀ (fs : List Str) (vs : List V) (f : Str), fIx f fs = none → (fs.zip vs).lookup f = none
  | [], vs, f, h => rfl
  | g :: r, [], f, h => by rw [List.zip_nil_right]; rfl
  | g :: r, v :: vs, f, h => by
    unfold fIx at h
    rw [List.zip_cons_cons, List.lookup_cons]
    by_cases hb : (f == g) = true
    · rw [if_pos hb] at h; cases h
    · rw [if_neg hb] at h
      have hb : (f == g) = false := by simpa using hb
      rw [hb]
      cases e : fIx f r with
      | none => exact lookup_zipN r vs f e
      | some j => rw [e] at h; cases h
/-- an instance's class, fields, children -/
def D.inst : D → Option (Addr × List Str × List D)
  | .nd (.ins C fs) xs => some (C, fs, xs)
  | .nd (.obj _ C fs) xs => some (C, fs, xs)
  | _ => none
theorem inst_of {K : PySem.W.Frag} {H : Hp} {t : T} {C : Addr} {fs : List Str} {xs : List D} (ok : t.ok K H) (h : t.er.inst = some (C, fs, xs)) : ∃ a k us dx, t = .nd a k us ∧ T.ers us = xs ∧ H a = some (.ins C dx (fs.zip (T.rts us))) ∧ fs.length = us.length := by
  unfold D.inst at h
  split at h
  · rename_i e; obtain ⟨a, us, rfl, e2⟩ := er_nd e; cases h
    obtain ⟨dx, h1, h2⟩ := ok.node
    exact ⟨a, _, us, dx, rfl, e2, h1, by rw [h2, rts_len]⟩
  · rename_i e; obtain ⟨a, us, rfl, e2⟩ := er_nd e; cases h
    obtain ⟨dx, h1, h2⟩ := ok.node
    exact ⟨a, _, us, dx, rfl, e2, h1, by rw [h2, rts_len]⟩
  · cases h
def fldD (Cs : List Addr) (f : Str) (x : D) : Option D := match x.inst with
  | some (C, fs, xs) => if Cs.contains C = true then (match fIx f fs with | some i => xs[i]? | none => none) else none
  | none => none
def dFld (Cs : List Addr) (f : Str) (da : E) : E := fun s => (da s).bind fun q => match fldD Cs f q.1 with
  | some d => .ok (d, q.2)
  | none => .no
section
variable {K : PySem.W.Frag} {W : WX} {io : List Nat} {ta : TE} {da : E} {m1 : Md} {d1 : List Nat}
theorem erd_fld {Cs : List Addr} {f : Str} (hC : ∀ C ∈ Cs, Cls K C ∧ NoAttr K C f) (ha : ERd K W io m1 d1 ta da) : ERd K W io m1 d1 (tFld K ta f) (dFld Cs f da) := fun ρ ts σ H Q S h => by
  refine ha ρ ts σ H _ S ?_
  unfold dFld at h
  cases ea : da (T.ers ts) with
  | no => rw [ea] at h; exact h
  | ex c fs s => rw [ea] at h; exact h
  | ok q =>
    obtain ⟨x, s⟩ := q
    rw [ea] at h
    intro ts1 t1 H1 S1 e1 et1 ok1 mr1 st1 pu1
    simp only [R.bind] at h
    cases ef : fldD Cs f x with
    | none => rw [ef] at h; exact h.elim
    | some d =>
      rw [ef] at h
      simp only at h
      unfold fldD at ef
      split at ef
      · rename_i C fs xs ei
        split at ef
        · rename_i hc
          have hc : C ∈ Cs := by simpa using hc
          cases ex : fIx f fs with
          | none => rw [ex] at ef; cases ef
          | some i =>
            rw [ex] at ef
            simp only at ef
            obtain ⟨a, k, us, dx, rfl, eu, ha, hl⟩ := inst_of ok1 (by rw [et1]; exact ei)
            rw [← eu] at ef
            obtain ⟨u, eu1, eu2, eu3⟩ := rts_get ef
            have mu := List.mem_of_getElem? eu1
            exact ⟨a, C, dx, _, u.rt, rfl, ha, (hC C hc).1, (hC C hc).2, by rw [lookup_zip fs _ f i ex]; exact eu3, h ts1 u H1 S1 e1 eu2 (ok1.child mu) (mr1.child mu) (st1.child mu) pu1⟩
        · cases ef
      · cases ef
end
/-! ### methods of an instance -/
def chkM (C : Addr) (m : Str) (x : D) : Bool := match x.inst with
  | some (C', fs, _) => C' == C && (fIx m fs).isNone
  | none => false
theorem chkM_of {K : PySem.W.Frag} {C : Addr} {m : Str} (H : Hp) (t : T) (ok : t.ok K H) (h : chkM C m t.er = true) : ∃ a dx fs, t.rt = .ref a ∧ H a = some (.ins C dx fs) ∧ fs.lookup m = none := by
  unfold chkM at h
  split at h
  · rename_i C' fs xs ei
    rw [Bool.and_eq_true] at h
    obtain ⟨a, k, us, dx, rfl, eu, ha, hl⟩ := inst_of ok ei
    have hC : C' = C := beq_iff_eq.mp h.1
    subst hC
    exact ⟨a, dx, _, rfl, ha, lookup_zipN _ _ _ (by simpa using h.2)⟩
  · cases h
theorem tMeth_eq {C : Addr} {m : Str} {sp : Sp} {E : XK} {ta : TE} {t : TA} : tMeth C m sp [] E ta t = tCallSD sp [] (fun _ => E) (tConsC (fun v H => ∃ a dx fs, v = .ref a ∧ H a = some (.ins C dx fs) ∧ fs.lookup m = none) ta t) := by
  funext σ H Q
  show ta σ H _ = ta σ H _
  congr 1
  funext x H1
  exact propext ⟨fun ⟨a, dx, fs, h1, h2, h3, h4⟩ => ⟨⟨a, dx, fs, h1, h2, h3⟩, h4⟩, fun ⟨⟨a, dx, fs, h1, h2, h3⟩, h4⟩ => ⟨a, dx, fs, h1, h2, h3, h4⟩⟩
section
variable {X : Cx} {W : WX} {io : List Nat} {CX : CXT} {k : Nat} {C f : Addr} {fd : FuncData} {ps : List Str} {x m fname : Str} {p pos apos : Pos} {o e : Expr} {es : List Expr} {ks : List AK} {m1 : Md} {d1 md : List Nat} {ta : TE} {t : TA} {da : E} {dc : EC} {F : FD} {pl : Sem Bool}
theorem de_fld {Cs : List Addr} (hC : ∀ C ∈ Cs, Cls X.K C ∧ NoAttr X.K C fname) (he : DE X W io m1 d1 o ta da) (hb : attributeBase o fname X.env (eval o X.env) = eval o X.env := by rfl) : DE X W io m1 d1 (.Attribute o fname pos) (tFld X.K ta fname) (dFld Cs fname da) := ⟨pe_fld he.pe hb, erd_fld hC he.rd⟩
theorem de_meth (c : Cls X.K C) (hm : Meth X.K C m f) (FN : FnOk X.prog X.w X.K X.mg X.base CX0 k f fd ps (spOf X.K (.val :: ks.map AK.pm) F)) (hr : Room k X.A) (hb : Binds X.K fd ps []) (he : DE X W0 io m1 d1 o ta da) (hc : DC X W0 io ks md (e :: es) t dc)
    (hn : (ixs ks).Nodup := by decide) (hmv : ((ixs ks).all fun i => !io.contains i || (ioIx ks).contains i) = true := by rfl)
    (hst : starEach (e :: es) X.env = (false, eval e X.env) :: starEach es X.env := by rfl) (hpl : (backTo pos (starEach es X.env)).any (·.1) = false := by rfl)
    (ht : eval (.Call (.Attribute o m apos) (e :: es) [] pos) X.env = (do
      let ov ← eval o X.env
      standAt apos.atName
      let (f, first) ← holding [ov] (getMethod ov m pl)
      callWith pos f first (backTo pos (starEach (e :: es) X.env)) (backToKw pos (keywordEach [] X.env))) := by rfl) :
    DE X W0 io .tmp ((d1 ++ md) ++ ixs ks) (.Call (.Attribute o m apos) (e :: es) [] pos) (tMeth C m (spOf X.K (.val :: ks.map AK.pm) F) [] (fun _ _ _ => False) ta t) (dCall F (.val m1 :: ks) (dCvalC (chkM C m) m1 md da dc)) :=
  ⟨pe_meth he.pe c hm FN hr hb .nil pass0 hc.pa hst hpl ht, by
    rw [tMeth_eq]
    exact erd_call (ks := .val m1 :: ks) (crd_valC he.rd hc.rd (fun H t ok h => chkM_of H t ok h)) (fun _ _ _ _ h => h.elim) hn hmv⟩
theorem de_meth0 (c : Cls X.K C) (hm : Meth X.K C m f) (FN : FnOk X.prog X.w X.K X.mg X.base CX0 k f fd ps (spOf X.K [.val] F)) (hr : Room k X.A) (hb : Binds X.K fd ps []) (he : DE X W0 io m1 d1 o ta da)
    (ht : eval (.Call (.Attribute o m apos) [] [] pos) X.env = (do
      let ov ← eval o X.env
      standAt apos.atName
      let (f, first) ← holding [ov] (getMethod ov m pl)
      callWith pos f first (backTo pos (starEach [] X.env)) (backToKw pos (keywordEach [] X.env))) := by rfl) :
    DE X W0 io .tmp ((d1 ++ []) ++ ixs []) (.Call (.Attribute o m apos) [] [] pos) (tMeth C m (spOf X.K [.val] F) [] (fun _ _ _ => False) ta tNil) (dCall F [.val m1] (dCvalC (chkM C m) m1 [] da dCnil)) :=
  ⟨pe_meth0 he.pe c hm FN hr hb .nil pass0 ht, by
    rw [tMeth_eq]
    exact erd_call (ks := [.val m1]) (crd_valC he.rd crd_nil (fun H t ok h => chkM_of H t ok h)) (fun _ _ _ _ h => h.elim) List.nodup_nil (by rfl)⟩
end
/-! ### a constant of a class, a static method -/
structure SMet (K : PySem.W.Frag) (C : Addr) (mc : Value) (m : Str) (p g : Addr) : Prop where
  at_ : PySem.W.findCls K (.ref C) mc m = some (.get (.builtin "staticmethod.__get__") (.ref p) .none (.ref C))
  rc : ∃ rest, PySem.W.recIn K p "staticmethod" = some (.ref g :: rest)
  kp : PySem.W.keepIn K (.ref g) = true
/-- o.m(..), o the class at C -/
def tSMeth (C : Addr) (sp : Sp) (E : XK) (ta : TE) (t : TA) : TE := fun σ H Q => ta σ H fun x H1 => x = .ref C ∧ t σ H1 fun vs H2 => sp (vs ++ []) H2 Q E
section
variable {X : Cx} {W : WX} {io : List Nat} {CX : CXT} {k : Nat} {C g q : Addr} {mc : Value} {fd : FuncData} {ps : List Str} {x m fname : Str} {p pos apos : Pos} {o e : Expr} {es : List Expr} {ks : List AK} {m1 : Md} {d1 md : List Nat} {ta : TE} {t : TA} {da : E} {dc' : EC} {F : FD} {pl : Sem Bool} {sp : Sp} {E : XK} {v : V} {u : Value}
theorem pe_smeth (he : PE X o ta) (r : ClX.CRead X.K C mc) (c : SMet X.K C mc m q g) (F : FnOk X.prog X.w X.K X.mg X.base CX k g fd ps sp) (hr : Room k X.A) (hb : Binds X.K fd ps []) (hx : Passes CX X E) (ha : PA X (e :: es) t)
    (hst : starEach (e :: es) X.env = (false, eval e X.env) :: starEach es X.env := by rfl) (hpl : (backTo pos (starEach es X.env)).any (·.1) = false := by rfl)
    (ht : eval (.Call (.Attribute o m apos) (e :: es) [] pos) X.env = (do
      let ov ← eval o X.env
      standAt apos.atName
      let (f, first) ← holding [ov] (getMethod ov m pl)
      callWith pos f first (backTo pos (starEach (e :: es) X.env)) (backToKw pos (keywordEach [] X.env))) := by rfl) :
    PE X (.Call (.Attribute o m apos) (e :: es) [] pos) (tSMeth C sp E ta t) := by
  refine ⟨fun pins s σ H Q I h => ?_⟩
  refine PySem.W.methodCall_KW (pl := pl) (thn (he.run pins s σ H _ I h) fun u s1 ⟨x, H1, I1, rx, ex, q⟩ => ?_) ht
  subst ex
  obtain rfl : u = Value.ref C := rx
  obtain ⟨rest, hp⟩ := c.rc
  refine PySem.W.method_cls I1.kIn r.ga (PySem.W.cls_bind I1.kIn r.rd c.at_ (wpAny_call (PySem.W.sm_get (s := { s1 with toks := s1.toks + 1 }) I1.kIn hp (PySem.W.handed_on rfl ?_))))
  refine PySem.W.callWith_K (first := []) (h₀ := X.base) I1.ok.mod.kin c.kp (thn (ha.run pos pins _ σ H1 _ (I1.tok (s1.toks + 1)) q) fun us s2 ⟨vs, H2, I2, r, q2⟩ => ⟨I2.kIn, ?_⟩) hst hpl
  exact run_fn F hr hb .nil hx I2 r q2
theorem de_smeth (hcls : PE X o (tC (.ref C))) (r : ClX.CRead X.K C mc) (c : SMet X.K C mc m q g) (FN : FnOk X.prog X.w X.K X.mg X.base CX0 k g fd ps (spOf X.K (ks.map AK.pm) F)) (hr : Room k X.A) (hb : Binds X.K fd ps []) (hc : DC X W0 io ks md (e :: es) t dc')
    (hn : (ixs ks).Nodup := by decide) (hmv : ((ixs ks).all fun i => !io.contains i || (ioIx ks).contains i) = true := by rfl)
    (hst : starEach (e :: es) X.env = (false, eval e X.env) :: starEach es X.env := by rfl) (hpl : (backTo pos (starEach es X.env)).any (·.1) = false := by rfl)
    (ht : eval (.Call (.Attribute o m apos) (e :: es) [] pos) X.env = (do
      let ov ← eval o X.env
      standAt apos.atName
      let (f, first) ← holding [ov] (getMethod ov m pl)
      callWith pos f first (backTo pos (starEach (e :: es) X.env)) (backToKw pos (keywordEach [] X.env))) := by rfl) :
    DE X W0 io .tmp (md ++ ixs ks) (.Call (.Attribute o m apos) (e :: es) [] pos) (tSMeth C (spOf X.K (ks.map AK.pm) F) (fun _ _ _ => False) (tC (.ref C)) t) (dCall F ks dc') :=
  ⟨pe_smeth hcls r c FN hr hb pass0 hc.pa hst hpl ht, fun ρ ts σ H Q S h => ⟨rfl, erd_call (Ef := fun _ _ _ _ => False) hc.rd (fun _ _ _ _ h => h.elim) hn hmv ρ ts σ H Q S h⟩⟩
theorem de_cval (hcls : PE X o (tC (.ref C))) (r : ClX.CRead X.K C mc) (c : ClX.CVal X.K C mc fname v u) (hb : attributeBase o fname X.env (eval o X.env) = eval o X.env := by rfl) : DE X W io .tmp [] (.Attribute o fname pos) (ClX.tCVal X.K (tC (.ref C)) fname) (dc v) :=
  ⟨ClX.pe_cval hcls hb, fun ρ ts σ H Q S h => ⟨C, mc, v, u, rfl, r, c, rd_c S h⟩⟩
end
/-! ### o.f = e, o a slot's own object -/
def putFD (f : Str) (y : D) : List Str → List D → List Str × List D
  | g :: r, x :: xs => if g = f then (g :: r, y :: xs) else (g :: (putFD f y r xs).1, x :: (putFD f y r xs).2)
  | _, _ => ([f], [y])
def putFT (f : Str) (y : T) : List Str → List T → List Str × List T
  | g :: r, x :: xs => if g = f then (g :: r, y :: xs) else (g :: (putFT f y r xs).1, x :: (putFT f y r xs).2)
  | _, _ => ([f], [y])
theorem putFT_er (f : Str) (y : T) : ∀ (fs : List Str) (us : List T), (putFT f y fs us).1 = (putFD f y.er fs (T.ers us)).1 ∧ T.ers (putFT f y fs us).2 = (putFD f y.er fs (T.ers us)).2
  | [], [] => ⟨rfl, rfl⟩
  | [], _ :: _ => ⟨rfl, rfl⟩
  | _ :: _, [] => ⟨rfl, rfl⟩
  | g :: r, x :: xs => by
    have ih := putFT_er f y r xs
    unfold putFT putFD
    rw [T.ers]
    by_cases h : g = f
    · rw [if_pos h]; simp only [h, if_true, T.ers]; exact ⟨trivial, trivial⟩
    · rw [if_neg h]; simp only [h, if_false, T.ers, ih.1, ih.2]; exact ⟨trivial, trivial⟩
theorem putFT_rt (f : Str) (y : T) : ∀ (fs : List Str) (us : List T), fs.length = us.length → (putFT f y fs us).1.zip (T.rts (putFT f y fs us).2) = putF f y.rt (fs.zip (T.rts us)) ∧ (putFT f y fs us).1.length = (putFT f y fs us).2.length
  | [], [], _ => ⟨rfl, rfl⟩
  | [], _ :: _, h => by cases h
  | _ :: _, [], h => by cases h
  | g :: r, x :: xs, h => by
    have ih := putFT_rt f y r xs (Nat.succ.inj h)
    unfold putFT
    rw [T.rts, List.zip_cons_cons, putF]
    by_cases hg : g = f
    · rw [if_pos hg, if_pos hg]; exact ⟨by rw [T.rts, List.zip_cons_cons], h⟩
    · rw [if_neg hg, if_neg hg]; exact ⟨by rw [T.rts, List.zip_cons_cons, ih.1], by rw [List.length_cons, List.length_cons, ih.2]⟩
theorem putFT_mem {f : Str} {y : T} : ∀ {fs : List Str} {us : List T} {w : T}, w ∈ (putFT f y fs us).2 → w = y ∨ w ∈ us
  | [], us, w, h => by
    have : w ∈ [y] := by cases us <;> exact h
    exact .inl (by simpa using this)
  | g :: r, [], w, h => .inl (by simpa using (show w ∈ [y] from h))
  | g :: r, x :: xs, w, h => by
    unfold putFT at h
    by_cases hg : g = f
    · rw [if_pos hg] at h
      rcases List.mem_cons.mp h with e | h
      · exact .inl e
      · exact .inr (List.mem_cons_of_mem _ h)
    · rw [if_neg hg] at h
      rcases List.mem_cons.mp h with e | h
      · exact .inr (by rw [e]; exact List.mem_cons_self)
      · exact (putFT_mem h).imp id (List.mem_cons_of_mem _)
theorem putFT_wf {f : Str} {y : T} : ∀ {fs : List Str} {us : List T}, WF us → y.good → (∀ u ∈ us, Dj y u) → WF (putFT f y fs us).2
  | [], us, wf, g, d => by
    have : WF [y] := .cons g (fun _ m => nomatch m) .nil
    cases us <;> exact this
  | _ :: r, [], wf, g, d => .cons g (fun _ m => nomatch m) .nil
  | h :: r, x :: xs, wf, g, d => by
    unfold putFT
    by_cases hg : h = f
    · rw [if_pos hg]; exact .cons g (fun u m => d u (List.mem_cons_of_mem _ m)) wf.head.2.2
    · rw [if_neg hg]
      refine .cons wf.head.1 (fun u m => ?_) (putFT_wf wf.head.2.2 g fun u m => d u (List.mem_cons_of_mem _ m))
      rcases putFT_mem m with rfl | m
      · exact (d x List.mem_cons_self).symm
      · exact wf.head.2.1 u m
def objAt (i : Nat) (p : List Nat) (s : List D) : Option (Addr × List Str × List D) := match s[i]? with
  | none => none
  | some t => match D.at p t with
    | some (.nd (.obj true C fs) xs) => some (C, fs, xs)
    | _ => none
def sFldD (i : Nat) (Cs : List Addr) (f : Str) (m : Md) (de : E) (dp : EP') : S := fun s => match de s with
  | .no => .no
  | .ex c fs s => .ex c fs s
  | .ok q => if (m.isTmp || !q.1.hasOwn) = true then (match dp q.2 with
    | .no => .no
    | .ex c fs s => .ex c fs s
    | .ok r => match objAt i r.1 r.2 with
      | none => .no
      | some (C, fs, xs) => if (Cs.contains C && decide (fs.length < 1000)) = true then .nx (putAt i r.1 (.nd (.obj true C (putFD f q.1 fs xs).1) (putFD f q.1 fs xs).2) r.2) else .no) else .no
section
variable {K : PySem.W.Frag} {W : WX} {io : List Nat}
theorem srd_fld {i : Nat} {Cs : List Addr} {f : Str} {m : Md} {d0 d1 : List Nat} {te to : TE} {de : E} {dp : EP'} (hC : ∀ C ∈ Cs, Cls K C ∧ NoAttr K C f) (he : ERd K W io m d0 te de) (hp : PlRd K W io i d1 to dp) :
    SRd K W io (d0 ++ (d1 ++ [i])) (sFld K to te f) (sFldD i Cs f m de dp) := fun ρ ts σ H Z S h => by
  refine he ρ ts σ H _ S ?_
  unfold sFldD at h
  cases ee : de (T.ers ts) with
  | no => rw [ee] at h; exact h
  | ex c fs s => rw [ee] at h; exact fun ts1 H1 d S1 e1 st1 x => h ts1 σ H1 d S1 e1 st1 x
  | ok q =>
    obtain ⟨y0, s1⟩ := q
    rw [ee] at h
    intro ts1 y H1 S1 e1 ey oky mry st1 pu1
    by_cases hc : (m.isTmp || !y0.hasOwn) = true
    · simp only [hc, if_true] at h
      have try1 : TRel y ts1 := by
        cases m with
        | tmp => exact mry
        | vw src =>
          have : y0.hasOwn = false := by cases z : y0.hasOwn with | false => rfl | true => rw [z] at hc; cases hc
          exact mry.tmp S1.wf (T.own_nil (by rw [ey]; exact this))
      refine hp ρ ts1 σ H1 _ S1 ?_
      rw [e1]
      cases ea : dp s1 with
      | no => rw [ea] at h; exact h
      | ex c fs s => rw [ea] at h; exact fun ts2 H2 d S2 e2 st2 x => h ts2 σ H2 d S2 e2 (st1.tail.trans st2) x
      | ok r =>
        obtain ⟨p, s2⟩ := r
        rw [ea] at h
        intro ts2 H2 tr n S2 e2 ei en st2 pu2
        simp only at h
        have mi2 := List.mem_of_getElem? ei
        have es : s2[i]? = some tr.er := by rw [← e2, T.ers_map, List.getElem?_map, ei]; rfl
        unfold objAt at h
        rw [es] at h
        simp only at h
        cases ed : D.at p tr.er with
        | none => rw [ed] at h; exact h.elim
        | some dn =>
          obtain ⟨n', hn1, hn2⟩ := at_er p tr dn ed
          rw [en] at hn1; cases hn1
          rw [ed] at h
          split at h
          · exact h.elim
          · rename_i C fs xs eo
            split at eo
            · rename_i C1 fs1 xs1 eq1
              cases eq1
              cases eo
              split at h
              · rename_i hcond
                rw [Bool.and_eq_true] at hcond
                have hCm : C ∈ Cs := by simpa using hcond.1
                have hlen := of_decide_eq_true hcond.2
                obtain ⟨a, us, rfl, eu⟩ := er_nd hn2
                have sbn := at_sbt p tr _ en
                have okn := sbn.ok (S2.ok tr mi2)
                have gn := sbn.good (S2.wf.mem mi2)
                obtain ⟨dx, ha, hl⟩ := okn.node
                rw [rts_len] at hl
                have oky2 : y.ok K H2 := keepT oky S1.ok st2 fun u mu b mb => (try1.2 u mu).2 b mb
                have try2 : TRel y ts2 := ⟨try1.1, djStep oky try1.2 st2⟩
                have an : a ∈ (T.nd a (.obj true C fs) us).own := T.mem_col.mpr (.inl ⟨rfl, rfl⟩)
                rw [T.good] at gn
                have dyn : Dj y (.nd a (.obj true C fs) us) := by
                  have d := try2.2 tr mi2
                  exact ⟨fun z mz q => d.1 z mz (sbn.col q), fun z mz q => d.2 z (sbn.col mz) q⟩
                have upn : ∀ {q : NK → Bool} {z : Addr} {w : T}, w ∈ us → z ∈ w.col q → z ∈ (T.nd a (.obj true C fs) us).col q := fun mw mz => T.mem_col.mpr (.inr ⟨_, mw, mz⟩)
                generalize hus' : (putFT f y fs us).2 = us'
                generalize hfs' : (putFT f y fs us).1 = fs'
                have memu : ∀ w ∈ us', w = y ∨ w ∈ us := fun w mw => by rw [← hus'] at mw; exact putFT_mem mw
                have hz := putFT_rt f y fs us hl
                rw [hus', hfs'] at hz
                have na : ∀ w ∈ us', a ∉ w.trk := fun w mw z => by
                  rcases memu w mw with rfl | mw
                  · exact dyn.2 a an z
                  · exact gn.1 rfl (T.mem_cols.mpr ⟨w, mw, z⟩)
                have okn3 : (T.nd a (.obj true C fs') us').ok K (upd H2 a (.ins C dx (putF f y.rt (fs.zip (T.rts us))))) := by
                  rw [T.ok]
                  refine ⟨⟨dx, by rw [upd_same, hz.1], by rw [rts_len]; exact hz.2⟩, T.oks_all.mpr fun w mw => keep_updA ?_ ha rfl (na w mw)⟩
                  rcases memu w mw with rfl | mw
                  · exact oky2
                  · exact okn.child mw
                have wf' : WF us' := by
                  rw [← hus']
                  exact putFT_wf gn.2.2 try2.1 fun u mu => ⟨fun z mz q => dyn.1 z mz (upn mu q), fun z mz q => dyn.2 z (upn mu mz) q⟩
                have gn3 : (T.nd a (.obj true C fs') us').good := by
                  rw [T.good]
                  refine ⟨fun _ m => ?_, fun _ m => ?_, wf'⟩
                  · obtain ⟨w, mw, mz⟩ := T.mem_cols.mp m
                    exact na w mw mz
                  · obtain ⟨w, mw, mz⟩ := T.mem_cols.mp m
                    exact na w mw (T.own_trk mz)
                have fr3 : Frm (.nd a (.obj true C fs') us') (.nd a (.obj true C fs) us) [y] := by
                  have go : ∀ {q : NK → Bool}, (∀ C fs fs', q (.obj true C fs) = q (.obj true C fs')) → ∀ z ∈ (T.nd a (.obj true C fs') us').col q, z ∈ (T.nd a (.obj true C fs) us).col q ∨ ∃ y' ∈ [y], z ∈ y'.col q := fun hq z mz => by
                    rcases T.mem_col.mp mz with ⟨m1, m2⟩ | ⟨w, mw, m⟩
                    · exact .inl (T.mem_col.mpr (.inl ⟨by rw [hq C fs fs']; exact m1, m2⟩))
                    · rcases memu w mw with rfl | mw
                      · exact .inr ⟨w, by simp, m⟩
                      · exact .inl (upn mw m)
                  exact ⟨fun z => go (fun _ _ _ => rfl) z, fun z => go (fun _ _ _ => rfl) z, fun z => go (fun _ _ _ => rfl) z⟩
                obtain ⟨S4, st4, _⟩ := mut_fin S2 ei en ha rfl rfl okn3 gn3 fr3 (fun y' my => by
                  have : y' = y := by simpa using my
                  subst this; exact try2)
                refine ⟨a, C, dx, _, rfl, ha, (hC C hCm).1, (hC C hCm).2, ?_, ?_⟩
                · rw [List.length_zip, rts_len]; omega
                · have stA : Step H ts H2 ([y] ++ ts2) := by
                    have q := st1.tail.trans st2
                    exact q.cons (st1.ow y List.mem_cons_self) (st1.tr y List.mem_cons_self) (st1.im y List.mem_cons_self)
                  refine h _ σ _ S4 ?_ ((st4 stA (fun y' my => my) fun _ _ => trivial).sub fun w mw => List.mem_append_right _ mw) fun k hk => ?_
                  · have hp1 := putFT_er f y fs us
                    rw [hus', hfs', eu, ey] at hp1
                    rw [putAt_of ei, T.er, hp1.1, hp1.2, e2]
                  · rw [List.mem_append, List.mem_append, not_or, not_or] at hk
                    rw [List.getElem?_set_ne (fun z => hk.2.2 (by rw [z]; simp)), pu2 k hk.2.1, pu1 k hk.1]
              · exact h.elim
            · cases eo
    · simp only [hc] at h
      exact h.elim
end
theorem ds_fld {X : Cx} {W : WX} {io : List Nat} {i : Nat} {Cs : List Addr} {f : Str} {m : Md} {d0 d1 : List Nat} {te to : TE} {de : E} {dp : EP'} {o value : Expr} {pos pos' : Pos} (hC : ∀ C ∈ Cs, Cls X.K C ∧ NoAttr X.K C f) (he : DE X W io m d0 value te de) (hp : DP X W io i d1 o to dp)
    (hs : swapsWith value (some (.Attribute o f pos')) pos.line X.env = pure false := by rfl) : DS X W io (d0 ++ (d1 ++ [i])) (.Assign [.Attribute o f pos'] value pos) (sFld X.K to te f) (sFldD i Cs f m de dp) := ⟨ps_fld hp.pe he.pe hs, srd_fld hC he.rd hp.rd⟩
end VS
namespace VS
open PySem PySem.Spec PyProof.Rows L2

/-! ### a new instance -/
def convD (imm : Bool) : D → Option D
  | .nd (.obj true C fs) xs => if imm = true then (if D.hass NK.isOwn xs = false then some (.nd (.ins C fs) xs) else none) else some (.nd (.obj true C fs) xs)
  | _ => none
/-- the same thing, seen as one that is not changed -/
theorem conv_ok {K : PySem.W.Frag} {H : Hp} {imm : Bool} {u : T} {d : D} (ok : u.ok K H) (g : u.good) (h : convD imm u.er = some d) :
    ∃ t : T, t.er = d ∧ t.rt = u.rt ∧ t.ok K H ∧ t.good ∧ (∀ a ∈ t.own, a ∈ u.own) ∧ (∀ a ∈ t.trk, a ∈ u.trk) ∧ (∀ a ∈ t.imm, a ∈ u.imm ∨ u.rt = .ref a) := by
  unfold convD at h
  split at h
  · rename_i C fs xs e
    obtain ⟨a, us, rfl, e2⟩ := er_nd e
    split at h
    · split at h
      · rename_i ho
        cases h
        have own0 : T.cols NK.isOwn us = [] := (T.hass_er us).mp (by rw [e2]; exact ho)
        refine ⟨.nd a (.ins C fs) us, by rw [T.er, e2], rfl, ?_, ?_, fun z mz => ?_, fun z mz => ?_, fun z mz => ?_⟩
        · rw [T.ok] at ok ⊢; exact ok
        · rw [T.good]
          exact ⟨fun z => (by cases z), fun _ m => (by rw [own0] at m; cases m), T.goods_of own0⟩
        · rcases T.mem_col.mp mz with ⟨q, _⟩ | q
          · cases q
          · exact T.mem_col.mpr (.inr q)
        · rcases T.mem_col.mp mz with ⟨_, q⟩ | q
          · exact T.mem_col.mpr (.inl ⟨rfl, q⟩)
          · exact T.mem_col.mpr (.inr q)
        · rcases T.mem_col.mp mz with ⟨_, q⟩ | q
          · exact .inr (by rw [q]; rfl)
          · exact .inl (T.mem_col.mpr (.inr q))
      · cases h
    · cases h
      exact ⟨_, by rw [T.er, e2], rfl, ok, g, fun _ m => m, fun _ m => m, fun _ m => .inl m⟩
  · cases h
def dMake (imm : Bool) (C : Addr) (F : FD) (ks : List AK) (dc : EC) : E := fun s => (dc s).bind fun q => match asmD ks q.1 q.2 with
  | none => .no
  | some args => if (valOk (ixs ks) ks q.1 && args.all fun x => !x.isUn) = true then (match F (.nd (.obj true C []) [] :: args) with
      | .ok (r, x :: os) => match r with
        | .v .non => match convD imm x with
          | some y => if (valFree ks q.1 || (!y.hasShr && !x.hasShr && !D.hass NK.isShr os)) = true then .ok (y, putD ks os q.2) else .no
          | none => .no
        | _ => .no
      | .ex c fs (x :: os) => if (valFree ks q.1 || !D.hass NK.isShr os) = true then .ex c fs (putD ks os q.2) else .no
      | _ => .no)
    else .no
theorem erd_makeS {K : PySem.W.Frag} {W : WX} {io : List Nat} {ks : List AK} {md : List Nat} {t : TA} {dc : EC} {F : FD} {Es : L2.St → XK} {imm : Bool} {C : Addr} (hc : CRd K W io ks md t dc) (hE : ∀ σ c d H', W c d σ H' → Es σ c d H') (hn : (ixs ks).Nodup)
    (hmv : ((ixs ks).all fun i => !io.contains i || (ioIx ks).contains i) = true) : ERd K W io .tmp (md ++ ixs ks) (fun σ H Q => tMake C (spOf K (.io :: ks.map AK.pm) F) [] (Es σ) t σ H Q) (dMake imm C F ks dc) := fun ρ ts σ H Q S h => by
  refine hc ρ ts σ H _ S ?_
  unfold dMake at h
  cases ea : dc (T.ers ts) with
  | no => rw [ea] at h; exact h
  | ex c fs s => rw [ea] at h; exact h
  | ok q =>
    obtain ⟨xs, s⟩ := q
    rw [ea] at h
    simp only [R.bind] at h
    intro ts1 us vs H1 S1 e1 eus ok1 cr st1 pu1 x dx hx hdx hne
    rw [List.append_nil]
    cases em : asmD ks xs s with
    | none => rw [em] at h; exact h.elim
    | some args =>
      rw [em] at h
      simp only at h
      by_cases hk : (valOk (ixs ks) ks xs && args.all fun x => !x.isUn) = true
      · rw [if_pos hk] at h
        rw [Bool.and_eq_true] at hk
        obtain ⟨cs, c1, c2, c3, c4, c5, c6⟩ := asm_ok S1 ks us vs args (ixs ks) cr (by rw [eus, e1]; exact em) (fun _ m => m) (by rw [eus]; exact hk.1) hn
        have okc1 : ∀ c ∈ cs, c.ok K H1 := fun c mc => arg_ok S1 ok1 (c3 c mc)
        generalize hH2 : upd (upd H1 dx (.own x)) x (.ins C dx []) = H2
        have hx1 : upd H1 dx (.own x) x = none := by rw [upd_ne (Ne.symm hne)]; exact hx
        have sm : Same H1 H2 := by
          rw [← hH2]
          exact fun b o e => same_upd hx1 b o (same_upd hdx b o e)
        have hx2 : H2 x = some (.ins C dx []) := by rw [← hH2, upd_same]
        have bck : ∀ b, H2 b = none → H1 b = none := fun b h => sm.free h
        have nxc : ∀ c ∈ cs, x ∉ c.trk := fun c mc z => by
          obtain ⟨o, e⟩ := T.trk_s (okc1 c mc) z
          rw [hx] at e; cases e
        have self0 : ∀ {p : NK → Bool} {a : Addr}, a ∈ (T.nd x (.obj true C []) []).col p → a = x := fun m => by
          rcases T.mem_col.mp m with ⟨_, e⟩ | ⟨c, mc, _⟩
          · exact e
          · cases mc
        have selfi : (T.nd x (.obj true C []) []).imm = [] := by
          show T.col NK.isImm _ = []
          rw [T.col]; rfl
        refine ⟨.nd x (.obj true C []) [] :: cs, by rw [T.rts, c2]; rfl, fun c mc => ?_, ?_, by rw [List.length_cons, List.length_cons, c5, List.length_map], fun i c e1 e2 => ?_, fun c mc => ?_, ?_⟩
        · rcases List.mem_cons.mp mc with rfl | mc
          · rw [T.ok]; exact ⟨⟨dx, hx2, rfl⟩, trivial⟩
          · exact T.ok_same (okc1 c mc) sm
        · refine .cons ?_ (fun u mu => ⟨fun a ma => by rw [self0 ma]; exact nxc u mu, fun a ma z => nxc u mu (by rw [← self0 z]; exact T.own_trk ma)⟩) c4
          rw [T.good]
          exact ⟨fun _ m => (nomatch m), fun _ m => (nomatch m), WF.nil⟩
        · cases i with
          | zero => cases e2
          | succ i => exact c6 i c (by simpa using e1) (by simpa using e2)
        · rcases List.mem_cons.mp mc with rfl | mc
          · exact fun z => nomatch z
          · refine isUn_er ?_
            have := List.all_eq_true.mp hk.2 c.er (by rw [← c1, T.ers_map]; exact List.mem_map.mpr ⟨c, mc, rfl⟩)
            simpa using this
        · have big : ∀ {H' : Hp} {B : List T}, Step H2 (.nd x (.obj true C []) [] :: cs) H' B → Step H1 cs H' B := fun {H' B} st => by
            refine ⟨fun b o e n => st.fr b o (sm b o e) fun u mu z => ?_, fun b e => bck b (st.al b e), fun u mu a ma => ?_, fun u mu a ma => ?_, fun u mu a ma => ?_⟩
            · rcases List.mem_cons.mp mu with rfl | mu
              · rw [self0 z, hx] at e; cases e
              · exact n u mu z
            · rcases st.ow u mu a ma with ⟨w, mw, zw⟩ | q
              · rcases List.mem_cons.mp mw with rfl | mw
                · exact .inr (by rw [self0 zw]; exact hx)
                · exact .inl ⟨w, mw, zw⟩
              · exact .inr (bck a q)
            · rcases st.tr u mu a ma with ⟨w, mw, zw⟩ | q
              · rcases List.mem_cons.mp mw with rfl | mw
                · exact .inr (by rw [self0 zw]; exact hx)
                · exact .inl ⟨w, mw, zw⟩
              · exact .inr (bck a q)
            · rcases st.im u mu a ma with ⟨w, mw, zw⟩ | q
              · rcases List.mem_cons.mp mw with rfl | mw
                · rw [selfi] at zw; cases zw
                · exact .inl ⟨w, mw, zw⟩
              · exact .inr (bck a q)
          show FPost K _ _ _ H2 _ (Es σ) (F (T.er (T.nd x (.obj true C []) []) :: T.ers cs))
          rw [c1, show T.er (T.nd x (.obj true C []) []) = .nd (.obj true C []) [] from rfl]
          cases ef : F (.nd (.obj true C []) [] :: args) with
          | no => rw [ef] at h; exact h
          | ok r =>
            obtain ⟨rv, os⟩ := r
            rw [ef] at h
            cases os with
            | nil => exact h.elim
            | cons x0 os =>
              simp only at h
              split at h
              · split at h
                · rename_i y ey
                  split at h
                  · rename_i hz
                    intro t' us' H' et eu hr nu okt oku wf st
                    have := er_v et; subst this
                    obtain ⟨u, w, rfl, eu1, eu2⟩ := ers_cons eu
                    have hrr : u.rt = .ref x ∧ T.rts w = iov (ks.map AK.pm) vs := by
                      have : T.rts (u :: w) = V.ref x :: iov (ks.map AK.pm) vs := hr
                      rw [T.rts] at this
                      injection this with a b
                      exact ⟨a, b⟩
                    have st' := big st
                    have oku' := oku u List.mem_cons_self
                    have wfu := wf.head.2.2
                    obtain ⟨tn, et2, rt2, okn, gn, own2, trk2, imm2⟩ := conv_ok oku' wfu.head.1 (by rw [eu1]; exact ey)
                    -- the step with the new view
                    have stn : Step H1 cs H' (tn :: w) := by
                      refine ((st'.sub (C := w) fun z mz => by simp [mz])).cons (fun a ma => st'.ow u (by simp) a (own2 a ma)) (fun a ma => st'.tr u (by simp) a (trk2 a ma)) (fun a ma => ?_)
                      rcases imm2 a ma with q | q
                      · exact st'.im u (by simp) a q
                      · rw [hrr.1] at q; cases q; exact .inr hx
                    have hf : valFree ks (oer us) = true ∨ ∀ b ∈ tn :: w, b.col NK.isShr = [] := by
                      rw [Bool.or_eq_true] at hz
                      rcases hz with z | z
                      · exact .inl (by rw [eus]; exact z)
                      · rw [Bool.and_eq_true, Bool.and_eq_true] at z
                        refine .inr fun b mb => ?_
                        rcases List.mem_cons.mp mb with rfl | mb
                        · exact shr_of (by rw [et2]; simpa using z.1.1)
                        · exact hass_shr (by rw [eu2]; simpa using z.2) b mb
                    obtain ⟨S2, st2, pu2, dj2⟩ := slots_after (B := tn :: w) S1 ok1 cr st1 pu1 hn hmv c3 okc1 hrr.2 (fun z mz => nu z (List.mem_cons_of_mem _ mz)) (fun z mz => oku z (List.mem_cons_of_mem _ mz)) (fun z m => List.mem_cons_of_mem _ m) wfu.head.2.2 stn hf
                    refine ⟨rfl, ?_⟩
                    rw [← hrr.1, ← rt2]
                    refine h _ tn H' S2 ?_ et2 okn ⟨gn, dj2 tn List.mem_cons_self fun z mz => ⟨fun a ma => (wfu.head.2.1 z mz).1 a (own2 a ma), fun a ma q => (wfu.head.2.1 z mz).2 a ma (trk2 a q)⟩⟩ (st2.sub fun z mz => ?_) pu2
                    · rw [ers_put, ers_wipe, e1, eu2]; rfl
                    · rcases List.mem_cons.mp mz with rfl | mz
                      · simp
                      · exact List.mem_append_right _ mz
                  · exact h.elim
                · exact h.elim
              · exact h.elim
          | ex c fs os =>
            rw [ef] at h
            cases os with
            | nil => exact h.elim
            | cons x0 os =>
              simp only at h
              split at h
              · rename_i hz
                intro us' H' d eu hr nu oku wf st xr
                obtain ⟨u, w, rfl, eu1, eu2⟩ := ers_cons eu
                have hrr : T.rts w = iov (ks.map AK.pm) vs := by
                  have : T.rts (u :: w) = V.ref x :: iov (ks.map AK.pm) vs := hr
                  rw [T.rts] at this
                  injection this with a b
                have st' : Step H1 cs H' w := (big st).sub fun z mz => List.mem_cons_of_mem _ mz
                have hf : valFree ks (oer us) = true ∨ ∀ b ∈ w, b.col NK.isShr = [] := by
                  rw [Bool.or_eq_true] at hz
                  rcases hz with z | z
                  · exact .inl (by rw [eus]; exact z)
                  · exact .inr fun b mb => hass_shr (by rw [eu2]; simpa using z) b mb
                obtain ⟨S2, st2, pu2, dj2⟩ := slots_after (B := w) S1 ok1 cr st1 pu1 hn hmv c3 okc1 hrr (fun z mz => nu z (List.mem_cons_of_mem _ mz)) (fun z mz => oku z (List.mem_cons_of_mem _ mz)) (fun z m => m) wf.head.2.2 st' hf
                exact hE σ c d H' (h _ H' d S2 (by rw [ers_put, ers_wipe, e1, eu2]; rfl) (st2.sub fun w mw => List.mem_append_right _ mw) xr)
              · exact h.elim
      · rw [if_neg hk] at h; exact h.elim
theorem erd_make {K : PySem.W.Frag} {W : WX} {io : List Nat} {ks : List AK} {md : List Nat} {t : TA} {dc : EC} {F : FD} {E : XK} {imm : Bool} {C : Addr} (hc : CRd K W io ks md t dc) (hE : ∀ σ c d H', W c d σ H' → E c d H') (hn : (ixs ks).Nodup)
    (hmv : ((ixs ks).all fun i => !io.contains i || (ioIx ks).contains i) = true) : ERd K W io .tmp (md ++ ixs ks) (tMake C (spOf K (.io :: ks.map AK.pm) F) [] E t) (dMake imm C F ks dc) := erd_makeS (Es := fun _ => E) hc hE hn hmv
section
variable {X : Cx} {W : WX} {io : List Nat} {CX : CXT} {k : Nat} {C f : Addr} {fd : FuncData} {ps : List Str} {x : Str} {p pos apos : Pos} {e : Expr} {es : List Expr} {ks : List AK} {md : List Nat} {t : TA} {dc : EC} {F : FD}
theorem de_make (imm : Bool) (M : Mk X.K C f) (FN : FnOk X.prog X.w X.K X.mg X.base CX0 k f fd ps (spOf X.K (.io :: ks.map AK.pm) F)) (hr : Room (k + 1) X.A) (hg : Gl X x) (hm : X.mg x = some (.ref C)) (hb : Binds X.K fd ps []) (hc : DC X W0 io ks md (e :: es) t dc)
    (hn : (ixs ks).Nodup := by decide) (hmv : ((ixs ks).all fun i => !io.contains i || (ioIx ks).contains i) = true := by rfl)
    (hdb : (x == ("__debug__" : Str)) = false := by decide) (he : starEach (e :: es) X.env = (false, eval e X.env) :: starEach es X.env := by rfl) (hpl : (backTo pos (starEach es X.env)).any (·.1) = false := by rfl) :
    DE X W0 io .tmp (md ++ ixs ks) (.Call (.Name x p) (e :: es) [] pos) (tMake C (spOf X.K (.io :: ks.map AK.pm) F) [] (fun _ _ _ => False) t) (dMake imm C F ks dc) :=
  ⟨pe_make M FN hr hg hm hb .nil pass0 hc.pa hdb he hpl, erd_make hc.rd (fun _ _ _ _ h => h.elim) hn hmv⟩
end
/-! ### isinstance -/
inductive TK where
  | b (n : String)
  | o (C : Addr)
  deriving DecidableEq
def TK.v : TK → Value
  | .b n => .type n
  | .o C => .ref C
def D.ty : D → Option TK
  | .un => none
  | .v .non => some (.b "NoneType")
  | .v (.bl _) => some (.b "bool")
  | .v (.int _) => some (.b "int")
  | .v (.str _) => some (.b "str")
  | .v _ => none
  | .nd .tup _ => some (.b "tuple")
  | .nd .scr _ => some (.b "list")
  | .nd (.lst _) _ => some (.b "list")
  | .nd (.dic _ _) _ => some (.b "dict")
  | .nd (.dit _ _) _ => some (.b "dict")
  | .nd (.ins C _) _ => some (.o C)
  | .nd (.obj _ C _) _ => some (.o C)
/-- what an own class needs to be told -/
structure InsTy (K : PySem.W.Frag) (C : Addr) : Prop where
  cl : Cls K C
  ha : PySem.W.findIn K (.ref C) "__class__" = some (some (.builtin "object.__class__"))
  hn : PySem.W.specialIn K (.builtin "object.__class__") "__get__" = some (some (.builtin "getset_descriptor.__get__"))
  htk : PySem.W.takesIn K (.builtin "object.__class__") = some true
  hm : PySem.W.mroIn K C (.type "object") = some true
/-- a type, a tuple's too -/
def TyY (K : PySem.W.Frag) (H : Hp) (x : V) (v : Value) : Prop := TyX K H x v ∨ (v = .type "tuple" ∧ ∃ a xs, x = .ref a ∧ SqT K H a xs)
/-- a value's type, told by its tree -/
theorem ty_of {K : PySem.W.Frag} {H : Hp} {Cs : List Addr} (hC : ∀ C ∈ Cs, InsTy K C) {t : T} {v : TK} (ok : t.ok K H) (h : t.er.ty = some v) (hv : ∀ C, v = .o C → C ∈ Cs) : TyY K H t.rt v.v := by
  unfold D.ty at h
  split at h
  · cases h
  · rename_i e; have := er_v e; subst this; cases h; exact .inl (.base .non)
  · rename_i e; have := er_v e; subst this; cases h; exact .inl (.base (.bl _))
  · rename_i e; have := er_v e; subst this; cases h; exact .inl (.base (.int _))
  · rename_i e; have := er_v e; subst this; cases h; exact .inl (.base (.str _))
  · cases h
  · rename_i xs e; obtain ⟨a, us, rfl, _⟩ := er_nd e; cases h; exact .inr ⟨rfl, a, _, rfl, ok.sqT⟩
  · rename_i xs e; obtain ⟨a, us, rfl, _⟩ := er_nd e; cases h
    rcases ok.node with ⟨o, z⟩ | ⟨o, its, n, z, zc, _⟩
    · exact .inl (.base (.frz z))
    · exact .inl (.kList z zc)
  · rename_i xs e; obtain ⟨a, us, rfl, _⟩ := er_nd e; cases h; exact .inl (.base (.lst ok.atL))
  · rename_i xs e; obtain ⟨a, us, rfl, _⟩ := er_nd e; cases h; exact .inl (.base (.dK ok.node.1))
  · rename_i xs e; obtain ⟨a, us, rfl, _⟩ := er_nd e; cases h; exact .inl (.base (.dT ok.node.1))
  · rename_i xs e; obtain ⟨a, us, rfl, _⟩ := er_nd e; cases h
    obtain ⟨dx, z, _⟩ := ok.node
    have c := hC _ (hv _ rfl)
    exact .inl (.base (.ins z c.cl c.ha c.hn c.htk c.hm))
  · rename_i xs e; obtain ⟨a, us, rfl, _⟩ := er_nd e; cases h
    obtain ⟨dx, z, _⟩ := ok.node
    have c := hC _ (hv _ rfl)
    exact .inl (.base (.ins z c.cl c.ha c.hn c.htk c.hm))
theorem kit_ofY {X : Cx} {pins : List (Addr × Obj)} {σ : L2.St} {H : Hp} {s : Shared} {x : V} {u t : Value} (I : Inv X pins σ H s) (rx : RelV x u) (ty : TyY X.K H x t) : ∃ P : Heap → Prop, PySem.W.KitX X.K u t P ∧ P s.heap ∧ u ≠ .builtin "__main__.__loader__#opaque" := by
  rcases ty with ty | ⟨rfl, a, xs, rfl, sq⟩
  · exact kit_of I rx ty
  · cases (show u = Value.ref a from rx)
    obtain ⟨its, r, ⟨o, e, c, _⟩, _⟩ := I.tuple sq
    exact ⟨_, PySem.W.kitx_tuple, ⟨o, e, c⟩, fun z => nomatch z⟩
def rIs1 (K : PySem.W.Frag) : List V → Hp → VK → Prop := fun xs H Q => ∃ (x c : V) (t u : Value) (b : Bool), xs = [x, c] ∧ ClsV c u ∧ TyY K H x t ∧ PySem.W.kitOne K t u = some b ∧ Q (.bl b) H
def rIsN (K : PySem.W.Frag) : List V → Hp → VK → Prop := fun xs H Q => ∃ (x : V) (tp : Addr) (cs : List V) (t : Value) (us : List Value) (b : Bool), xs = [x, .ref tp] ∧ SqT K H tp cs ∧ Paired ClsV cs us ∧ TyY K H x t ∧ PySem.W.kitAny K t us = some b ∧ Q (.bl b) H
theorem call_is1 {X : Cx} : CallR X (.builtin "isinstance") (rIs1 X.K) := by
  intro pins s σ H xs us Q I r h
  obtain ⟨x, c, t, u, b, rfl, k, ty, e, q⟩ := h
  obtain ⟨u1, u2, rfl, r1, r2⟩ := vals2 r
  have e2 := k.eq r2
  subst e2
  obtain ⟨P, Z, p, hx⟩ := kit_ofY I r1 ty
  exact PySem.W.kia_one Z I.kIn p e hx fun tk => ⟨.bl b, H, I.tok tk, rfl, q⟩
theorem call_isN {X : Cx} : CallR X (.builtin "isinstance") (rIsN X.K) := by
  intro pins s σ H xs us Q I r h
  obtain ⟨x, tp, cs, t, ws, b, rfl, hT, k, ty, e, q⟩ := h
  obtain ⟨u1, u2, rfl, r1, r2⟩ := vals2 r
  cases (show u2 = Value.ref tp from r2)
  obtain ⟨P, Z, p, hx⟩ := kit_ofY I r1 ty
  obtain ⟨its, rv, ⟨o, h1, h2, n, h3⟩, _⟩ := I.tuple hT
  have e3 := ClsV.all k rv
  subst e3
  obtain ⟨oc, od, dt, sl⟩ := o
  simp only at h2 h3
  subst h2 h3
  exact PySem.W.kia_tup Z I.kIn p h1 e hx fun tk => ⟨.bl b, H, I.tok tk, rfl, q⟩
/-- kitOne of built-in types -/
def isaB (a b : String) : Option Bool :=
  if a = b then some true
  else if (a = "bool" && b = "int") = true then some true
  else if (["NoneType", "bool", "int", "str", "tuple", "list", "dict"].contains a && ["bool", "int", "str", "tuple", "list", "dict"].contains b) = true then some false else none
theorem isaB_ok {K : PySem.W.Frag} {a b : String} {r : Bool} (h : isaB a b = some r) : PySem.W.kitOne K (.type a) (.type b) = some r := by
  unfold isaB at h
  by_cases e : a = b
  · subst e
    rw [if_pos rfl] at h; cases h
    refine kit_ty ?_
    unfold kitB
    rw [if_pos (by simp)]
  · rw [if_neg e] at h
    by_cases e2 : (a = "bool" && b = "int") = true
    · rw [if_pos e2] at h; cases h
      simp only [Bool.and_eq_true, decide_eq_true_eq] at e2
      obtain ⟨rfl, rfl⟩ := e2
      exact kit_ty (by decide +kernel)
    · rw [if_neg e2] at h
      split at h
      · rename_i e3
        cases h
        have main : ∀ a ∈ ["NoneType", "bool", "int", "str", "tuple", "list", "dict"], ∀ b ∈ ["bool", "int", "str", "tuple", "list", "dict"], a ≠ b → (a = "bool" && b = "int") ≠ true → kitB a b = some false := by decide +kernel
        rw [Bool.and_eq_true] at e3
        exact kit_ty (main a (by simpa using e3.1) b (by simpa using e3.2) e e2)
      · cases h
/-- a table of the other answers -/
abbrev Isa := List (TK × TK × Bool)
def isaD (tab : Isa) : TK → TK → Option Bool
  | .b a, .b b => isaB a b
  | t, u => (tab.find? fun e => e.1 == t && e.2.1 == u).map (·.2.2)
theorem isaD_ok {K : PySem.W.Frag} {tab : Isa} (ht : ∀ e ∈ tab, PySem.W.kitOne K e.1.v e.2.1.v = some e.2.2) {t u : TK} {r : Bool} (h : isaD tab t u = some r) : PySem.W.kitOne K t.v u.v = some r := by
  have main : (tab.find? fun e => e.1 == t && e.2.1 == u).map (·.2.2) = some r → PySem.W.kitOne K t.v u.v = some r := fun h => by
    cases e : tab.find? (fun e => e.1 == t && e.2.1 == u) with
    | none => rw [e] at h; cases h
    | some w =>
      rw [e] at h; cases h
      have q := List.find?_some e
      rw [Bool.and_eq_true] at q
      have := ht w (List.mem_of_find?_eq_some e)
      rw [beq_iff_eq.mp q.1, beq_iff_eq.mp q.2] at this
      exact this
  cases t <;> cases u <;> first | exact isaB_ok h | exact main h
def isaAny (tab : Isa) (t : TK) : List TK → Option Bool
  | [] => some false
  | u :: us => match isaD tab t u with
    | some true => some true
    | some false => isaAny tab t us
    | none => none
theorem isaAny_ok {K : PySem.W.Frag} {tab : Isa} (ht : ∀ e ∈ tab, PySem.W.kitOne K e.1.v e.2.1.v = some e.2.2) {t : TK} : ∀ {us : List TK} {r : Bool}, isaAny tab t us = some r → PySem.W.kitAny K t.v (us.map TK.v) = some r
  | [], r, h => by cases h; exact kitAny_nil
  | u :: us, r, h => by
    unfold isaAny at h
    split at h
    · rename_i e; cases h; exact kitAny_cons (isaD_ok ht e) (fun z => by cases z) fun _ => rfl
    · rename_i e; exact kitAny_cons (isaD_ok ht e) (fun _ => isaAny_ok ht h) fun z => by cases z
    · cases h
/-- a class as a value -/
def V.tk : V → Option TK
  | .ty n => some (.b n)
  | .ref C => some (.o C)
  | _ => none
theorem tk_cls {v : V} {k : TK} (h : V.tk v = some k) : ClsV v k.v := by
  unfold V.tk at h
  split at h
  · cases h; exact .ty _
  · cases h; exact .own _
  · cases h
def D.tks : List D → Option (List TK)
  | [] => some []
  | .v x :: r => match V.tk x, D.tks r with
    | some k, some ks => some (k :: ks)
    | _, _ => none
  | _ => none
theorem tks_of : ∀ {us : List T} {ks : List TK}, D.tks (T.ers us) = some ks → Paired ClsV (T.rts us) (ks.map TK.v)
  | [], ks, h => by cases h; exact .nil
  | u :: r, ks, h => by
    rw [T.ers] at h
    unfold D.tks at h
    split at h
    · rename_i e; cases e
    · rename_i e
      injection e with e1 e2
      have := er_v e1; subst this
      subst e2
      split at h
      · rename_i k ks' h1 h2; cases h; exact .cons (tk_cls h1) (tks_of h2)
      · cases h
    · cases h
def tkIn (Cs : List Addr) : TK → Bool
  | .o C => Cs.contains C
  | .b _ => true
def isiD (tab : Isa) (Cs : List Addr) : List D → Option D
  | [x, .v c] => match x.ty, V.tk c with
    | some t, some u => if tkIn Cs t = true then (isaD tab t u).map D.bl else none
    | _, _ => none
  | [x, .nd .tup cs] => match x.ty, D.tks cs with
    | some t, some us => if tkIn Cs t = true then (isaAny tab t us).map D.bl else none
    | _, _ => none
  | _ => none
abbrev rIsa (K : PySem.W.Frag) : List V → Hp → VK → Prop := fun xs H Q => rIs1 K xs H Q ∨ rIsN K xs H Q
theorem isi_ok {K : PySem.W.Frag} {tab : Isa} {Cs : List Addr} (ht : ∀ e ∈ tab, PySem.W.kitOne K e.1.v e.2.1.v = some e.2.2) (hC : ∀ C ∈ Cs, InsTy K C) : OpN K (rIsa K) (isiD tab Cs) := by
  intro H us d Q ok gd e q
  have chk : ∀ {t : TK}, tkIn Cs t = true → ∀ C, t = .o C → C ∈ Cs := fun h C e => by subst e; simpa [tkIn] using h
  unfold isiD at e
  split at e
  · rename_i x c e1
    obtain ⟨u, w, rfl, e2, e3⟩ := ers_cons e1
    obtain ⟨u1, w, rfl, e4, e5⟩ := ers_cons e3
    have := ers_nil e5; subst this
    have := er_v e4; subst this
    subst e2
    split at e
    · rename_i t k h1 h2
      split at e
      · rename_i h3
        cases ei : isaD tab t k with
        | none => rw [ei] at e; cases e
        | some r =>
          rw [ei] at e; cases e
          exact .inl ⟨u.rt, c, t.v, k.v, r, rfl, tk_cls h2, ty_of hC (ok u (by simp)) h1 (chk h3), isaD_ok ht ei, q (.v _) H rfl trivial Frsh.atom⟩
      · cases e
    · cases e
  · rename_i x cs e1
    obtain ⟨u, w, rfl, e2, e3⟩ := ers_cons e1
    obtain ⟨u1, w, rfl, e4, e5⟩ := ers_cons e3
    have := ers_nil e5; subst this
    obtain ⟨a, ws, rfl, e6⟩ := er_nd e4
    subst e2
    split at e
    · rename_i t k h1 h2
      split at e
      · rename_i h3
        cases ei : isaAny tab t k with
        | none => rw [ei] at e; cases e
        | some r =>
          rw [ei] at e; cases e
          exact .inr ⟨u.rt, a, T.rts ws, t.v, k.map TK.v, r, rfl, (ok _ (by simp)).sqT, tks_of (by rw [e6]; exact h2), ty_of hC (ok u (by simp)) h1 (chk h3), isaAny_ok ht ei, q (.v _) H rfl trivial Frsh.atom⟩
      · cases e
    · cases e
  · cases e
end VS
namespace VS
open PySem PySem.Spec PyProof.Rows L2

/-! ### a name frozen, a name taken out -/
def dfz (i : Nat) : E := fun s => match s[i]? with
  | none => .no
  | some .un => .no
  | some d => .ok (d.fz, s.set i d.fz)
def dmv (i : Nat) : E := fun s => match s[i]? with
  | none => .no
  | some .un => .no
  | some d => .ok (d, s.set i .un)
theorem fz_own' (t : T) : t.fz.own = [] := T.fz_own t
theorem fz_trk_sub {t : T} {a : Addr} (h : a ∈ t.fz.trk) : a ∈ t.trk := by rw [T.fz_trk] at h; exact h
theorem fz_imm_sub {t : T} {a : Addr} (h : a ∈ t.fz.imm) : a ∈ t.imm := by rw [T.fz_imm] at h; exact h
theorem Dj.fz {t u : T} (h : Dj t u) : Dj t.fz u := ⟨fun a ma => (by rw [fz_own'] at ma; cases ma), fun a ma z => h.2 a ma (fz_trk_sub z)⟩
theorem dj_fz_self {t : T} : Dj t.fz t.fz := ⟨fun a ma => (by rw [fz_own'] at ma; cases ma), fun a ma => (by rw [fz_own'] at ma; cases ma)⟩
theorem fz_ne {t : T} (h : t ≠ .un) : t.fz ≠ .un := by cases t <;> first | exact h | (intro z; cases z)
section
variable {K : PySem.W.Frag} {W : WX} {io : List Nat}
theorem set_inv {ts : List T} {i : Nat} {t' w : T} (m : w ∈ ts.set i t') : w = t' ∨ ∃ j, j ≠ i ∧ ts[j]? = some w := by
  obtain ⟨j, ej⟩ := List.getElem?_of_mem m
  by_cases hj : j = i
  · subst hj
    have hl : j < ts.length := by
      have := (List.getElem?_eq_some_iff.mp ej).1
      simpa using this
    rw [List.getElem?_set_self hl] at ej
    exact .inl (Option.some.inj ej).symm
  · rw [List.getElem?_set_ne (Ne.symm hj)] at ej
    exact .inr ⟨j, hj, ej⟩
theorem rd_fz {i : Nat} : ERd K W io .tmp [i] (tVar i) (dfz i) := fun ρ ts σ H Q S h => by
  unfold dfz at h
  cases e : (T.ers ts)[i]? with
  | none => rw [e] at h; exact h.elim
  | some d =>
    obtain ⟨t, et, ed⟩ := ers_get e
    have mt := List.mem_of_getElem? et
    have hl := (List.getElem?_eq_some_iff.mp et).1
    rw [e] at h
    have go : t ≠ .un → EPost K W io ρ .tmp [i] ts σ H Q (.ok (d.fz, (T.ers ts).set i d.fz)) → tVar i σ H Q := fun ne h => by
      refine ⟨t.rt, S.rt i t et ne, ?_⟩
      rw [← T.fz_rt]
      have inv : ∀ {w : T}, w ∈ ts.set i t.fz → w = t.fz ∨ ∃ j, j ≠ i ∧ ts[j]? = some w := fun m => set_inv m
      refine h (ts.set i t.fz) t.fz H ⟨by rw [List.length_set]; exact S.len, fun j w ew nw => ?_, fun w mw => ?_, S.wf.set (T.fz_good t) fun j w hj ew => (S.wf.get (Ne.symm hj) et ew).fz, fun j mj => ?_⟩ (by rw [ers_set, T.fz_er, ed]) (by rw [T.fz_er, ed]) (T.ok_fz (S.ok t mt)) ⟨T.fz_good t, fun w mw => ?_⟩ ⟨fun _ _ e _ => e, fun _ e => e, fun w mw a ma => .inl ?_, fun w mw a ma => .inl ?_, fun w mw a ma => .inl ?_⟩ fun j hj => ?_
      · by_cases hj : j = i
        · subst hj
          rw [List.getElem?_set_self hl] at ew; cases ew
          rw [T.fz_rt]; exact S.rt j t et ne
        · rw [List.getElem?_set_ne (Ne.symm hj)] at ew; exact S.rt j w ew nw
      · rcases inv mw with rfl | ⟨j, _, ej⟩
        · exact T.ok_fz (S.ok t mt)
        · exact S.ok w (List.mem_of_getElem? ej)
      · obtain ⟨w, ew, nw, r⟩ := S.pin j mj
        by_cases hj : j = i
        · subst hj
          rw [et] at ew; cases ew
          exact ⟨t.fz, by rw [List.getElem?_set_self hl], fz_ne ne, by rw [T.fz_rt]; exact r⟩
        · exact ⟨w, by rw [List.getElem?_set_ne (Ne.symm hj)]; exact ew, nw, r⟩
      · rcases inv mw with rfl | ⟨j, hj, ej⟩
        · exact dj_fz_self
        · exact (S.wf.get (Ne.symm hj) et ej).fz
      · rcases List.mem_cons.mp mw with rfl | mw
        · rw [fz_own'] at ma; cases ma
        · rcases inv mw with rfl | ⟨j, _, ej⟩
          · rw [fz_own'] at ma; cases ma
          · exact ⟨w, List.mem_of_getElem? ej, ma⟩
      · rcases List.mem_cons.mp mw with rfl | mw
        · exact ⟨t, mt, fz_trk_sub ma⟩
        · rcases inv mw with rfl | ⟨j, _, ej⟩
          · exact ⟨t, mt, fz_trk_sub ma⟩
          · exact ⟨w, List.mem_of_getElem? ej, ma⟩
      · rcases List.mem_cons.mp mw with rfl | mw
        · exact ⟨t, mt, fz_imm_sub ma⟩
        · rcases inv mw with rfl | ⟨j, _, ej⟩
          · exact ⟨t, mt, fz_imm_sub ma⟩
          · exact ⟨w, List.mem_of_getElem? ej, ma⟩
      · rw [List.getElem?_set_ne (fun z => hj (by rw [z]; simp))]
    cases d with
    | un => exact h.elim
    | v x => exact go (er_un (by rw [ed]; intro z; cases z)) h
    | nd k xs => exact go (er_un (by rw [ed]; intro z; cases z)) h
theorem rd_mv {i : Nat} (hi : io.contains i = false) : ERd K W io .tmp [i] (tVar i) (dmv i) := fun ρ ts σ H Q S h => by
  have hi' : i ∉ io := by simpa using hi
  unfold dmv at h
  cases e : (T.ers ts)[i]? with
  | none => rw [e] at h; exact h.elim
  | some d =>
    obtain ⟨t, et, ed⟩ := ers_get e
    have mt := List.mem_of_getElem? et
    have hl := (List.getElem?_eq_some_iff.mp et).1
    rw [e] at h
    have go : t ≠ .un → EPost K W io ρ .tmp [i] ts σ H Q (.ok (d, (T.ers ts).set i .un)) → tVar i σ H Q := fun ne h => by
      refine ⟨t.rt, S.rt i t et ne, ?_⟩
      have inv : ∀ {w : T}, w ∈ ts.set i .un → w = .un ∨ ∃ j, j ≠ i ∧ ts[j]? = some w := fun m => set_inv m
      refine h (ts.set i .un) t H ⟨by rw [List.length_set]; exact S.len, fun j w ew nw => ?_, fun w mw => ?_, S.wf.set trivial fun j w hj ew => dj_un, fun j mj => ?_⟩ (by rw [ers_set]; rfl) ed (S.ok t mt) ⟨S.wf.mem mt, fun w mw => ?_⟩ ⟨fun _ _ e _ => e, fun _ e => e, fun w mw a ma => .inl ?_, fun w mw a ma => .inl ?_, fun w mw a ma => .inl ?_⟩ fun j hj => ?_
      · by_cases hj : j = i
        · subst hj
          rw [List.getElem?_set_self hl] at ew; cases ew
          exact absurd rfl nw
        · rw [List.getElem?_set_ne (Ne.symm hj)] at ew; exact S.rt j w ew nw
      · rcases inv mw with rfl | ⟨j, _, ej⟩
        · exact trivial
        · exact S.ok w (List.mem_of_getElem? ej)
      · obtain ⟨w, ew, nw, r⟩ := S.pin j mj
        exact ⟨w, by rw [List.getElem?_set_ne (fun z => hi' (by rw [z]; exact mj))]; exact ew, nw, r⟩
      · rcases inv mw with rfl | ⟨j, hj, ej⟩
        · exact dj_un.symm
        · exact S.wf.get (Ne.symm hj) et ej
      · rcases List.mem_cons.mp mw with rfl | mw
        · exact ⟨_, mt, ma⟩
        · rcases inv mw with rfl | ⟨j, _, ej⟩
          · cases ma
          · exact ⟨w, List.mem_of_getElem? ej, ma⟩
      · rcases List.mem_cons.mp mw with rfl | mw
        · exact ⟨_, mt, ma⟩
        · rcases inv mw with rfl | ⟨j, _, ej⟩
          · cases ma
          · exact ⟨w, List.mem_of_getElem? ej, ma⟩
      · rcases List.mem_cons.mp mw with rfl | mw
        · exact ⟨_, mt, ma⟩
        · rcases inv mw with rfl | ⟨j, _, ej⟩
          · cases ma
          · exact ⟨w, List.mem_of_getElem? ej, ma⟩
      · rw [List.getElem?_set_ne (fun z => hj (by rw [z]; simp))]
    cases d with
    | un => exact h.elim
    | v x => exact go (er_un (by rw [ed]; intro z; cases z)) h
    | nd k xs => exact go (er_un (by rw [ed]; intro z; cases z)) h
/-- a temporary, frozen -/
def dFz (da : E) : E := fun s => (da s).bind fun q => .ok (q.1.fz, q.2)
theorem erd_fz {d1 : List Nat} {ta : TE} {da : E} (ha : ERd K W io .tmp d1 ta da) : ERd K W io .tmp d1 ta (dFz da) := fun ρ ts σ H Q S h => by
  refine ha ρ ts σ H _ S ?_
  unfold dFz at h
  cases ea : da (T.ers ts) with
  | no => rw [ea] at h; exact h
  | ex c fs s => rw [ea] at h; exact h
  | ok q =>
    obtain ⟨x, s⟩ := q
    rw [ea] at h
    intro ts1 t1 H1 S1 e1 et ok1 mr1 st1 pu1
    rw [← T.fz_rt]
    exact h ts1 t1.fz H1 S1 e1 (by rw [T.fz_er, et]) (T.ok_fz ok1) ⟨T.fz_good t1, fun u mu => (mr1.2 u mu).fz⟩ (st1.tail.cons (fun a ma => (by rw [fz_own'] at ma; cases ma)) (fun a ma => st1.tr t1 List.mem_cons_self a (fz_trk_sub ma)) (fun a ma => st1.im t1 List.mem_cons_self a (fz_imm_sub ma))) pu1
end
section
variable {X : Cx} {W : WX} {io : List Nat}
theorem de_nf (i : Nat) {x : Str} {pos : Pos} (hN : X.N[i]? = some x := by rfl) (hv : Vis X.env.scope x := by first | exact Or.inl rfl | exact Or.inr (Or.inl rfl) | exact Or.inr (Or.inr rfl)) (hd : (x == ("__debug__" : Str)) = false := by decide)
    (hcd : (x == ("__classdict__" : Str)) = false := by decide) : DE X W io .tmp [i] (.Name x pos) (tVar i) (dfz i) := ⟨pe_var hN hv hd hcd, rd_fz⟩
theorem de_nm (i : Nat) {x : Str} {pos : Pos} (hi : io.contains i = false := by rfl) (hN : X.N[i]? = some x := by rfl) (hv : Vis X.env.scope x := by first | exact Or.inl rfl | exact Or.inr (Or.inl rfl) | exact Or.inr (Or.inr rfl)) (hd : (x == ("__debug__" : Str)) = false := by decide)
    (hcd : (x == ("__classdict__" : Str)) = false := by decide) : DE X W io .tmp [i] (.Name x pos) (tVar i) (dmv i) := ⟨pe_var hN hv hd hcd, rd_mv hi⟩
theorem de_fzt {e : Expr} {d1 : List Nat} {ta : TE} {da : E} (h : DE X W io .tmp d1 e ta da) : DE X W io .tmp d1 e ta (dFz da) := ⟨h.pe, erd_fz h.rd⟩
/-! ### list comprehensions -/
structure DTs (X : Cx) (W : WX) (io : List Nat) (md : List Nat) (es : List Expr) (t : TT) (d : B) : Prop where
  pt : PTs X es t
  rd : TRd X.K W io md t d
theorem dts_nil : DTs X W io [] [] tYes bYes := ⟨pts_nil, trd_yes⟩
theorem dts_one {c : Expr} {md : List Nat} {t : TT} {d : B} (h : DT X W io md c t d) : DTs X W io md [c] t d := ⟨pts_one h.pt, h.rd⟩
theorem de_lc {elt tg iter : Expr} {ifs : List Expr} {scope : Scope} {own : List (Str × Nat)} {pos : Pos} {mi m : Md} {md mg mt me : List Nat} {ti : TI} {g : TG} {tt : TT} {te : TE} {it : I} {gd : Gd} {c : B} {e : E}
    (hc : X.calm = true) (hN : X.N.Nodup) (hi : DI X W io mi md tg iter ti it) (ok : BlkOk X.N X.env.scope scope own)
    (hg : ∀ (s : Shared) (H : Hp) (C : Addr) (cl : List (Str × Addr)) (fp : List Addr), DG (X.blk s H scope (compEnvC scope cl C X.env) fp) io mg tg g gd)
    (ht : ∀ (s : Shared) (H : Hp) (C : Addr) (cl : List (Str × Addr)) (fp : List Addr), DTs (X.blk s H scope (compEnvC scope cl C X.env) fp) W0 io mt ifs tt c)
    (he : ∀ (s : Shared) (H : Hp) (C : Addr) (cl : List (Str × Addr)) (fp : List Addr), DE (X.blk s H scope (compEnvC scope cl C X.env) fp) W0 io m me elt te e)
    (hmg : (mg.all fun j => (own.map (·.2)).contains j) = true := by rfl) (hio : (io.all fun i => !(own.map (·.2)).contains i) = true := by rfl) (hs : ∀ x, foldedSetIterable iter X.env x = pure x := by intro _; rfl) :
    DE X W io .tmp (md ++ (mg ++ (mt ++ me) ++ own.map (·.2))) (.ListComp elt [⟨tg, iter, ifs, 0⟩] scope pos) (tLc ti g tt te (own.map (·.2))) (dLc mi (mg ++ (mt ++ me) ++ own.map (·.2)) (own.map (·.2)) it gd c m e) :=
  ⟨pe_lc hc hN hi.pi ok (fun s H C cl fp => (hg s H C cl fp).pg) (fun s H C cl fp => (ht s H C cl fp).pt) (fun s H C cl fp => (he s H C cl fp).pe) hs,
    erd_lc hi.rd (hg X.s_0 X.H_0 0 [] []).rd (ht X.s_0 X.H_0 0 [] []).rd (he X.s_0 X.H_0 0 [] []).rd hmg hio⟩
theorem ds_setLc {i : Nat} {y : Str} {py : Pos} {elt tg iter : Expr} {ifs : List Expr} {scope : Scope} {own : List (Str × Nat)} {pos spos : Pos} {mi m : Md} {md mg mt me : List Nat} {ti : TI} {g : TG} {tt : TT} {te : TE} {it : I} {gd : Gd} {c : B} {e : E}
    (hc : X.calm = true) (hN : X.N.Nodup) (hy : X.N[i]? = some y) (hyl : X.env.scope.names.lookup y = some .local)
    (hsw : swapsWith (.ListComp elt [⟨tg, iter, ifs, 0⟩] scope pos) (some (.Name y py)) spos.line X.env = pure true) (hi : DI X W io mi md tg iter ti it) (ok : BlkOk X.N X.env.scope scope own)
    (hg : ∀ (s : Shared) (H : Hp) (C : Addr) (cl : List (Str × Addr)) (fp : List Addr), DG (X.blk s H scope (compEnvC scope cl C X.env) fp) io mg tg g gd)
    (ht : ∀ (s : Shared) (H : Hp) (C : Addr) (cl : List (Str × Addr)) (fp : List Addr), DTs (X.blk s H scope (compEnvC scope cl C X.env) fp) W0 io mt ifs tt c)
    (he : ∀ (s : Shared) (H : Hp) (C : Addr) (cl : List (Str × Addr)) (fp : List Addr), DE (X.blk s H scope (compEnvC scope cl C X.env) fp) W0 io m me elt te e)
    (hmg : (mg.all fun j => (own.map (·.2)).contains j) = true := by rfl) (hio : (io.all fun i => !(own.map (·.2)).contains i) = true := by rfl) (hi2 : io.contains i = false := by rfl) (hs : ∀ x, foldedSetIterable iter X.env x = pure x := by intro _; rfl) :
    DS X W io ((md ++ (mg ++ (mt ++ me) ++ own.map (·.2))) ++ [i]) (.Assign [.Name y py] (.ListComp elt [⟨tg, iter, ifs, 0⟩] scope pos) spos) (tAsg (tLc ti g tt te (own.map (·.2))) (gName i)) (sAsg .tmp (dLc mi (mg ++ (mt ++ me) ++ own.map (·.2)) (own.map (·.2)) it gd c m e) (gdN i)) :=
  ⟨ps_setLc hc hN hy hyl hsw hi.pi ok (fun s H C cl fp => (hg s H C cl fp).pg) (fun s H C cl fp => (ht s H C cl fp).pt) (fun s H C cl fp => (he s H C cl fp).pe) hs,
    srd_asg (erd_lc hi.rd (hg X.s_0 X.H_0 0 [] []).rd (ht X.s_0 X.H_0 0 [] []).rd (he X.s_0 X.H_0 0 [] []).rd hmg hio) (grd_n hi2)⟩
end
/-! ### list(range(..)) -/
def rgL (i j : Int) : D := .nd (.lst true) ((List.range (j - i).toNat).map fun (k : Nat) => D.int (i + k))
def rgOk (i j : Int) : Bool := decide (i.natAbs < 4000000000000000000 ∧ j.natAbs < 4000000000000000000 ∧ (j - i).toNat ≤ 16777216)
theorem rgOk_ok {i j : Int} (h : rgOk i j = true) : RgOk i j := by
  have q := of_decide_eq_true h
  exact ⟨by omega, by omega, by omega, by omega, by omega⟩
def lrD1 : D → Option D
  | .v (.int n) => if rgOk 0 n = true then some (rgL 0 n) else none
  | _ => none
def lrD2 : D → D → Option D
  | .v (.int i), .v (.int j) => if rgOk i j = true then some (rgL i j) else none
  | _, _ => none
def rLr1 : V → Hp → VK → Prop := fun x H1 Q => ∃ n, x = .int n ∧ (RgOk 0 n ∧ ∀ q, H1 q = none → Q (.ref q) (upd H1 q (.lst (rgV 0 n))))
def rLr2 : R2 := fun x y H1 Q => ∃ i j, x = .int i ∧ y = .int j ∧ (RgOk i j ∧ ∀ q, H1 q = none → Q (.ref q) (upd H1 q (.lst (rgV i j))))
section
variable {K : PySem.W.Frag}
theorem rg_new {H : Hp} {A : List T} {i j : Int} {q : Addr} (hq : H q = none) (okA : ∀ u ∈ A, u.ok K H) : ∃ t : T, t.er = rgL i j ∧ t.rt = .ref q ∧ t.ok K (upd H q (.lst (rgV i j))) ∧ Frsh H A (upd H q (.lst (rgV i j))) t := by
  obtain ⟨h1, h2⟩ := new_atoms (K := K) (A := A) (vs := rgV i j) hq okA
  refine ⟨_, ?_, rfl, h1, h2⟩
  rw [T.er, T.ers_map]
  unfold rgL rgV
  rw [List.map_map, List.map_map]; rfl
theorem lr1_ok : Op1 K rLr1 lrD1 := by
  intro H x d Q ok g e q
  unfold lrD1 at e
  split at e
  · rename_i n e1
    have := er_v e1; subst this
    split at e
    · rename_i h
      cases e
      refine ⟨n, rfl, rgOk_ok h, fun p hp => ?_⟩
      obtain ⟨t, t1, t2, t3, t4⟩ := rg_new (K := K) (A := [T.v (.int n)]) (i := 0) (j := n) hp fun u m => by rw [List.mem_singleton.mp m]; trivial
      rw [← t2]; exact q t _ t1 t3 t4
    · cases e
  · cases e
theorem lr2_ok : Op2 K rLr2 lrD2 := by
  intro H x y d Q okx oky gx gy e q
  unfold lrD2 at e
  split at e
  · rename_i i j e1 e2
    have := er_v e1; subst this
    have := er_v e2; subst this
    split at e
    · rename_i h
      cases e
      refine ⟨i, j, rfl, rfl, rgOk_ok h, fun p hp => ?_⟩
      obtain ⟨t, t1, t2, t3, t4⟩ := rg_new (K := K) (A := [T.v (.int i), T.v (.int j)]) (i := i) (j := j) hp fun u m => by
        rcases List.mem_cons.mp m with rfl | m
        · trivial
        · rw [List.mem_singleton.mp m]; trivial
      rw [← t2]; exact q t _ t1 t3 t4
    · cases e
  · cases e
end
section
variable {X : Cx} {W : WX} {io : List Nat} {a b : Expr} {ta tb : TE} {da db : E} {m1 m2 : Md} {d1 d2 : List Nat} {p p1 pos pos1 : Pos}
theorem de_lr1 (hc : X.calm = true) (hgl : Gl X "list") (hml : X.mg "list" = none) (hgr : Gl X "range") (hmr : X.mg "range" = none) (ha : DE X W io m1 d1 a ta da) (na : starEach [a] X.env = (false, eval a X.env) :: starEach [] X.env := by rfl)
    (nr : starEach [.Call (.Name "range" p1) [a] [] pos1] X.env = (false, eval (.Call (.Name "range" p1) [a] [] pos1) X.env) :: starEach [] X.env := by rfl) :
    DE X W io .tmp d1 (.Call (.Name "list" p) [.Call (.Name "range" p1) [a] [] pos1] [] pos) (tLstRg (tRg1 ta)) (dOne lrD1 da) := ⟨pe_listRg hc hgl hml (prg_1 hgr hmr ha.pe na) nr, fun ρ ts σ H Q S h => erd_oneU ha.rd lr1_ok ρ ts σ H Q S h⟩
theorem de_lr2 (hc : X.calm = true) (hgl : Gl X "list") (hml : X.mg "list" = none) (hgr : Gl X "range") (hmr : X.mg "range" = none) (ha : DE X W io m1 d1 a ta da) (hb : DE X W io m2 d2 b tb db) (na : starEach [a, b] X.env = (false, eval a X.env) :: starEach [b] X.env := by rfl)
    (nb : starEach [b] X.env = (false, eval b X.env) :: starEach [] X.env := by rfl) (hp : (backTo pos1 (starEach [b] X.env)).any (·.1) = false := by rfl)
    (nr : starEach [.Call (.Name "range" p1) [a, b] [] pos1] X.env = (false, eval (.Call (.Name "range" p1) [a, b] [] pos1) X.env) :: starEach [] X.env := by rfl) :
    DE X W io .tmp (d1 ++ d2) (.Call (.Name "list" p) [.Call (.Name "range" p1) [a, b] [] pos1] [] pos) (tLstRg (tRg2 ta tb)) (dTwo m1 d2 lrD2 da db) := ⟨pe_listRg hc hgl hml (prg_2 hgr hmr ha.pe hb.pe na nb hp) nr, fun ρ ts σ H Q S h => erd_two ha.rd hb.rd lr2_ok ρ ts σ H Q S h⟩
end
end VS
namespace VS
open PySem PySem.Spec PyProof.Rows L2

/-! ### an own __iter__ that gives iter(self.rows), rows a tuple -/
def TIo (t it : Addr) (i : Nat) : HO := .ext fun h => h.IsTupleIter it t i
def TIe (it : Addr) : HO := .ext fun h => ∃ o, h.get? it = some o
theorem tio_ok {P : Program} {w : World} {H : Hp} {h : Heap} {t it : Addr} {i : Nat} (e : h.IsTupleIter it t i) : ObjOk P w H h it (TIo t it i) := ⟨e, (let ⟨o, ho, _⟩ := e; ⟨o, ho⟩), fun _ _ q k => q.at k⟩
theorem tie_ok {P : Program} {w : World} {H : Hp} {h : Heap} {it : Addr} (e : ∃ o, h.get? it = some o) : ObjOk P w H h it (TIe it) := ⟨e, e, fun _ _ ⟨o, q⟩ k => ⟨o, k o q⟩⟩
section
variable {prog : Program} {w : World} {A : Around} {E : Value → Shared → Prop} {s : Shared}
theorem tup_iter_call {t : Addr} {items : Array Value} {Q : Value → Shared → Prop} (ht : s.heap.IsTuple t items) (h : Q (.ref s.heap.objs.size) { s with heap := s.heap.push { cls := .type "tuple_iterator", data := .fields #[.ref t, .int 0 0] } }) : wpAny (model prog w) A (call (.builtin "iter") [.ref t]) Q E s := by
  refine Calls.call_function_entry (by decide +kernel) (by decide +kernel) PySem.W.kdk_entry_iter (PySem.W.kdk_args_iter _) ?_
  unfold Builtin.«iter»
  refine wpAny_bind (m := someArgs "iter" 1 2 _) (wpAny_of_eq (a := [Value.ref t]) (by first | rfl | kernel_rfl!) ?_)
  show wpAny _ _ (pyIter (.ref t) >>= _) _ _ _
  exact wpAny_bind (wpAny_pyIter_tuple ht (wpAny_pure ⟨_, rfl, h⟩))
/-- the end of a tuple's iterator; the iterator is still there -/
theorem tup_iter_end {it t : Addr} {i : Nat} {items : Array Value} {Q : Option Value → Shared → Prop} (hh : A.handled = none) (hit : s.heap.IsTupleIter it t i) (ht : s.heap.IsTuple t items) (hx : items[i]? = none)
    (hQ : ∀ h', Heap.ExtBut it s.heap h' → (∃ o, h'.get? it = some o) → Q none { s with heap := h' }) : wpAny (model prog w) A (pyNext (.ref it)) Q E s := by
  obtain ⟨o, ho, hc, hd⟩ := id hit; obtain ⟨ol, hol, _, nl, hdl⟩ := ht
  unfold pyNext
  refine wpAny_bind (wpAny_attempt (wpAny_callSpecial?_slot (name := Str.ofString "__next__") hit.typeIs F.slot_tuple_iterator_next (wpAny_call_entry F.slot_tuple_iterator_next hit.typeIs F.entry_tuple_iterator_next ?_ (F.args_tuple_iterator_next_1 _))))
  show wpAny _ _ (field (.ref it) 0 >>= _) _ _ s
  refine wpAny_bind (wpAny_field ho hd (x := .ref t) rfl ?_); show wpAny _ _ (if (Value.ref t == Value.none) = true then _ else _) _ _ s
  rw [if_neg (show ¬ ((Value.ref t == Value.none) = true) from Bool.false_ne_true)]; show wpAny _ _ (field (.ref it) 1 >>= _) _ _ s
  refine wpAny_bind (wpAny_field ho hd (x := .int i 0) rfl ?_); show wpAny _ _ (seqItems? (.ref t) >>= _) _ _ s
  refine wpAny_bind (wpAny_seqItems hol hdl ?_); simp only [Int.toNat_natCast, hx]
  refine wpAny_bind (wpAny_rule (wpAny_bind (wpAny_setField ho hd (by simp) ?_))); show wpAny _ _ (newExc (.type "StopIteration") [] >>= _) _ _ _
  refine wpAny_bind ?_; simp only [newExc, newTuple]
  refine wpAny_bind (wpAny_newObj_type ?_ (by size_fits)); refine wpAny_bind (m := firstArgMember _ _) (wpAny_of_eq (a := Value.none) (by first | rfl | (simp only [firstArgMember]; rfl)) ?_)
  refine wpAny_newObj_type ?_ (by size_fits); simp only [raiseNew]
  refine wpAny_bind (wpAny_handled ?_); first | rw [show A.in1.handled = none from hh] | rw [hh]
  refine wpAny_bind (wpAny_pure (wpAny_throw ?_)); refine wpAny_bind (wpAny_isInstance (T := "StopIteration") (b := true) ⟨_, Heap.get?_push_size _ rfl, rfl⟩ isSubtype_stop ?_)
  exact wpAny_pure (hQ _ (((Heap.SameBut.update ..).extBut.push _).push _) ⟨_, Heap.get?_push_of_some _ (Heap.get?_push_of_some _ (Heap.get?_update_self _ ho (Obj.isFreed_of_fields (Obj.data_mapFields hd _))))⟩)
end
def rIterT (K : PySem.W.Frag) : List V → Hp → VK → Prop := fun xs H Q => ∃ (t : Addr) (zs : List V), xs = [.ref t] ∧ SqT K H t zs ∧ ∀ it, H it = none → Q (.ref it) (upd H it (TIo t it 0))
theorem call_iterT {X : Cx} : CallR X (.builtin "iter") (rIterT X.K) := by
  intro pins s σ H xs us Q I r h
  obtain ⟨t, zs, rfl, hq, q⟩ := h
  obtain rfl := Vals.ref1 r
  obtain ⟨its, rv, pl, hz⟩ := I.tuple hq
  refine tup_iter_call (show s.heap.IsTuple t its.toArray from pl) ?_
  have hit : (s.heap.push { cls := .type "tuple_iterator", data := .fields #[.ref t, .int 0 0] }).IsTupleIter s.heap.objs.size t 0 := ⟨_, Heap.get?_push_size _ rfl, rfl, rfl⟩
  exact ⟨.ref s.heap.objs.size, _, I.laid (t' := s.toks) (fun b u e => Heap.get?_push_of_some _ e) (Nat.le_refl _) (tio_ok hit), rfl, q _ (I.hok.fresh (Nat.le_refl _))⟩
/-- what such an __iter__ promises -/
def spIter (K : PySem.W.Frag) (f : Str) : Sp := fun vs H Q _ => ∃ a C dx fs t zs, vs = [.ref a] ∧ H a = some (.ins C dx fs) ∧ Cls K C ∧ NoAttr K C f ∧ fs.lookup f = some (.ref t) ∧ SqT K H t zs ∧ ∀ it, H it = none → Q (.ref it) (upd H it (TIo t it 0))
theorem iter_fn {P : Program} {w : World} {K : PySem.W.Frag} {mg : Str → Option Value} {base : Heap} {x qual fld : Str} {st : Stmt} {f : Addr} {fd : FuncData} {y : Str} {k : Nat} (F : Fun K x qual st f fd) (S : FnScope [y] [y] (defScope st))
    (hbody : ∀ (cdv : Value) (A : Around) (outer : List Env) (s : Shared) (H : Hp) (E : XK), Room k (A.deeper (envOfC qual (defScope st) s.heap.objs.size f cdv)) →
      PSs (cxOf CX0 P w K mg base [y] qual (defScope st) f cdv A outer s H E).nox (defBody st) (tRet (tCB (rIterT K) (tCons (tFld K (tVar 0) fld) tNil)))) : FnOk P w K mg base CX0 (k + 1) f fd [y] (spIter K fld) := by
  refine F.ok S (fun vs H Q E h => by obtain ⟨_, _, _, _, _, _, rfl, _⟩ := h; rfl) fun cdv A outer s H vs Q E hr h => ?_
  refine ⟨_, hbody cdv A outer s H E hr, ?_⟩
  obtain ⟨a, C, dx, fs, t, zs, rfl, ha, c, n, l, sq, q⟩ := h
  exact ⟨.ref a, rfl, a, C, dx, fs, .ref t, rfl, ha, c, n, l, t, zs, rfl, sq, q⟩
/-- a class with such an __iter__ -/
structure ItT (K : PySem.W.Frag) (C fi : Addr) : Prop where
  it : PySem.W.findIn K (.ref C) "__iter__" = some (some (.ref fi))
  itF : PySem.W.isFn K (.ref fi) = true
  nolen : PySem.W.findIn K (.ref C) "__len__" = some none
  nohint : PySem.W.findIn K (.ref C) "__length_hint__" = some none
section
variable {X : Cx} {pins : List (Addr × Obj)} {σ : L2.St} {H : Hp} {s s' : Shared} {C fi a q : Addr} {n : Nat} {A1 : Around}
theorem sq_keepT {K : PySem.W.Frag} {H : Hp} {t it q : Addr} {zs : List V} {u v : HO} (sq : SqT K H t zs) (h1 : t ≠ it) (h2 : t ≠ q) : SqT K (upd (upd H it u) q v) t zs := by
  have e : upd (upd H it u) q v t = H t := by rw [upd_ne h2, upd_ne h1]
  rcases sq with (z | ⟨o, z⟩) | z
  · exact .inl (.inl (e.trans z))
  · exact .inl (.inr ⟨o, e.trans z⟩)
  · exact .inr z
theorem tup_hint {M : Model} {A : Around} {E : Value → Shared → Prop} {Q : Bool → Shared → Prop} {K : PySem.W.Frag} {ox : Obj} {od : Option Obj} (hc : ItT K C fi) (hK : K.In s.heap) (J : PySem.W.InstAt s.heap a ox C od) (h : Q true s) :
    wpAny M A (Builtin.List.listLengthHint (.ref a)) Q E s := by
  unfold Builtin.List.listLengthHint
  refine wpAny_bind (wpAny_bind (J.type.here ((PySem.W.looks_findIn hK hc.nolen).here (PySem.W.KFB.if_not rfl ?_))))
  exact PySem.W.KFB.if_not rfl (wpAny_bind (wpAny_bind (J.type.here ((PySem.W.looks_findIn hK hc.nohint).here (wpAny_pure h)))))
/-- the list at q filled from the iterator at it over the tuple at t -/
theorem tup_fill {Rs : Result → Shared → Prop} {t it : Addr} {zs : List V} {R : Hp → Prop} (hcalm : A1.in1.handled = none) (hne : q ≠ it) (htne : t ≠ it) (htq : t ≠ q) (hz : zs.length < sizeLine) (hdone : ∀ H s, Inv X pins σ H s → R H → Rs (.ok (.ret .none)) s) :
    ∀ (m i : Nat) (H : Hp) (s : Shared), Inv X pins σ H s → m = zs.length - i → i ≤ zs.length → SqT X.K H t zs → H it = some (TIo t it i) → H q = some (.lst (zs.take i)) → (∀ H', (∀ b, b ≠ q → b ≠ it → H' b = H b) → H' q = some (.lst zs) → H' it = some (TIe it) → R H') →
      codeAny (model X.prog X.w) A1 (.builtin "list.extend.loop" ⟨[.ref q, .ref it, .none], []⟩) Rs s := by
  intro m
  induction m with
  | zero =>
    intro i H s I hm hi sq hit hq hR
    have hii : i = zs.length := by omega
    subst hii
    refine codeAny_builtin PySem.F.entry_extend_loop ?_
    rw [Around.under_plainId PySem.F.plain_extend_loop _]
    show wpAny _ A1.in1 (pyNext (.ref it) >>= _) _ _ s
    obtain ⟨its, rv, pl, hz'⟩ := I.tuple sq
    have hl := rv.length
    refine wpAny_bind (tup_iter_end (by exact hcalm) ((I.hok it _ hit).1) (show s.heap.IsTuple t its.toArray from pl) (by simp; omega) fun h' eb ex => ?_)
    have mu : Mut (H it) := by rw [hit]; exact True.intro
    refine wpAny_pure (hdone (upd H it (TIe it)) _ (I.write (x := it) (e := it) (t' := s.toks) mu (.inl rfl) (fun b o nb z => eb b o nb z) ex (tie_ok ex)) (hR _ (fun b h1 h2 => upd_ne h2) ?_ upd_same))
    rw [upd_ne hne, hq, List.take_length]
  | succ m ih =>
    intro i H s I hm hi sq hit hq hR
    have hlt : i < zs.length := by omega
    refine codeAny_builtin PySem.F.entry_extend_loop ?_
    rw [Around.under_plainId PySem.F.plain_extend_loop _]
    show wpAny _ A1.in1 (pyNext (.ref it) >>= _) _ _ s
    obtain ⟨its, rv, pl, hz'⟩ := I.tuple sq
    obtain ⟨u, hu, ru⟩ := rv.get (List.getElem?_eq_getElem hlt)
    refine wpAny_bind (wpAny_pyNext_tuple_item ((I.hok it _ hit).1) (show s.heap.IsTuple t its.toArray from pl) (x := u) (by simpa using hu) fun h' st' sb => ?_)
    have mu : Mut (H it) := by rw [hit]; exact True.intro
    have I1 : Inv X pins σ (upd H it (TIo t it (i + 1))) { s with heap := h' } := I.write (x := it) (e := it) (t' := s.toks) mu (.inl rfl) (fun b o nb z => (sb.2 b nb).trans z) (let ⟨o, ho, _⟩ := st'; ⟨o, ho⟩) (tio_ok st')
    have hq1 : upd H it (TIo t it (i + 1)) q = some (.lst (zs.take i)) := by rw [upd_ne hne]; exact hq
    show wpAny _ A1.in1 (updateSeq q (·.push u) >>= _) _ _ _
    obtain ⟨z, ys, k, r2, hl2, e⟩ := I1.lstM hq1
    have hlen : (zs.take i).length = i := by rw [List.length_take]; omega
    have hyl : ys.length = i := by rw [← r2.length, hlen]
    refine wpAny_bind (wpAny_updateSeq e rfl (wpAny_pure ⟨plainId_quiet PySem.F.plain_extend_loop _, ?_⟩) (by rw [List.size_toArray]; omega) (by show (ys.toArray.push u).size ≤ sizeLine + 1; rw [Array.size_push, List.size_toArray]; omega))
    have hts : zs.take i ++ [zs[i]] = zs.take (i + 1) := (List.take_succ_eq_append_getElem hlt).symm
    refine ih (i + 1) (upd (upd H it (TIo t it (i + 1))) q (.lst (zs.take i ++ [zs[i]]))) _ (I1.lset (its' := ys ++ [u]) (t' := s.toks) hq1 e (by simp) (r2.append (.cons ru .nil)) (by rw [List.length_append, List.length_singleton]; omega)) (by omega) hlt ?_ ?_ ?_ fun H' h1 h2 h3 => hR H' (fun b hb1 hb2 => ?_) h2 h3
    · exact sq_keepT sq htne htq
    · rw [upd_ne (Ne.symm hne), upd_same]
    · rw [upd_same, hts]
    · rw [h1 b hb1 hb2, upd_ne hb1, upd_ne hb2]
/-- list(o) -/
def rOwnT (K : PySem.W.Frag) (C : Addr) (f : Str) : List V → Hp → VK → Prop := fun xs H Q => ∃ a dx fs t zs, xs = [.ref a] ∧ H a = some (.ins C dx fs) ∧ fs.lookup f = some (.ref t) ∧ SqT K H t zs ∧ zs.length < sizeLine ∧
  ∀ q it H', H q = none → H it = none → q ≠ it → (∀ b, b ≠ q → b ≠ it → H' b = H b) → H' q = some (.lst zs) → (∃ o, H' it = some o) → Q (.ref q) H'
theorem sqT_ne {t q : Addr} {zs : List V} (I : Inv X pins σ H s) (sq : SqT X.K H t zs) (hq : s.heap.objs.size ≤ q) : t ≠ q := fun e => by
  obtain ⟨its, rv, ⟨o, ho, _⟩, _⟩ := I.tuple sq
  subst e
  exact absurd (Heap.lt_size ho) (Nat.not_lt.mpr hq)
theorem call_listT {f : Str} {fdI : FuncData} {psI : List Str} (hcalm : X.calm = true) (hc : ItT X.K C fi) (cl : Cls X.K C) (na : NoAttr X.K C f) (FI : FnOk X.prog X.w X.K X.mg X.base CX0 n fi fdI psI (spIter X.K f)) (bI : Binds X.K fdI psI []) (hr : Room (n + 2) X.A) : CallR X (.type "list") (rOwnT X.K C f) := by
  intro pins s σ H xs us Q I rv h
  obtain ⟨a, dx, fs, t, zs, rfl, ha, hl, sq, hz, hQ⟩ := h
  obtain ⟨u, rfl, ru⟩ := rv.one
  cases ru
  have sb : Sub X n X.A.in1.in1 := (Sub.in1 (Sub.in1 (⟨hr, rfl⟩ : Sub X (n + 2) X.A)))
  refine callType_codes (Q₁ := fun obj s₁ => obj = .ref s.heap.objs.size ∧ s₁ = { s with heap := s.heap.push { cls := .type "list", data := .seq #[] } }) PySem.F.called_list (PySem.F.typeCall_list_1 _) PySem.F.entry_list_init (code_list_new _ ⟨rfl, rfl⟩) fun obj s₁ h₁ => ?_
  obtain ⟨rfl, rfl⟩ := h₁
  have hS : (s.heap.push { cls := .type "list", data := .seq #[] }).get? s.heap.objs.size = some { cls := .type "list", data := .seq #[] } := Heap.get?_push_size _ rfl
  refine ⟨⟨_, hS, rfl⟩, PySem.F.args_list_init_2 _ _, ?_⟩
  have fr : H s.heap.objs.size = none := I.hok.fresh (Nat.le_refl _)
  have I1 : Inv X pins σ (upd H s.heap.objs.size (.lst [])) { s with heap := s.heap.push { cls := .type "list", data := .seq #[] } } := I.lnew (its := []) (t' := s.toks) .nil (Nat.zero_le _)
  show wpAny _ _ (do let old ← Builtin.List.listItems (.ref s.heap.objs.size); Builtin.List.listUpdate (.ref s.heap.objs.size) (fun _ => #[]); letGo old.toList.reverse; Builtin.List.listExtendWith (.ref s.heap.objs.size) (.ref a) .none) _ _ _
  refine wpAny_bind ?_
  unfold Builtin.List.listItems
  refine wpAny_bind (wpAny_seqItems hS rfl (wpAny_pure ?_))
  show wpAny _ _ (updateSeq s.heap.objs.size (fun _ => #[]) >>= fun _ => letGo (#[] : Array Value).toList.reverse >>= fun _ => Builtin.List.listExtendWith (.ref s.heap.objs.size) (.ref a) .none) _ _ _
  refine wpAny_bind (wpAny_updateSeq hS rfl (wpAny_bind (wpAny_letGo ?_)))
  have I2 := I1.lset (f := fun _ => #[]) (its := []) (its' := []) (ys := []) (t' := s.toks) upd_same hS rfl .nil (Nat.zero_le _)
  rw [upd_upd] at I2
  have ht0 : t ≠ s.heap.objs.size := sqT_ne I sq (Nat.le_refl _)
  generalize hq0 : s.heap.objs.size = q at *
  generalize hs2 : ({ s with heap := ((s.heap.push { cls := .type "list", data := .seq #[] }).update q fun ob => ob.mapSeq fun _ => #[]) } : Shared) = s2 at *
  have ha2 : upd H q (.lst []) a = some (.ins C dx fs) := by rw [upd_ne (ne_of_none ha fr)]; exact ha
  have hqn : upd H q (.lst []) q = some (.lst []) := upd_same
  have sq2 : SqT X.K (upd H q (.lst [])) t zs := by
    have := sq_keepT (it := q) (q := q) (u := .lst []) (v := .lst []) sq ht0 ht0
    rwa [upd_upd] at this
  have hne : q ≠ a := ne_of hqn ha2 (fun z => nomatch z)
  obtain ⟨mA, J, _⟩ := ins_get I2.hok ha2
  obtain ⟨od, J, _⟩ := J.look
  obtain ⟨m0, hF⟩ := I2.fr
  unfold Builtin.List.listExtendWith
  refine wpAny_bind (J.type.here ?_)
  have h1 : Builtin.List.listSameRef (.ref q) (.ref a) = false := by simp [Builtin.List.listSameRef, hne]
  simp only [h1, show (Value.ref C == Value.type "list") = false from rfl, show (Value.ref C == Value.type "tuple") = false from rfl, Bool.or_false, Bool.false_eq_true, if_false]
  refine wpAny_bind (PySem.W.owit_iter hF I2.ok.mod.kin J hc.it hc.itF ?_)
  have e0 : Env0 X.prog X.w X.K X.mg X.base X.A.in1.in1 X.stack s2 (upd H q (.lst [])) := by
    have e := I2.env0
    exact ⟨by rw [sb.fr]; exact e.frames, e.mod, e.bs, e.bsz, e.funs, e.frf, e.hok, e.bare⟩
  have hspI : spIter X.K f [.ref a] (upd H q (.lst [])) (fun v H' => ∃ it, v = .ref it ∧ upd H q (.lst []) it = none ∧ H' = upd (upd H q (.lst [])) it (TIo t it 0)) (fun _ _ _ => False) := ⟨a, C, dx, fs, t, zs, rfl, ha2, cl, na, hl, sq2, fun it hit => ⟨it, rfl, hit, rfl⟩⟩
  have hlen := FI.len _ _ _ _ hspI
  have r2 : Vals [V.ref a] [Value.ref a] := .cons rfl .nil
  refine wpAny_call (codeAny_mono (FI.run X.A.in1.in1 X.stack s2 (upd H q (.lst [])) ⟨[.ref a], []⟩ [.ref a] [.ref a] _ (fun _ _ _ => False) sb.room e0 (by
    have := bI s2 [.ref a] I2.kIn (by simpa using hlen)
    simpa using this) r2 hspI) fun r s' hq' => ?_)
  cases r with
  | error e => exact hq'.elim
  | ok fl =>
    cases fl with
    | next => exact False.elim hq'
    | brk => exact False.elim hq'
    | cont => exact False.elim hq'
    | ret u =>
      obtain ⟨v, H', I', rv', it, ev, hit, eH⟩ := I2.after hq'
      subst ev
      subst eH
      cases rv'
      have hqi : q ≠ it := fun z => by rw [← z, hqn] at hit; cases hit
      have hHit : H it = none := by rw [upd_ne (Ne.symm hqi)] at hit; exact hit
      have hti : upd (upd H q (.lst [])) it (TIo t it 0) it = some (TIo t it 0) := upd_same
      obtain ⟨o2, ho2, hc2, _⟩ := (I'.hok it _ hti).1
      have htne : t ≠ it := fun z => by
        rcases sq with (z1 | ⟨o, z1⟩) | ⟨o, its, n, hk, hcl, _⟩
        · rw [z, hHit] at z1; cases z1
        · rw [z, hHit] at z1; cases z1
        · have e1 := I'.kIn _ _ hk
          rw [z, ho2] at e1
          cases e1
          rw [hc2] at hcl
          injection hcl with e
          exact absurd e (by decide)
      have hT : s'.TypeIs (.ref it) "tuple_iterator" := ⟨o2, ho2, hc2⟩
      unfold PySem.W.OwitIt
      refine wpAny_specialOf hT PySem.F.slot_tuple_iterator_next.lookup ?_
      have ha3 : upd (upd H q (.lst [])) it (TIo t it 0) a = some (.ins C dx fs) := by rw [upd_ne (ne_of_none ha2 hit)]; exact ha2
      have hq3 : upd (upd H q (.lst [])) it (TIo t it 0) q = some (.lst []) := by rw [upd_ne hqi]; exact hqn
      obtain ⟨mA', J', _⟩ := ins_get I'.hok ha3
      obtain ⟨od', J', _⟩ := J'.look
      refine wpAny_bind (wpAny_holding (tup_hint hc I'.kIn J' ?_))
      obtain ⟨z, its, k, r3, hl3, e3⟩ := I'.lstM hq3
      cases r3
      have fill : ∀ {s4 : Shared}, Inv X pins σ (upd (upd H q (.lst [])) it (TIo t it 0)) s4 → codeAny (model X.prog X.w) X.A.in1 (.builtin "list.extend.loop" ⟨[.ref q, .ref it, .none], []⟩) (wants (fun r s₂ => r = .none ∧ EP X pins σ Q (.ref q) s₂) X.xe) s4 := fun {s4} I4 =>
        tup_fill (R := fun H' => Q (.ref q) H') (t := t) (it := it) (zs := zs) (by exact I.ok.hd hcalm) hqi htne ht0 hz (fun H' s5 I5 h5 => ⟨rfl, .ref q, H', I5, rfl, h5⟩) zs.length 0 _ _ I4 rfl (Nat.zero_le _) (sq_keepT sq ht0 htne) hti hq3 fun H' e1 e2 e3 => hQ q it H' fr hHit hqi (fun b b1 b2 => by rw [e1 b b1 b2, upd_ne b2, upd_ne b1]) e2 ⟨_, e3⟩
      refine wpAny_ite_split (fun _ => ?_) (fun _ => wpAny_pure ⟨plainId_quiet PySem.F.plain_extend_loop _, fill I'⟩)
      refine wpAny_bind (wpAny_rule (wpAny_bind ?_))
      show wpAny _ _ (updateSeq q (·.push .none) >>= fun _ => updateSeq q (·.pop)) _ _ _
      refine wpAny_bind (wpAny_updateSeq e3 rfl ?_)
      have I5 := I'.lset (f := (·.push Value.none)) (its' := [Value.none]) (ys := [.non]) (t' := s'.toks) hq3 e3 (by simp) (.cons rfl .nil) (by rw [List.length_singleton, sizeLine_eq]; decide)
      obtain ⟨z4, its4, k4, r4, hl4, e4⟩ := I5.lstM upd_same
      obtain ⟨u4, rfl, ru4⟩ := r4.one
      refine wpAny_updateSeq e4 rfl ?_ (by show 1 ≤ sizeLine; rw [sizeLine_eq]; decide) (by show 0 ≤ sizeLine + 1; exact Nat.zero_le _)
      refine wpAny_pure ⟨plainId_quiet PySem.F.plain_extend_loop _, ?_⟩
      have I6 := I5.lset (f := (·.pop)) (its := [u4]) (its' := []) (ys := []) (t' := s'.toks) upd_same e4 (by rfl) .nil (Nat.zero_le _)
      rw [upd_upd] at I6
      have hH : upd (upd (upd H q (.lst [])) it (TIo t it 0)) q (.lst []) = upd (upd H q (.lst [])) it (TIo t it 0) := by
        funext b
        by_cases hb : b = q
        · rw [hb, upd_same, hq3]
        · rw [upd_ne hb]
      rw [hH] at I6
      exact fill I6
end
end VS
namespace VS
open PySem PySem.Spec PyProof.Rows L2

def orD (f g : D → Option D) : D → Option D := fun x => match f x with
  | some d => some d
  | none => g x
theorem One.or {K : PySem.W.Frag} {r r' : List V → Hp → VK → Prop} {f g : D → Option D} (h : One K r f) (h' : One K r' g) : One K (fun xs H Q => r xs H Q ∨ r' xs H Q) (orD f g) := by
  intro H x d Q ok gd e q
  unfold orD at e
  split at e
  · rename_i ef; cases e; exact .inl (h H x _ Q ok gd ef q)
  · exact .inr (h' H x d Q ok gd e q)
section
variable {K : PySem.W.Frag} {H H' : Hp} {A : List T}
theorem Frsh.nodeS {p : Addr} {k : NK} {cs : List T} (sm : Same H H') (hp : H p = none) (okA : ∀ u ∈ A, u.ok K H) (hc : ∀ c ∈ cs, ∃ u ∈ A, Sub0 c u) : Frsh H A H' (.nd p k cs) := by
  have f := Frsh.node (K := K) (H := H) (A := A) (p := p) (k := k) (cs := cs) (o := .lst []) hp okA hc
  exact ⟨sm, f.gd, f.ow, f.tr, f.im⟩
end
/-- list(o) of an instance that hands out its tuple f -/
def ownD (C : Addr) (f : Str) (x : D) : Option D := match x.inst with
  | some (C', fs, xs) => if (C' == C) = true then (match fIx f fs with
    | some i => match xs[i]? with
      | some (.nd .tup zs) => if (!D.hass NK.isOwn zs && decide (zs.length < sizeLine)) = true then some (.nd (.lst true) zs) else none
      | _ => none
    | none => none) else none
  | none => none
theorem own_ok {K : PySem.W.Frag} {C : Addr} {f : Str} : One K (rOwnT K C f) (ownD C f) := by
  intro H x d Q ok g e q
  unfold ownD at e
  split at e
  · rename_i C' fs xs ei
    split at e
    · rename_i hC
      have hC := beq_iff_eq.mp hC
      subst hC
      split at e
      · rename_i i ex
        split at e
        · rename_i zs ez
          split at e
          · rename_i hc
            rw [Bool.and_eq_true] at hc
            cases e
            obtain ⟨a, k, us, dx, rfl, eu, ha, hl⟩ := inst_of ok ei
            rw [← eu] at ez
            obtain ⟨u, eu1, eu2, eu3⟩ := rts_get ez
            obtain ⟨t, ws, rfl, ew⟩ := er_nd eu2
            have mu := List.mem_of_getElem? eu1
            have oku := ok.child mu
            have gu : (T.nd t .tup ws).good := by
              rw [T.good] at g
              exact goods_mem g.2.2 mu
            have ho : D.hass NK.isOwn (T.ers ws) = false := by
              rw [ew]
              cases z : D.hass NK.isOwn zs with
              | false => rfl
              | true => rw [z] at hc; cases hc.1
            have hzl := of_decide_eq_true hc.2
            refine ⟨a, dx, _, t, T.rts ws, rfl, ha, by rw [lookup_zip fs _ f i ex]; exact eu3, oku.sqT, by rw [rts_len, ← ers_len, ew]; exact hzl, fun p it H' hp hit hne h1 h2 h3 => ?_⟩
            have sm : Same H H' := fun b o eb => by
              rw [h1 b (ne_of_none eb hp) (ne_of_none eb hit)]; exact eb
            have sub : ∀ c ∈ ws, Sub0 c (.nd a k us) := fun c mc => by
              have oc := hass_own ho c mc
              have s1 : Sbt c (.nd a k us) := .child mu (.child mc (.refl c))
              refine ⟨oc, fun z mz => ⟨s1.col mz, fun zo => ?_⟩, fun z mz => s1.col mz⟩
              have q2 := T.good_own g zo
              rcases T.trk_cases c z mz with w | w | w
              · rw [oc] at w; cases w
              · exact q2.1 (s1.col w)
              · exact q2.2 (s1.col w)
            refine q (.nd p (.lst true) ws) H' (by rw [T.er, ew]) ?_ (Frsh.nodeS sm hp (fun u m => by rw [List.mem_singleton.mp m]; exact ok) fun c mc => ⟨_, List.mem_singleton_self _, sub c mc⟩)
            rw [T.ok]
            exact ⟨h2, T.oks_all.mpr fun c mc => T.ok_same (oku.child mc) sm⟩
          · cases e
        · cases e
      · cases e
    · cases e
  · cases e
end VS
namespace VS
open PySem PySem.Spec PyProof.Rows L2
theorem oMod_ok {K : PySem.W.Frag} : Op2 K (rI (fun _ j => 0 < j) fun i j => .int (i % j)) oMod := oInt_ok fun _ _ h => of_decide_eq_true h
theorem oDiv_ok {K : PySem.W.Frag} : Op2 K (rI CDivW fun i j => .int (i / j)) oDiv := oInt_ok fun i j h => (show 0 < j ∧ j.natAbs.log2 < 9000 from of_decide_eq_true h)
theorem oPow_ok {K : PySem.W.Frag} : Op2 K (rI CPow fun i j => .int (i ^ j.toNat)) oPow := oInt_ok fun i j h => (show 0 ≤ j ∧ j ≤ 1000000 ∧ i.natAbs < 2 ^ 64 from of_decide_eq_true h)
theorem oShl_ok {K : PySem.W.Frag} : Op2 K (rI CPow fun i j => .int (i * 2 ^ j.toNat)) oShl := oInt_ok fun i j h => (show 0 ≤ j ∧ j ≤ 1000000 ∧ i.natAbs < 2 ^ 64 from of_decide_eq_true h)
theorem oShr_ok {K : PySem.W.Frag} : Op2 K (rI (fun _ j => 0 ≤ j) fun i j => .int (i / 2 ^ j.toNat)) oShr := oInt_ok fun _ _ h => of_decide_eq_true h
theorem huX {k : Nat} {A : Around} (hr : Room k A) : A.units + 64 < cLine := by have := hr.un; omega
theorem boot_iter : bootBuiltins "iter" = some (.builtin "iter") := by rfl
theorem de_gc {X : Cx} {W : WX} {io : List Nat} {x : Str} {pos : Pos} {v : V} (hg : Gl X x) (h : ∃ u, X.mg x = some u ∧ RelV v u) (hd : (x == ("__debug__" : Str)) = false := by decide) : DE X W io .tmp [] (.Name x pos) (tC v) (dc v) := by
  obtain ⟨u, h1, h2⟩ := h
  exact de_glob hg h1 h2 hd
/-! ### the same rules, what may change told apart (so that the printed meaning fits) -/
section
variable {X : Cx} {W : WX} {io : List Nat}
/-- the meaning itself as a reading -/
def tcE (K : PySem.W.Frag) (W : WX) (io : List Nat) (m : Md) (md : List Nat) (d : E) : TE := fun σ H Q => ∃ ρ ts, Sim K io ρ ts σ H ∧ EPost K W io ρ m md ts σ H Q (d (T.ers ts))
def tcT (K : PySem.W.Frag) (W : WX) (io : List Nat) (md : List Nat) (d : B) : TT := fun σ H Q => ∃ ρ ts, Sim K io ρ ts σ H ∧ TPost K W io ρ md ts σ H Q (d (T.ers ts))
def tcG (K : PySem.W.Frag) (io mg : List Nat) (d : Gd) : TG := fun v σ H Q => ∃ ρ ts u, u.rt = v ∧ Sim K io ρ ts σ H ∧ u.ok K H ∧ TRel u ts ∧ (∀ s, d u.er (T.ers ts) = some s → ∀ ts' σ', Sim K io ρ ts' σ' H → T.ers ts' = s → Step H (u :: ts) H ts' → (∀ j, j ∉ mg → ts'[j]? = ts[j]?) → (σ'.length = σ.length ∧ ∀ j, j ∉ mg → σ'[j]? = σ[j]?) → Q σ' H) ∧ d u.er (T.ers ts) ≠ none
theorem can_e {m : Md} {md : List Nat} {e : Expr} {t : TE} {d : E} (h : DE X W io m md e t d) : DE X W io m md e (tcE X.K W io m md d) d :=
  ⟨⟨fun pins s σ H Q I ⟨ρ, ts, S, p⟩ => h.pe.run pins s σ H Q I (h.rd ρ ts σ H Q S p)⟩, fun ρ ts σ H Q S p => ⟨ρ, ts, S, p⟩⟩
theorem can_ts {md : List Nat} {es : List Expr} {t : TT} {d : B} (h : DTs X W io md es t d) : DTs X W io md es (tcT X.K W io md d) d :=
  ⟨⟨fun pins s σ H Q I ⟨ρ, ts, S, p⟩ => h.pt.run pins s σ H Q I (h.rd ρ ts σ H Q S p)⟩, fun ρ ts σ H Q S p => ⟨ρ, ts, S, p⟩⟩
theorem can_g {mg : List Nat} {e : Expr} {g : TG} {d : Gd} (h : DG X io mg e g d) : DG X io mg e (tcG X.K io mg d) d :=
  ⟨⟨fun pins s σ H v u Q I rv ⟨ρ, ts, w, ew, S, ok, tr, k, n⟩ => h.pg.run pins s σ H v u Q I rv (by rw [← ew]; exact h.rd ρ ts σ H w Q S ok tr k n)⟩, fun ρ ts σ H u Q S ok tr k n => ⟨ρ, ts, u, rfl, S, ok, tr, k, n⟩⟩
theorem lc_ {elt tg iter : Expr} {ifs : List Expr} {scope : Scope} {own : List (Str × Nat)} {pos : Pos} {mi m : Md} {md mg mt me mb vs : List Nat} {ti : TI} {it : I} {gd : Gd} {c : B} {e : E}
    (hc : X.calm = true) (hN : X.N.Nodup) (hi : DI X W io mi md tg iter ti it) (ok : BlkOk X.N X.env.scope scope own)
    (hg : ∀ (s : Shared) (H : Hp) (C : Addr) (cl : List (Str × Addr)) (fp : List Addr), ∃ g, DG (X.blk s H scope (compEnvC scope cl C X.env) fp) io mg tg g gd)
    (ht : ∀ (s : Shared) (H : Hp) (C : Addr) (cl : List (Str × Addr)) (fp : List Addr), ∃ tt, DTs (X.blk s H scope (compEnvC scope cl C X.env) fp) W0 io mt ifs tt c)
    (he : ∀ (s : Shared) (H : Hp) (C : Addr) (cl : List (Str × Addr)) (fp : List Addr), ∃ te, DE (X.blk s H scope (compEnvC scope cl C X.env) fp) W0 io m me elt te e)
    (hmb : mg ++ (mt ++ me) ++ own.map (·.2) = mb := by rfl) (hvs : own.map (·.2) = vs := by rfl) (hmg : (mg.all fun j => (own.map (·.2)).contains j) = true := by rfl) (hio : (io.all fun i => !(own.map (·.2)).contains i) = true := by rfl) (hs : ∀ x, foldedSetIterable iter X.env x = pure x := by intro _; rfl) :
    DE X W io .tmp (md ++ mb) (.ListComp elt [⟨tg, iter, ifs, 0⟩] scope pos) (tLc ti (tcG X.K io mg gd) (tcT X.K W0 io mt c) (tcE X.K W0 io m me e) vs) (dLc mi mb vs it gd c m e) := by
  subst hmb; subst hvs
  exact de_lc hc hN hi ok (fun s H C cl fp => (hg s H C cl fp).elim fun g h => can_g h) (fun s H C cl fp => (ht s H C cl fp).elim fun g h => can_ts h) (fun s H C cl fp => (he s H C cl fp).elim fun g h => can_e h) hmg hio hs
theorem setLc_ {i : Nat} {y : Str} {py : Pos} {elt tg iter : Expr} {ifs : List Expr} {scope : Scope} {own : List (Str × Nat)} {pos spos : Pos} {mi m : Md} {md mg mt me mb vs : List Nat} {ti : TI} {it : I} {gd : Gd} {c : B} {e : E}
    (hc : X.calm = true) (hN : X.N.Nodup) (hy : X.N[i]? = some y) (hyl : X.env.scope.names.lookup y = some .local)
    (hsw : swapsWith (.ListComp elt [⟨tg, iter, ifs, 0⟩] scope pos) (some (.Name y py)) spos.line X.env = pure true) (hi : DI X W io mi md tg iter ti it) (ok : BlkOk X.N X.env.scope scope own)
    (hg : ∀ (s : Shared) (H : Hp) (C : Addr) (cl : List (Str × Addr)) (fp : List Addr), ∃ g, DG (X.blk s H scope (compEnvC scope cl C X.env) fp) io mg tg g gd)
    (ht : ∀ (s : Shared) (H : Hp) (C : Addr) (cl : List (Str × Addr)) (fp : List Addr), ∃ tt, DTs (X.blk s H scope (compEnvC scope cl C X.env) fp) W0 io mt ifs tt c)
    (he : ∀ (s : Shared) (H : Hp) (C : Addr) (cl : List (Str × Addr)) (fp : List Addr), ∃ te, DE (X.blk s H scope (compEnvC scope cl C X.env) fp) W0 io m me elt te e)
    (hmb : mg ++ (mt ++ me) ++ own.map (·.2) = mb := by rfl) (hvs : own.map (·.2) = vs := by rfl) (hmg : (mg.all fun j => (own.map (·.2)).contains j) = true := by rfl) (hio : (io.all fun i => !(own.map (·.2)).contains i) = true := by rfl) (hi2 : io.contains i = false := by rfl) (hs : ∀ x, foldedSetIterable iter X.env x = pure x := by intro _; rfl) :
    DS X W io ((md ++ mb) ++ [i]) (.Assign [.Name y py] (.ListComp elt [⟨tg, iter, ifs, 0⟩] scope pos) spos) (tAsg (tLc ti (tcG X.K io mg gd) (tcT X.K W0 io mt c) (tcE X.K W0 io m me e) vs) (gName i)) (sAsg .tmp (dLc mi mb vs it gd c m e) (gdN i)) := by
  subst hmb; subst hvs
  exact ds_setLc hc hN hy hyl hsw hi ok (fun s H C cl fp => (hg s H C cl fp).elim fun g h => can_g h) (fun s H C cl fp => (ht s H C cl fp).elim fun g h => can_ts h) (fun s H C cl fp => (he s H C cl fp).elim fun g h => can_e h) hmg hio hi2 hs
theorem for_ {mi mg mb mm : List Nat} {m : Md} {tg iter : Expr} {body : List Stmt} {pos : Pos} {ti : TI} {g : TG} {tb : TS} {it : I} {gd : Gd} {db : S} (hp : PassesOwn (model X.prog X.w) X.A X.env X.xe) (hcalm : X.calm = true) (hi : DI X W io m mi tg iter ti it) (hg : DG X io mg tg g gd) (hb : DSs X W io mb body tb db)
    (hmm : mg ++ mb = mm := by rfl) (hs : ∀ x, foldedSetIterable iter X.env x = pure x := by intro _; rfl) : DS X W io (mi ++ mm) (.For tg iter body [] pos) (tFor ti g tb) (sFor m mm it gd db) := by
  subst hmm; exact ds_for hp hcalm hi hg hb hs
variable {a b c : Expr} {pos p2 : Pos} {ta tb tc : TE} {da db dc : E} {m1 m2 m3 : Md} {d1 d2 d3 dd de : List Nat}
theorem s11_ (ha : DE X W io m1 d1 a ta da) (hb : DE X W io m2 d2 b tb db) (hc : DE X W io m3 d3 c tc dc) (h : d2 ++ (d3 ++ []) = dd := by rfl) : DE X W io .tmp (d1 ++ dd) (.Subscript a (.Slice (some b) (some c) none p2) pos) (tSl (rSl X.K) ta (tPart tb) (tPart tc)) (dS11 m1 dd de da db dc) := by
  subst h; exact de_s11 ha hb hc
theorem s10_ (ha : DE X W io m1 d1 a ta da) (hb : DE X W io m2 d2 b tb db) (h : d2 ++ [] = dd := by rfl) : DE X W io .tmp (d1 ++ dd) (.Subscript a (.Slice (some b) none none p2) pos) (tSl (rSl X.K) ta (tPart tb) tNoPart) (dS10 m1 dd da db) := by
  subst h; exact de_s10 ha hb
theorem s01_ (ha : DE X W io m1 d1 a ta da) (hb : DE X W io m2 d2 b tb db) (h : d2 ++ [] = dd := by rfl) : DE X W io .tmp (d1 ++ dd) (.Subscript a (.Slice none (some b) none p2) pos) (tSl (rSl X.K) ta tNoPart (tPart tb)) (dS01 m1 dd da db) := by
  subst h; exact de_s01 ha hb
end
section
variable {X : Cx} {W : WX} {io : List Nat} {m : Md} {md md' : List Nat} {ks : List AK} {ms : List Md} {e tg : Expr} {es : List Expr}
theorem wE {t : TE} {d : E} (h : DE X W io m md e t d) (hm : md = md' := by rfl) : DE X W io m md' e t d := by subst hm; exact h
theorem wT {t : TT} {d : B} (h : DT X W io md e t d) (hm : md = md' := by rfl) : DT X W io md' e t d := by subst hm; exact h
theorem wA {t : TA} {d : EA} (h : DA X W io ms md es t d) (hm : md = md' := by rfl) : DA X W io ms md' es t d := by subst hm; exact h
theorem wC {t : TA} {d : EC} (h : DC X W io ks md es t d) (hm : md = md' := by rfl) : DC X W io ks md' es t d := by subst hm; exact h
theorem wI {t : TI} {d : I} (h : DI X W io m md tg e t d) (hm : md = md' := by rfl) : DI X W io m md' tg e t d := by subst hm; exact h
theorem wP {i : Nat} {t : TE} {d : EP'} (h : DP X W io i md e t d) (hm : md = md' := by rfl) : DP X W io i md' e t d := by subst hm; exact h
end
end VS
namespace VS
open PySem PySem.Spec PyProof.Rows L2
/-! ### plain reckoning over the meanings -/
@[simp] theorem dn_s (i : Nat) (s : List D) : dn i s = match s[i]? with
  | none => .no
  | some d => if d.isUn = true then .no else .ok (d, s) := by
  unfold dn
  cases s[i]? with
  | none => rfl
  | some d => cases d <;> rfl
@[simp] theorem dpN_s (i : Nat) (s : List D) : dpN i s = match s[i]? with
  | none => .no
  | some d => if d.isUn = true then .no else .ok ([], s) := by
  unfold dpN
  cases s[i]? with
  | none => rfl
  | some d => cases d <;> rfl
@[simp] theorem asm_val (m : Md) (ks : List AK) (x : D) (xs : List (Option D)) (s : List D) : asmD (.val m :: ks) (some x :: xs) s = (asmD ks xs s).map fun r => x.fz :: r := by rw [asmD]
@[simp] theorem asm_io (i : Nat) (ks : List AK) (xs : List (Option D)) (s : List D) : asmD (.io i :: ks) (none :: xs) s = match s[i]? with
  | none => none
  | some d => if d.isUn = true then none else (asmD ks xs s).map fun r => d :: r := by
  rw [asmD]
  cases s[i]? with
  | none => rfl
  | some d => cases d <;> rfl
@[simp] theorem asm_nil (s : List D) : asmD [] [] s = some [] := by rw [asmD]
section
variable {o : Bool} {C : Addr} {fs : List Str} {ks : List Key} {ks2 : List (List Key)} {x : V} {k : NK} {xs : List D}
@[simp] theorem NK.isOwn_tup : NK.isOwn NK.tup = false := rfl
@[simp] theorem NK.isOwn_scr : NK.isOwn NK.scr = false := rfl
@[simp] theorem NK.isOwn_lst : NK.isOwn (NK.lst o) = o := rfl
@[simp] theorem NK.isOwn_ins : NK.isOwn (NK.ins C fs) = false := rfl
@[simp] theorem NK.isOwn_obj : NK.isOwn (NK.obj o C fs) = o := rfl
@[simp] theorem NK.isOwn_dic : NK.isOwn (NK.dic o ks) = o := rfl
@[simp] theorem NK.isOwn_dit : NK.isOwn (NK.dit o ks2) = o := rfl
@[simp] theorem NK.isShr_tup : NK.isShr NK.tup = false := rfl
@[simp] theorem NK.isShr_scr : NK.isShr NK.scr = false := rfl
@[simp] theorem NK.isShr_lst : NK.isShr (NK.lst o) = (!o) := rfl
@[simp] theorem NK.isShr_ins : NK.isShr (NK.ins C fs) = false := rfl
@[simp] theorem NK.isShr_obj : NK.isShr (NK.obj o C fs) = (!o) := rfl
@[simp] theorem NK.isShr_dic : NK.isShr (NK.dic o ks) = (!o) := rfl
@[simp] theorem NK.isShr_dit : NK.isShr (NK.dit o ks2) = (!o) := rfl
@[simp] theorem NK.fz_tup : NK.fz NK.tup = NK.tup := rfl
@[simp] theorem NK.fz_scr : NK.fz NK.scr = NK.scr := rfl
@[simp] theorem NK.fz_lst : NK.fz (NK.lst o) = NK.lst false := rfl
@[simp] theorem NK.fz_ins : NK.fz (NK.ins C fs) = NK.ins C fs := rfl
@[simp] theorem NK.fz_obj : NK.fz (NK.obj o C fs) = NK.obj false C fs := rfl
@[simp] theorem NK.fz_dic : NK.fz (NK.dic o ks) = NK.dic false ks := rfl
@[simp] theorem NK.fz_dit : NK.fz (NK.dit o ks2) = NK.dit false ks2 := rfl
@[simp] theorem D.isUn_un : D.isUn D.un = true := rfl
@[simp] theorem D.isUn_v : D.isUn (D.v x) = false := rfl
@[simp] theorem D.isUn_nd : D.isUn (D.nd k xs) = false := rfl
end
@[simp] def u_sSeq_1 := @VS.sSeq.eq_1
@[simp] def u_sNx_1 := @VS.sNx.eq_1
@[simp] def u_sBk_1 := @VS.sBk.eq_1
@[simp] def u_sCt_1 := @VS.sCt.eq_1
@[simp] def u_sRt_1 := @VS.sRt.eq_1
@[simp] def u_sRtN_1 := @VS.sRtN.eq_1
@[simp] def u_sIf_1 := @VS.sIf.eq_1
@[simp] def u_sDrop_1 := @VS.sDrop.eq_1
@[simp] def u_sAsg_1 := @VS.sAsg.eq_1
@[simp] def u_gdN_1 := @VS.gdN.eq_1
@[simp] def u_sSetIx_1 := @VS.sSetIx.eq_1
@[simp] def u_dTwo_1 := @VS.dTwo.eq_1
@[simp] def u_dOne_1 := @VS.dOne.eq_1
@[simp] def u_dOp_1 := @VS.dOp.eq_1
@[simp] def u_dAcons_1 := @VS.dAcons.eq_1
@[simp] def u_dAnil_1 := @VS.dAnil.eq_1
@[simp] def u_dc_1 := @VS.dc.eq_1
@[simp] def u_dTv_1 := @VS.dTv.eq_1
@[simp] def u_dTt_1 := @VS.dTt.eq_1
@[simp] def u_dTand_1 := @VS.dTand.eq_1
@[simp] def u_dTor_1 := @VS.dTor.eq_1
@[simp] def u_dTnot_1 := @VS.dTnot.eq_1
@[simp] def u_dVand_1 := @VS.dVand.eq_1
@[simp] def u_dVor_1 := @VS.dVor.eq_1
@[simp] def u_dVnot_1 := @VS.dVnot.eq_1
@[simp] def u_dIf_1 := @VS.dIf.eq_1
@[simp] def u_dTmp_1 := @VS.dTmp.eq_1
@[simp] def u_dCmp_1 := @VS.dCmp.eq_1
@[simp] def u_oB_1 := @VS.oB.eq_1
@[simp] def u_R_bind_1 := @VS.R.bind.eq_1
@[simp] def u_R_bind_2 := @VS.R.bind.eq_2
@[simp] def u_R_bind_3 := @VS.R.bind.eq_3
@[simp] def u_clr_1 := @VS.clr.eq_1
@[simp] def u_clr_2 := @VS.clr.eq_2
@[simp] def u_Md_isTmp_1 := @VS.Md.isTmp.eq_1
@[simp] def u_Md_isTmp_2 := @VS.Md.isTmp.eq_2
@[simp] def u_dIx_1 := @VS.dIx.eq_1
@[simp] def u_dpIx_1 := @VS.dpIx.eq_1
@[simp] def u_lstAt_1 := @VS.lstAt.eq_1
@[simp] def u_putAt_1 := @VS.putAt.eq_1
@[simp] def u_D_at_1 := @VS.D.at.eq_1
@[simp] def u_D_at_2 := @VS.D.at.eq_2
@[simp] def u_D_at_3 := @VS.D.at.eq_3
@[simp] def u_D_put_1 := @VS.D.put.eq_1
@[simp] def u_D_put_2 := @VS.D.put.eq_2
@[simp] def u_D_put_3 := @VS.D.put.eq_3
@[simp] def u_D_kids_1 := @VS.D.kids.eq_1
@[simp] def u_D_kids_2 := @VS.D.kids.eq_2
@[simp] def u_D_kids_3 := @VS.D.kids.eq_3
@[simp] def u_D_kids_4 := @VS.D.kids.eq_4
@[simp] def u_u1_1 := @VS.u1.eq_1
@[simp] def u_u1_2 := @VS.u1.eq_2
@[simp] def u_i2D_1 := @VS.i2D.eq_1
@[simp] def u_i2D_2 := @VS.i2D.eq_2
@[simp] def u_intD_1 := @VS.intD.eq_1
@[simp] def u_intD_2 := @VS.intD.eq_2
@[simp] def u_intD_3 := @VS.intD.eq_3
@[simp] def u_absD_1 := @VS.absD.eq_1
@[simp] def u_absD_2 := @VS.absD.eq_2
@[simp] def u_sumD_1 := @VS.sumD.eq_1
@[simp] def u_oAdd_1 := @VS.oAdd.eq_1
@[simp] def u_oAdd_2 := @VS.oAdd.eq_2
@[simp] def u_oAdd_3 := @VS.oAdd.eq_3
@[simp] def u_oAdd_4 := @VS.oAdd.eq_4
@[simp] def u_oAdd_5 := @VS.oAdd.eq_5
@[simp] def u_oInt_1 := @VS.oInt.eq_1
@[simp] def u_oInt_2 := @VS.oInt.eq_2
@[simp] def u_oInt0_1 := @VS.oInt0.eq_1
@[simp] def u_oInt0_2 := @VS.oInt0.eq_2
@[simp] def u_cmpD_1 := @VS.cmpD.eq_1
@[simp] def u_cmpD_2 := @VS.cmpD.eq_2
@[simp] def u_cmpD_3 := @VS.cmpD.eq_3
@[simp] def u_fnN_1 := @VS.fnN.eq_1
@[simp] def u_fnD_1 := @VS.fnD.eq_1
@[simp] def u_nox_1 := @VS.nox.eq_1
@[simp] def u_nox_2 := @VS.nox.eq_2
@[simp] def u_outs_1 := @VS.outs.eq_1
@[simp] def u_dCall_1 := @VS.dCall.eq_1
@[simp] def u_valOk_1 := @VS.valOk.eq_1
@[simp] def u_valOk_2 := @VS.valOk.eq_2
@[simp] def u_valOk_3 := @VS.valOk.eq_3
@[simp] def u_valFree_1 := @VS.valFree.eq_1
@[simp] def u_valFree_2 := @VS.valFree.eq_2
@[simp] def u_valFree_3 := @VS.valFree.eq_3
@[simp] def u_dCslot_1 := @VS.dCslot.eq_1
@[simp] def u_dCval_1 := @VS.dCval.eq_1
@[simp] def u_dCvalC_1 := @VS.dCvalC.eq_1
@[simp] def u_dCnil_1 := @VS.dCnil.eq_1
@[simp] def u_ixs_1 := @VS.ixs.eq_1
@[simp] def u_ixs_2 := @VS.ixs.eq_2
@[simp] def u_ixs_3 := @VS.ixs.eq_3
@[simp] def u_ixs_4 := @VS.ixs.eq_4
@[simp] def u_putD_1 := @VS.putD.eq_1
@[simp] def u_putD'_1 := @VS.putD'.eq_1
@[simp] def u_putD'_2 := @VS.putD'.eq_2
@[simp] def u_putD'_3 := @VS.putD'.eq_3
@[simp] def u_putD'_4 := @VS.putD'.eq_4
@[simp] def u_wipeD_1 := @VS.wipeD.eq_1
@[simp] def u_D_has_1 := @VS.D.has.eq_1
@[simp] def u_D_has_2 := @VS.D.has.eq_2
@[simp] def u_D_has_3 := @VS.D.has.eq_3
@[simp] def u_D_hass_1 := @VS.D.hass.eq_1
@[simp] def u_D_hass_2 := @VS.D.hass.eq_2
@[simp] def u_D_fz_1 := @VS.D.fz.eq_1
@[simp] def u_D_fz_2 := @VS.D.fz.eq_2
@[simp] def u_D_fz_3 := @VS.D.fz.eq_3
@[simp] def u_D_fzs_1 := @VS.D.fzs.eq_1
@[simp] def u_D_fzs_2 := @VS.D.fzs.eq_2
@[simp] def u_dDis_1 := @VS.dDis.eq_1
@[simp] def u_chkT_1 := @VS.chkT.eq_1
@[simp] def u_dVof_1 := @VS.dVof.eq_1
@[simp] def u_dAconsC_1 := @VS.dAconsC.eq_1
@[simp] def u_dAconsI_1 := @VS.dAconsI.eq_1
@[simp] def u_dMeth_1 := @VS.dMeth.eq_1
@[simp] def u_mAppend_1 := @VS.mAppend.eq_1
@[simp] def u_mAppend_2 := @VS.mAppend.eq_2
@[simp] def u_D_isStr_1 := @VS.D.isStr.eq_1
@[simp] def u_D_isStr_2 := @VS.D.isStr.eq_2
@[simp] def u_D_isLst_1 := @VS.D.isLst.eq_1
@[simp] def u_D_isLst_2 := @VS.D.isLst.eq_2
@[simp] def u_D_isLst_3 := @VS.D.isLst.eq_3
@[simp] def u_D_tru_1 := @VS.D.tru.eq_1
@[simp] def u_D_tru_2 := @VS.D.tru.eq_2
@[simp] def u_D_tru_3 := @VS.D.tru.eq_3
@[simp] def u_D_tru_4 := @VS.D.tru.eq_4
@[simp] def u_D_tru_5 := @VS.D.tru.eq_5
@[simp] def u_D_tru_6 := @VS.D.tru.eq_6
@[simp] def u_D_tru_7 := @VS.D.tru.eq_7
@[simp] def u_D_tru_8 := @VS.D.tru.eq_8
@[simp] def u_D_tru_9 := @VS.D.tru.eq_9
@[simp] def u_dFld_1 := @VS.dFld.eq_1
theorem has_ints (q : NK → Bool) : ∀ cs : List Int, D.hass q (cs.map D.int) = false
  | [] => rfl
  | c :: r => by rw [List.map_cons, D.hass, has_ints q r]; rfl
theorem log2_lt {i : Int} (h : i.natAbs < 2 ^ 400) : i.natAbs.log2 < 400 := by
  by_cases h0 : i.natAbs = 0
  · rw [h0]; decide
  · exact (Nat.log2_lt h0).mpr h
theorem oMul_s {i j : Int} (h1 : -(10 ^ 100) < i) (h2 : i < 10 ^ 100) (h3 : -(10 ^ 100) < j) (h4 : j < 10 ^ 100) : oMul (.v (.int i)) (.v (.int j)) = some (.v (.int (i * j))) := by
  have a := log2_lt (i := i) (by omega)
  have b := log2_lt (i := j) (by omega)
  have h : i.natAbs.log2 + j.natAbs.log2 < 1000000 := by omega
  show (if i.natAbs.log2 + j.natAbs.log2 < 1000000 then _ else _) = _
  rw [if_pos h]
theorem oDiv_s {i j : Int} (h1 : 0 < j) (h2 : j < 10 ^ 100) : oDiv (.v (.int i)) (.v (.int j)) = some (.v (.int (i / j))) := by
  have a := log2_lt (i := j) (by omega)
  show (if decide (0 < j ∧ j.natAbs.log2 < 9000) = true then _ else _) = _
  rw [if_pos (by simp only [decide_eq_true_eq]; exact ⟨h1, by omega⟩)]
theorem oMod_s {i j : Int} (h1 : 0 < j) : oMod (.v (.int i)) (.v (.int j)) = some (.v (.int (i % j))) := by
  show (if decide (0 < j) = true then _ else _) = _
  rw [if_pos (decide_eq_true h1)]
theorem ix_lst {o : Bool} {xs : List D} {p : Int} (h0 : 0 ≤ p) : ixD (.nd (.lst o) xs) (.v (.int p)) = xs[p.toNat]? := by
  unfold ixD
  simp only [D.kids]
  unfold ixN
  rw [if_pos h0]
  by_cases h : p < (xs.length : Int)
  · rw [if_pos h]
  · rw [if_neg h, List.getElem?_eq_none (by omega)]
theorem ix_tup {xs : List D} {p : Int} (h0 : 0 ≤ p) : ixD (.nd .tup xs) (.v (.int p)) = xs[p.toNat]? := by
  unfold ixD
  simp only [D.kids]
  unfold ixN
  rw [if_pos h0]
  by_cases h : p < (xs.length : Int)
  · rw [if_pos h]
  · rw [if_neg h, List.getElem?_eq_none (by omega)]
theorem ixN_pos {n : Nat} {p : Int} (h0 : 0 ≤ p) (h1 : p < n) : ixN n p = some p.toNat := by unfold ixN; rw [if_pos h0, if_pos h1]
theorem len_ints {o : Bool} {cs : List Int} : lenD (.nd (.lst o) (cs.map D.int)) = some (.int cs.length) := by simp [lenD]

@[simp] theorem eqD_int {i j : Int} : eqD (.v (.int i)) (.v (.int j)) = some (decide (i = j)) := by
  unfold eqD; simp [scal]
@[simp] theorem eqD_bl {i j : Bool} : eqD (.v (.bl i)) (.v (.bl j)) = some (decide (i = j)) := by
  unfold eqD; simp [scal]
@[simp] theorem eqD_str {i j : Str} : eqD (.v (.str i)) (.v (.str j)) = some (decide (i = j)) := by
  unfold eqD; simp [scal]
@[simp] theorem neD_int {i j : Int} : neD (.v (.int i)) (.v (.int j)) = some (!decide (i = j)) := by unfold neD; rw [eqD_int]; rfl
@[simp] theorem neD_bl {i j : Bool} : neD (.v (.bl i)) (.v (.bl j)) = some (!decide (i = j)) := by unfold neD; rw [eqD_bl]; rfl
@[simp] theorem neD_str {i j : Str} : neD (.v (.str i)) (.v (.str j)) = some (!decide (i = j)) := by unfold neD; rw [eqD_str]; rfl
theorem has_strs (q : NK → Bool) : ∀ cs : List Str, D.hass q (cs.map D.str) = false
  | [] => rfl
  | c :: r => by rw [List.map_cons, D.hass, has_strs q r]; rfl
theorem fzs_strs : ∀ cs : List Str, D.fzs (cs.map D.str) = cs.map D.str
  | [] => rfl
  | c :: r => by rw [List.map_cons, D.fzs, fzs_strs r]; rfl
theorem fzs_ints : ∀ cs : List Int, D.fzs (cs.map D.int) = cs.map D.int
  | [] => rfl
  | c :: r => by rw [List.map_cons, D.fzs, fzs_ints r]; rfl
theorem strs_map : ∀ cs : List Str, D.strs (cs.map D.str) = some cs
  | [] => rfl
  | c :: r => by rw [List.map_cons, D.strs, strs_map r]; rfl
theorem ints_map : ∀ cs : List Int, D.ints (cs.map D.int) = some cs
  | [] => rfl
  | c :: r => by rw [List.map_cons, D.ints, ints_map r]; rfl
/-- a for loop that runs to its end -/
theorem forL_inv {g : Gd} {body : S} (I : List D → List D → Prop) (step : ∀ x r s, I (x :: r) s → ∃ s1 s2, g x s = some s1 ∧ (body s1 = .nx s2 ∨ body s1 = .ct s2) ∧ I r s2) : ∀ (xs s : List D), I xs s → ∃ s', forL g body xs s = .nx s' ∧ I [] s'
  | [], s, h => ⟨s, by rw [forL], h⟩
  | x :: r, s, h => by
    obtain ⟨s1, s2, e1, e2, h2⟩ := step x r s h
    obtain ⟨s', e3, h3⟩ := forL_inv I step r s2 h2
    refine ⟨s', ?_, h3⟩
    rw [forL, e1]
    rcases e2 with e2 | e2
    · simp only [e2, e3]
    · simp only [e2, e3]
/-- a list comprehension -/
theorem lcL_inv {vs : List Nat} {g : Gd} {c : B} {m : Md} {e : E} (I : List D → List D → List D → Prop)
    (step : ∀ x r s acc, I (x :: r) s acc → ∃ s1, g x s = some s1 ∧ ((∃ q, c s1 = .ok (true, q) ∧ ∃ p, e q = .ok p ∧ (m.isTmp || !p.1.hasOwn) = true ∧ I r (wipeD vs p.2) (acc ++ [p.1])) ∨ ∃ q, c s1 = .ok (false, q) ∧ I r (wipeD vs q) acc)) :
    ∀ (xs s acc : List D), I xs s acc → ∃ z, lcL vs g c m e xs s = .ok z ∧ I [] z.2 (acc ++ z.1)
  | [], s, acc, h => ⟨([], s), by rw [lcL], by rw [List.append_nil]; exact h⟩
  | x :: r, s, acc, h => by
    obtain ⟨s1, e1, h1⟩ := step x r s acc h
    rcases h1 with ⟨q, e2, p, e3, hp, h2⟩ | ⟨q, e2, h2⟩
    · obtain ⟨z, e4, h4⟩ := lcL_inv I step r (wipeD vs p.2) (acc ++ [p.1]) h2
      refine ⟨(p.1 :: z.1, z.2), ?_, by rw [List.append_assoc] at h4; exact h4⟩
      rw [lcL, e1]
      simp only [e2, nox, R.bind, if_true, e3]
      rw [if_pos hp, e4]
    · obtain ⟨z, e4, h4⟩ := lcL_inv I step r (wipeD vs q) acc h2
      refine ⟨z, ?_, h4⟩
      rw [lcL, e1]
      simp only [e2, nox, R.bind, Bool.false_eq_true, if_false, e4]
end VS
namespace VS
open PySem PySem.Spec PyProof.Rows L2
/-! ### texts of signs 0 and 1 -/
abbrev Str.cs (z : Str) : List Nat := z.cps.toList
def Bits (z : Str) : Prop := ∀ c ∈ Str.cs z, c = 48 ∨ c = 49
def bit (b : Bool) : Str := if b = true then ⟨#[49]⟩ else ⟨#[48]⟩
theorem str_ext {x y : Str} (h : Str.cs x = Str.cs y) : x = y := by
  cases x; cases y
  simp only [Str.cs, Array.toList_inj] at h
  rw [h]
theorem cs_append (x y : Str) : Str.cs (x ++ y) = Str.cs x ++ Str.cs y := by
  show (x.append y).cps.toList = _
  unfold PySem.Str.append
  simp [Str.cs]
theorem cs_len (x : Str) : (Str.cs x).length = x.length := by simp [Str.cs, PySem.Str.length]
theorem bits_append {x y : Str} (hx : Bits x) (hy : Bits y) : Bits (x ++ y) := fun c hc => by
  rw [cs_append, List.mem_append] at hc
  exact hc.elim (hx c) (hy c)
theorem bit_bits (b : Bool) : Bits (bit b) := by
  intro c hc
  cases b
  · exact .inl (by simpa [bit, Str.cs] using hc)
  · exact .inr (by simpa [bit, Str.cs] using hc)
theorem bit_len (b : Bool) : (bit b).length = 1 := by cases b <;> rfl
theorem s01 : ("01" : Str) = ⟨#[48, 49]⟩ := by decide +kernel
theorem s10 : ("10" : Str) = ⟨#[49, 48]⟩ := by decide +kernel
theorem s1 : ("1" : Str) = bit true := by decide +kernel
theorem s0 : ("0" : Str) = bit false := by decide +kernel
theorem sE : ("" : Str) = ⟨#[]⟩ := by decide +kernel
theorem ix_s {z : Str} {j : Int} (hz : z.length ≤ 10000) : ixD (.v (.str z)) (.v (.int j)) = (atI z.cps.toList j).map fun c => .v (.str ⟨#[c]⟩) := by
  show (if z.length ≤ sizeLine then _ else _) = _
  rw [if_pos (by rw [sizeLine_eq]; omega)]
theorem ix01 {d : Int} (h0 : 0 ≤ d) (h1 : d < 2) : ixD (.v (.str "01")) (.v (.int d)) = some (.v (.str (bit (decide (d = 1))))) := by
  have : d = 0 ∨ d = 1 := by omega
  rcases this with rfl | rfl
  · rw [s01, ix_s (by decide)]; rfl
  · rw [s01, ix_s (by decide)]; rfl
theorem ix10 {d : Int} (h0 : 0 ≤ d) (h1 : d < 2) : ixD (.v (.str "10")) (.v (.int d)) = some (.v (.str (bit (decide (d = 0))))) := by
  have : d = 0 ∨ d = 1 := by omega
  rcases this with rfl | rfl
  · rw [s10, ix_s (by decide)]; rfl
  · rw [s10, ix_s (by decide)]; rfl
theorem join_cs : ∀ zs : List Str, Str.cs (Txt.join "" zs) = (zs.map Str.cs).flatten := by
  intro zs
  show Str.cs (Builtin.Str.glued "" zs) = _
  rw [StrLaws.glued_eq_join]
  induction zs with
  | nil => rfl
  | cons x r ih =>
    cases r with
    | nil => simp [PySem.Str.join, Str.cs]
    | cons y r =>
      rw [show PySem.Str.join "" (x :: y :: r) = x ++ "" ++ PySem.Str.join "" (y :: r) from rfl, cs_append, cs_append, ih]
      simp [sE, Str.cs]
theorem join_ok1 {zs : List Str} (h1 : ∀ z ∈ zs, z.length = 1) (hb : ∀ z ∈ zs, Bits z) : (Txt.join "" zs).length = zs.length ∧ Bits (Txt.join "" zs) := by
  constructor
  · rw [← cs_len, join_cs]
    induction zs with
    | nil => rfl
    | cons x r ih =>
      rw [List.map_cons, List.flatten_cons, List.length_append, ih (fun z m => h1 z (List.mem_cons_of_mem _ m)) (fun z m => hb z (List.mem_cons_of_mem _ m)), cs_len, h1 x List.mem_cons_self, List.length_cons]
      omega
  · intro c hc
    rw [join_cs, List.mem_flatten] at hc
    obtain ⟨l, ml, mc⟩ := hc
    obtain ⟨z, mz, rfl⟩ := List.mem_map.mp ml
    exact hb z mz c mc
theorem sum_len1 : ∀ {zs : List Str}, (∀ z ∈ zs, z.length = 1) → (zs.map (·.length)).sum = zs.length
  | [], _ => rfl
  | x :: r, h => by rw [List.map_cons, List.sum_cons, h x List.mem_cons_self, sum_len1 fun z m => h z (List.mem_cons_of_mem _ m), List.length_cons]; omega
theorem join_d {o : Bool} {zs : List Str} (h1 : ∀ z ∈ zs, z.length = 1) (hl : zs.length ≤ 1000) : joinD [.v (.str ""), .nd (.lst o) (zs.map D.str)] = some (.v (.str (Txt.join "" zs))) := by
  unfold joinD seqS
  simp only [strs_map]
  rw [if_pos]
  rw [sum_len1 h1, sE]
  show zs.length + zs.length * 0 ≤ _
  omega
theorem cnt_bits : ∀ {l : List Nat}, (∀ c ∈ l, c = 48 ∨ c = 49) → PyProof.Rows.cnt 48 l + PyProof.Rows.cnt 49 l = (l.length : Nat)
  | [], _ => rfl
  | c :: r, h => by
    have ih := cnt_bits (l := r) fun x m => h x (List.mem_cons_of_mem _ m)
    rw [PyProof.Rows.cnt_cons, PyProof.Rows.cnt_cons, List.length_cons]
    rcases h c List.mem_cons_self with rfl | rfl
    · simp; omega
    · simp; omega
theorem count_sum {z : Str} (h : Bits z) : Txt.count z (bit false) + Txt.count z (bit true) = (z.length : Nat) := by
  show Txt.count z ⟨#[48]⟩ + Txt.count z ⟨#[49]⟩ = _
  rw [count_cnt, count_cnt, ← cs_len]
  exact cnt_bits h
/-! ### ranges -/
def rangeD (n : Nat) : List D := (List.range n).map fun (i : Nat) => D.int (i : Int)
theorem rangeD_len (n : Nat) : (rangeD n).length = n := by unfold rangeD; rw [List.length_map, List.length_range]
theorem rangeD_has (q : NK → Bool) (n : Nat) : D.hass q (rangeD n) = false := by
  have : rangeD n = ((List.range n).map fun (i : Nat) => (i : Int)).map D.int := by unfold rangeD; rw [List.map_map]; rfl
  rw [this]; exact has_ints q _
theorem rg1_ok {d : EA} {s s' : List D} {w : Int} (h : d s = .ok ([.v (.int w)], s')) (h0 : -1000000 ≤ w) (h1 : w ≤ 1000000) : dRg1 d s = .ok ((.v .non, rangeD w.toNat), s') := by
  unfold dRg1
  rw [h]
  have hb : w.natAbs < 4000000000000000000 := by omega
  simp only [R.bind, if_pos hb]
  unfold rangeD
  simp
theorem for_rg {mb : List Nat} {it : I} {g : Gd} {body : S} {s s1 : List D} {n : Nat} (h : it s = .ok ((.v .non, rangeD n), s1)) : sFor .tmp mb it g body s = forL g body (rangeD n) s1 := by
  unfold sFor
  rw [h]
  simp [rangeD_has]
theorem lc_rg {mb vs : List Nat} {it : I} {g : Gd} {c : B} {m : Md} {e : E} {s s1 : List D} {n : Nat} (h : it s = .ok ((.v .non, rangeD n), s1)) (hn : n ≤ 1000000) : dLc .tmp mb vs it g c m e s = (lcL vs g c m e (rangeD n) (wipeD vs s1)).bind fun z => .ok (.nd (.lst true) z.1, z.2) := by
  unfold dLc
  rw [h]
  have hl : n ≤ sizeLine := by rw [sizeLine_eq]; omega
  simp [rangeD_has, rangeD_len, hl]
end VS
namespace VS
open PySem PySem.Spec PyProof.Rows L2
/-! ### the law's own def at a script -/
def spLaw (K : PySem.W.Frag) : Sp := fun vs H Q _ => ∃ (a : Addr) (ns : List Int), vs = [.ref a] ∧ Only H ∧ SqL K H a (ns.map V.int) ∧ ns.length ≤ 63 ∧ ∀ H', Q (.bl true) H'
theorem law_imp {K : PySem.W.Frag} {F : FD} (hF : ∀ ns : List Int, ns.length ≤ 63 → ∃ os, F [.nd .scr (ns.map D.int)] = .ok (.v (.bl true), os)) {vs : List V} {H : Hp} {Q : VK} {E : XK} (h : spLaw K vs H Q E) : spOf K [.val] F vs H Q E := by
  obtain ⟨a, ns, rfl, hO, hS, hl, q⟩ := h
  have er : T.ers (ns.map fun n => T.v (.int n)) = ns.map D.int := ers_ints ns
  have rt : T.rts (ns.map fun n => T.v (.int n)) = ns.map V.int := rts_ints ns
  have atom : ∀ c ∈ ns.map fun n => T.v (.int n), ∃ v, c = T.v v := fun c m => by
    obtain ⟨n, _, e⟩ := List.mem_map.mp m; exact ⟨_, e.symm⟩
  have own0 : (T.nd a .scr (ns.map fun n => T.v (.int n))).own = [] := by
    refine T.own_nil ?_
    rw [T.er, er]
    show (NK.isOwn .scr || D.hass NK.isOwn (ns.map D.int)) = false
    rw [has_ints]; rfl
  refine ⟨[.nd a .scr (ns.map fun n => T.v (.int n))], rfl, fun t m => ?_, .cons (T.good_of own0) (fun _ m => nomatch m) .nil, rfl, fun i t e _ => ?_, fun t m => ?_, ?_⟩
  · rw [List.mem_singleton.mp m, T.ok]
    refine ⟨?_, T.oks_all.mpr fun c mc => ?_⟩
    · rw [rt]
      rcases hS with (z | z) | z
      · rcases hO a with y | ⟨o, xs, y⟩
        · rw [z] at y; cases y
        · rw [z] at y; cases y
      · exact .inl z
      · exact .inr z
    · obtain ⟨v, rfl⟩ := atom c mc; trivial
  · cases i with
    | zero => cases e; exact own0
    | succ i => cases e
  · rw [List.mem_singleton.mp m]; intro z; cases z
  · obtain ⟨os, e⟩ := hF ns hl
    show FPost K _ _ _ H Q E (F [.nd .scr (T.ers (ns.map fun n => T.v (.int n)))])
    rw [er, e]
    intro t us H' et _ _ _ _ _ _ _
    have := er_v et; subst this
    exact q H'
theorem law_walk {l : PySem.W.OpenLaw} {q : Program} {loose : List Str} {XP : (Str → Option Value) → Heap → Prop} {YP : World → Heap → Prop} {d : DefRec} {K : Params → PySem.W.Frag} {kk : Nat} {DL : Addr → FD} (hn : l.most = some 63) (hdf : d.params.defaults = []) (hr : Room kk callerA)
    (hY : ∀ (w : World) (h : Heap), YP w h → (K w.params).In h) (hD : ∀ (C : Addr) (ns : List Int), ns.length ≤ 63 → ∃ os, DL C [.nd .scr (ns.map D.int)] = .ok (.v (.bl true), os))
    (F : ∀ (w : World) (mg : Str → Option Value) (fa : Addr) (h : Heap), (K w.params).In h → h.Ns mainGlobals mg → mg d.name = some (.ref fa) →
      ∃ (C : Addr) (fd : FuncData), (∀ (s : Shared) (u : Value), BindsTo s fd ⟨[u], []⟩ [("script", u)]) ∧ ∀ base : Heap, (K w.params).In base → base.Ns mainGlobals mg → FnOk l.prog w (K w.params) mg base CX0 kk fa fd ["script"] (spOf (K w.params) [.val] (DL C))) :
    PySem.W.WalkO q loose XP YP l.row.toRowW d [] (fun f vs => PySem.call f vs) :=
  L2.walk_of (n := 63) (k := kk) (x := "script") (CX := fun _ => CX0) (sp := fun w => spLaw (K w.params)) hn (by rw [sizeLine_eq]; decide) hdf hr hY (fun w mg fa h KX G hmg => by
    obtain ⟨C, fd, b, f⟩ := F w mg fa h KX G hmg
    exact ⟨fd, b, fun base k1 k2 => (f base k1 k2).imp fun vs H Q E h => law_imp (hD C) h⟩) (fun _ _ a ns hl hO hS => ⟨a, ns, rfl, hO, hS, hl, fun _ => rfl⟩) fun _ _ _ _ _ z => z
theorem kit_co {K : PySem.W.Frag} {C : Addr} {T : String} {r : Bool} (hm : PySem.W.kitMeta T = true) (h : PySem.W.mroIn K C (.type T) = some r) : PySem.W.kitOne K (.ref C) (.type T) = some r := by
  unfold PySem.W.kitOne
  rw [if_neg (by intro z; cases z)]
  show (if PySem.W.kitMeta T = true then PySem.W.subIn K (.ref C) (.type T) else none) = _
  rw [if_pos hm]
  exact h
theorem kit_cc {K : PySem.W.Frag} {C : Addr} : PySem.W.kitOne K (.ref C) (.ref C) = some true := by
  unfold PySem.W.kitOne
  rw [if_pos (by simp)]
theorem kit_bo {K : PySem.W.Frag} {C : Addr} {T : String} (h1 : PySem.W.isClsIn K C = true) (h2 : PySem.W.typeIn K (.ref C) = some (.type "type")) (hb : (PySem.fastBuiltinMro T).map (·.contains (Value.ref C)) = some false) : PySem.W.kitOne K (.type T) (.ref C) = some false := by
  unfold PySem.W.kitOne
  rw [if_neg (by intro z; cases z)]
  show (if ((PySem.W.clsIn K C).isSome && PySem.W.typeIn K (.ref C) == some (.type "type")) = true then PySem.W.subIn K (.type T) (.ref C) else none) = _
  have h3 : (PySem.W.clsIn K C).isSome = true := h1
  rw [if_pos (by rw [h3, h2]; simp)]
  exact hb
end VS
namespace VS
open PySem PySem.Spec PyProof.Rows L2
/-! ### loops that build -/
theorem lcL_map {α : Type} {vs : List Nat} {g : Gd} {c : B} {m : Md} {e : E} {s : List D} {enc F : α → D} : ∀ l : List α,
    (∀ a ∈ l, ∃ s1 s2, g (enc a) s = some s1 ∧ c s1 = .ok (true, s1) ∧ e s1 = .ok (F a, s2) ∧ (m.isTmp || !(F a).hasOwn) = true ∧ wipeD vs s2 = s) →
    lcL vs g c m e (l.map enc) s = .ok (l.map F, s)
  | [], _ => by rw [List.map_nil, lcL]; rfl
  | a :: r, h => by
    obtain ⟨s1, s2, e1, e2, e3, e4, e5⟩ := h a List.mem_cons_self
    rw [List.map_cons, lcL, e1]
    simp only [e2, nox, R.bind, if_true, e3]
    rw [if_pos e4, e5, lcL_map r fun b m => h b (List.mem_cons_of_mem _ m)]
    rfl
/-- with a test -/
theorem lcL_filter {α : Type} {vs : List Nat} {g : Gd} {c : B} {m : Md} {e : E} {s : List D} {enc F : α → D} {p : α → Bool} : ∀ l : List α,
    (∀ a ∈ l, ∃ s1, g (enc a) s = some s1 ∧ ((p a = true ∧ ∃ s2 s3, c s1 = .ok (true, s2) ∧ e s2 = .ok (F a, s3) ∧ (m.isTmp || !(F a).hasOwn) = true ∧ wipeD vs s3 = s) ∨ (p a = false ∧ ∃ s2, c s1 = .ok (false, s2) ∧ wipeD vs s2 = s))) →
    lcL vs g c m e (l.map enc) s = .ok ((l.filter p).map F, s)
  | [], _ => by rw [List.map_nil, lcL]; rfl
  | a :: r, h => by
    obtain ⟨s1, e1, h1⟩ := h a List.mem_cons_self
    have ih := lcL_filter r fun b m => h b (List.mem_cons_of_mem _ m)
    rw [List.map_cons, lcL, e1]
    rcases h1 with ⟨hp, s2, s3, e2, e3, e4, e5⟩ | ⟨hp, s2, e2, e5⟩
    · simp only [e2, nox, R.bind, if_true, e3]
      rw [if_pos e4, e5, ih, List.filter_cons_of_pos hp]
      rfl
    · simp only [e2, nox, R.bind, Bool.false_eq_true, if_false]
      rw [e5, ih, List.filter_cons_of_neg (by simp [hp])]
/-- a for loop over encoded items: the state behind a prefix is told by I -/
theorem forL_pre {α : Type} {g : Gd} {body : S} {enc : α → D} (I : List α → List D → Prop) : ∀ (l pre : List α) (s : List D), I pre s →
    (∀ pre' a post s, pre ++ l = pre' ++ a :: post → I pre' s → ∃ s1 s2, g (enc a) s = some s1 ∧ (body s1 = .nx s2 ∨ body s1 = .ct s2) ∧ I (pre' ++ [a]) s2) → ∃ s', forL g body (l.map enc) s = .nx s' ∧ I (pre ++ l) s'
  | [], pre, s, h, _ => ⟨s, by rw [List.map_nil, forL], by rw [List.append_nil]; exact h⟩
  | a :: r, pre, s, h, step => by
    obtain ⟨s1, s2, e1, e2, h2⟩ := step pre a r s rfl h
    obtain ⟨s', e3, h3⟩ := forL_pre I r (pre ++ [a]) s2 h2 fun pre' b post s e => step pre' b post s (by rw [← e]; simp)
    refine ⟨s', ?_, by simpa using h3⟩
    rw [List.map_cons, forL, e1]
    rcases e2 with e2 | e2
    · simp only [e2, e3]
    · simp only [e2, e3]
theorem rangeD_map (n : Nat) : rangeD n = (List.range n).map fun (i : Nat) => D.int (i : Int) := rfl
/-- over a range -/
theorem for_range {g : Gd} {body : S} {n : Nat} (I : Nat → List D → Prop) {s : List D} (h0 : I 0 s)
    (step : ∀ k s, k < n → I k s → ∃ s1 s2, g (.int (k : Int)) s = some s1 ∧ (body s1 = .nx s2 ∨ body s1 = .ct s2) ∧ I (k + 1) s2) : ∃ s', forL g body (rangeD n) s = .nx s' ∧ I n s' := by
  obtain ⟨s', e, h⟩ := forL_pre (g := g) (body := body) (enc := fun (i : Nat) => D.int (i : Int)) (fun pre s => I pre.length s) (List.range n) [] s h0 (fun pre a post s e h => by
    have hl : pre.length < n := by
      have := congrArg List.length e
      rw [List.nil_append, List.length_range, List.length_append, List.length_cons] at this
      omega
    have ha : a = pre.length := by
      have : (List.range n)[pre.length]? = some a := by
        rw [List.nil_append] at e
        rw [e, List.getElem?_append_right (Nat.le_refl _), Nat.sub_self]; rfl
      rw [List.getElem?_range hl] at this
      exact (Option.some.inj this).symm
    subst ha
    obtain ⟨s1, s2, e1, e2, h2⟩ := step pre.length s hl h
    exact ⟨s1, s2, e1, e2, by rw [List.length_append]; exact h2⟩)
  refine ⟨s', e, ?_⟩
  simpa using h
/-! ### rows of signs as functions -/
def mkRow (n : Nat) (f : Nat → Bool) : Str := ⟨((List.range n).map fun j => if f j = true then 49 else 48).toArray⟩
theorem mkRow_cs (n : Nat) (f : Nat → Bool) : Str.cs (mkRow n f) = (List.range n).map fun j => if f j = true then 49 else 48 := rfl
theorem mkRow_len (n : Nat) (f : Nat → Bool) : (mkRow n f).length = n := by rw [← cs_len, mkRow_cs]; simp
theorem mkRow_bits (n : Nat) (f : Nat → Bool) : Bits (mkRow n f) := by
  intro c hc
  rw [mkRow_cs, List.mem_map] at hc
  obtain ⟨j, _, rfl⟩ := hc
  by_cases h : f j = true
  · rw [if_pos h]; exact .inr rfl
  · rw [if_neg h]; exact .inl rfl
theorem bit_cs (b : Bool) : Str.cs (bit b) = [if b = true then 49 else 48] := by cases b <;> rfl
theorem join_mkRow (n : Nat) (f : Nat → Bool) : Txt.join "" ((List.range n).map fun j => bit (f j)) = mkRow n f := by
  apply str_ext
  rw [join_cs, mkRow_cs, List.map_map]
  generalize List.range n = l
  induction l with
  | nil => rfl
  | cons a r ih => rw [List.map_cons, List.flatten_cons, ih, List.map_cons]; show Str.cs (bit (f a)) ++ _ = _; rw [bit_cs]; rfl
def rowAt (z : Str) (j : Nat) : Bool := (Str.cs z).getD j 0 == 49
theorem rowAt_mk {n : Nat} {f : Nat → Bool} {j : Nat} (h : j < n) : rowAt (mkRow n f) j = f j := by
  unfold rowAt
  rw [mkRow_cs, List.getD_eq_getElem?_getD, List.getElem?_map, List.getElem?_range h]
  cases e : f j <;> simp [e]
theorem row_mk {z : Str} (hb : Bits z) : z = mkRow z.length (rowAt z) := by
  apply str_ext
  rw [mkRow_cs]
  apply List.ext_getElem?
  intro j
  rw [List.getElem?_map]
  by_cases h : j < z.length
  · rw [List.getElem?_range h]
    have hl : j < (Str.cs z).length := by rw [cs_len]; exact h
    rw [List.getElem?_eq_getElem hl]
    simp only [Option.map_some, Option.some.injEq]
    unfold rowAt
    rw [List.getD_eq_getElem?_getD, List.getElem?_eq_getElem hl, Option.getD_some]
    rcases hb _ (List.getElem_mem hl) with q | q <;> rw [q] <;> rfl
  · rw [List.getElem?_eq_none (by rw [cs_len]; omega), List.getElem?_eq_none (by rw [List.length_range]; omega)]; rfl
theorem mkRow_congr {n : Nat} {f g : Nat → Bool} (h : ∀ j, j < n → f j = g j) : mkRow n f = mkRow n g := by
  apply str_ext
  rw [mkRow_cs, mkRow_cs]
  exact List.map_congr_left fun j m => by rw [h j (List.mem_range.mp m)]
theorem mkRow_inj {n : Nat} {f g : Nat → Bool} (h : mkRow n f = mkRow n g) : ∀ j, j < n → f j = g j := fun j hj => by
  rw [← rowAt_mk (n := n) (f := f) hj, h, rowAt_mk hj]
def mk (h w : Nat) (f : Nat → Nat → Bool) : List Str := (List.range h).map fun i => mkRow w (f i)
theorem mk_len (h w : Nat) (f : Nat → Nat → Bool) : (mk h w f).length = h := by unfold mk; simp
theorem mk_congr {h w : Nat} {f g : Nat → Nat → Bool} (e : ∀ i j, i < h → j < w → f i j = g i j) : mk h w f = mk h w g :=
  List.map_congr_left fun i m => mkRow_congr fun j hj => e i j (List.mem_range.mp m) hj
theorem mk_get {h w : Nat} {f : Nat → Nat → Bool} {i : Nat} (hi : i < h) : (mk h w f)[i]? = some (mkRow w (f i)) := by
  unfold mk; rw [List.getElem?_map, List.getElem?_range hi]; rfl
theorem mk_inj {h w : Nat} {f g : Nat → Nat → Bool} (e : mk h w f = mk h w g) : ∀ i j, i < h → j < w → f i j = g i j := fun i j hi hj => by
  have := mk_get (w := w) (f := f) hi
  rw [e, mk_get hi] at this
  exact (mkRow_inj (Option.some.inj this) j hj).symm
theorem mk_mem {h w : Nat} {f : Nat → Nat → Bool} {z : Str} (m : z ∈ mk h w f) : z.length = w ∧ Bits z := by
  obtain ⟨i, _, rfl⟩ := List.mem_map.mp m
  exact ⟨mkRow_len _ _, mkRow_bits _ _⟩
theorem rows_mk {rows : List Str} {w : Nat} (hw : ∀ z ∈ rows, z.length = w ∧ Bits z) : ∃ f, rows = mk rows.length w f := by
  refine ⟨fun i => rowAt (rows.getD i ""), ?_⟩
  apply List.ext_getElem?
  intro i
  by_cases h : i < rows.length
  · rw [mk_get h, List.getElem?_eq_getElem h, List.getD_eq_getElem?_getD, List.getElem?_eq_getElem h, Option.getD_some]
    obtain ⟨l, b⟩ := hw _ (List.getElem_mem h)
    conv => lhs; rw [row_mk b, l]
  · rw [List.getElem?_eq_none (by omega), List.getElem?_eq_none (by rw [mk_len]; omega)]
/-- rows as trees -/
def rowsD (h w : Nat) (f : Nat → Nat → Bool) : List D := (mk h w f).map D.str
theorem rowsD_get {h w : Nat} {f : Nat → Nat → Bool} {i : Nat} (hi : i < h) : (rowsD h w f)[i]? = some (.v (.str (mkRow w (f i)))) := by
  unfold rowsD
  rw [List.getElem?_map, mk_get hi]; rfl
@[simp] theorem rowsHas {q : NK → Bool} {h w : Nat} {f : Nat → Nat → Bool} : D.hass q (rowsD h w f) = false := has_strs _ _
@[simp] theorem rowsFz {h w : Nat} {f : Nat → Nat → Bool} : D.fzs (rowsD h w f) = rowsD h w f := fzs_strs _
theorem rowsD_zero (w : Nat) (f : Nat → Nat → Bool) : rowsD 0 w f = [] := rfl
theorem rowsD_eq {rows : List Str} {w : Nat} (hw : ∀ z ∈ rows, z.length = w ∧ Bits z) : ∃ f, rows.map D.str = rowsD rows.length w f := by
  obtain ⟨f, e⟩ := rows_mk hw
  exact ⟨f, congrArg (List.map D.str) e⟩
theorem rowsD_map (h w : Nat) (f : Nat → Nat → Bool) : rowsD h w f = (List.range h).map fun i => D.str (mkRow w (f i)) := by unfold rowsD mk; rw [List.map_map]; rfl
@[simp] theorem rowsD_len (h w : Nat) (f : Nat → Nat → Bool) : (rowsD h w f).length = h := by unfold rowsD; rw [List.length_map, mk_len]
theorem rowsD_succ (h w : Nat) (f : Nat → Nat → Bool) : rowsD (h + 1) w f = rowsD h w f ++ [.v (.str (mkRow w (f h)))] := by
  simp [rowsD, mk, List.range_succ]
theorem ix_row {w : Nat} {f : Nat → Bool} {j : Int} (hw : w ≤ 10000) (j0 : 0 ≤ j) (j1 : j < w) : ixD (.v (.str (mkRow w f))) (.v (.int j)) = some (.v (.str (bit (f j.toNat)))) := by
  rw [ix_s (by rw [mkRow_len]; exact hw)]
  have hl : j.toNat < w := by omega
  have e : atI (mkRow w f).cps.toList j = some (if f j.toNat = true then 49 else 48) := by
    unfold atI
    rw [ixN_pos j0 (by show j < ((Str.cs (mkRow w f)).length : Nat); rw [cs_len, mkRow_len]; exact j1)]
    show (Str.cs (mkRow w f))[j.toNat]? = _
    rw [mkRow_cs, List.getElem?_map, List.getElem?_range hl]; rfl
  rw [e]
  cases f j.toNat <;> rfl
theorem len_row {w : Nat} {f : Nat → Bool} (hw : w ≤ 10000) : lenD (.v (.str (mkRow w f))) = some (.v (.int w)) := by
  show (if (mkRow w f).length ≤ sizeLine then _ else _) = _
  rw [mkRow_len, if_pos (by rw [sizeLine_eq]; omega)]
theorem len_rows {o : Bool} {h w : Nat} {f : Nat → Nat → Bool} : lenD (.nd (.lst o) (rowsD h w f)) = some (.v (.int h)) := by simp [lenD]
theorem len_rowsT {h w : Nat} {f : Nat → Nat → Bool} : lenD (.nd .tup (rowsD h w f)) = some (.v (.int h)) := by simp [lenD]
end VS
namespace VS
open PySem PySem.Spec PyProof.Rows L2
theorem lc_it {α : Type} {l : List α} {enc F : α → D} {m0 : Md} {vs mb : List Nat} {it : I} {c : B} {g : Gd} {m : Md} {e : E} {s s1 s2 : List D} {x : D} (h : it s = .ok ((x, l.map enc), s1)) (hc : (clr m0 mb || !x.hasOwn) = true)
    (ho : D.hass NK.isOwn (l.map enc) = false) (hl : l.length ≤ 10000) (hs : wipeD vs s1 = s2)
    (he : ∀ a ∈ l, ∃ t1 t2, g (enc a) s2 = some t1 ∧ c t1 = .ok (true, t1) ∧ e t1 = .ok (F a, t2) ∧ (m.isTmp || !(F a).hasOwn) = true ∧ wipeD vs t2 = s2) : dLc m0 mb vs it g c m e s = .ok (.nd (.lst true) (l.map F), s2) := by
  unfold dLc
  rw [h]
  have hz : l.length ≤ sizeLine := by rw [sizeLine_eq]; omega
  simp only [R.bind]
  rw [if_pos (by rw [hc, ho, List.length_map, decide_eq_true hz]; rfl), hs, lcL_map (F := F) l he]
theorem lc_range {vs mb : List Nat} {it : I} {c : B} {g : Gd} {m : Md} {e : E} {s s1 s2 : List D} {n : Nat} {F : Nat → D} (h : it s = .ok ((.v .non, rangeD n), s1)) (hn : n ≤ 1000000) (hs : wipeD vs s1 = s2)
    (he : ∀ k, k < n → ∃ t1 t2, g (.int (k : Int)) s2 = some t1 ∧ c t1 = .ok (true, t1) ∧ e t1 = .ok (F k, t2) ∧ (m.isTmp || !(F k).hasOwn) = true ∧ wipeD vs t2 = s2) : dLc .tmp mb vs it g c m e s = .ok (.nd (.lst true) ((List.range n).map F), s2) := by
  rw [lc_rg h hn, hs, rangeD_map, lcL_map (F := F) (List.range n) (fun k m => he k (List.mem_range.mp m))]
  rfl
theorem for_it {m0 : Md} {mb : List Nat} {it : I} {g : Gd} {body : S} {s s1 : List D} {x : D} {xs : List D} (h : it s = .ok ((x, xs), s1)) (hc : (clr m0 mb || !x.hasOwn) = true) (ho : D.hass NK.isOwn xs = false) : sFor m0 mb it g body s = forL g body xs s1 := by
  unfold sFor
  rw [h]
  simp only
  rw [if_pos (by rw [hc, ho]; rfl)]
end VS
namespace VS
open PySem PySem.Spec PyProof.Rows L2
/-! ### lists compared -/
theorem datas_map {α : Type} {enc : α → D} {dat : α → PyData} (h : ∀ a, (enc a).data = some (dat a)) : ∀ l : List α, D.datas (l.map enc) = some (l.map dat)
  | [] => rfl
  | a :: r => by rw [List.map_cons, D.datas, h a, datas_map h r]; rfl
theorem eqvAll_map {α : Type} [DecidableEq α] {dat : α → PyData} (h : ∀ a b, PyData.eqv (dat a) (dat b) = decide (a = b)) : ∀ l m : List α, PyData.eqvAll (l.map dat) (m.map dat) = decide (l = m)
  | [], [] => rfl
  | [], b :: m => rfl
  | a :: l, [] => rfl
  | a :: l, b :: m => by
    rw [List.map_cons, List.map_cons, PyData.eqvAll, h, eqvAll_map h l m]
    by_cases e : a = b <;> by_cases f : l = m <;> simp [e, f]
theorem canAll_map {α : Type} {dat : α → PyData} : ∀ l : List α, (∀ a ∈ l, (dat a).canLay0 = true) → PyData.canLayAll0 (l.map dat) = true
  | [], _ => rfl
  | a :: l, h => by rw [List.map_cons, PyData.canLayAll0, h a List.mem_cons_self, canAll_map l fun b m => h b (List.mem_cons_of_mem _ m)]; rfl
theorem depthAll_map {α : Type} {dat : α → PyData} {n : Nat} : ∀ l : List α, (∀ a ∈ l, (dat a).depth ≤ n) → PyData.depthAll (l.map dat) ≤ n
  | [], _ => Nat.zero_le _
  | a :: l, h => by rw [List.map_cons, PyData.depthAll]; exact Nat.max_le.mpr ⟨h a List.mem_cons_self, depthAll_map l fun b m => h b (List.mem_cons_of_mem _ m)⟩
/-- a kind of data: its tree, its data, what equality says -/
theorem eqD_lsts {α : Type} [DecidableEq α] {enc : α → D} {dat : α → PyData} {a b : Bool} {l m : List α} (hd : ∀ a, (enc a).data = some (dat a)) (he : ∀ a b, PyData.eqv (dat a) (dat b) = decide (a = b))
    (hl : ∀ a ∈ l, (dat a).canLay0 = true ∧ (dat a).depth ≤ 60) (hm : ∀ a ∈ m, (dat a).canLay0 = true ∧ (dat a).depth ≤ 60) : eqD (.nd (.lst a) (l.map enc)) (.nd (.lst b) (m.map enc)) = some (decide (l = m)) := by
  have sh : ∀ l : List α, (∀ a ∈ l, (dat a).canLay0 = true ∧ (dat a).depth ≤ 60) → SeqAt.shaped (.list (l.map dat)) = true := fun l hl => by
    unfold SeqAt.shaped
    rw [PyData.canLay0, canAll_map l fun a m => (hl a m).1]
    have := depthAll_map l fun a m => (hl a m).2
    rw [PyData.depth]
    simp; omega
  have e : eqD (.nd (.lst a) (l.map enc)) (.nd (.lst b) (m.map enc)) = deepEq (.nd (.lst a) (l.map enc)) (.nd (.lst b) (m.map enc)) := rfl
  rw [e]
  unfold deepEq
  rw [D.data, D.data, datas_map hd, datas_map hd]
  simp only [Option.map_some]
  rw [sh l hl, sh m hm, if_pos (by rfl), PyData.eqv, eqvAll_map he]
theorem eqD_tups {α : Type} [DecidableEq α] {enc : α → D} {dat : α → PyData} {l m : List α} (hd : ∀ a, (enc a).data = some (dat a)) (he : ∀ a b, PyData.eqv (dat a) (dat b) = decide (a = b))
    (hl : ∀ a ∈ l, (dat a).canLay0 = true ∧ (dat a).depth ≤ 60) (hm : ∀ a ∈ m, (dat a).canLay0 = true ∧ (dat a).depth ≤ 60) : eqD (.nd .tup (l.map enc)) (.nd .tup (m.map enc)) = some (decide (l = m)) := by
  have sh : ∀ l : List α, (∀ a ∈ l, (dat a).canLay0 = true ∧ (dat a).depth ≤ 60) → SeqAt.shaped (.tuple (l.map dat)) = true := fun l hl => by
    unfold SeqAt.shaped
    rw [PyData.canLay0, canAll_map l fun a m => (hl a m).1]
    have := depthAll_map l fun a m => (hl a m).2
    rw [PyData.depth]
    simp; omega
  have e : eqD (.nd .tup (l.map enc)) (.nd .tup (m.map enc)) = deepEq (.nd .tup (l.map enc)) (.nd .tup (m.map enc)) := rfl
  rw [e]
  unfold deepEq
  rw [D.data, D.data, datas_map hd, datas_map hd]
  simp only [Option.map_some]
  rw [sh l hl, sh m hm, if_pos (by rfl), PyData.eqv, eqvAll_map he]
theorem str_beq (a b : Str) : (a == b) = decide (a = b) := by
  by_cases h : a = b
  · subst h; simp
  · simp [h]
theorem int_beq (a b : Int) : (a == b) = decide (a = b) := by
  by_cases h : a = b
  · subst h; simp
  · simp [h]
theorem eqD_strs {a b : Bool} {l m : List Str} (hl : ∀ z ∈ l, PyData.strOk z = true) (hm : ∀ z ∈ m, PyData.strOk z = true) : eqD (.nd (.lst a) (l.map D.str)) (.nd (.lst b) (m.map D.str)) = some (decide (l = m)) :=
  eqD_lsts (dat := .str) (fun _ => rfl) (fun a b => by rw [PyData.eqv, str_beq]) (fun z mz => ⟨hl z mz, Nat.zero_le _⟩) fun z mz => ⟨hm z mz, Nat.zero_le _⟩
theorem eqD_strsT {l m : List Str} (hl : ∀ z ∈ l, PyData.strOk z = true) (hm : ∀ z ∈ m, PyData.strOk z = true) : eqD (.nd .tup (l.map D.str)) (.nd .tup (m.map D.str)) = some (decide (l = m)) :=
  eqD_tups (dat := .str) (fun _ => rfl) (fun a b => by rw [PyData.eqv, str_beq]) (fun z mz => ⟨hl z mz, Nat.zero_le _⟩) fun z mz => ⟨hm z mz, Nat.zero_le _⟩
theorem eqD_ints {a b : Bool} {l m : List Int} : eqD (.nd (.lst a) (l.map D.int)) (.nd (.lst b) (m.map D.int)) = some (decide (l = m)) :=
  eqD_lsts (dat := .int) (fun _ => rfl) (fun a b => by rw [PyData.eqv, int_beq]) (fun z mz => ⟨rfl, Nat.zero_le _⟩) fun z mz => ⟨rfl, Nat.zero_le _⟩
theorem eqD_intsT {l m : List Int} : eqD (.nd .tup (l.map D.int)) (.nd .tup (m.map D.int)) = some (decide (l = m)) :=
  eqD_tups (dat := .int) (fun _ => rfl) (fun a b => by rw [PyData.eqv, int_beq]) (fun z mz => ⟨rfl, Nat.zero_le _⟩) fun z mz => ⟨rfl, Nat.zero_le _⟩
end VS
namespace VS
open PySem PySem.Spec PyProof.Rows L2
theorem bits_ok {z : Str} (h : Bits z) : PyData.strOk z = true := by
  unfold PyData.strOk
  rw [Array.all_eq_true']
  intro c hc
  rcases h c (by simpa [Str.cs] using hc) with rfl | rfl <;> decide
theorem rows_ok {h w : Nat} {f : Nat → Nat → Bool} : ∀ z ∈ mk h w f, PyData.strOk z = true := fun z m => bits_ok (mk_mem m).2
theorem eqD_rows {a b : Bool} {h w h' w' : Nat} {f g : Nat → Nat → Bool} : eqD (.nd (.lst a) (rowsD h w f)) (.nd (.lst b) (rowsD h' w' g)) = some (decide (mk h w f = mk h' w' g)) := eqD_strs rows_ok rows_ok
theorem eqD_rowsT {h w h' w' : Nat} {f g : Nat → Nat → Bool} : eqD (.nd .tup (rowsD h w f)) (.nd .tup (rowsD h' w' g)) = some (decide (mk h w f = mk h' w' g)) := eqD_strsT rows_ok rows_ok
theorem neD_rows {a b : Bool} {h w h' w' : Nat} {f g : Nat → Nat → Bool} : neD (.nd (.lst a) (rowsD h w f)) (.nd (.lst b) (rowsD h' w' g)) = some (!decide (mk h w f = mk h' w' g)) := by unfold neD; rw [eqD_rows]; rfl
end VS
namespace VS
open PySem PySem.Spec PyProof.Rows L2
theorem take_min {α : Type} (k : Nat) (l : List α) : l.take (min k l.length) = l.take k := by
  by_cases h : k ≤ l.length
  · rw [Nat.min_eq_left h]
  · rw [Nat.min_eq_right (by omega), List.take_of_length_le (Nat.le_refl _), List.take_of_length_le (by omega)]
theorem cutL_to {α : Type} (xs : List α) (k : Nat) : cutL xs none (some (k : Int)) = xs.take k := by
  unfold cutL
  rw [HT.sIx_nat, show HT.sIx xs.length 0 none = 0 from rfl, List.drop_zero, Nat.sub_zero, take_min]
theorem cutL_from {α : Type} (xs : List α) (k : Nat) : cutL xs (some (k : Int)) none = xs.drop k := by
  unfold cutL
  rw [HT.sIx_nat, show HT.sIx xs.length xs.length none = xs.length from rfl]
  by_cases h : k ≤ xs.length
  · rw [Nat.min_eq_left h, List.take_of_length_le (by rw [List.length_drop]; omega)]
  · rw [Nat.min_eq_right (by omega), List.drop_of_length_le (Nat.le_refl _), List.drop_of_length_le (by omega), List.take_nil]
theorem cutL_both {α : Type} (xs : List α) (a b : Nat) : cutL xs (some (a : Int)) (some (b : Int)) = (xs.drop a).take (b - a) := by
  unfold cutL
  rw [HT.sIx_nat, HT.sIx_nat]
  by_cases h : a ≤ xs.length
  · rw [Nat.min_eq_left h]
    by_cases h2 : b ≤ xs.length
    · rw [Nat.min_eq_left h2]
    · rw [Nat.min_eq_right (by omega), List.take_of_length_le (by rw [List.length_drop]; omega), List.take_of_length_le (by rw [List.length_drop]; omega)]
  · rw [Nat.min_eq_right (show xs.length ≤ a by omega), List.drop_of_length_le (Nat.le_refl _), List.drop_of_length_le (show xs.length ≤ a by omega)]; simp
theorem cutS_to (z : Str) (k : Nat) : Str.cs (cutS z none (some (k : Int))) = (Str.cs z).take k := by
  have e : Str.cs (cutS z none (some (k : Int))) = cutL (Str.cs z) none (some (k : Int)) := by unfold cutS cutL Str.cs; simp [PySem.Str.length]
  rw [e, cutL_to]
theorem cutS_from (z : Str) (k : Nat) : Str.cs (cutS z (some (k : Int)) none) = (Str.cs z).drop k := by
  have e : Str.cs (cutS z (some (k : Int)) none) = cutL (Str.cs z) (some (k : Int)) none := by unfold cutS cutL Str.cs; simp [PySem.Str.length]
  rw [e, cutL_from]
theorem cutS_both (z : Str) (a b : Nat) : Str.cs (cutS z (some (a : Int)) (some (b : Int))) = ((Str.cs z).drop a).take (b - a) := by
  have e : Str.cs (cutS z (some (a : Int)) (some (b : Int))) = cutL (Str.cs z) (some (a : Int)) (some (b : Int)) := by unfold cutS cutL Str.cs; simp [PySem.Str.length]
  rw [e, cutL_both]
end VS
namespace VS
open PySem PySem.Spec PyProof.Rows L2
theorem rg2_one {d : EA} {s s' : List D} {b : Nat} (h : d s = .ok ([.v (.int 1), .v (.int b)], s')) (hb : b ≤ 1000000) : dRg2 d s = .ok ((.v .non, (List.range (b - 1)).map fun (k : Nat) => D.int (1 + (k : Int))), s') := by
  unfold dRg2
  rw [h]
  simp only [R.bind]
  rw [if_pos ⟨by omega, by omega⟩]
  have : ((b : Int) - 1).toNat = b - 1 := by omega
  rw [this]
/-- a for loop that looks for the first item with P -/
theorem forL_find {α : Type} {g : Gd} {body : S} {enc : α → D} (P : α → Bool) (r : α → D) (J : List D → Prop) (K : α → List D → Prop) : ∀ (l : List α) (s : List D), J s →
    (∀ a ∈ l, ∀ s, J s → ∃ s1, g (enc a) s = some s1 ∧ ((P a = true ∧ ∃ s2, body s1 = .rt (r a) s2 ∧ K a s2) ∨ (P a = false ∧ ∃ s2, body s1 = .nx s2 ∧ J s2))) →
    (∃ pre a post s2, l = pre ++ a :: post ∧ (∀ b ∈ pre, P b = false) ∧ P a = true ∧ forL g body (l.map enc) s = .rt (r a) s2 ∧ K a s2) ∨ ((∀ b ∈ l, P b = false) ∧ ∃ s2, forL g body (l.map enc) s = .nx s2 ∧ J s2)
  | [], s, h, _ => .inr ⟨fun _ m => (nomatch m), s, by rw [List.map_nil, forL], h⟩
  | a :: l, s, h, step => by
    obtain ⟨s1, e1, h1⟩ := step a List.mem_cons_self s h
    rcases h1 with ⟨hp, s2, e2, k2⟩ | ⟨hp, s2, e2, j2⟩
    · refine .inl ⟨[], a, l, s2, rfl, fun _ m => (nomatch m), hp, ?_, k2⟩
      rw [List.map_cons, forL, e1]; simp only [e2]
    · rcases forL_find P r J K l s2 j2 fun b m => step b (List.mem_cons_of_mem _ m) with ⟨pre, b, post, s3, q1, q2, q3, q4, q5⟩ | ⟨q1, s3, q2, q3⟩
      · refine .inl ⟨a :: pre, b, post, s3, by rw [q1]; rfl, fun c m => ?_, q3, ?_, q5⟩
        · rcases List.mem_cons.mp m with rfl | m
          · exact hp
          · exact q2 c m
        · rw [List.map_cons, forL, e1]; simp only [e2, q4]
      · refine .inr ⟨fun b m => ?_, s3, ?_, q3⟩
        · rcases List.mem_cons.mp m with rfl | m
          · exact hp
          · exact q1 b m
        · rw [List.map_cons, forL, e1]; simp only [e2, q2]
/-! ### lists told by their items -/
section
variable {α : Type}
theorem gen_ext {n : Nat} {F : Nat → α} {l : List α} (hl : l.length = n) (h : ∀ i, i < n → l[i]? = some (F i)) : l = (List.range n).map F := by
  apply List.ext_getElem?
  intro i
  by_cases hi : i < n
  · rw [h i hi, List.getElem?_map, List.getElem?_range hi]; rfl
  · rw [List.getElem?_eq_none (by omega), List.getElem?_eq_none (by simp; omega)]
theorem gen_get {n i : Nat} {F : Nat → α} (h : i < n) : ((List.range n).map F)[i]? = some (F i) := by rw [List.getElem?_map, List.getElem?_range h]; rfl
theorem gen_len {n : Nat} {F : Nat → α} : ((List.range n).map F).length = n := by simp
theorem gen_take {n m : Nat} {F : Nat → α} (h : m ≤ n) : ((List.range n).map F).take m = (List.range m).map F := by
  refine gen_ext (by simp; omega) fun i hi => ?_
  rw [List.getElem?_take_of_lt hi, gen_get (by omega)]
theorem gen_drop {n m : Nat} {F : Nat → α} : ((List.range n).map F).drop m = (List.range (n - m)).map fun i => F (m + i) := by
  refine gen_ext (by simp) fun i hi => ?_
  rw [List.getElem?_drop, gen_get (by omega)]
theorem gen_append {a b : Nat} {F G : Nat → α} : (List.range a).map F ++ (List.range b).map G = (List.range (a + b)).map fun i => if i < a then F i else G (i - a) := by
  refine gen_ext (by simp) fun i hi => ?_
  by_cases h : i < a
  · rw [List.getElem?_append_left (by simpa using h), gen_get h, if_pos h]
  · rw [List.getElem?_append_right (by simp; omega), gen_len, gen_get (by omega), if_neg h]
theorem gen_rot {n m : Nat} {F : Nat → α} (h : m ≤ n) : ((List.range n).map F).drop m ++ ((List.range n).map F).take m = (List.range n).map fun i => F ((m + i) % n) := by
  rw [gen_take h, gen_drop, gen_append, show n - m + m = n by omega]
  refine List.map_congr_left fun i hi => ?_
  have hi := List.mem_range.mp hi
  by_cases h2 : i < n - m
  · rw [if_pos h2, Nat.mod_eq_of_lt (by omega)]
  · rw [if_neg h2, show m + i = (i - (n - m)) + n by omega, Nat.add_mod_right, Nat.mod_eq_of_lt (by omega)]
theorem gen_rep {d : Nat} {F : Nat → α} : ∀ k : Nat, (List.replicate k ((List.range d).map F)).flatten = (List.range (k * d)).map fun i => F (i % d)
  | 0 => by simp
  | k + 1 => by
    rw [List.replicate_succ, List.flatten_cons, gen_rep k, gen_append, show d + k * d = (k + 1) * d by rw [Nat.add_mul]; omega]
    refine List.map_congr_left fun i hi => ?_
    by_cases h : i < d
    · rw [if_pos h, Nat.mod_eq_of_lt h]
    · rw [if_neg h, ← Nat.mod_eq_sub_mod (by omega)]
theorem gen_rev {n : Nat} {F : Nat → α} : ((List.range n).map F).reverse = (List.range n).map fun i => F (n - 1 - i) := by
  refine gen_ext (by simp) fun i hi => ?_
  rw [List.getElem?_reverse (by simpa using hi), gen_len, gen_get (by omega)]
end
/-! the same of rows -/
theorem rows_take {h w n : Nat} {f : Nat → Nat → Bool} (hn : n ≤ h) : (rowsD h w f).take n = rowsD n w f := by rw [rowsD_map, gen_take hn, ← rowsD_map]
theorem rows_drop {h w n : Nat} {f : Nat → Nat → Bool} : (rowsD h w f).drop n = rowsD (h - n) w fun i => f (n + i) := by rw [rowsD_map, gen_drop, rowsD_map]
theorem rows_rot {h w n : Nat} {f : Nat → Nat → Bool} (hn : n ≤ h) : (rowsD h w f).drop n ++ (rowsD h w f).take n = rowsD h w fun i => f ((n + i) % h) := by rw [rowsD_map, gen_rot hn, rowsD_map]
theorem rows_rep {k d w : Nat} {f : Nat → Nat → Bool} : (List.replicate k (rowsD d w f)).flatten = rowsD (k * d) w fun i => f (i % d) := by rw [rowsD_map, gen_rep, rowsD_map]
theorem rows_rev {h w : Nat} {f : Nat → Nat → Bool} : (rowsD h w f).reverse = rowsD h w fun i => f (h - 1 - i) := by rw [rowsD_map, gen_rev, rowsD_map]
theorem row_take {w n : Nat} {f : Nat → Bool} (hn : n ≤ w) : cutS (mkRow w f) none (some (n : Int)) = mkRow n f := by
  apply str_ext; rw [cutS_to, mkRow_cs, mkRow_cs, gen_take hn]
theorem row_drop {w n : Nat} {f : Nat → Bool} : cutS (mkRow w f) (some (n : Int)) none = mkRow (w - n) fun j => f (n + j) := by
  apply str_ext; rw [cutS_from, mkRow_cs, mkRow_cs, gen_drop]
theorem row_app {a b : Nat} {f g : Nat → Bool} : mkRow a f ++ mkRow b g = mkRow (a + b) fun j => if j < a then f j else g (j - a) := by
  apply str_ext; rw [cs_append, mkRow_cs, mkRow_cs, mkRow_cs, gen_append]
  refine List.map_congr_left fun i _ => ?_
  by_cases h : i < a <;> simp [h]
theorem row_rot {w n : Nat} {f : Nat → Bool} (hn : n ≤ w) : cutS (mkRow w f) (some (n : Int)) none ++ cutS (mkRow w f) none (some (n : Int)) = mkRow w fun j => f ((n + j) % w) := by
  apply str_ext; rw [cs_append, cutS_from, cutS_to, mkRow_cs, mkRow_cs, gen_rot hn]
theorem foldl_reps (a : Array Nat) : ∀ (k : Nat) (z : Array Nat), ((List.replicate k a).foldl (· ++ ·) z).toList = z.toList ++ (List.replicate k a.toList).flatten
  | 0, z => by simp
  | k + 1, z => by rw [List.replicate_succ, List.foldl_cons, foldl_reps a k, List.replicate_succ, List.flatten_cons, Array.toList_append, List.append_assoc]
theorem mul_cs {z : Str} {k : Int} (h : 0 ≤ k) : Str.cs (Txt.mul z k) = (List.replicate k.toNat (Str.cs z)).flatten := by
  unfold Txt.mul
  by_cases h1 : k < 1
  · rw [if_pos h1, show k.toNat = 0 by omega]; rfl
  · rw [if_neg h1]
    by_cases h2 : (k == 1 || z.length == 0) = true
    · rw [if_pos h2]
      rw [Bool.or_eq_true] at h2
      rcases h2 with h2 | h2
      · have : k = 1 := by simpa using h2
        subst this; simp
      · have h3 : (Str.cs z).length = 0 := by rw [cs_len]; simpa using h2
        rw [List.length_eq_zero_iff.mp h3]
        induction k.toNat with
        | zero => rfl
        | succ n ih => rw [List.replicate_succ, List.flatten_cons, ← ih]; rfl
    · rw [if_neg h2]
      show ((List.replicate k.toNat z.cps).foldl (· ++ ·) #[]).toList = _
      rw [foldl_reps]; rfl
theorem row_mul {w k : Nat} {f : Nat → Bool} : Txt.mul (mkRow w f) (k : Int) = mkRow (k * w) fun j => f (j % w) := by
  apply str_ext; rw [mul_cs (by omega), mkRow_cs, mkRow_cs, Int.toNat_natCast, gen_rep]
end VS
namespace VS
open PySem PySem.Spec PyProof.Rows L2
/-! ### calls where something may be let out -/
section
variable {X : Cx} {W : WX} {io : List Nat} {CX : CXT} {k : Nat} {C f : Addr} {fd : FuncData} {ps : List Str} {ds : List Value} {dvs : List V} {sp : Sp} {x m : Str} {p pos apos : Pos} {o e : Expr} {es : List Expr} {ta : TE} {t : TA} {Es : L2.St → XK} {E0 : XK}
theorem px0 (σ : L2.St) : PassesAt CX0 X σ (WE W σ) := by intro _ _ _ _ _ _ h; exact h.elim
theorem run_makeS {pins : List (Addr × Obj)} {σ : L2.St} {H : Hp} {s : Shared} {Q : VK} {us : List Value} {vs : List V} (M : Mk X.K C f) (F : FnOk X.prog X.w X.K X.mg X.base CX k f fd ps sp) (hr : Room (k + 1) X.A) (hb : Binds X.K fd ps ds) (hd : Vals dvs ds)
    (hx : PassesAt CX X σ E0) (I : L2.Inv X pins σ H s) (r : Vals vs us)
    (h : ∀ x dx, H x = none → H dx = none → dx ≠ x → sp (.ref x :: (vs ++ dvs)) (upd (upd H dx (.own x)) x (.ins C dx [])) (fun v H2 => v = .non ∧ Q (.ref x) H2) E0) :
    wpAny (model X.prog X.w) X.A (call (.ref C) us) (EP X pins σ Q) X.xe s := by
  have hq := h (s.heap.objs.size + 1) s.heap.objs.size (I.hok.fresh (Nat.le_succ _)) (I.hok.fresh (Nat.le_refl _)) (Nat.ne_of_lt (Nat.lt_succ_self _))
  have I2 := Inv.made (C := C) I
  have r2 : Vals (V.ref (s.heap.objs.size + 1) :: (vs ++ dvs)) (Value.ref (s.heap.objs.size + 1) :: (us ++ ds)) := .cons rfl (r.append hd)
  have hl : (Value.ref (s.heap.objs.size + 1) :: us ++ ds).length = ps.length := by
    have e := r2.length
    rw [F.len _ _ _ _ hq] at e
    exact e.symm
  refine wpAny_call (make_map (f := f) I.kIn M.makes M.init (beq_iff_eq.mp M.fn) (codeAny_mono (F.run _ X.stack _ _ ⟨Value.ref (s.heap.objs.size + 1) :: us, []⟩ (Value.ref (s.heap.objs.size + 1) :: (us ++ ds)) _ _ E0 (hr.make C us [])
    (I2.env0.make C us []) (hb _ (Value.ref (s.heap.objs.size + 1) :: us) I2.kIn hl) r2 hq) fun r s' hq' => ?_))
  cases r with
  | error e => exact hx pins _ _ e s' I2 hq'
  | ok fl =>
    cases fl with
    | ret u =>
      obtain ⟨v, H', I3, rv, ev, q3⟩ := I2.after hq'
      subst ev
      exact ⟨rv, ⟨V.ref (s.heap.objs.size + 1), H', I3, rfl, q3⟩⟩
    | next => exact False.elim hq'
    | brk => exact False.elim hq'
    | cont => exact False.elim hq'
def tMakeS (C : Addr) (sp : Sp) (Es : L2.St → XK) (t : TA) : TE := fun σ H Q => tMake C sp [] (Es σ) t σ H Q
theorem pe_makeS (M : Mk X.K C f) (F : FnOk X.prog X.w X.K X.mg X.base CX k f fd ps sp) (hr : Room (k + 1) X.A) (hg : Gl X x) (hm : X.mg x = some (.ref C)) (hb : Binds X.K fd ps []) (hx : ∀ σ, PassesAt CX X σ (Es σ))
    (ha : PA X (e :: es) t) (hdb : (x == ("__debug__" : Str)) = false := by decide) (he : starEach (e :: es) X.env = (false, eval e X.env) :: starEach es X.env := by rfl) (hpl : (backTo pos (starEach es X.env)).any (·.1) = false := by rfl) :
    PE X (.Call (.Name x p) (e :: es) [] pos) (tMakeS C sp Es t) := by
  refine ⟨fun pins s σ H Q I h => ?_⟩
  refine wpAny_Call_Name_kw (ld_glob I hg hm ?_ hdb)
  refine PySem.W.callWith_K (h₀ := X.base) I.ok.mod.kin M.kp (thn (ha.run pos pins s σ H _ I h) fun us s1 ⟨vs, H1, I1, r, q⟩ => ⟨I1.kIn, ?_⟩) he hpl
  exact run_makeS M F hr hb .nil (hx σ) I1 r q
def tMethS (C : Addr) (m : Str) (sp : Sp) (Es : L2.St → XK) (ta : TE) (t : TA) : TE := fun σ H Q => tMeth C m sp [] (Es σ) ta t σ H Q
theorem pe_methS {pl : Sem Bool} (he : PE X o ta) (c : Cls X.K C) (hm : Meth X.K C m f) (F : FnOk X.prog X.w X.K X.mg X.base CX k f fd ps sp) (hr : Room k X.A) (hb : Binds X.K fd ps []) (hx : ∀ σ, PassesAt CX X σ (Es σ)) (ha : PA X (e :: es) t)
    (hst : starEach (e :: es) X.env = (false, eval e X.env) :: starEach es X.env := by rfl) (hpl : (backTo pos (starEach es X.env)).any (·.1) = false := by rfl)
    (ht : eval (.Call (.Attribute o m apos) (e :: es) [] pos) X.env = (do
      let ov ← eval o X.env
      standAt apos.atName
      let (f, first) ← holding [ov] (getMethod ov m pl)
      callWith pos f first (backTo pos (starEach (e :: es) X.env)) (backToKw pos (keywordEach [] X.env))) := by rfl) :
    PE X (.Call (.Attribute o m apos) (e :: es) [] pos) (tMethS C m sp Es ta t) := by
  refine ⟨fun pins s σ H Q I h => ?_⟩
  refine PySem.W.methodCall_KW (pl := pl) (thn (he.run pins s σ H _ I h) fun u s1 ⟨x, H1, I1, rx, a, dx, fs, ex, ea, l, q⟩ => ?_) ht
  subst ex
  obtain rfl : u = Value.ref a := rx
  refine getmeth_ok I1 ea c hm l ?_
  refine PySem.W.callWith_K (first := [.ref a]) (h₀ := X.base) I.ok.mod.kin hm.kp (thn (ha.run pos pins s1 σ H1 _ I1 q) fun us s2 ⟨vs, H2, I2, r, q2⟩ => ⟨I2.kIn, ?_⟩) hst hpl
  have q2 : sp ((.ref a :: vs) ++ []) H2 Q (Es σ) := q2
  rw [List.append_nil] at q2
  exact run_fnS (us := .ref a :: us) (vs := .ref a :: vs) (E := Es) F hr hb (hx σ) I2 (.cons rfl r) q2
end
section
variable {X : Cx} {W : WX} {io : List Nat} {CX : CXT} {k : Nat} {C f g q : Addr} {mc : Value} {fd : FuncData} {ps : List Str} {x m : Str} {p pos apos : Pos} {o e : Expr} {es : List Expr} {ks : List AK} {m1 : Md} {d1 md : List Nat} {ta : TE} {t : TA} {da : E} {dc : EC} {F : FD} {pl : Sem Bool} {Es : L2.St → XK} {sp : Sp}
theorem de_callX (FN : FnOk X.prog X.w X.K X.mg X.base CX k f fd ps (spOf X.K (ks.map AK.pm) F)) (hr : Room k X.A) (hg : Gl X x) (hm : X.mg x = some (.ref f)) (hk : PySem.W.keepIn X.K (.ref f) = true) (hb : Binds X.K fd ps []) (hx : ∀ σ, PassesAt CX X σ (WE W σ)) (hc : DC X W io ks md (e :: es) t dc)
    (hn : (ixs ks).Nodup := by decide) (hmv : ((ixs ks).all fun i => !io.contains i || (ioIx ks).contains i) = true := by rfl)
    (hdb : (x == ("__debug__" : Str)) = false := by decide) (he : starEach (e :: es) X.env = (false, eval e X.env) :: starEach es X.env := by rfl) (hpl : (backTo pos (starEach es X.env)).any (·.1) = false := by rfl) :
    DE X W io .tmp (md ++ ixs ks) (.Call (.Name x p) (e :: es) [] pos) (tCallSD (spOf X.K (ks.map AK.pm) F) [] (WE W) t) (dCall F ks dc) :=
  ⟨pe_callSD FN hr hg hm hk hb .nil hx hc.pa hdb he hpl, erd_call hc.rd (fun _ _ _ _ h => h) hn hmv⟩
theorem de_makeX (imm : Bool) (M : Mk X.K C f) (FN : FnOk X.prog X.w X.K X.mg X.base CX k f fd ps (spOf X.K (.io :: ks.map AK.pm) F)) (hr : Room (k + 1) X.A) (hg : Gl X x) (hm : X.mg x = some (.ref C)) (hb : Binds X.K fd ps []) (hx : ∀ σ, PassesAt CX X σ (WE W σ)) (hc : DC X W io ks md (e :: es) t dc)
    (hn : (ixs ks).Nodup := by decide) (hmv : ((ixs ks).all fun i => !io.contains i || (ioIx ks).contains i) = true := by rfl)
    (hdb : (x == ("__debug__" : Str)) = false := by decide) (he : starEach (e :: es) X.env = (false, eval e X.env) :: starEach es X.env := by rfl) (hpl : (backTo pos (starEach es X.env)).any (·.1) = false := by rfl) :
    DE X W io .tmp (md ++ ixs ks) (.Call (.Name x p) (e :: es) [] pos) (tMakeS C (spOf X.K (.io :: ks.map AK.pm) F) (WE W) t) (dMake imm C F ks dc) :=
  ⟨pe_makeS M FN hr hg hm hb hx hc.pa hdb he hpl, erd_makeS hc.rd (fun _ _ _ _ h => h) hn hmv⟩
theorem tMethS_eq : tMethS C m sp Es ta t = tCallSD sp [] Es (tConsC (fun v H => ∃ a dx fs, v = .ref a ∧ H a = some (.ins C dx fs) ∧ fs.lookup m = none) ta t) := by
  funext σ H Q
  show ta σ H _ = ta σ H _
  congr 1
  funext x H1
  exact propext ⟨fun ⟨a, dx, fs, h1, h2, h3, h4⟩ => ⟨⟨a, dx, fs, h1, h2, h3⟩, h4⟩, fun ⟨⟨a, dx, fs, h1, h2, h3⟩, h4⟩ => ⟨a, dx, fs, h1, h2, h3, h4⟩⟩
theorem de_methX (c : Cls X.K C) (hm : Meth X.K C m f) (FN : FnOk X.prog X.w X.K X.mg X.base CX k f fd ps (spOf X.K (.val :: ks.map AK.pm) F)) (hr : Room k X.A) (hb : Binds X.K fd ps []) (hx : ∀ σ, PassesAt CX X σ (WE W σ)) (he : DE X W io m1 d1 o ta da) (hc : DC X W io ks md (e :: es) t dc)
    (hn : (ixs ks).Nodup := by decide) (hmv : ((ixs ks).all fun i => !io.contains i || (ioIx ks).contains i) = true := by rfl)
    (hst : starEach (e :: es) X.env = (false, eval e X.env) :: starEach es X.env := by rfl) (hpl : (backTo pos (starEach es X.env)).any (·.1) = false := by rfl)
    (ht : eval (.Call (.Attribute o m apos) (e :: es) [] pos) X.env = (do
      let ov ← eval o X.env
      standAt apos.atName
      let (f, first) ← holding [ov] (getMethod ov m pl)
      callWith pos f first (backTo pos (starEach (e :: es) X.env)) (backToKw pos (keywordEach [] X.env))) := by rfl) :
    DE X W io .tmp ((d1 ++ md) ++ ixs ks) (.Call (.Attribute o m apos) (e :: es) [] pos) (tMethS C m (spOf X.K (.val :: ks.map AK.pm) F) (WE W) ta t) (dCall F (.val m1 :: ks) (dCvalC (chkM C m) m1 md da dc)) :=
  ⟨pe_methS he.pe c hm FN hr hb hx hc.pa hst hpl ht, by
    rw [tMethS_eq]
    exact erd_call (ks := .val m1 :: ks) (crd_valC he.rd hc.rd (fun H t ok h => chkM_of H t ok h)) (fun _ _ _ _ h => h) hn hmv⟩
end
end VS
namespace VS
open PySem PySem.Spec PyProof.Rows L2
/-! ### raise, and defs that may raise -/
def sRaise (c : Value) : S := fun s => .ex c none s
section
variable {X : Cx} {W : WX} {io : List Nat}
theorem ds_raise {C : Addr} {e : Expr} {pos : Pos} (tk : Takes X W) (pm : PMk X e (fun _ H Q => Q (.ref C) none H)) (hc : X.calm = true := by rfl) : DS X W io [] (.Raise (some e) none pos) (fun _ σ H => W (.ref C) none σ H) (sRaise (.ref C)) :=
  ⟨ps_raise hc tk pm, fun ρ ts σ H Z S h => h ts σ H none S rfl Step.refl rfl⟩
end
section
variable {P : Program} {w : World} {K : PySem.W.Frag} {mg : Str → Option Value} {base : Heap}
def WO (E : XK) : WX := fun cls d _ H => E cls d H
theorem fn_vsX {x qual : Str} {st : Stmt} {f : Addr} {fd : FuncData} {N ps : List Str} {k : Nat} (pm : List PM) {d : S} (F : Fun K x qual st f fd) (S : FnScope N ps (defScope st)) (hp : pm.length = ps.length) (hl : pm.length ≤ N.length)
    (hbody : ∀ (cdv : Value) (A : Around) (outer : List Env) (s : Shared) (H : Hp) (E : XK), Room k (A.deeper (envOfC qual (defScope st) s.heap.objs.size f cdv)) →
      ∃ t md, DSs (cxOf (L2.CX P w) P w K mg base N qual (defScope st) f cdv A outer s H E) (WO E) (pmIx 0 pm) md (defBody st) t d) : FnOk P w K mg base (L2.CX P w) (k + 1) f fd ps (spOf K pm (fnD N.length (pmIx 0 pm) d)) := by
  refine F.okX S (fun vs H Q E h => by rw [sp_len h, hp]) fun cdv A outer s H vs Q E hr h => ?_
  obtain ⟨t, md, hb⟩ := hbody cdv A outer s H E hr
  exact ⟨t, hb.ps, body_ok (E := E) hl hb.rd h⟩
end
end VS
namespace VS
open PySem PySem.Spec PyProof.Rows L2
/-! ### try .. except of several classes, with and without a name -/
abbrev HTs := Addr → Value → Option Addr → TS
def endU (i : Nat) (D : Ends) : Ends := { nx := fun σ' H' => D.nx (σ'.set i none) H', rt := D.rt, bk := fun σ' H' => D.bk (σ'.set i none) H', ct := fun σ' H' => D.ct (σ'.set i none) H' }
def wHs (K : PySem.W.Frag) (Wout : WX) (D : Ends) : List (Value × Option Nat × HTs) → WX
  | [] => Wout
  | (c, none, ts) :: r => fun cls d σ H => ∃ b, PySem.W.exmOne K cls c = some b ∧ (b = true → ∀ a, H a = none → ts a cls d D σ H) ∧ (b = false → wHs K Wout D r cls d σ H)
  | (c, some i, ts) :: r => fun cls d σ H => ∃ b, PySem.W.exmOne K cls c = some b ∧ (b = true → ∀ a, H a = none → ts a cls d (endU i D) (σ.set i (some (.ref a))) H) ∧ (b = false → wHs K Wout D r cls d σ H)
inductive HdsA (X : Cx) : List ExceptHandler → List (Value × Option Nat × HTs) → Prop
  | nil : HdsA X [] []
  | cons {x : Str} {c : Value} {ts : HTs} {b₀ : Stmt} {suite : List Stmt} {np pos' : Pos} {hds : List ExceptHandler} {l : List (Value × Option Nat × HTs)} (hc : Names X x c)
      (hsu : ∀ (a : Addr) (oe : Obj) (cls : Value) (d : Option Addr) (pn : List (Addr × Obj)), Zc cls d oe → (∃ vs, oe.data = .fields vs) → PSs (X.suite a ((a, oe) :: pn)) (b₀ :: suite) (ts a cls d)) (r : HdsA X hds l) :
      HdsA X (.ExceptHandler (some (.Name x np)) none (b₀ :: suite) pos' :: hds) ((c, none, ts) :: l)
  | as {x n : Str} {c : Value} {i : Nat} {ts : HTs} {b₀ : Stmt} {suite : List Stmt} {np pos' : Pos} {hds : List ExceptHandler} {l : List (Value × Option Nat × HTs)} (hi : X.N[i]? = some n) (hln : X.env.kindOf n = some .local) (hc : Names X x c)
      (hsu : ∀ (a : Addr) (oe : Obj) (cls : Value) (d : Option Addr) (pn : List (Addr × Obj)), Zc cls d oe → (∃ vs, oe.data = .fields vs) → PSs (X.suite a ((a, oe) :: pn)) (b₀ :: suite) (ts a cls d)) (r : HdsA X hds l) :
      HdsA X (.ExceptHandler (some (.Name x np)) (some n) (b₀ :: suite) pos' :: hds) ((c, some i, ts) :: l)
section
variable {X : Cx} {body : List Stmt} {h₀ : ExceptHandler} {hds : List ExceptHandler} {l : List (Value × Option Nat × HTs)} {pos : Pos} {tb : WX → TS} {Wout : WX}
theorem ps_try_hs (hs : X.stack = X.env :: X.outer) (hf : X.env.frame = some X.env.locals) (hN : X.N.Nodup) (tk : Takes X Wout)
    (hb : ∀ (W : WX) (pn : List (Addr × Obj)) (xe : Value → Shared → Prop), Takes (X.tr pn xe) W → PassesOwn (model X.prog X.w) X.A X.env xe → PSs (X.tr pn xe) body (tb W))
    (hh : HdsA X (h₀ :: hds) l) : PS X (.Try body (h₀ :: hds) [] [] pos) (fun D σ H => σ.length = X.N.length → tb (fun c d σ' H' => σ'.length = X.N.length → wHs X.K Wout D l c d σ' H') D σ H) := by
  refine ⟨fun pins s σ H D I h => ?_⟩
  have ok := I.ok
  have hfr : X.A.frames = some (X.env :: X.outer) := by rw [ok.frames, hs]
  refine wpAny_Try_except ?_
  refine wpAny_mono ((hb (fun c d σ' H' => σ'.length = X.N.length → wHs X.K Wout D l c d σ' H') (X.pn ++ pins) (fun e s₁ => wpAny (model X.prog X.w) X.A (noteFrame e X.env) (fun _ s₂ => wpAny (model X.prog X.w) X.A (setFlight e none) (fun _ s₃ =>
    wpAny (model X.prog X.w) X.A (handleBy e X.env (h₀ :: hds)) (SP X pins D) X.xe s₃) X.xe s₂) X.xe s₁) (fun u s' xx => ?_) PassesOwn.looking).run [] s σ H D (I.toTry _) (h I.len)) (fun f s1 hsp => ?_) (fun e s1 he => he)
  · -- the catch
    obtain ⟨a, B, sI, pins', σ', H', cls, d, rfl, J', nb, up, sky, na, os, ag, w⟩ := xx
    have J : L2.Inv X pins σ' H' sI := J'.ofTry ok
    have sky' : Sky B (X.env :: X.outer) a (Zc cls d) X.env.locals s'.heap := by rw [← hs]; exact sky
    show wpAny (model X.prog X.w) X.A (noteFrame (.ref a) X.env) _ _ _
    refine Sky.land Zc.steady hfr hf sky' fun h3 fl3 up3 => ?_
    have J3 : L2.Inv X pins σ' H' { s' with heap := h3 } := J.landed nb fl3.1 (up.trans up3) os ag
    obtain ⟨oe3, vs3, he3, hz3, hd3⟩ := fl3.there
    have notFr : ∀ {h : Heap} {o : Obj} {vs : Array Value}, h.FunFrames B (X.env :: X.outer) → h.get? a = some o → o.data = .fields vs → a ∉ frs (X.env :: X.outer) := fun {h o vs} ff e dd hm => by
      obtain ⟨_, o', e', hnf⟩ := ff.mem hm
      rw [e] at e'; cases e'
      exact hnf _ dd
    have nfr := notFr fl3.2.2.1 he3 hd3
    have nL : a ≠ X.env.locals := fun z => nfr (List.mem_filterMap.mpr ⟨X.env, List.mem_cons_self, by rw [hf, z]⟩)
    have nF : a ∉ X.fs := fun hm => by
      obtain ⟨e, he, q⟩ := List.mem_filterMap.mp hm
      exact nfr (List.mem_filterMap.mpr ⟨e, List.mem_cons_of_mem _ he, q⟩)
    have S3 := J3.suite he3 hd3 na nL nF
    have test : ∀ {x : Str} {np : Pos} {c : Value} {Q : Value → Shared → Prop} {E : Value → Shared → Prop}, Names X x c → Q c { s' with heap := h3 } → wpAny (model X.prog X.w) (X.A.mark (some (.ref a))) (eval (.Name x np) X.env) Q E { s' with heap := h3 } := fun {x np c Q E} hc q => by
      obtain ⟨hg, hdbg, hm | ⟨hm, hv, hnn⟩⟩ := hc
      · exact ld_glob (X := X.suite a ((a, oe3) :: (X.pn ++ pins))) S3 hg hm q hdbg
      · exact ld_blt (X := X.suite a ((a, oe3) :: (X.pn ++ pins))) S3 hg hm hv q hnn hdbg
    have LT : PySem.W.Looks (model X.prog X.w) h3 (typeOf (.ref a)) cls := fun A Q E s k q => wpAny_typeOf_ref (k _ _ he3) (by rw [hz3.1]; exact q)
    have go : ∀ {hds' : List ExceptHandler} {l' : List (Value × Option Nat × HTs)}, HdsA X hds' l' → wHs X.K Wout D l' cls d σ' H' →
        wpAny (model X.prog X.w) X.A (handleBy (.ref a) X.env hds') (SP X pins D) X.xe { s' with heap := h3 } := by
      intro hds' l' hk
      induction hk with
      | nil =>
        intro w
        refine wpAny_handleBy_nil ?_
        obtain ⟨k1, k2, k3, oe, vs, T, oT, ts', he, hz, hd, h1, hr⟩ := id fl3
        unfold PySem.passOn
        refine wpAny_bind (wpAny_field he hd h1 ?_)
        rw [if_neg (show ¬ ((Value.ref T == Value.none) = true) from by simp)]
        have fin : wpAny (model X.prog X.w) X.A (setFlight (.ref a) X.env.frame) (fun _ s4 => wpAny (model X.prog X.w) X.A (throw (.ref a) : Sem Flow) (SP X pins D) X.xe s4) X.xe { s' with heap := h3 } := by
          rw [hf]
          refine HandSPX.setFlight_upZ fl3 fun h4 hh4 up4 => wpAny_throw (tk _ _ ?_)
          exact ⟨a, B, sI, pins, σ', H', cls, d, rfl, J, nb, (up.trans up3).trans up4, .inr (.inr (by rw [hs]; exact hh4)), na, os, ag, w⟩
        first
          | exact wpAny_bind (wpAny_pure (wpAny_bind fin))
          | exact wpAny_bind fin
      | @cons x c ts b₀ suite np pos' hds2 l2 hc hsu r ih =>
        intro w
        obtain ⟨b, hb1, hyes, hno⟩ := w
        refine wpAny_handleBy_cons (codeAny_handlers_test ?_) (by intro q; cases q)
        have LM := PySem.W.exm_one (M := model X.prog X.w) (J3.kIn) LT hb1
        refine test hc (LM.here ?_)
        cases b with
        | true =>
          refine codeAny_handlers_suite ?_
          refine HandSPX.lands_againZ fl3 fun h4 fl4 up4 => ?_
          have J4 : L2.Inv X pins σ' H' { s' with heap := h4 } := J.landed nb fl4.1 ((up.trans up3).trans up4) os ag
          obtain ⟨oe4, vs4, he4, hz4, hd4⟩ := fl4.there
          have S4 := J4.suite he4 hd4 na nL nF
          refine wpAny_mono ((hsu a oe4 cls d (X.pn ++ pins) hz4 ⟨_, hd4⟩).run [] _ _ H' _ S4 (hyes rfl a na)) (fun f s6 hsp => ?_) (fun _ _ z => False.elim z)
          cases f with
          | next =>
            obtain ⟨σ6, H6, S6, q6⟩ := hsp
            exact ⟨_, _, S6.unsuite ok, q6⟩
          | brk =>
            obtain ⟨σ6, H6, S6, q6⟩ := hsp
            exact ⟨_, _, S6.unsuite ok, q6⟩
          | cont =>
            obtain ⟨σ6, H6, S6, q6⟩ := hsp
            exact ⟨_, _, S6.unsuite ok, q6⟩
          | ret u =>
            obtain ⟨v6, σ6, H6, S6, r6, q6⟩ := hsp
            exact ⟨_, _, _, S6.unsuite ok, r6, q6⟩
        | false => exact ih (hno rfl)
      | @as x n c i ts b₀ suite np pos' hds2 l2 hi hln hc hsu r ih =>
        intro w
        obtain ⟨b, hb1, hyes, hno⟩ := w
        have hloc : Loc X.env.scope n := .inl hln
        refine wpAny_handleBy_cons (codeAny_handlers_test ?_) (by intro q; cases q)
        have LM := PySem.W.exm_one (M := model X.prog X.w) (J3.kIn) LT hb1
        refine test hc (LM.here ?_)
        cases b with
        | true =>
          refine codeAny_handlers_suite_as ?_
          refine HandSPX.lands_againZ fl3 fun h4 fl4 up4 => ?_
          have J4 : L2.Inv X pins σ' H' { s' with heap := h4 } := J.landed nb fl4.1 ((up.trans up3).trans up4) os ag
          obtain ⟨oe4, vs4, he4, hz4, hd4⟩ := fl4.there
          have S4 := J4.suite he4 hd4 na nL nF
          refine store_ok (X := X.suite a ((a, oe4) :: (X.pn ++ pins))) (v := .ref a) S4 hN hi hloc rfl (fun s5 S5 => ?_) (.inr hln)
          refine wpAny_mono ((hsu a oe4 cls d (X.pn ++ pins) hz4 ⟨_, hd4⟩).run [] s5 _ H' _ S5 (hyes rfl a na)) (fun f s6 hsp => ?_) (fun _ _ z => False.elim z)
          have end_ : ∀ {σ6 : L2.St} {H6 : Hp} {Q : Shared → Prop}, L2.Inv (X.suite a ((a, oe4) :: (X.pn ++ pins))) [] σ6 H6 s6 → (∀ s7, L2.Inv X pins (σ6.set i none) H6 s7 → Q s7) →
              wpAny (model X.prog X.w) X.A (do bindName X.env n .none; unbindBehindTheSuite X.env n pos') (fun _ s7 => Q s7) X.xe s6 := fun {σ6 H6 Q} S6 hq => gone_ok (S6.unsuite ok) hN hi hln hq
          cases f with
          | next =>
            obtain ⟨σ6, H6, S6, q6⟩ := hsp
            exact end_ S6 fun s7 J7 => ⟨_, _, J7, q6⟩
          | brk =>
            obtain ⟨σ6, H6, S6, q6⟩ := hsp
            exact end_ S6 fun s7 J7 => ⟨_, _, J7, q6⟩
          | cont =>
            obtain ⟨σ6, H6, S6, q6⟩ := hsp
            exact end_ S6 fun s7 J7 => ⟨_, _, J7, q6⟩
          | ret u =>
            obtain ⟨v6, σ6, H6, S6, r6, q6⟩ := hsp
            exact end_ S6 fun s7 J7 => ⟨_, _, _, J7, r6, q6⟩
        | false => exact ih (hno rfl)
    exact go hh (w J.len)
  · cases f with
    | next =>
      obtain ⟨σ', H', J', q⟩ := hsp
      exact wpAny_execs_nil ⟨σ', H', J'.ofTry ok, q⟩
    | brk =>
      obtain ⟨σ', H', J', q⟩ := hsp
      exact ⟨σ', H', J'.ofTry ok, q⟩
    | cont =>
      obtain ⟨σ', H', J', q⟩ := hsp
      exact ⟨σ', H', J'.ofTry ok, q⟩
    | ret u =>
      obtain ⟨v, σ', H', J', r, q⟩ := hsp
      exact ⟨v, σ', H', J'.ofTry ok, r, q⟩
end
end VS
namespace VS
open PySem PySem.Spec PyProof.Rows L2
/-! ### the meaning of try -/
abbrev ExT := List (Addr × Addr × Bool)
def exLook (tab : ExT) (C h : Addr) : Option Bool := (tab.find? fun e => e.1 == C && e.2.1 == h).map (·.2.2)
theorem exLook_ok {K : PySem.W.Frag} {tab : ExT} (ht : ∀ e ∈ tab, PySem.W.exmOne K (.ref e.1) (.ref e.2.1) = some e.2.2) {C h : Addr} {b : Bool} (e : exLook tab C h = some b) : PySem.W.exmOne K (.ref C) (.ref h) = some b := by
  unfold exLook at e
  cases q : tab.find? (fun e => e.1 == C && e.2.1 == h) with
  | none => rw [q] at e; cases e
  | some x =>
    rw [q] at e
    have p := List.find?_some q
    have m := List.mem_of_find?_eq_some q
    rw [Bool.and_eq_true] at p
    have h1 : x.1 = C := by simpa using p.1
    have h2 : x.2.1 = h := by simpa using p.2
    have h3 : x.2.2 = b := by simpa using e
    have := ht x m
    rw [h1, h2, h3] at this
    exact this
theorem exLook_mem {tab : ExT} {C h : Addr} {b : Bool} (e : exLook tab C h = some b) : ∃ x ∈ tab, x.1 = C := by
  unfold exLook at e
  cases q : tab.find? (fun e => e.1 == C && e.2.1 == h) with
  | none => rw [q] at e; cases e
  | some x =>
    have p := List.find?_some q
    rw [Bool.and_eq_true] at p
    exact ⟨x, List.mem_of_find?_eq_some q, by simpa using p.1⟩
/-- behind a suite: the name is gone; a suite lets nothing out -/
def unO (is : List Nat) : O → O
  | .nx s => .nx (wipeD is s)
  | .bk s => .bk (wipeD is s)
  | .ct s => .ct (wipeD is s)
  | .rt x s => .rt x (wipeD is s)
  | _ => .no
abbrev HM := Addr → Addr → S
abbrev HL := List (Addr × Option Nat × HM)
def runH1 (tab : ExT) (h : Addr) (i : Option Nat) (d : HM) (rest : Value → XF → List D → O) (c : Value) (fs : XF) (s : List D) : O := match c with
  | .ref C => match exLook tab C h with
    | some false => rest c fs s
    | some true => match fs with
      | none => match i with
        | none => unO [] (d C 0 s)
        | some i => unO [i] (d C 0 (s.set i (.v (.ref 0))))
      | some _ => .no
    | none => .no
  | _ => .no
def runHs (tab : ExT) : HL → Value → XF → List D → O
  | [], c, fs, s => .ex c fs s
  | x :: r, c, fs, s => runH1 tab x.1 x.2.1 x.2.2 (runHs tab r) c fs s
def sTry (tab : ExT) (hs : HL) (db : S) : S := fun s => match db s with
  | .ex c fs s' => runHs tab hs c fs s'
  | o => o
/-- the meaning of a part as its reading -/
def tSem (K : PySem.W.Frag) (W : WX) (io md : List Nat) (d : S) : TS := fun Z σ H => ∃ ρ ts, Sim K io ρ ts σ H ∧ SPost K W io ρ md ts H Z (d (T.ers ts))
theorem pss_sem {X : Cx} {W : WX} {io md : List Nat} {st : List Stmt} {d : S} (h : ∃ t, DSs X W io md st t d) : PSs X st (tSem X.K W io md d) := by
  obtain ⟨t, h⟩ := h
  exact ⟨fun pins s σ H D I q => h.ps.run pins s σ H D I (by obtain ⟨ρ, ts, S, p⟩ := q; exact h.rd ρ ts σ H D S p)⟩
/-- the reading of a suite: an error of an own class without fields -/
def tHs (K : PySem.W.Frag) (io md : List Nat) (dh : HM) : HTs := fun a cls d D σ H => ∃ C, cls = .ref C ∧ d = none ∧ ExcC K C ∧ tSem K W0 io md (dh C a) D σ H
structure DH (X : Cx) (io md : List Nat) (suite : List Stmt) (dh : HM) : Prop where
  sd : ∀ (C a : Addr) (oe : Obj) (pn : List (Addr × Obj)), ExcC X.K C → Zc (.ref C) none oe → (∃ vs, oe.data = .fields vs) → ∃ t md', DSs (X.suite a ((a, oe) :: pn)) W0 io md' suite t (dh C a) ∧ (md'.all fun j => md.contains j) = true
theorem DH.pss {X : Cx} {io md : List Nat} {suite : List Stmt} {dh : HM} (h : DH X io md suite dh) (a : Addr) (oe : Obj) (cls : Value) (d : Option Addr) (pn : List (Addr × Obj)) (hz : Zc cls d oe) (hv : ∃ vs, oe.data = .fields vs) :
    PSs (X.suite a ((a, oe) :: pn)) suite (tHs X.K io md dh a cls d) :=
  ⟨fun pins s σ H D I q => by
    obtain ⟨C, rfl, rfl, ec, q⟩ := q
    obtain ⟨t, md', hd, sub⟩ := h.sd C a oe pn ec hz hv
    obtain ⟨ρ, ts, S, p⟩ := q
    exact hd.ps.run pins s σ H D I (hd.rd ρ ts σ H D S (p.wide fun j hj => by simpa using List.all_eq_true.mp sub j hj))⟩
inductive DHs (X : Cx) (io md : List Nat) : List ExceptHandler → HL → List (Value × Option Nat × HTs) → Prop
  | nil : DHs X io md [] [] []
  | cons {x : Str} {h : Addr} {dh : HM} {b₀ : Stmt} {suite : List Stmt} {np pos' : Pos} {hds : List ExceptHandler} {l : HL} {l' : List (Value × Option Nat × HTs)} (hc : Names X x (.ref h)) (hd : DH X io md (b₀ :: suite) dh) (ind : ∀ C a s, unO [] (dh C a s) = unO [] (dh C 0 s)) (r : DHs X io md hds l l') :
      DHs X io md (.ExceptHandler (some (.Name x np)) none (b₀ :: suite) pos' :: hds) ((h, none, dh) :: l) ((.ref h, none, tHs X.K io md dh) :: l')
  | as {x n : Str} {h : Addr} {i : Nat} {dh : HM} {b₀ : Stmt} {suite : List Stmt} {np pos' : Pos} {hds : List ExceptHandler} {l : HL} {l' : List (Value × Option Nat × HTs)} (hi : X.N[i]? = some n) (hln : X.env.kindOf n = some .local) (hio : io.contains i = false) (hmd : md.contains i = true) (hc : Names X x (.ref h)) (hd : DH X io md (b₀ :: suite) dh)
      (ind : ∀ C a (s : List D), unO [i] (dh C a (s.set i (.v (.ref a)))) = unO [i] (dh C 0 (s.set i (.v (.ref 0))))) (r : DHs X io md hds l l') :
      DHs X io md (.ExceptHandler (some (.Name x np)) (some n) (b₀ :: suite) pos' :: hds) ((h, some i, dh) :: l) ((.ref h, some i, tHs X.K io md dh) :: l')
theorem DHs.hds {X : Cx} {io md : List Nat} {hds : List ExceptHandler} {l : HL} {l' : List (Value × Option Nat × HTs)} (h : DHs X io md hds l l') : HdsA X hds l' := by
  induction h with
  | nil => exact .nil
  | cons hc hd ind r ih => exact .cons hc hd.pss ih
  | as hi hln hio hmd hc hd ind r ih => exact .as hi hln hc hd.pss ih
section
variable {K : PySem.W.Frag} {W : WX} {io : List Nat} {ρ : Nat → V}
/-- from what is asked behind the suite to what the suite must give -/
theorem un_post {is md : List Nat} {ts ts1 : List T} {H H1 : Hp} {Z Z' : Ends} {o : O} (hio : ∀ i ∈ io, i ∉ is) (hmd : ∀ i ∈ is, i ∈ md) (h : SPost K W io ρ md ts H Z (unO is o)) (st1 : Step H ts H1 ts1) (pu1 : ∀ j, j ∉ md → ts1[j]? = ts[j]?)
    (hn : ∀ σ H', Z.nx (wipe σ is) H' → Z'.nx σ H') (hb : ∀ σ H', Z.bk (wipe σ is) H' → Z'.bk σ H') (hc : ∀ σ H', Z.ct (wipe σ is) H' → Z'.ct σ H') (hr : Z'.rt = Z.rt) : SPost K W0 io ρ md ts1 H1 Z' o := by
  have key : ∀ {ts2 : List T} {σ2 : L2.St} {H2 : Hp}, Sim K io ρ ts2 σ2 H2 → Sim K io ρ (wipeT is ts2) (wipe σ2 is) H2 := fun S2 => S2.wipe hio (wipe_length _ _) fun j hj => wipe_out hj _
  have pu : ∀ {ts2 : List T}, (∀ j, j ∉ md → ts2[j]? = ts1[j]?) → ∀ j, j ∉ md → (wipeT is ts2)[j]? = ts[j]? := fun {ts2} p j hj => by
    rw [wipeT_out (fun z => hj (hmd j z)), p j hj, pu1 j hj]
  cases o with
  | nx s => exact fun ts2 σ2 H2 S2 e2 st2 p2 => hn _ _ (h _ _ H2 (key S2) (by rw [ers_wipe, e2]) (step_wipe (st1.trans st2)) (pu p2))
  | bk s => exact fun ts2 σ2 H2 S2 e2 st2 p2 => hb _ _ (h _ _ H2 (key S2) (by rw [ers_wipe, e2]) (step_wipe (st1.trans st2)) (pu p2))
  | ct s => exact fun ts2 σ2 H2 S2 e2 st2 p2 => hc _ _ (h _ _ H2 (key S2) (by rw [ers_wipe, e2]) (step_wipe (st1.trans st2)) (pu p2))
  | rt x s =>
    intro ts2 σ2 t H2 S2 e2 et ok rr st2
    rw [hr]
    refine h _ _ t H2 (key S2) (by rw [ers_wipe, e2]) et ok ⟨rr.1, fun i mi u e => ?_⟩ ?_
    · have hi := hio i mi
      rw [wipeT_out hi] at e
      exact rr.2 i mi u e
    · have st := st1.trans st2
      exact (step_wipe st.tail).cons (st.ow t List.mem_cons_self) (st.tr t List.mem_cons_self) (st.im t List.mem_cons_self)
  | ex c fs s => exact h.elim
  | no => exact h.elim
theorem wipe_one (i : Nat) (σ : L2.St) : wipe σ [i] = σ.set i none := by
  apply List.ext_getElem?
  intro j
  by_cases h : j = i
  · subst h
    rw [wipe_in (by simp)]
    by_cases hl : j < σ.length
    · rw [if_pos hl, List.getElem?_set_self hl]
    · rw [if_neg hl, List.getElem?_eq_none (by rw [List.length_set]; omega)]
  · rw [wipe_out (by simpa using h), List.getElem?_set_ne (fun z => h z.symm)]
theorem wipe_nil (σ : L2.St) : wipe σ [] = σ := by
  apply List.ext_getElem?
  intro j
  rw [wipe_out (by simp)]
/-- what the clauses wish, out of what is asked behind them -/
theorem runHs_ok {X : Cx} {Wout : WX} {md : List Nat} {tab : ExT} (ht : ∀ e ∈ tab, PySem.W.exmOne X.K (.ref e.1) (.ref e.2.1) = some e.2.2) (hE : ∀ e ∈ tab, ExcC X.K e.1) {hds : List ExceptHandler} {l : HL} {l' : List (Value × Option Nat × HTs)} (hh : DHs X io md hds l l') {Z : Ends} {ρ : Nat → V} {ts : List T} {H : Hp} {c : Value} {fs : XF} {d : Option Addr} {ts1 : List T} {σ1 : L2.St} {H1 : Hp}
    (S1 : Sim X.K io ρ ts1 σ1 H1) (st1 : Step H ts H1 ts1) (pu1 : ∀ j, j ∉ md → ts1[j]? = ts[j]?) (xr : XRel H1 d fs) (h : SPost X.K Wout io ρ md ts H Z (runHs tab l c fs (T.ers ts1))) : wHs X.K Wout Z l' c d σ1 H1 := by
  induction hh with
  | nil => exact h ts1 σ1 H1 d S1 rfl st1 xr
  | @cons x hc' dh b₀ suite np pos' hds l l' hc hd ind r ih =>
    rw [runHs] at h
    unfold runH1 at h
    cases c with
    | ref C =>
      simp only at h
      cases e : exLook tab C hc' with
      | none => rw [e] at h; exact h.elim
      | some b =>
        rw [e] at h
        refine ⟨b, exLook_ok ht e, fun hb a na => ?_, fun hb => ?_⟩
        · subst hb
          cases fs with
          | some fs => exact h.elim
          | none =>
            obtain ⟨x0, mx, ex⟩ := exLook_mem e
            refine ⟨C, rfl, xr, by rw [← ex]; exact hE x0 mx, ρ, ts1, S1, ?_⟩
            refine un_post (is := []) (fun _ _ m => nomatch m) (fun _ m => nomatch m) (Z := Z) (by rw [ind C a]; exact h) st1 pu1 (fun σ H' q => by rw [wipe_nil] at q; exact q) (fun σ H' q => by rw [wipe_nil] at q; exact q) (fun σ H' q => by rw [wipe_nil] at q; exact q) rfl
        · subst hb
          exact ih h
    | _ => exact h.elim
  | @as x n hc' i dh b₀ suite np pos' hds l l' hi hln hio hmd hc hd ind r ih =>
    rw [runHs] at h
    unfold runH1 at h
    cases c with
    | ref C =>
      simp only at h
      cases e : exLook tab C hc' with
      | none => rw [e] at h; exact h.elim
      | some b =>
        rw [e] at h
        refine ⟨b, exLook_ok ht e, fun hb a na => ?_, fun hb => ?_⟩
        · subst hb
          cases fs with
          | some fs => exact h.elim
          | none =>
            have hio' : i ∉ io := by simpa using hio
            have hmd' : i ∈ md := by simpa using hmd
            have tr : TRel (T.v (.ref a)) ts1 := ⟨trivial, fun u _ => ⟨fun a m => (nomatch m), fun a _ m => (nomatch m)⟩⟩
            have S2 : Sim X.K io ρ (ts1.set i (.v (.ref a))) (σ1.set i (some (.ref a))) H1 := S1.set (u := .v (.ref a)) trivial tr hio'
            obtain ⟨x0, mx, ex⟩ := exLook_mem e
            refine ⟨C, rfl, xr, by rw [← ex]; exact hE x0 mx, ρ, _, S2, ?_⟩
            have st2 : Step H ts H1 (ts1.set i (.v (.ref a))) := ⟨st1.fr, st1.al, fun t m q mq => (List.mem_or_eq_of_mem_set m).elim (fun m => st1.ow t m q mq) fun z => (by subst z; cases mq), fun t m q mq => (List.mem_or_eq_of_mem_set m).elim (fun m => st1.tr t m q mq) fun z => (by subst z; cases mq), fun t m q mq => (List.mem_or_eq_of_mem_set m).elim (fun m => st1.im t m q mq) fun z => (by subst z; cases mq)⟩
            refine un_post (is := [i]) (fun j mj z => hio' (by rw [← List.mem_singleton.mp z]; exact mj)) (fun j z => by rw [List.mem_singleton.mp z]; exact hmd') (Z := Z) (by rw [ers_set, T.er, ind C a]; exact h) st2 (fun j hj => ?_) (fun σ H' q => by rw [wipe_one] at q; exact q) (fun σ H' q => by rw [wipe_one] at q; exact q) (fun σ H' q => by rw [wipe_one] at q; exact q) rfl
            rw [List.getElem?_set_ne (fun z => hj (by rw [← z]; exact hmd')), pu1 j hj]
        · subst hb
          exact ih h
    | _ => exact h.elim
theorem ds_try {X : Cx} {W : WX} {body : List Stmt} {h₀ : ExceptHandler} {hds : List ExceptHandler} {l : HL} {l' : List (Value × Option Nat × HTs)} {pos : Pos} {tab : ExT} {db : S} {mdb : List Nat} (md : List Nat) (ht : ∀ e ∈ tab, PySem.W.exmOne X.K (.ref e.1) (.ref e.2.1) = some e.2.2) (hE : ∀ e ∈ tab, ExcC X.K e.1) (tk : Takes X W)
    (hb : ∀ (W' : WX) (pn : List (Addr × Obj)) (xe : Value → Shared → Prop), Takes (X.tr pn xe) W' → PassesOwn (model X.prog X.w) X.A X.env xe → ∃ t, DSs (X.tr pn xe) W' io mdb body t db) (hh : DHs X io md (h₀ :: hds) l l') (hN : X.N.Nodup) (hmd : (List.range X.N.length).all (fun j => md.contains j) = true := by rfl) (hsb : mdb.all (fun j => md.contains j) = true := by rfl)
    (hs : X.stack = X.env :: X.outer := by rfl) (hf : X.env.frame = some X.env.locals := by rfl) :
    DS X W io md (.Try body (h₀ :: hds) [] [] pos) (fun D σ H => σ.length = X.N.length → tSem X.K (fun c d σ' H' => σ'.length = X.N.length → wHs X.K W D l' c d σ' H') io mdb db D σ H) (sTry tab l db) := by
  refine ⟨ps_try_hs (tb := fun W => tSem X.K W io mdb db) hs hf hN tk (fun W' pn xe tk' po => pss_sem (X := X.tr pn xe) (hb W' pn xe tk' po)) hh.hds, fun ρ ts σ H Z S h hl => ⟨ρ, ts, S, ?_⟩⟩
  have big : ∀ {ts' : List T} {σ' : L2.St} {H' : Hp}, Sim X.K io ρ ts' σ' H' → σ'.length = X.N.length → ∀ j, j ∉ md → ts'[j]? = ts[j]? := fun {ts' σ' H'} S' hl' j hj => by
    have : ¬ j < X.N.length := fun z => hj (by simpa using List.all_eq_true.mp hmd j (List.mem_range.mpr z))
    rw [List.getElem?_eq_none (by rw [S'.len, hl']; omega), List.getElem?_eq_none (by rw [S.len, hl]; omega)]
  unfold sTry at h
  cases e : db (T.ers ts) with
  | nx s => rw [e] at h; exact fun ts' σ' H' S' e' st pu => h ts' σ' H' S' e' st fun j hj => pu j fun z => hj (by simpa using List.all_eq_true.mp hsb j z)
  | bk s => rw [e] at h; exact fun ts' σ' H' S' e' st pu => h ts' σ' H' S' e' st fun j hj => pu j fun z => hj (by simpa using List.all_eq_true.mp hsb j z)
  | ct s => rw [e] at h; exact fun ts' σ' H' S' e' st pu => h ts' σ' H' S' e' st fun j hj => pu j fun z => hj (by simpa using List.all_eq_true.mp hsb j z)
  | rt x s => rw [e] at h; exact h
  | no => rw [e] at h; exact h
  | ex c fs s =>
    rw [e] at h
    simp only at h
    intro ts1 σ1 H1 d S1 e1 st1 xr hl1
    rw [← e1] at h
    exact runHs_ok ht hE hh S1 st1 (big S1 hl1) xr h
end
end VS
namespace VS
open PySem PySem.Spec PyProof.Rows L2
/-! ### isinstance of the error that a suite holds -/
def rX1 (K : PySem.W.Frag) (D a : Addr) : List V → Hp → VK → Prop := fun xs H Q => ∃ (c : V) (u : Value) (b : Bool), xs = [.ref a, c] ∧ ClsV c u ∧ PySem.W.kitOne K (.ref D) u = some b ∧ Q (.bl b) H
def rXN (K : PySem.W.Frag) (D a : Addr) : List V → Hp → VK → Prop := fun xs H Q => ∃ (tp : Addr) (cs : List V) (us : List Value) (b : Bool), xs = [.ref a, .ref tp] ∧ SqT K H tp cs ∧ Paired ClsV cs us ∧ PySem.W.kitAny K (.ref D) us = some b ∧ Q (.bl b) H
section
variable {X : Cx} {a D : Addr} {oe : Obj} {pn : List (Addr × Obj)}
theorem x_inst {pins : List (Addr × Obj)} {s : Shared} {σ : L2.St} {H : Hp} (hz : Zc (.ref D) none oe) (hf : ∃ vs, oe.data = .fields vs) (I : Inv (X.suite a ((a, oe) :: pn)) pins σ H s) : PySem.W.InstAt s.heap a oe D none := by
  obtain ⟨hget, _⟩ := I.pin (a, oe) (List.mem_append.mpr (.inl List.mem_cons_self))
  obtain ⟨vs, hv⟩ := hf
  obtain ⟨oc, od, oda, osl⟩ := oe
  obtain ⟨h1, h2⟩ := hz
  dsimp only at h1 h2 hv
  subst h1 h2 hv
  exact ⟨hget, rfl, rfl, trivial⟩
theorem call_x1 (C : ExcC X.K D) (hz : Zc (.ref D) none oe) (hf : ∃ vs, oe.data = .fields vs) : CallR (X.suite a ((a, oe) :: pn)) (.builtin "isinstance") (rX1 X.K D a) := by
  intro pins s σ H xs us Q I r h
  obtain ⟨c, u, b, rfl, k, e, q⟩ := h
  obtain ⟨u1, u2, rfl, r1, r2⟩ := vals2 r
  have e2 := k.eq r2
  subst e2
  cases (show u1 = Value.ref a from r1)
  exact PySem.W.kia_one (PySem.W.handS_kitx_exc C.hg C.hk C.hs C.hd C.ha C.hn C.ht C.hm) I.kIn (x_inst hz hf I) e (fun z => nomatch z) fun tk => ⟨.bl b, H, I.tok tk, rfl, q⟩
theorem call_xN (C : ExcC X.K D) (hz : Zc (.ref D) none oe) (hf : ∃ vs, oe.data = .fields vs) : CallR (X.suite a ((a, oe) :: pn)) (.builtin "isinstance") (rXN X.K D a) := by
  intro pins s σ H xs us Q I r h
  obtain ⟨tp, cs, ws, b, rfl, hT, k, e, q⟩ := h
  obtain ⟨u1, u2, rfl, r1, r2⟩ := vals2 r
  cases (show u1 = Value.ref a from r1)
  cases (show u2 = Value.ref tp from r2)
  obtain ⟨its, rv, ⟨o, h1, h2, n, h3⟩, _⟩ := I.tuple hT
  have e3 := ClsV.all k rv
  subst e3
  obtain ⟨oc, od, dt, sl⟩ := o
  simp only at h2 h3
  subst h2 h3
  exact PySem.W.kia_tup (PySem.W.handS_kitx_exc C.hg C.hk C.hs C.hd C.ha C.hn C.ht C.hm) I.kIn (x_inst hz hf I) h1 e (fun z => nomatch z) fun tk => ⟨.bl b, H, I.tok tk, rfl, q⟩
end
/-- the table's answers for an error of the class C at a -/
def isxD (tab : Isa) (C a : Addr) : List D → Option D
  | [.v (.ref b), .v c] => if b = a then (match V.tk c with
    | some u => (isaD tab (.o C) u).map D.bl
    | none => none) else none
  | [.v (.ref b), .nd .tup cs] => if b = a then (match D.tks cs with
    | some us => (isaAny tab (.o C) us).map D.bl
    | none => none) else none
  | _ => none
abbrev rXA (K : PySem.W.Frag) (C a : Addr) : List V → Hp → VK → Prop := fun xs H Q => rX1 K C a xs H Q ∨ rXN K C a xs H Q
theorem isx_ok {K : PySem.W.Frag} {tab : Isa} {C a : Addr} (ht : ∀ e ∈ tab, PySem.W.kitOne K e.1.v e.2.1.v = some e.2.2) : OpN K (rXA K C a) (isxD tab C a) := by
  intro H us d Q ok gd e q
  unfold isxD at e
  split at e
  · rename_i b c e1
    obtain ⟨u, w, rfl, e2, e3⟩ := ers_cons e1
    obtain ⟨u1, w, rfl, e4, e5⟩ := ers_cons e3
    have := ers_nil e5; subst this
    have := er_v e4; subst this
    have := er_v e2; subst this
    split at e
    · rename_i h; subst h
      split at e
      · rename_i k h2
        cases ei : isaD tab (.o C) k with
        | none => rw [ei] at e; cases e
        | some r =>
          rw [ei] at e; cases e
          exact .inl ⟨c, k.v, r, rfl, tk_cls h2, isaD_ok ht ei, q (.v _) H rfl trivial Frsh.atom⟩
      · cases e
    · cases e
  · rename_i b cs e1
    obtain ⟨u, w, rfl, e2, e3⟩ := ers_cons e1
    obtain ⟨u1, w, rfl, e4, e5⟩ := ers_cons e3
    have := ers_nil e5; subst this
    obtain ⟨p, ws, rfl, e6⟩ := er_nd e4
    have := er_v e2; subst this
    split at e
    · rename_i h; subst h
      split at e
      · rename_i k h2
        cases ei : isaAny tab (.o C) k with
        | none => rw [ei] at e; cases e
        | some r =>
          rw [ei] at e; cases e
          exact .inr ⟨p, T.rts ws, k.map TK.v, r, rfl, (ok _ (by simp)).sqT, tks_of (by rw [e6]; exact h2), isaAny_ok ht ei, q (.v _) H rfl trivial Frsh.atom⟩
      · cases e
    · cases e
  · cases e
theorem call_xA {X : Cx} {a C : Addr} {oe : Obj} {pn : List (Addr × Obj)} (c : ExcC X.K C) (hz : Zc (.ref C) none oe) (hf : ∃ vs, oe.data = .fields vs) : CallR (X.suite a ((a, oe) :: pn)) (.builtin "isinstance") (rXA X.K C a) := call_or (call_x1 c hz hf) (call_xN c hz hf)
/-! ### a set of slots, then the name gone -/
theorem set_mid {s : List D} {i j : Nat} {x v : D} (h : i ≠ j) : (((s.set i x).set j v).set i .un) = (s.set i .un).set j v := by
  have e : ((s.set i x).set j v).set i .un = ((s.set i x).set i .un).set j v := List.set_comm _ _ (Ne.symm h)
  rw [e, List.set_set]
/-- a def of which nothing is promised -/
theorem fn_no {P : Program} {w : World} {K : PySem.W.Frag} {mg : Str → Option Value} {base : Heap} {CX : CXT} {k : Nat} {f : Addr} {fd : FuncData} {ps : List Str} (pm : List PM) (hp : pm.length = ps.length) : FnOk P w K mg base CX k f fd ps (spOf K pm fun _ => .no) :=
  ⟨fun vs H Q E h => by rw [sp_len h, hp], fun A outer s H args us vs Q E hr he hb hv hs => by
    obtain ⟨ts, _, _, _, _, _, _, post⟩ := hs
    exact post.elim⟩
theorem boot_vale : bootBuiltins "ValueError" = some (.type "ValueError") := by kernel_rfl
end VS
namespace VS
open PySem PySem.Spec PyProof.Rows L2
/-! ### a static method that may raise -/
def tSMethS (C : Addr) (sp : Sp) (Es : L2.St → XK) (ta : TE) (t : TA) : TE := fun σ H Q => ta σ H fun x H1 => x = .ref C ∧ t σ H1 fun vs H2 => sp (vs ++ []) H2 Q (Es σ)
section
variable {X : Cx} {W : WX} {io : List Nat} {CX : CXT} {k : Nat} {C g q : Addr} {mc : Value} {fd : FuncData} {ps : List Str} {m : Str} {pos apos : Pos} {o e : Expr} {es : List Expr} {ks : List AK} {md : List Nat} {ta : TE} {t : TA} {dc' : EC} {F : FD} {pl : Sem Bool} {sp : Sp} {Es : L2.St → XK}
theorem pe_smethS (he : PE X o ta) (r : ClX.CRead X.K C mc) (c : SMet X.K C mc m q g) (F : FnOk X.prog X.w X.K X.mg X.base CX k g fd ps sp) (hr : Room k X.A) (hb : Binds X.K fd ps []) (hx : ∀ σ, PassesAt CX X σ (Es σ)) (ha : PA X (e :: es) t)
    (hst : starEach (e :: es) X.env = (false, eval e X.env) :: starEach es X.env := by rfl) (hpl : (backTo pos (starEach es X.env)).any (·.1) = false := by rfl)
    (ht : eval (.Call (.Attribute o m apos) (e :: es) [] pos) X.env = (do
      let ov ← eval o X.env
      standAt apos.atName
      let (f, first) ← holding [ov] (getMethod ov m pl)
      callWith pos f first (backTo pos (starEach (e :: es) X.env)) (backToKw pos (keywordEach [] X.env))) := by rfl) :
    PE X (.Call (.Attribute o m apos) (e :: es) [] pos) (tSMethS C sp Es ta t) := by
  refine ⟨fun pins s σ H Q I h => ?_⟩
  refine PySem.W.methodCall_KW (pl := pl) (thn (he.run pins s σ H _ I h) fun u s1 ⟨x, H1, I1, rx, ex, q⟩ => ?_) ht
  subst ex
  obtain rfl : u = Value.ref C := rx
  obtain ⟨rest, hp⟩ := c.rc
  refine PySem.W.method_cls I1.kIn r.ga (PySem.W.cls_bind I1.kIn r.rd c.at_ (wpAny_call (PySem.W.sm_get (s := { s1 with toks := s1.toks + 1 }) I1.kIn hp (PySem.W.handed_on rfl ?_))))
  refine PySem.W.callWith_K (first := []) (h₀ := X.base) I1.ok.mod.kin c.kp (thn (ha.run pos pins _ σ H1 _ (I1.tok (s1.toks + 1)) q) fun us s2 ⟨vs, H2, I2, r, q2⟩ => ⟨I2.kIn, ?_⟩) hst hpl
  have q2 : sp (vs ++ []) H2 Q (Es σ) := q2
  rw [List.append_nil] at q2
  exact run_fnS (E := Es) F hr hb (hx σ) I2 r q2
theorem de_smethX (hcls : PE X o (tC (.ref C))) (r : ClX.CRead X.K C mc) (c : SMet X.K C mc m q g) (FN : FnOk X.prog X.w X.K X.mg X.base CX k g fd ps (spOf X.K (ks.map AK.pm) F)) (hr : Room k X.A) (hb : Binds X.K fd ps []) (hx : ∀ σ, PassesAt CX X σ (WE W σ)) (hc : DC X W io ks md (e :: es) t dc')
    (hn : (ixs ks).Nodup := by decide) (hmv : ((ixs ks).all fun i => !io.contains i || (ioIx ks).contains i) = true := by rfl)
    (hst : starEach (e :: es) X.env = (false, eval e X.env) :: starEach es X.env := by rfl) (hpl : (backTo pos (starEach es X.env)).any (·.1) = false := by rfl)
    (ht : eval (.Call (.Attribute o m apos) (e :: es) [] pos) X.env = (do
      let ov ← eval o X.env
      standAt apos.atName
      let (f, first) ← holding [ov] (getMethod ov m pl)
      callWith pos f first (backTo pos (starEach (e :: es) X.env)) (backToKw pos (keywordEach [] X.env))) := by rfl) :
    DE X W io .tmp (md ++ ixs ks) (.Call (.Attribute o m apos) (e :: es) [] pos) (tSMethS C (spOf X.K (ks.map AK.pm) F) (WE W) (tC (.ref C)) t) (dCall F ks dc') :=
  ⟨pe_smethS hcls r c FN hr hb hx hc.pa hst hpl ht, fun ρ ts σ H Q S h => ⟨rfl, erd_call hc.rd (fun _ _ _ _ h => h) hn hmv ρ ts σ H Q S h⟩⟩
end
/-! ### what a suite does, whatever the error's address -/
def isxB (tab : Isa) (C : Addr) : D → Option Bool
  | .v c => match V.tk c with
    | some u => isaD tab (.o C) u
    | none => none
  | .nd .tup cs => match D.tks cs with
    | some us => isaAny tab (.o C) us
    | none => none
  | _ => none
theorem isx_self (tab : Isa) (C a : Addr) (d : D) : isxD tab C a [.v (.ref a), d] = (isxB tab C d).map D.bl := by
  unfold isxB isxD
  rcases d with _ | v | ⟨k, cs⟩
  · rfl
  · simp only [if_true]
    cases V.tk v <;> rfl
  · cases k <;> try rfl
    simp only [if_true]
    cases D.tks cs <;> rfl
theorem set_past {s : List D} {i : Nat} (h : ¬ i < s.length) (v : D) : s.set i v = s := List.set_eq_of_length_le (by omega)
theorem get_past {s : List D} {i : Nat} (h : ¬ i < s.length) : s[i]? = none := by simp; omega
theorem ix_two0 {o : Bool} {x y : D} : ixD (.nd (.lst o) [x, y]) (.v (.int 0)) = some x := by rfl
theorem ix_two1 {o : Bool} {x y : D} : ixD (.nd (.lst o) [x, y]) (.v (.int 1)) = some y := by rfl
theorem set_mid2 {s : List D} {i j k : Nat} {x v w : D} (h : i ≠ j) (h2 : i ≠ k) : ((((s.set i x).set j v).set k w).set i .un) = ((s.set i .un).set j v).set k w := by
  rw [List.set_comm _ _ (Ne.symm h2), set_mid h]
theorem set_mid3 {s : List D} {i j k l : Nat} {x v w y : D} (h : i ≠ j) (h2 : i ≠ k) (h3 : i ≠ l) : (((((s.set i x).set j v).set k w).set l y).set i .un) = (((s.set i .un).set j v).set k w).set l y := by
  rw [List.set_comm _ _ (Ne.symm h3), set_mid2 h h2]
end VS
namespace VS
open PySem PySem.Spec PyProof.Rows L2
/-! ### the law's def at a script, several own classes -/
theorem law_walkA {α : Type} {okc : α → Prop} {l : PySem.W.OpenLaw} {q : Program} {loose : List Str} {XP : (Str → Option Value) → Heap → Prop} {YP : World → Heap → Prop} {d : DefRec} {K : Params → PySem.W.Frag} {kk : Nat} {DL : α → FD} (hn : l.most = some 63) (hdf : d.params.defaults = []) (hr : Room kk callerA)
    (hY : ∀ (w : World) (h : Heap), YP w h → (K w.params).In h) (hD : ∀ (a : α) (ns : List Int), okc a → ns.length ≤ 63 → ∃ os, DL a [.nd .scr (ns.map D.int)] = .ok (.v (.bl true), os))
    (F : ∀ (w : World) (mg : Str → Option Value) (fa : Addr) (h : Heap), (K w.params).In h → h.Ns mainGlobals mg → mg d.name = some (.ref fa) →
      ∃ (a : α) (fd : FuncData), okc a ∧ (∀ (s : Shared) (u : Value), BindsTo s fd ⟨[u], []⟩ [("script", u)]) ∧ ∀ base : Heap, (K w.params).In base → base.Ns mainGlobals mg → FnOk l.prog w (K w.params) mg base CX0 kk fa fd ["script"] (spOf (K w.params) [.val] (DL a))) :
    PySem.W.WalkO q loose XP YP l.row.toRowW d [] (fun f vs => PySem.call f vs) :=
  L2.walk_of (n := 63) (k := kk) (x := "script") (CX := fun _ => CX0) (sp := fun w => spLaw (K w.params)) hn (by rw [sizeLine_eq]; decide) hdf hr hY (fun w mg fa h KX G hmg => by
    obtain ⟨a, fd, oa, b, f⟩ := F w mg fa h KX G hmg
    exact ⟨fd, b, fun base k1 k2 => (f base k1 k2).imp fun vs H Q E h => law_imp (fun ns hl => hD a ns oa hl) h⟩) (fun _ _ a ns hl hO hS => ⟨a, ns, rfl, hO, hS, hl, fun _ => rfl⟩) fun _ _ _ _ _ z => z
theorem kit_rr {K : PySem.W.Frag} {C D : Addr} {r : Bool} (ne : (C = D) = False) (h1 : PySem.W.isClsIn K D = true) (h2 : PySem.W.typeIn K (.ref D) = some (.type "type")) (h : PySem.W.mroIn K C (.ref D) = some r) : PySem.W.kitOne K (.ref C) (.ref D) = some r := by
  unfold PySem.W.kitOne
  rw [if_neg (by intro z; rw [← ne]; have := beq_iff_eq.mp z; injection this)]
  show (if ((PySem.W.clsIn K D).isSome && PySem.W.typeIn K (.ref D) == some (.type "type")) = true then PySem.W.subIn K (.ref C) (.ref D) else none) = _
  have h3 : (PySem.W.clsIn K D).isSome = true := h1
  rw [if_pos (by rw [h3, h2]; simp)]
  exact h
theorem cls_ne {K : PySem.W.Frag} {C D : Addr} {x y : Str} {oc oc' : Value} {od od' : Option Addr} {b b' m m' : List Value} {n n' : Addr} {q q' : Str} {h h' : Bool} {s s' : List Str} {u u' : List Value} {a a' : Bool} {l l' : Option Bool} {e e' : Bool} {sl sl' : Array (Option Value)}
    (h1 : K.lookup C = some ⟨oc, od, .cls ⟨x, b, m, n, q, h, s, u, a, l, e⟩, sl⟩) (h2 : K.lookup D = some ⟨oc', od', .cls ⟨y, b', m', n', q', h', s', u', a', l', e'⟩, sl'⟩) (ne : (x == y) = false) : (C = D) = False := by
  refine eq_false fun z => ?_
  subst z
  rw [h1] at h2
  injection h2 with h2
  injection h2 with _ _ h2 _
  injection h2 with h2
  injection h2 with h2
  rw [h2] at ne
  simp at ne
end VS
namespace Wk34
open PySem PySem.Spec PyProof.Rows L2 VS
def top (i : Nat) : Stmt := PySem.Challenge.pw_clothstead_k34_drum.main.body.getD i (.Pass ⟨0, 0, 0, 0⟩)
abbrev s_in_range : Stmt := (top 6)
abbrev s_rows_fit : Stmt := (top 10)
abbrev s_Cloth___init__ : Stmt := (inClass (top 9) 1)
abbrev s_Cloth___iter__ : Stmt := (inClass (top 9) 2)
abbrev s_column : Stmt := (top 11)
abbrev s_period : Stmt := (top 12)
abbrev s_least_repeat : Stmt := (top 13)
abbrev s_shifted : Stmt := (top 14)
abbrev s_is_mirrored : Stmt := (top 16)
abbrev s_point_lags : Stmt := (top 17)
abbrev s_drum : Stmt := (top 18)
abbrev s__law_start : Stmt := (top 20)
abbrev s__law_draw : Stmt := (top 21)
abbrev s__law_side : Stmt := (top 22)
abbrev s__law_shuffled : Stmt := (top 23)
abbrev s__law_same : Stmt := (top 24)
abbrev s__law_free_rows : Stmt := (top 25)
abbrev s__law_layer_sizes : Stmt := (top 26)
abbrev s__law_ranks_in : Stmt := (top 27)
abbrev s__law_layered_rows : Stmt := (top 28)
abbrev s__law_exchange : Stmt := (top 29)
abbrev s__law_some_rows : Stmt := (top 30)
abbrev s__law_lag_rows : Stmt := (top 31)
abbrev s__law_laid_and_turned : Stmt := (top 32)
abbrev s__law_ring_lags : Stmt := (top 33)
abbrev s__law_lag : Stmt := (top 34)
abbrev s__law_shows : Stmt := (top 35)
abbrev s__law_point_lags : Stmt := (top 36)
abbrev s__law_drum_told : Stmt := (top 37)
abbrev s_law : Stmt := (top 38)
def isaT (C_Cloth : Addr) : Isa := [(.o C_Cloth, .b "bool", false), (.o C_Cloth, .b "int", false), (.o C_Cloth, .b "str", false), (.o C_Cloth, .b "tuple", false), (.o C_Cloth, .b "list", false), (.o C_Cloth, .b "dict", false), (.b "NoneType", .o C_Cloth, false), (.b "bool", .o C_Cloth, false), (.b "int", .o C_Cloth, false), (.b "str", .o C_Cloth, false), (.b "tuple", .o C_Cloth, false), (.b "list", .o C_Cloth, false), (.b "dict", .o C_Cloth, false), (.o C_Cloth, .o C_Cloth, true)]
theorem sc_in_range : FnScope ["n", "low", "high"] ["n", "low", "high"] (defScope s_in_range) := ⟨rfl, rfl, rfl, by decide +kernel, rfl, by decide +kernel, by decide +kernel⟩
def b_in_range : S := (sRt .tmp [] (dVof (dChn leD leD (dn 1) (dn 0) (dn 2))))
def D_in_range : FD := fnN 3 [] (b_in_range )
theorem sc_rows_fit : FnScope ["rows", "signs", "most", "row", "sign"] ["rows", "signs", "most"] (defScope s_rows_fit) := ⟨rfl, rfl, rfl, by decide +kernel, rfl, by decide +kernel, by decide +kernel⟩
def if_rows_fit_1 (C_Cloth : Addr) : S := (sIf (dTor (dTnot (dTt (dOp (isiD (isaT C_Cloth) [C_Cloth]) (dAcons (.vw [0]) [] (dn 0) (dAcons .tmp [] (dDis .tup [.tmp, .tmp] (dAcons .tmp [] (dc (.ty "list")) (dAcons .tmp [] (dc (.ty "tuple")) dAnil))) dAnil))))) (dTnot (dTt (dCall D_in_range [.val .tmp, .val .tmp, .val (.vw [2])] (dCval .tmp [] (dOp (u1 lenD) (dAcons (.vw [0]) [] (dn 0) dAnil)) (dCval .tmp [] (dc (.int 1)) (dCval (.vw [2]) [] (dn 2) dCnil)))))))
  (sRt .tmp [] (dc (.bl false)))
  sNx)
def if_rows_fit_2 (C_Cloth : Addr) : S := (sIf (dTor (dTnot (dTt (dOp (isiD (isaT C_Cloth) [C_Cloth]) (dAcons (.vw [3]) [] (dn 3) (dAcons .tmp [] (dc (.ty "str")) dAnil))))) (dTor (dTnot (dTt (dCall D_in_range [.val .tmp, .val .tmp, .val (.vw [2])] (dCval .tmp [] (dOp (u1 lenD) (dAcons (.vw [3]) [] (dn 3) dAnil)) (dCval .tmp [] (dc (.int 1)) (dCval (.vw [2]) [] (dn 2) dCnil)))))) (dCmp .tmp [] neD (dOp (u1 lenD) (dAcons (.vw [3]) [] (dn 3) dAnil)) (dOp (u1 lenD) (dAcons (.vw [0]) [] (dIx (.vw [0]) [] (dn 0) (dc (.int 0))) dAnil)))))
  (sRt .tmp [] (dc (.bl false)))
  sNx)
def ce_rows_fit_1 (C_Cloth : Addr) : E := (dOp scountD (dAconsC D.isStr (.vw [3]) [] (dn 3) (dAcons (.vw [4]) [] (dn 4) dAnil)))
def co_rows_fit_1 (C_Cloth : Addr) : E := (dLc (.vw [1]) [4, 4] [4] (dIt (dn 1)) (gdN 4) bYes .tmp (ce_rows_fit_1 C_Cloth))
def if_rows_fit_3 (C_Cloth : Addr) : S := (sIf (dCmp .tmp [] neD (dOp (u1 sumD) (dAcons .tmp [] (co_rows_fit_1 C_Cloth) dAnil)) (dOp (u1 lenD) (dAcons (.vw [3]) [] (dn 3) dAnil)))
  (sRt .tmp [] (dc (.bl false)))
  sNx)
def fb_rows_fit_1 (C_Cloth : Addr) : S := (sSeq (if_rows_fit_2 C_Cloth)
  (if_rows_fit_3 C_Cloth))
def fo_rows_fit_1 (C_Cloth : Addr) : S := (sFor (.vw [0]) [3, 4, 4] (dIt (dn 0)) (gdN 3) (fb_rows_fit_1 C_Cloth))
def b_rows_fit (C_Cloth : Addr) : S := (sSeq (if_rows_fit_1 C_Cloth)
  (sSeq (fo_rows_fit_1 C_Cloth)
  (sRt .tmp [] (dc (.bl true)))))
def D_rows_fit (C_Cloth : Addr) : FD := fnN 5 [] (b_rows_fit C_Cloth)
theorem sc_Cloth___init__ : FnScope ["self", "rows"] ["self", "rows"] (defScope s_Cloth___init__) := ⟨rfl, rfl, rfl, by decide +kernel, rfl, by decide +kernel, by decide +kernel⟩
def if_Cloth___init___1 (C_Cloth : Addr) : S := (sIf (dTnot (dTt (dCall (D_rows_fit C_Cloth) [.val (.vw [1]), .val .tmp, .val .tmp] (dCval (.vw [1]) [] (dn 1) (dCval .tmp [] (dc (.str "01")) (dCval .tmp [] (dc (.int 60)) dCnil))))))
  sNo
  sNx)
def b_Cloth___init__ (C_Cloth : Addr) : S := (sSeq (if_Cloth___init___1 C_Cloth)
  (sSeq (sFldD 0 [C_Cloth] "rows" .tmp (dOp (u1 tupD) (dAcons (.vw [1]) [] (dn 1) dAnil)) (dpN 0))
  (sSeq (sFldD 0 [C_Cloth] "picks" .tmp (dOp (u1 lenD) (dAcons (.vw [0]) [] (dFld [C_Cloth] "rows" (dn 0)) dAnil)) (dpN 0))
  (sFldD 0 [C_Cloth] "ends" .tmp (dOp (u1 lenD) (dAcons (.vw [0]) [] (dIx (.vw [0]) [] (dFld [C_Cloth] "rows" (dn 0)) (dc (.int 0))) dAnil)) (dpN 0)))))
def D_Cloth___init__ (C_Cloth : Addr) : FD := fnN 2 [0] (b_Cloth___init__ C_Cloth)
theorem sc_Cloth___iter__ : FnScope ["self"] ["self"] (defScope s_Cloth___iter__) := ⟨rfl, rfl, rfl, by decide +kernel, rfl, by decide +kernel, by decide +kernel⟩
theorem sc_column : FnScope ["cloth", "j", "row"] ["cloth", "j"] (defScope s_column) := ⟨rfl, rfl, rfl, by decide +kernel, rfl, by decide +kernel, by decide +kernel⟩
def ce_column_1 (C_Cloth : Addr) : E := (dIx (.vw [2]) [] (dn 2) (dn 1))
def co_column_1 (C_Cloth : Addr) : E := (dLc (.vw [0]) [2, 2] [2] (dIt (dFld [C_Cloth] "rows" (dn 0))) (gdN 2) bYes (.vw [2]) (ce_column_1 C_Cloth))
def b_column (C_Cloth : Addr) : S := (sRt .tmp [] (dOp joinD (dAconsC D.isStr .tmp [2, 2] (dc (.str "")) (dAcons .tmp [] (co_column_1 C_Cloth) dAnil))))
def D_column (C_Cloth : Addr) : FD := fnN 3 [] (b_column C_Cloth)
theorem sc_period : FnScope ["parts", "n"] ["parts"] (defScope s_period) := ⟨rfl, rfl, rfl, by decide +kernel, rfl, by decide +kernel, by decide +kernel⟩
def if_period_1 : S := (sIf (dCmp .tmp [] eqD (dTwo .tmp [] oAdd (dS10 (.vw [0]) [] (dn 0) (dn 1)) (dS01 (.vw [0]) [] (dn 0) (dn 1))) (dn 0))
  (sRt (.vw [1]) [] (dn 1))
  sNx)
def fb_period_1 : S := if_period_1
def fo_period_1 : S := (sFor .tmp [1] (dRg2 (dAcons .tmp [] (dc (.int 1)) (dAcons .tmp [] (dOp (u1 lenD) (dAcons (.vw [0]) [] (dn 0) dAnil)) dAnil))) (gdN 1) fb_period_1)
def b_period : S := (sSeq fo_period_1
  (sRt .tmp [] (dOp (u1 lenD) (dAcons (.vw [0]) [] (dn 0) dAnil))))
def D_period : FD := fnN 2 [] (b_period )
theorem sc_least_repeat : FnScope ["cloth", "picks", "ends", "j", "row"] ["cloth"] (defScope s_least_repeat) := ⟨rfl, rfl, rfl, by decide +kernel, rfl, by decide +kernel, by decide +kernel⟩
def ce_least_repeat_1 (C_Cloth : Addr) : E := (dCall (D_column C_Cloth) [.val (.vw [0]), .val (.vw [3])] (dCval (.vw [0]) [] (dn 0) (dCval (.vw [3]) [] (dn 3) dCnil)))
def co_least_repeat_1 (C_Cloth : Addr) : E := (dLc .tmp [3, 3] [3] (dRg1 (dAcons (.vw [0]) [] (dFld [C_Cloth] "ends" (dn 0)) dAnil)) (gdN 3) bYes .tmp (ce_least_repeat_1 C_Cloth))
def ce_least_repeat_2 (C_Cloth : Addr) : E := (dS01 (.vw [4]) [] (dn 4) (dn 2))
def co_least_repeat_2 (C_Cloth : Addr) : E := (dLc .tmp [4, 4] [4] (dIt (dS01 (.vw [0]) [] (dFld [C_Cloth] "rows" (dn 0)) (dn 1))) (gdN 4) bYes .tmp (ce_least_repeat_2 C_Cloth))
def b_least_repeat (C_Cloth : Addr) : S := (sSeq (sAsg .tmp (dCall D_period [.val (.vw [0])] (dCval (.vw [0]) [] (dFld [C_Cloth] "rows" (dn 0)) dCnil)) (gdN 1))
  (sSeq (sAsg .tmp (dCall D_period [.val .tmp] (dCval .tmp [] (co_least_repeat_1 C_Cloth) dCnil)) (gdN 2))
  (sRt .tmp [] (dMake true C_Cloth (D_Cloth___init__ C_Cloth) [.val .tmp] (dCval .tmp [] (co_least_repeat_2 C_Cloth) dCnil)))))
def D_least_repeat (C_Cloth : Addr) : FD := fnN 5 [] (b_least_repeat C_Cloth)
theorem sc_shifted : FnScope ["cloth", "down", "across", "first_pick", "first_end", "rows", "row"] ["cloth", "down", "across"] (defScope s_shifted) := ⟨rfl, rfl, rfl, by decide +kernel, rfl, by decide +kernel, by decide +kernel⟩
def ce_shifted_1 (C_Cloth : Addr) : E := (dTwo .tmp [] oAdd (dS10 (.vw [6]) [] (dn 6) (dn 4)) (dS01 (.vw [6]) [] (dn 6) (dn 4)))
def co_shifted_1 (C_Cloth : Addr) : E := (dLc (.vw [5]) [6, 6] [6] (dIt (dn 5)) (gdN 6) bYes .tmp (ce_shifted_1 C_Cloth))
def b_shifted (C_Cloth : Addr) : S := (sSeq (sAsg .tmp (dTwo (.vw [1]) [] oMod (dn 1) (dFld [C_Cloth] "picks" (dn 0))) (gdN 3))
  (sSeq (sAsg .tmp (dTwo (.vw [2]) [] oMod (dn 2) (dFld [C_Cloth] "ends" (dn 0))) (gdN 4))
  (sSeq (sAsg .tmp (dTwo .tmp [] oAdd (dS10 (.vw [0]) [] (dFld [C_Cloth] "rows" (dn 0)) (dn 3)) (dS01 (.vw [0]) [] (dFld [C_Cloth] "rows" (dn 0)) (dn 3))) (gdN 5))
  (sRt .tmp [] (dMake true C_Cloth (D_Cloth___init__ C_Cloth) [.val .tmp] (dCval .tmp [] (co_shifted_1 C_Cloth) dCnil))))))
def D_shifted (C_Cloth : Addr) : FD := fnN 7 [] (b_shifted C_Cloth)
theorem sc_is_mirrored : FnScope ["rows", "middle", "many", "distance"] ["rows", "middle"] (defScope s_is_mirrored) := ⟨rfl, rfl, rfl, by decide +kernel, rfl, by decide +kernel, by decide +kernel⟩
def if_is_mirrored_1 : S := (sIf (dCmp (.vw [0]) [] neD (dIx (.vw [0]) [] (dn 0) (dTwo .tmp [] oMod (dTwo (.vw [1]) [] oSub (dn 1) (dn 3)) (dn 2))) (dIx (.vw [0]) [] (dn 0) (dTwo .tmp [] oMod (dTwo (.vw [1]) [] oAdd (dn 1) (dn 3)) (dn 2))))
  (sRt .tmp [] (dc (.bl false)))
  sNx)
def fb_is_mirrored_1 : S := if_is_mirrored_1
def fo_is_mirrored_1 : S := (sFor .tmp [3] (dRg2 (dAcons .tmp [] (dc (.int 1)) (dAcons (.vw [2]) [] (dn 2) dAnil))) (gdN 3) fb_is_mirrored_1)
def b_is_mirrored : S := (sSeq (sAsg .tmp (dOp (u1 lenD) (dAcons (.vw [0]) [] (dn 0) dAnil)) (gdN 2))
  (sSeq fo_is_mirrored_1
  (sRt .tmp [] (dc (.bl true)))))
def D_is_mirrored : FD := fnN 4 [] (b_is_mirrored )
theorem sc_point_lags : FnScope ["rows", "many", "mirrors", "middle"] ["rows"] (defScope s_point_lags) := ⟨rfl, rfl, rfl, by decide +kernel, rfl, by decide +kernel, by decide +kernel⟩
def ce_point_lags_1 : E := (dn 3)
def co_point_lags_1 : E := (dLc .tmp [3, 3] [3] (dRg1 (dAcons (.vw [1]) [] (dn 1) dAnil)) (gdN 3) (dTt (dCall D_is_mirrored [.val (.vw [0]), .val (.vw [3])] (dCval (.vw [0]) [] (dn 0) (dCval (.vw [3]) [] (dn 3) dCnil)))) (.vw [3]) ce_point_lags_1)
def if_point_lags_1 : S := (sIf (dCmp .tmp [] eqD (dOp (u1 lenD) (dAcons (.vw [2]) [] (dn 2) dAnil)) (dc (.int 0)))
  (sRt .tmp [] (dc .non))
  sNx)
def if_point_lags_2 : S := (sIf (dCmp (.vw [1]) [] eqD (dn 1) (dc (.int 1)))
  (sRt .tmp [] (dc (.int 1)))
  sNx)
def if_point_lags_3 : S := (sIf (dCmp .tmp [] eqD (dTwo (.vw [1]) [] oMod (dn 1) (dc (.int 2))) (dc (.int 0)))
  (sRt .tmp [] (dTwo .tmp [] oAdd (dTwo (.vw [1]) [] oDiv (dn 1) (dc (.int 2))) (dc (.int 1))))
  sNx)
def b_point_lags : S := (sSeq (sAsg .tmp (dOp (u1 lenD) (dAcons (.vw [0]) [] (dn 0) dAnil)) (gdN 1))
  (sSeq (sAsg .tmp co_point_lags_1 (gdN 2))
  (sSeq if_point_lags_1
  (sSeq if_point_lags_2
  (sSeq if_point_lags_3
  (sRt .tmp [] (dTwo (.vw [1]) [] oAdd (dn 1) (dc (.int 1)))))))))
def D_point_lags : FD := fnN 4 [] (b_point_lags )
theorem sc_drum : FnScope ["cloth", "rows"] ["cloth"] (defScope s_drum) := ⟨rfl, rfl, rfl, by decide +kernel, rfl, by decide +kernel, by decide +kernel⟩
def b_drum (C_Cloth : Addr) : S := (sSeq (sAsg .tmp (dFld [C_Cloth] "rows" (dCall (D_least_repeat C_Cloth) [.val (.vw [0])] (dCval (.vw [0]) [] (dn 0) dCnil))) (gdN 1))
  (sRt .tmp [] (dDis .tup [.tmp, .tmp] (dAcons .tmp [] (dOp (u1 lenD) (dAcons (.vw [1]) [] (dn 1) dAnil)) (dAcons .tmp [] (dCall D_point_lags [.val (.vw [1])] (dCval (.vw [1]) [] (dn 1) dCnil)) dAnil)))))
def D_drum (C_Cloth : Addr) : FD := fnN 2 [] (b_drum C_Cloth)
theorem sc__law_start : FnScope ["script", "seed", "cell"] ["script"] (defScope s__law_start) := ⟨rfl, rfl, rfl, by decide +kernel, rfl, by decide +kernel, by decide +kernel⟩
def fb__law_start_1 : S := (sAsg .tmp (dTwo .tmp [] oMod (dOp (u1 intD) (dAcons .tmp [] (dTwo .tmp [] oAdd (dTwo .tmp [] oAdd (dTwo (.vw [1]) [] oMul (dn 1) (dc (.int 31))) (dTwo .tmp [] oMod (dOp (u1 intD) (dAcons (.vw [2]) [] (dn 2) dAnil)) (dc (.int 1000003)))) (dc (.int 5))) dAnil)) (dc (.int 2147483647))) (gdN 1))
def fo__law_start_1 : S := (sFor .tmp [2, 1] (dIt (dS01 (.vw [0]) [] (dn 0) (dc (.int 63)))) (gdN 2) fb__law_start_1)
def b__law_start : S := (sSeq (sAsg .tmp (dc (.int 7)) (gdN 1))
  (sSeq fo__law_start_1
  (sRt .tmp [] (dDis (.lst true) [.tmp, .tmp, .tmp, (.vw [1]), .tmp] (dAcons .tmp [] (dOp (u1 listD) (dAcons .tmp [] (dS01 (.vw [0]) [] (dn 0) (dc (.int 63))) dAnil)) (dAcons .tmp [] (dc (.int 0)) (dAcons .tmp [] (dc (.int 1)) (dAcons (.vw [1]) [] (dn 1) (dAcons .tmp [] (dc (.int 0)) dAnil)))))))))
def D__law_start : FD := fnN 3 [] (b__law_start )
theorem sc__law_draw : FnScope ["state", "span", "base", "mixed", "digit", "cell"] ["state", "span"] (defScope s__law_draw) := ⟨rfl, rfl, rfl, by decide +kernel, rfl, by decide +kernel, by decide +kernel⟩
def if__law_draw_1 : S := (sIf (dCmp (.vw [0]) [] gtD (dIx (.vw [0]) [] (dn 0) (dc (.int 2))) (dc (.int 1)))
  (sSeq (sAsg .tmp (dTwo .tmp [] oMod (dOp (u1 intD) (dAcons (.vw [0]) [] (dIx (.vw [0]) [] (dn 0) (dc (.int 2))) dAnil)) (dn 1)) (gdN 4))
  (sSeq (sSetIx 0 .tmp (dTwo (.vw [0]) [] oDiv (dIx (.vw [0]) [] (dn 0) (dc (.int 2))) (dn 1)) (dpN 0) (dc (.int 2)))
  (sRt (.vw [4]) [0] (dn 4))))
  sNx)
def if__law_draw_2 : S := (sIf (dCmp (.vw [5]) [] geD (dn 5) (dTwo .tmp [] oPow (dc (.int 10)) (dc (.int 18))))
  (sSeq (sSetIx 0 .tmp (dTwo (.vw [5]) [] oDiv (dn 5) (dn 1)) (dpN 0) (dc (.int 2)))
  (sRt .tmp [0] (dTwo .tmp [] oMod (dOp (u1 intD) (dAcons (.vw [5]) [] (dn 5) dAnil)) (dn 1))))
  sNx)
def if__law_draw_3 : S := (sIf (dCmp (.vw [0]) [] ltD (dIx (.vw [0]) [] (dn 0) (dc (.int 1))) (dOp (u1 lenD) (dAcons (.vw [0]) [] (dIx (.vw [0]) [] (dn 0) (dc (.int 0))) dAnil)))
  (sSeq (sAsg .tmp (dOp (u1 absD) (dAcons .tmp [] (dOp (u1 intD) (dAcons (.vw [0]) [] (dIx (.vw [0]) [] (dIx (.vw [0]) [] (dn 0) (dc (.int 0))) (dIx (.vw [0]) [] (dn 0) (dc (.int 1)))) dAnil)) dAnil)) (gdN 5))
  (sSeq (sSetIx 0 .tmp (dTwo (.vw [0]) [] oAdd (dIx (.vw [0]) [] (dn 0) (dc (.int 1))) (dc (.int 1))) (dpN 0) (dc (.int 1)))
  (sSeq if__law_draw_2
  (sAsg (.vw [5]) (dn 5) (gdN 2)))))
  sNx)
def b__law_draw : S := (sSeq (sSetIx 0 .tmp (dTwo (.vw [0]) [] oAdd (dIx (.vw [0]) [] (dn 0) (dc (.int 4))) (dc (.int 1))) (dpN 0) (dc (.int 4)))
  (sSeq if__law_draw_1
  (sSeq (sAsg (.vw [0]) (dIx (.vw [0]) [] (dn 0) (dc (.int 3))) (gdN 2))
  (sSeq if__law_draw_3
  (sSeq (sAsg .tmp (dTwo .tmp [] oMod (dOp (u1 intD) (dAcons .tmp [] (dTwo .tmp [] oAdd (dTwo .tmp [] oAdd (dTwo (.vw [2]) [] oMul (dn 2) (dc (.int 48271))) (dTwo (.vw [0]) [] oMul (dIx (.vw [0]) [] (dn 0) (dc (.int 4))) (dc (.int 69621)))) (dc (.int 11))) dAnil)) (dc (.int 2147483647))) (gdN 3))
  (sSeq (sAsg .tmp (dTwo .tmp [] oMod (dOp (u1 intD) (dAcons .tmp [] (dTwo .tmp [] oAdd (dTwo (.vw [3]) [] oMul (dn 3) (dn 3)) (dTwo (.vw [0]) [] oMul (dIx (.vw [0]) [] (dn 0) (dc (.int 4))) (dc (.int 7919)))) dAnil)) (dc (.int 2147483629))) (gdN 3))
  (sSeq (sAsg .tmp (dTwo .tmp [] oMod (dOp (u1 intD) (dAcons .tmp [] (dTwo .tmp [] oAdd (dTwo (.vw [3]) [] oMul (dn 3) (dn 3)) (dc (.int 101))) dAnil)) (dc (.int 2147483587))) (gdN 3))
  (sRt .tmp [0] (dTwo .tmp [] oMod (dOp (u1 intD) (dAcons (.vw [3]) [] (dn 3) dAnil)) (dn 1))))))))))
def D__law_draw : FD := fnN 6 [0] (b__law_draw )
theorem sc__law_side : FnScope ["state", "most", "kind"] ["state", "most"] (defScope s__law_side) := ⟨rfl, rfl, rfl, by decide +kernel, rfl, by decide +kernel, by decide +kernel⟩
def if__law_side_1 : S := (sIf (dCmp (.vw [2]) [] eqD (dn 2) (dc (.int 0)))
  (sRt .tmp [0] (dTwo .tmp [0] oAdd (dc (.int 1)) (dCall D__law_draw [.io 0, .val (.vw [1])] (dCslot 0 (dCval (.vw [1]) [] (dn 1) dCnil)))))
  sNx)
def if__law_side_2 : S := (sIf (dCmp (.vw [2]) [] ltD (dn 2) (dc (.int 4)))
  (sRt .tmp [0] (dTwo .tmp [0] oAdd (dc (.int 1)) (dCall D__law_draw [.io 0, .val .tmp] (dCslot 0 (dCval .tmp [] (dOp (i2D minI) (dAcons (.vw [1]) [] (dn 1) (dAcons .tmp [] (dc (.int 12)) dAnil))) dCnil)))))
  sNx)
def b__law_side : S := (sSeq (sAsg .tmp (dCall D__law_draw [.io 0, .val .tmp] (dCslot 0 (dCval .tmp [] (dc (.int 16)) dCnil))) (gdN 2))
  (sSeq if__law_side_1
  (sSeq if__law_side_2
  (sRt .tmp [0] (dTwo .tmp [0] oAdd (dc (.int 1)) (dCall D__law_draw [.io 0, .val .tmp] (dCslot 0 (dCval .tmp [] (dOp (i2D minI) (dAcons (.vw [1]) [] (dn 1) (dAcons .tmp [] (dc (.int 5)) dAnil))) dCnil))))))))
def D__law_side : FD := fnN 3 [0] (b__law_side )
theorem sc__law_shuffled : FnScope ["state", "count", "order", "k", "at", "kept"] ["state", "count"] (defScope s__law_shuffled) := ⟨rfl, rfl, rfl, by decide +kernel, rfl, by decide +kernel, by decide +kernel⟩
def fb__law_shuffled_1 : S := (sSeq (sAsg .tmp (dTwo (.vw [3]) [0] oAdd (dn 3) (dCall D__law_draw [.io 0, .val .tmp] (dCslot 0 (dCval .tmp [] (dTwo (.vw [1]) [] oSub (dn 1) (dn 3)) dCnil)))) (gdN 4))
  (sSeq (sAsg (.vw [2]) (dIx (.vw [2]) [] (dn 2) (dn 3)) (gdN 5))
  (sSeq (sSetIx 2 (.vw [2]) (dIx (.vw [2]) [] (dn 2) (dn 4)) (dpN 2) (dn 3))
  (sSetIx 2 (.vw [5]) (dn 5) (dpN 2) (dn 4)))))
def fo__law_shuffled_1 : S := (sFor .tmp [3, 0, 4, 5, 2, 2] (dRg1 (dAcons (.vw [1]) [] (dn 1) dAnil)) (gdN 3) fb__law_shuffled_1)
def b__law_shuffled : S := (sSeq (sAsg .tmp (dOne lrD1 (dn 1)) (gdN 2))
  (sSeq fo__law_shuffled_1
  (sRt (.vw [2]) [0] (dn 2))))
def D__law_shuffled : FD := fnN 6 [0] (b__law_shuffled )
theorem sc__law_same : FnScope ["actual", "due", "k"] ["actual", "due"] (defScope s__law_same) := ⟨rfl, rfl, rfl, by decide +kernel, rfl, by decide +kernel, by decide +kernel⟩
def if__law_same_1 (C_Cloth : Addr) (rec : FD) : S := (sIf (dCmp (.vw [1]) [] (isNoneD false) (dn 1) (dc .non))
  (sRt .tmp [] (dTwo (.vw [0]) [] (oB (isNoneD false)) (dn 0) (dc .non)))
  sNx)
def if__law_same_2 (C_Cloth : Addr) (rec : FD) : S := (sIf (dTt (dOp (isiD (isaT C_Cloth) [C_Cloth]) (dAcons (.vw [1]) [] (dn 1) (dAcons .tmp [] (dc (.ty "bool")) dAnil))))
  (sRt .tmp [] (dVand (dOp (isiD (isaT C_Cloth) [C_Cloth]) (dAcons (.vw [0]) [] (dn 0) (dAcons .tmp [] (dc (.ty "bool")) dAnil))) (dTmp .tmp (dTwo (.vw [0]) [] (oB eqD) (dn 0) (dn 1)))))
  sNx)
def if__law_same_3 (C_Cloth : Addr) (rec : FD) : S := (sIf (dTt (dOp (isiD (isaT C_Cloth) [C_Cloth]) (dAcons (.vw [1]) [] (dn 1) (dAcons .tmp [] (dc (.ty "int")) dAnil))))
  (sRt .tmp [] (dVand (dOp (isiD (isaT C_Cloth) [C_Cloth]) (dAcons (.vw [0]) [] (dn 0) (dAcons .tmp [] (dc (.ty "int")) dAnil))) (dVand (dVnot (dOp (isiD (isaT C_Cloth) [C_Cloth]) (dAcons (.vw [0]) [] (dn 0) (dAcons .tmp [] (dc (.ty "bool")) dAnil)))) (dTmp .tmp (dTwo (.vw [0]) [] (oB eqD) (dn 0) (dn 1))))))
  sNx)
def if__law_same_4 (C_Cloth : Addr) (rec : FD) : S := (sIf (dTt (dOp (isiD (isaT C_Cloth) [C_Cloth]) (dAcons (.vw [1]) [] (dn 1) (dAcons .tmp [] (dc (.ty "str")) dAnil))))
  (sRt .tmp [] (dVand (dOp (isiD (isaT C_Cloth) [C_Cloth]) (dAcons (.vw [0]) [] (dn 0) (dAcons .tmp [] (dc (.ty "str")) dAnil))) (dTmp .tmp (dTwo (.vw [0]) [] (oB eqD) (dn 0) (dn 1)))))
  sNx)
def if__law_same_5 (C_Cloth : Addr) (rec : FD) : S := (sIf (dTor (dTnot (dTt (dOp (isiD (isaT C_Cloth) [C_Cloth]) (dAcons (.vw [0]) [] (dn 0) (dAcons .tmp [] (dc (.ty "tuple")) dAnil))))) (dCmp .tmp [] neD (dOp (u1 lenD) (dAcons (.vw [0]) [] (dn 0) dAnil)) (dOp (u1 lenD) (dAcons (.vw [1]) [] (dn 1) dAnil))))
  (sRt .tmp [] (dc (.bl false)))
  sNx)
def if__law_same_6 (C_Cloth : Addr) (rec : FD) : S := (sIf (dTnot (dTt (dCall rec [.val (.vw [0]), .val (.vw [1])] (dCval (.vw [0]) [] (dIx (.vw [0]) [] (dn 0) (dn 2)) (dCval (.vw [1]) [] (dIx (.vw [1]) [] (dn 1) (dn 2)) dCnil)))))
  (sRt .tmp [] (dc (.bl false)))
  sNx)
def fb__law_same_1 (C_Cloth : Addr) (rec : FD) : S := (if__law_same_6 C_Cloth rec)
def fo__law_same_1 (C_Cloth : Addr) (rec : FD) : S := (sFor .tmp [2] (dRg1 (dAcons .tmp [] (dOp (u1 lenD) (dAcons (.vw [1]) [] (dn 1) dAnil)) dAnil)) (gdN 2) (fb__law_same_1 C_Cloth rec))
def b__law_same (C_Cloth : Addr) (rec : FD) : S := (sSeq (if__law_same_1 C_Cloth rec)
  (sSeq (if__law_same_2 C_Cloth rec)
  (sSeq (if__law_same_3 C_Cloth rec)
  (sSeq (if__law_same_4 C_Cloth rec)
  (sSeq (if__law_same_5 C_Cloth rec)
  (sSeq (fo__law_same_1 C_Cloth rec)
  (sRt .tmp [] (dc (.bl true)))))))))
def D__law_same (C_Cloth : Addr) : Nat → FD
  | 0 => fun _ => .no
  | k + 1 => fnN 3 [] (b__law_same C_Cloth (D__law_same C_Cloth k))
theorem sc__law_free_rows : FnScope ["state", "h", "w", "told", "i", "j"] ["state", "h", "w"] (defScope s__law_free_rows) := ⟨rfl, rfl, rfl, by decide +kernel, rfl, by decide +kernel, by decide +kernel⟩
def ce__law_free_rows_1 : E := (dIx .tmp [0] (dc (.str "01")) (dCall D__law_draw [.io 0, .val .tmp] (dCslot 0 (dCval .tmp [] (dc (.int 2)) dCnil))))
def co__law_free_rows_1 : E := (dLc .tmp [5, 0, 5] [5] (dRg1 (dAcons (.vw [2]) [] (dn 2) dAnil)) (gdN 5) bYes .tmp ce__law_free_rows_1)
def fb__law_free_rows_1 : S := (sDrop (dMeth 3 [.tmp] (dpN 3) mAppend (dAcons .tmp [] (dOp joinD (dAconsC D.isStr .tmp [5, 0, 5] (dc (.str "")) (dAcons .tmp [] co__law_free_rows_1 dAnil))) dAnil)))
def fo__law_free_rows_1 : S := (sFor .tmp [4, 5, 0, 5, 3] (dRg1 (dAcons (.vw [1]) [] (dn 1) dAnil)) (gdN 4) fb__law_free_rows_1)
def b__law_free_rows : S := (sSeq (sAsg .tmp (dDis (.lst true) [] dAnil) (gdN 3))
  (sSeq fo__law_free_rows_1
  (sRt (.vw [3]) [0] (dn 3))))
def D__law_free_rows : FD := fnN 6 [0] (b__law_free_rows )
theorem sc__law_layer_sizes : FnScope ["state", "most", "sizes", "ends", "picks", "k", "kind", "e", "p"] ["state", "most"] (defScope s__law_layer_sizes) := ⟨rfl, rfl, rfl, by decide +kernel, rfl, by decide +kernel, by decide +kernel⟩
def if__law_layer_sizes_1 : S := (sIf (dTand (dCmp .tmp [] gtD (dOp (u1 lenD) (dAcons (.vw [2]) [] (dn 2) dAnil)) (dc (.int 0))) (dCmp (.vw [2]) [] eqD (dIx (.vw [2]) [] (dIx (.vw [2]) [] (dn 2) (dOne oNeg (dc (.int 1)))) (dc (.int 0))) (dn 6)))
  (sAsg .tmp (dc (.int 0)) (gdN 6))
  sNx)
def if__law_layer_sizes_2 : S := (sIf (dTand (dCmp .tmp [] leD (dTwo (.vw [3]) [] oAdd (dn 3) (dn 7)) (dn 1)) (dCmp .tmp [] leD (dTwo (.vw [4]) [] oAdd (dn 4) (dn 8)) (dn 1)))
  (sSeq (sDrop (dMeth 2 [.tmp] (dpN 2) mAppend (dAcons .tmp [] (dDis (.lst true) [(.vw [6]), (.vw [7]), (.vw [8])] (dAcons (.vw [6]) [] (dn 6) (dAcons (.vw [7]) [] (dn 7) (dAcons (.vw [8]) [] (dn 8) dAnil)))) dAnil)))
  (sSeq (sAsg .tmp (dTwo (.vw [3]) [] oAdd (dn 3) (dn 7)) (gdN 3))
  (sAsg .tmp (dTwo (.vw [4]) [] oAdd (dn 4) (dn 8)) (gdN 4))))
  sNx)
def fb__law_layer_sizes_1 : S := (sSeq (sAsg .tmp (dCall D__law_draw [.io 0, .val .tmp] (dCslot 0 (dCval .tmp [] (dc (.int 3)) dCnil))) (gdN 6))
  (sSeq if__law_layer_sizes_1
  (sSeq (sAsg .tmp (dIx .tmp [] (dDis (.lst true) [.tmp, .tmp, .tmp] (dAcons .tmp [0] (dTwo .tmp [0] oAdd (dc (.int 2)) (dCall D__law_draw [.io 0, .val .tmp] (dCslot 0 (dCval .tmp [] (dc (.int 2)) dCnil)))) (dAcons .tmp [] (dTwo .tmp [0] oAdd (dc (.int 1)) (dCall D__law_draw [.io 0, .val .tmp] (dCslot 0 (dCval .tmp [] (dc (.int 3)) dCnil)))) (dAcons .tmp [] (dc (.int 0)) dAnil)))) (dn 6)) (gdN 7))
  (sSeq (sAsg .tmp (dIx .tmp [] (dDis (.lst true) [.tmp, .tmp, .tmp] (dAcons .tmp [0] (dTwo .tmp [0] oAdd (dc (.int 2)) (dCall D__law_draw [.io 0, .val .tmp] (dCslot 0 (dCval .tmp [] (dc (.int 2)) dCnil)))) (dAcons .tmp [0] (dc (.int 0)) (dAcons .tmp [] (dTwo .tmp [0] oAdd (dc (.int 1)) (dCall D__law_draw [.io 0, .val .tmp] (dCslot 0 (dCval .tmp [] (dc (.int 3)) dCnil)))) dAnil)))) (dn 6)) (gdN 8))
  if__law_layer_sizes_2))))
def fo__law_layer_sizes_1 : S := (sFor .tmp [5, 0, 6, 6, 0, 0, 7, 0, 0, 8, 2, 3, 4] (dRg1 (dAcons .tmp [] (dTwo .tmp [0] oAdd (dc (.int 1)) (dCall D__law_draw [.io 0, .val .tmp] (dCslot 0 (dCval .tmp [] (dc (.int 4)) dCnil)))) dAnil)) (gdN 5) fb__law_layer_sizes_1)
def if__law_layer_sizes_3 : S := (sIf (dCmp (.vw [3]) [] eqD (dn 3) (dc (.int 0)))
  (sDrop (dMeth 2 [.tmp] (dpN 2) mAppend (dAcons .tmp [] (dDis (.lst true) [.tmp, .tmp, .tmp] (dAcons .tmp [] (dc (.int 1)) (dAcons .tmp [] (dc (.int 1)) (dAcons .tmp [] (dc (.int 0)) dAnil)))) dAnil)))
  sNx)
def if__law_layer_sizes_4 : S := (sIf (dCmp (.vw [4]) [] eqD (dn 4) (dc (.int 0)))
  (sDrop (dMeth 2 [.tmp] (dpN 2) mAppend (dAcons .tmp [] (dDis (.lst true) [.tmp, .tmp, .tmp] (dAcons .tmp [] (dc (.int 2)) (dAcons .tmp [] (dc (.int 0)) (dAcons .tmp [] (dc (.int 1)) dAnil)))) dAnil)))
  sNx)
def b__law_layer_sizes : S := (sSeq (sAsg .tmp (dDis (.lst true) [] dAnil) (gdN 2))
  (sSeq (sAsg .tmp (dc (.int 0)) (gdN 3))
  (sSeq (sAsg .tmp (dc (.int 0)) (gdN 4))
  (sSeq fo__law_layer_sizes_1
  (sSeq if__law_layer_sizes_3
  (sSeq if__law_layer_sizes_4
  (sRt (.vw [2]) [0] (dn 2))))))))
def D__law_layer_sizes : FD := fnN 9 [0] (b__law_layer_sizes )
theorem sc__law_ranks_in : FnScope ["owner", "told", "k"] ["owner"] (defScope s__law_ranks_in) := ⟨rfl, rfl, rfl, by decide +kernel, rfl, by decide +kernel, by decide +kernel⟩
def fb__law_ranks_in_1 : S := (sDrop (dMeth 1 [.tmp] (dpN 1) mAppend (dAcons .tmp [] (dOp lcountD (dAconsC D.isLst .tmp [] (dS01 (.vw [0]) [] (dn 0) (dn 2)) (dAcons (.vw [0]) [] (dIx (.vw [0]) [] (dn 0) (dn 2)) dAnil))) dAnil)))
def fo__law_ranks_in_1 : S := (sFor .tmp [2, 1] (dRg1 (dAcons .tmp [] (dOp (u1 lenD) (dAcons (.vw [0]) [] (dn 0) dAnil)) dAnil)) (gdN 2) fb__law_ranks_in_1)
def b__law_ranks_in : S := (sSeq (sAsg .tmp (dDis (.lst true) [] dAnil) (gdN 1))
  (sSeq fo__law_ranks_in_1
  (sRt (.vw [1]) [] (dn 1))))
def D__law_ranks_in : FD := fnN 3 [] (b__law_ranks_in )
theorem sc__law_layered_rows : FnScope ["state", "sizes", "ends", "picks", "k", "end_ranks", "pick_ranks", "told", "i", "row", "j", "x"] ["state", "sizes"] (defScope s__law_layered_rows) := ⟨rfl, rfl, rfl, by decide +kernel, rfl, by decide +kernel, by decide +kernel⟩
def fb__law_layered_rows_1 : S := (sSeq (sDrop (dMeth 2 [.tmp] (dpN 2) mExtend (dAcons .tmp [] (dTwo .tmp [] oMul (dDis (.lst true) [(.vw [4])] (dAcons (.vw [4]) [] (dn 4) dAnil)) (dIx (.vw [1]) [] (dIx (.vw [1]) [] (dn 1) (dn 4)) (dc (.int 1)))) dAnil)))
  (sDrop (dMeth 3 [.tmp] (dpN 3) mExtend (dAcons .tmp [] (dTwo .tmp [] oMul (dDis (.lst true) [(.vw [4])] (dAcons (.vw [4]) [] (dn 4) dAnil)) (dIx (.vw [1]) [] (dIx (.vw [1]) [] (dn 1) (dn 4)) (dc (.int 2)))) dAnil))))
def fo__law_layered_rows_1 : S := (sFor .tmp [4, 2, 3] (dRg1 (dAcons .tmp [] (dOp (u1 lenD) (dAcons (.vw [1]) [] (dn 1) dAnil)) dAnil)) (gdN 4) fb__law_layered_rows_1)
def ce__law_layered_rows_1 : E := (dIx (.vw [2]) [] (dn 2) (dn 11))
def co__law_layered_rows_1 : E := (dLc .tmp [11, 11] [11] (dIt (dCall D__law_shuffled [.io 0, .val .tmp] (dCslot 0 (dCval .tmp [] (dOp (u1 lenD) (dAcons (.vw [2]) [] (dn 2) dAnil)) dCnil)))) (gdN 11) bYes (.vw [2]) ce__law_layered_rows_1)
def ce__law_layered_rows_2 : E := (dIx (.vw [3]) [] (dn 3) (dn 11))
def co__law_layered_rows_2 : E := (dLc .tmp [11, 11] [11] (dIt (dCall D__law_shuffled [.io 0, .val .tmp] (dCslot 0 (dCval .tmp [] (dOp (u1 lenD) (dAcons (.vw [3]) [] (dn 3) dAnil)) dCnil)))) (gdN 11) bYes (.vw [3]) ce__law_layered_rows_2)
def if__law_layered_rows_1 : S := (sIf (dCmp (.vw [2]) [] eqD (dIx (.vw [2]) [] (dn 2) (dn 10)) (dIx (.vw [3]) [] (dn 3) (dn 8)))
  (sAsg .tmp (dTwo (.vw [9]) [] oAdd (dn 9) (dIx .tmp [] (dc (.str "01")) (dTwo .tmp [] oMod (dOp (u1 intD) (dAcons .tmp [] (dTwo (.vw [5]) [] oAdd (dIx (.vw [5]) [] (dn 5) (dn 10)) (dIx (.vw [6]) [] (dn 6) (dn 8))) dAnil)) (dc (.int 2))))) (gdN 9))
  (sAsg .tmp (dTwo (.vw [9]) [] oAdd (dn 9) (dIx .tmp [] (dc (.str "01")) (dOp (u1 intD) (dAcons .tmp [] (dTwo (.vw [2]) [] (oB ltD) (dIx (.vw [2]) [] (dn 2) (dn 10)) (dIx (.vw [3]) [] (dn 3) (dn 8))) dAnil)))) (gdN 9)))
def fb__law_layered_rows_2 : S := if__law_layered_rows_1
def fo__law_layered_rows_2 : S := (sFor .tmp [10, 9, 9] (dRg1 (dAcons .tmp [] (dOp (u1 lenD) (dAcons (.vw [2]) [] (dn 2) dAnil)) dAnil)) (gdN 10) fb__law_layered_rows_2)
def fb__law_layered_rows_3 : S := (sSeq (sAsg .tmp (dc (.str "")) (gdN 9))
  (sSeq fo__law_layered_rows_2
  (sDrop (dMeth 7 [(.vw [9])] (dpN 7) mAppend (dAcons (.vw [9]) [] (dn 9) dAnil)))))
def fo__law_layered_rows_3 : S := (sFor .tmp [8, 9, 10, 9, 9, 7] (dRg1 (dAcons .tmp [] (dOp (u1 lenD) (dAcons (.vw [3]) [] (dn 3) dAnil)) dAnil)) (gdN 8) fb__law_layered_rows_3)
def b__law_layered_rows : S := (sSeq (sAsg .tmp (dDis (.lst true) [] dAnil) (gdN 2))
  (sSeq (sAsg .tmp (dDis (.lst true) [] dAnil) (gdN 3))
  (sSeq fo__law_layered_rows_1
  (sSeq (sAsg .tmp co__law_layered_rows_1 (gdN 2))
  (sSeq (sAsg .tmp co__law_layered_rows_2 (gdN 3))
  (sSeq (sAsg .tmp (dCall D__law_ranks_in [.val (.vw [2])] (dCval (.vw [2]) [] (dn 2) dCnil)) (gdN 5))
  (sSeq (sAsg .tmp (dCall D__law_ranks_in [.val (.vw [3])] (dCval (.vw [3]) [] (dn 3) dCnil)) (gdN 6))
  (sSeq (sAsg .tmp (dDis (.lst true) [] dAnil) (gdN 7))
  (sSeq fo__law_layered_rows_3
  (sRt (.vw [7]) [0] (dn 7)))))))))))
def D__law_layered_rows : FD := fnN 12 [0] (b__law_layered_rows )
theorem sc__law_exchange : FnScope ["cloth_rows", "i", "j", "told", "sign"] ["cloth_rows", "i", "j"] (defScope s__law_exchange) := ⟨rfl, rfl, rfl, by decide +kernel, rfl, by decide +kernel, by decide +kernel⟩
def b__law_exchange : S := (sSeq (sAsg .tmp (dOp (u1 listD) (dAcons (.vw [0]) [] (dn 0) dAnil)) (gdN 3))
  (sSeq (sAsg .tmp (dIx .tmp [] (dc (.str "10")) (dOp (u1 intD) (dAcons .tmp [] (dTwo (.vw [3]) [] (oB eqD) (dIx (.vw [3]) [] (dIx (.vw [3]) [] (dn 3) (dn 1)) (dn 2)) (dc (.str "1"))) dAnil))) (gdN 4))
  (sSeq (sSetIx 3 .tmp (dTwo .tmp [] oAdd (dTwo .tmp [] oAdd (dS01 (.vw [3]) [] (dIx (.vw [3]) [] (dn 3) (dn 1)) (dn 2)) (dn 4)) (dS10 (.vw [3]) [] (dIx (.vw [3]) [] (dn 3) (dn 1)) (dTwo (.vw [2]) [] oAdd (dn 2) (dc (.int 1))))) (dpN 3) (dn 1))
  (sRt (.vw [3]) [] (dn 3)))))
def D__law_exchange : FD := fnN 5 [] (b__law_exchange )
theorem sc__law_some_rows : FnScope ["state", "most", "kind", "told", "h", "i"] ["state", "most"] (defScope s__law_some_rows) := ⟨rfl, rfl, rfl, by decide +kernel, rfl, by decide +kernel, by decide +kernel⟩
def if__law_some_rows_1 : S := (sIf (dCmp (.vw [2]) [] ltD (dn 2) (dc (.int 2)))
  (sSeq (sAsg .tmp (dCall D__law_side [.io 0, .val (.vw [1])] (dCslot 0 (dCval (.vw [1]) [] (dn 1) dCnil))) (gdN 4))
  (sRt .tmp [0] (dCall D__law_free_rows [.io 0, .val (.vw [4]), .val .tmp] (dCslot 0 (dCval (.vw [4]) [0] (dn 4) (dCval .tmp [] (dCall D__law_side [.io 0, .val (.vw [1])] (dCslot 0 (dCval (.vw [1]) [] (dn 1) dCnil))) dCnil))))))
  sNx)
def if__law_some_rows_2 : S := (sIf (dCmp (.vw [2]) [] eqD (dn 2) (dc (.int 3)))
  (sSeq (sAsg .tmp (dCall D__law_draw [.io 0, .val .tmp] (dCslot 0 (dCval .tmp [] (dOp (u1 lenD) (dAcons (.vw [3]) [] (dn 3) dAnil)) dCnil))) (gdN 5))
  (sAsg .tmp (dCall D__law_exchange [.val (.vw [3]), .val (.vw [5]), .val .tmp] (dCval (.vw [3]) [0] (dn 3) (dCval (.vw [5]) [0] (dn 5) (dCval .tmp [] (dCall D__law_draw [.io 0, .val .tmp] (dCslot 0 (dCval .tmp [] (dOp (u1 lenD) (dAcons (.vw [3]) [] (dIx (.vw [3]) [] (dn 3) (dc (.int 0))) dAnil)) dCnil))) dCnil)))) (gdN 3)))
  sNx)
def b__law_some_rows : S := (sSeq (sAsg .tmp (dCall D__law_draw [.io 0, .val .tmp] (dCslot 0 (dCval .tmp [] (dc (.int 4)) dCnil))) (gdN 2))
  (sSeq if__law_some_rows_1
  (sSeq (sAsg .tmp (dCall D__law_layered_rows [.io 0, .val .tmp] (dCslot 0 (dCval .tmp [] (dCall D__law_layer_sizes [.io 0, .val .tmp] (dCslot 0 (dCval .tmp [] (dOp (i2D minI) (dAcons (.vw [1]) [] (dn 1) (dAcons .tmp [] (dc (.int 14)) dAnil))) dCnil))) dCnil))) (gdN 3))
  (sSeq if__law_some_rows_2
  (sRt (.vw [3]) [0] (dn 3))))))
def D__law_some_rows : FD := fnN 6 [0] (b__law_some_rows )
theorem sc__law_lag_rows : FnScope ["state", "kind", "pool", "count", "some", "k"] ["state"] (defScope s__law_lag_rows) := ⟨rfl, rfl, rfl, by decide +kernel, rfl, by decide +kernel, by decide +kernel⟩
def if__law_lag_rows_1 : S := (sIf (dCmp (.vw [1]) [] eqD (dn 1) (dc (.int 0)))
  (sRt .tmp [0] (dCall D__law_some_rows [.io 0, .val .tmp] (dCslot 0 (dCval .tmp [] (dc (.int 60)) dCnil))))
  sNx)
def if__law_lag_rows_2 : S := (sIf (dCmp .tmp [] eqD (dCall D__law_draw [.io 0, .val .tmp] (dCslot 0 (dCval .tmp [] (dc (.int 16)) dCnil))) (dc (.int 0)))
  (sAsg .tmp (dTwo .tmp [0] oAdd (dc (.int 1)) (dCall D__law_draw [.io 0, .val .tmp] (dCslot 0 (dCval .tmp [] (dc (.int 30)) dCnil)))) (gdN 3))
  sNx)
def ce__law_lag_rows_1 : E := (dIx (.vw [2]) [0] (dn 2) (dCall D__law_draw [.io 0, .val .tmp] (dCslot 0 (dCval .tmp [] (dOp (u1 lenD) (dAcons (.vw [2]) [] (dn 2) dAnil)) dCnil))))
def co__law_lag_rows_1 : E := (dLc .tmp [5, 0, 5] [5] (dRg1 (dAcons (.vw [3]) [] (dn 3) dAnil)) (gdN 5) bYes (.vw [2]) ce__law_lag_rows_1)
def if__law_lag_rows_3 : S := (sIf (dCmp (.vw [1]) [] ltD (dn 1) (dc (.int 4)))
  (sRt .tmp [0] (dTwo (.vw [4]) [] oAdd (dn 4) (dOne revD (dS11 (.vw [4]) [] [] (dn 4) (dc (.int 1)) (dOne oNeg (dc (.int 1)))))))
  sNx)
def if__law_lag_rows_4 : S := (sIf (dCmp (.vw [1]) [] ltD (dn 1) (dc (.int 6)))
  (sRt .tmp [0] (dTwo (.vw [4]) [] oAdd (dn 4) (dOne revD (dS10 (.vw [4]) [] (dn 4) (dc (.int 1))))))
  sNx)
def if__law_lag_rows_5 : S := (sIf (dCmp (.vw [1]) [] eqD (dn 1) (dc (.int 6)))
  (sRt .tmp [0] (dTwo (.vw [4]) [] oAdd (dn 4) (dOne revD (dn 4))))
  sNx)
def b__law_lag_rows : S := (sSeq (sAsg .tmp (dCall D__law_draw [.io 0, .val .tmp] (dCslot 0 (dCval .tmp [] (dc (.int 8)) dCnil))) (gdN 1))
  (sSeq if__law_lag_rows_1
  (sSeq (sAsg .tmp (dCall D__law_free_rows [.io 0, .val .tmp, .val .tmp] (dCslot 0 (dCval .tmp [0] (dTwo .tmp [0] oAdd (dc (.int 1)) (dCall D__law_draw [.io 0, .val .tmp] (dCslot 0 (dCval .tmp [] (dc (.int 4)) dCnil)))) (dCval .tmp [] (dCall D__law_side [.io 0, .val .tmp] (dCslot 0 (dCval .tmp [] (dc (.int 60)) dCnil))) dCnil)))) (gdN 2))
  (sSeq (sAsg .tmp (dTwo .tmp [0] oAdd (dc (.int 1)) (dCall D__law_draw [.io 0, .val .tmp] (dCslot 0 (dCval .tmp [] (dc (.int 8)) dCnil)))) (gdN 3))
  (sSeq if__law_lag_rows_2
  (sSeq (sAsg .tmp co__law_lag_rows_1 (gdN 4))
  (sSeq if__law_lag_rows_3
  (sSeq if__law_lag_rows_4
  (sSeq if__law_lag_rows_5
  (sRt (.vw [4]) [0] (dn 4)))))))))))
def D__law_lag_rows : FD := fnN 6 [0] (b__law_lag_rows )
theorem sc__law_laid_and_turned : FnScope ["state", "cloth_rows", "h", "down", "told", "i"] ["state", "cloth_rows"] (defScope s__law_laid_and_turned) := ⟨rfl, rfl, rfl, by decide +kernel, rfl, by decide +kernel, by decide +kernel⟩
def if__law_laid_and_turned_1 : S := (sIf (dCmp .tmp [] eqD (dCall D__law_draw [.io 0, .val .tmp] (dCslot 0 (dCval .tmp [] (dc (.int 4)) dCnil))) (dc (.int 0)))
  (sSeq (sAsg .tmp (dCall D__law_draw [.io 0, .val .tmp] (dCslot 0 (dCval .tmp [] (dOp (u1 lenD) (dAcons (.vw [4]) [] (dn 4) dAnil)) dCnil))) (gdN 5))
  (sRt .tmp [0] (dCall D__law_exchange [.val (.vw [4]), .val (.vw [5]), .val .tmp] (dCval (.vw [4]) [0] (dn 4) (dCval (.vw [5]) [0] (dn 5) (dCval .tmp [] (dCall D__law_draw [.io 0, .val .tmp] (dCslot 0 (dCval .tmp [] (dOp (u1 lenD) (dAcons (.vw [4]) [] (dIx (.vw [4]) [] (dn 4) (dc (.int 0))) dAnil)) dCnil))) dCnil))))))
  sNx)
def b__law_laid_and_turned : S := (sSeq (sAsg .tmp (dOp (u1 lenD) (dAcons (.vw [1]) [] (dn 1) dAnil)) (gdN 2))
  (sSeq (sAsg .tmp (dCall D__law_draw [.io 0, .val (.vw [2])] (dCslot 0 (dCval (.vw [2]) [] (dn 2) dCnil))) (gdN 3))
  (sSeq (sAsg .tmp (dTwo .tmp [] oAdd (dS10 (.vw [1]) [] (dn 1) (dn 3)) (dS01 (.vw [1]) [] (dn 1) (dn 3))) (gdN 4))
  (sSeq (sAsg .tmp (dTwo (.vw [4]) [0] oMul (dn 4) (dTwo .tmp [0] oAdd (dc (.int 1)) (dCall D__law_draw [.io 0, .val .tmp] (dCslot 0 (dCval .tmp [] (dOp (i2D minI) (dAcons .tmp [] (dc (.int 3)) (dAcons .tmp [] (dTwo .tmp [] oDiv (dc (.int 60)) (dn 2)) dAnil))) dCnil))))) (gdN 4))
  (sSeq if__law_laid_and_turned_1
  (sRt (.vw [4]) [0] (dn 4)))))))
def D__law_laid_and_turned : FD := fnN 6 [0] (b__law_laid_and_turned )
theorem sc__law_ring_lags : FnScope ["cloth_rows", "h", "d"] ["cloth_rows"] (defScope s__law_ring_lags) := ⟨rfl, rfl, rfl, by decide +kernel, rfl, by decide +kernel, by decide +kernel⟩
def ce__law_ring_lags_1 : E := (dn 2)
def co__law_ring_lags_1 : E := (dLc .tmp [2, 2] [2] (dRg2 (dAcons .tmp [] (dc (.int 1)) (dAcons .tmp [] (dTwo (.vw [1]) [] oAdd (dn 1) (dc (.int 1))) dAnil))) (gdN 2) (dTand (dCmp .tmp [] eqD (dTwo .tmp [] oMod (dOp (u1 intD) (dAcons (.vw [1]) [] (dn 1) dAnil)) (dn 2)) (dc (.int 0))) (dCmp .tmp [] eqD (dTwo .tmp [] oMul (dS01 (.vw [0]) [] (dn 0) (dn 2)) (dTwo (.vw [1]) [] oDiv (dn 1) (dn 2))) (dn 0))) (.vw [2]) ce__law_ring_lags_1)
def b__law_ring_lags : S := (sSeq (sAsg .tmp (dOp (u1 lenD) (dAcons (.vw [0]) [] (dn 0) dAnil)) (gdN 1))
  (sRt .tmp [] (dIx .tmp [] co__law_ring_lags_1 (dc (.int 0)))))
def D__law_ring_lags : FD := fnN 3 [] (b__law_ring_lags )
theorem sc__law_lag : FnScope ["n", "x"] ["n", "x"] (defScope s__law_lag) := ⟨rfl, rfl, rfl, by decide +kernel, rfl, by decide +kernel, by decide +kernel⟩
def if__law_lag_1 : S := (sIf (dCmp (.vw [0]) [] eqD (dn 0) (dc (.int 1)))
  (sRt .tmp [] (dc (.int 0)))
  sNx)
def b__law_lag : S := (sSeq if__law_lag_1
  (sSeq (sAsg .tmp (dTwo .tmp [] oMod (dOp (u1 intD) (dAcons (.vw [1]) [] (dn 1) dAnil)) (dTwo .tmp [] oSub (dTwo .tmp [] oMul (dc (.int 2)) (dn 0)) (dc (.int 2)))) (gdN 1))
  (sRt .tmp [] (dOp (i2D minI) (dAcons (.vw [1]) [] (dn 1) (dAcons .tmp [] (dTwo .tmp [] oSub (dTwo .tmp [] oSub (dTwo .tmp [] oMul (dc (.int 2)) (dn 0)) (dc (.int 2))) (dn 1)) dAnil))))))
def D__law_lag : FD := fnN 2 [] (b__law_lag )
theorem sc__law_shows : FnScope ["cloth_rows", "n", "first", "lags", "t", "row", "lag"] ["cloth_rows", "n", "first"] (defScope s__law_shows) := ⟨rfl, rfl, rfl, by decide +kernel, rfl, by decide +kernel, by decide +kernel⟩
def if__law_shows_1 : S := (sIf (dCmp (.vw [3]) [] (isNoneD false) (dIx (.vw [3]) [] (dn 3) (dn 6)) (dc .non))
  (sSetIx 3 (.vw [5]) (dn 5) (dpN 3) (dn 6))
  sNx)
def if__law_shows_2 : S := (sIf (dCmp (.vw [3]) [] neD (dIx (.vw [3]) [] (dn 3) (dn 6)) (dn 5))
  (sRt .tmp [] (dc (.bl false)))
  sNx)
def fb__law_shows_1 : S := (sSeq (sAsg (.vw [0]) (dIx (.vw [0]) [] (dn 0) (dTwo .tmp [] oMod (dOp (u1 intD) (dAcons (.vw [4]) [] (dn 4) dAnil)) (dOp (u1 lenD) (dAcons (.vw [0]) [] (dn 0) dAnil)))) (gdN 5))
  (sSeq (sAsg .tmp (dCall D__law_lag [.val (.vw [1]), .val .tmp] (dCval (.vw [1]) [] (dn 1) (dCval .tmp [] (dTwo (.vw [2]) [] oAdd (dn 2) (dn 4)) dCnil))) (gdN 6))
  (sSeq if__law_shows_1
  if__law_shows_2)))
def fo__law_shows_1 : S := (sFor .tmp [4, 5, 6, 3] (dRg1 (dAcons .tmp [] (dTwo .tmp [] oMul (dOp (i2D maxI) (dAcons .tmp [] (dc (.int 1)) (dAcons .tmp [] (dTwo .tmp [] oSub (dTwo .tmp [] oMul (dc (.int 2)) (dn 1)) (dc (.int 2))) dAnil))) (dOp (u1 lenD) (dAcons (.vw [0]) [] (dn 0) dAnil))) dAnil)) (gdN 4) fb__law_shows_1)
def b__law_shows : S := (sSeq (sAsg .tmp (dTwo .tmp [] oMul (dDis (.lst true) [.tmp] (dAcons .tmp [] (dc .non) dAnil)) (dn 1)) (gdN 3))
  (sSeq fo__law_shows_1
  (sRt .tmp [] (dc (.bl true)))))
def D__law_shows : FD := fnN 7 [] (b__law_shows )
theorem sc__law_point_lags : FnScope ["cloth_rows", "ring", "base", "n", "mirrors", "first", "a"] ["cloth_rows", "ring"] (defScope s__law_point_lags) := ⟨rfl, rfl, rfl, by decide +kernel, rfl, by decide +kernel, by decide +kernel⟩
def if__law_point_lags_1 : S := (sIf (dTt (dCall D__law_shows [.val (.vw [2]), .val (.vw [3]), .val (.vw [5])] (dCval (.vw [2]) [] (dn 2) (dCval (.vw [3]) [] (dn 3) (dCval (.vw [5]) [] (dn 5) dCnil)))))
  (sRt (.vw [3]) [] (dn 3))
  sNx)
def fb__law_point_lags_1 : S := if__law_point_lags_1
def fo__law_point_lags_1 : S := (sFor .tmp [5] (dRg1 (dAcons .tmp [] (dOp (i2D maxI) (dAcons .tmp [] (dc (.int 1)) (dAcons .tmp [] (dTwo .tmp [] oSub (dTwo .tmp [] oMul (dc (.int 2)) (dn 3)) (dc (.int 2))) dAnil))) dAnil)) (gdN 5) fb__law_point_lags_1)
def fb__law_point_lags_2 : S := fo__law_point_lags_1
def fo__law_point_lags_2 : S := (sFor .tmp [3, 5] (dRg2 (dAcons .tmp [] (dc (.int 1)) (dAcons .tmp [] (dc (.int 9)) dAnil))) (gdN 3) fb__law_point_lags_2)
def ce__law_point_lags_1 : E := (dn 6)
def co__law_point_lags_1 : E := (dLc .tmp [6, 6] [6] (dRg1 (dAcons (.vw [1]) [] (dn 1) dAnil)) (gdN 6) (dCmp .tmp [] eqD (dS10 .tmp [] (dTwo .tmp [] oAdd (dS10 (.vw [2]) [] (dn 2) (dn 6)) (dS01 (.vw [2]) [] (dn 2) (dn 6))) (dc (.int 1))) (dOne revD (dS10 .tmp [] (dTwo .tmp [] oAdd (dS10 (.vw [2]) [] (dn 2) (dn 6)) (dS01 (.vw [2]) [] (dn 2) (dn 6))) (dc (.int 1))))) (.vw [6]) ce__law_point_lags_1)
def if__law_point_lags_2 : S := (sIf (dCmp .tmp [] eqD (dOp (u1 lenD) (dAcons (.vw [4]) [] (dn 4) dAnil)) (dc (.int 0)))
  (sRt .tmp [] (dc .non))
  sNx)
def if__law_point_lags_3 : S := (sIf (dCmp .tmp [] eqD (dTwo .tmp [] oMod (dOp (u1 intD) (dAcons (.vw [1]) [] (dn 1) dAnil)) (dc (.int 2))) (dc (.int 0)))
  (sRt .tmp [] (dTwo .tmp [] oAdd (dTwo (.vw [1]) [] oDiv (dn 1) (dc (.int 2))) (dc (.int 1))))
  sNx)
def b__law_point_lags : S := (sSeq (sAsg .tmp (dS01 (.vw [0]) [] (dn 0) (dn 1)) (gdN 2))
  (sSeq fo__law_point_lags_2
  (sSeq (sAsg .tmp co__law_point_lags_1 (gdN 4))
  (sSeq if__law_point_lags_2
  (sSeq if__law_point_lags_3
  (sRt .tmp [] (dTwo (.vw [1]) [] oAdd (dn 1) (dc (.int 1)))))))))
def D__law_point_lags : FD := fnN 7 [] (b__law_point_lags )
theorem sc__law_drum_told : FnScope ["cloth_rows", "turn", "ring", "due", "cloth"] ["cloth_rows", "turn"] (defScope s__law_drum_told) := ⟨rfl, rfl, rfl, by decide +kernel, rfl, by decide +kernel, by decide +kernel⟩
def if__law_drum_told_1 (C_Cloth : Addr) : S := (sIf (dTor (dTnot (dTt (dCall (D__law_same C_Cloth 3) [.val .tmp, .val (.vw [3])] (dCval .tmp [] (dCall (D_drum C_Cloth) [.val (.vw [4])] (dCval (.vw [4]) [] (dn 4) dCnil)) (dCval (.vw [3]) [] (dn 3) dCnil))))) (dTnot (dTt (dCall (D__law_same C_Cloth 3) [.val .tmp, .val (.vw [3])] (dCval .tmp [] (dCall (D_drum C_Cloth) [.val .tmp] (dCval .tmp [] (dCall (D_shifted C_Cloth) [.val (.vw [4]), .val .tmp, .val .tmp] (dCval (.vw [4]) [] (dn 4) (dCval .tmp [] (dTwo (.vw [1]) [] oAdd (dn 1) (dc (.int 1))) (dCval .tmp [] (dTwo (.vw [1]) [] oSub (dn 1) (dc (.int 2))) dCnil)))) dCnil)) (dCval (.vw [3]) [] (dn 3) dCnil))))))
  (sRt .tmp [] (dc (.bl false)))
  sNx)
def if__law_drum_told_2 (C_Cloth : Addr) : S := (sIf (dTor (dTnot (dTt (dCall (D__law_same C_Cloth 3) [.val .tmp, .val (.vw [3])] (dCval .tmp [] (dCall (D_drum C_Cloth) [.val (.vw [4])] (dCval (.vw [4]) [] (dn 4) dCnil)) (dCval (.vw [3]) [] (dn 3) dCnil))))) (dCmp .tmp [] neD (dOp (u1 (orD listD (ownD C_Cloth "rows"))) (dAcons (.vw [4]) [] (dn 4) dAnil)) (dn 0)))
  (sRt .tmp [] (dc (.bl false)))
  sNx)
def b__law_drum_told (C_Cloth : Addr) : S := (sSeq (sAsg .tmp (dCall D__law_ring_lags [.val (.vw [0])] (dCval (.vw [0]) [] (dn 0) dCnil)) (gdN 2))
  (sSeq (sAsg .tmp (dDis .tup [(.vw [2]), .tmp] (dAcons (.vw [2]) [] (dn 2) (dAcons .tmp [] (dCall D__law_point_lags [.val (.vw [0]), .val (.vw [2])] (dCval (.vw [0]) [] (dn 0) (dCval (.vw [2]) [] (dn 2) dCnil))) dAnil))) (gdN 3))
  (sSeq (sAsg .tmp (dMake true C_Cloth (D_Cloth___init__ C_Cloth) [.val .tmp] (dCval .tmp [] (dIx .tmp [] (dDis (.lst true) [.tmp, .tmp] (dAcons .tmp [] (dOp (u1 listD) (dAcons (.vw [0]) [] (dn 0) dAnil)) (dAcons .tmp [] (dOp (u1 tupD) (dAcons (.vw [0]) [] (dn 0) dAnil)) dAnil))) (dTwo .tmp [] oMod (dOp (u1 intD) (dAcons (.vw [1]) [] (dn 1) dAnil)) (dc (.int 2)))) dCnil)) (gdN 4))
  (sSeq (if__law_drum_told_1 C_Cloth)
  (sSeq (if__law_drum_told_2 C_Cloth)
  (sRt .tmp [] (dCall (D__law_same C_Cloth 3) [.val .tmp, .val .tmp] (dCval .tmp [] (dDis .tup [(.vw [4]), (.vw [4]), (.vw [4])] (dAcons (.vw [4]) [] (dFld [C_Cloth] "rows" (dn 4)) (dAcons (.vw [4]) [] (dFld [C_Cloth] "picks" (dn 4)) (dAcons (.vw [4]) [] (dFld [C_Cloth] "ends" (dn 4)) dAnil)))) (dCval .tmp [] (dDis .tup [.tmp, .tmp, .tmp] (dAcons .tmp [] (dOp (u1 tupD) (dAcons (.vw [0]) [] (dn 0) dAnil)) (dAcons .tmp [] (dOp (u1 lenD) (dAcons (.vw [0]) [] (dn 0) dAnil)) (dAcons .tmp [] (dOp (u1 lenD) (dAcons (.vw [0]) [] (dIx (.vw [0]) [] (dn 0) (dc (.int 0))) dAnil)) dAnil)))) dCnil)))))))))
def D__law_drum_told (C_Cloth : Addr) : FD := fnN 5 [] (b__law_drum_told C_Cloth)
theorem sc_law : FnScope ["script", "state", "cloth_rows", "k"] ["script"] (defScope s_law) := ⟨rfl, rfl, rfl, by decide +kernel, rfl, by decide +kernel, by decide +kernel⟩
def if_law_1 (C_Cloth : Addr) : S := (sIf (dTnot (dTt (dCall (D__law_drum_told C_Cloth) [.val (.vw [2]), .val .tmp] (dCval (.vw [2]) [1] (dn 2) (dCval .tmp [] (dCall D__law_draw [.io 1, .val .tmp] (dCslot 1 (dCval .tmp [] (dc (.int 60)) dCnil))) dCnil)))))
  (sRt .tmp [] (dc (.bl false)))
  sNx)
def if_law_2 (C_Cloth : Addr) : S := (sIf (dTnot (dTt (dCall (D__law_drum_told C_Cloth) [.val (.vw [2]), .val .tmp] (dCval (.vw [2]) [1] (dn 2) (dCval .tmp [] (dCall D__law_draw [.io 1, .val .tmp] (dCslot 1 (dCval .tmp [] (dc (.int 60)) dCnil))) dCnil)))))
  (sRt .tmp [] (dc (.bl false)))
  sNx)
def fb_law_1 (C_Cloth : Addr) : S := (sSeq (sAsg .tmp (dCall D__law_laid_and_turned [.io 1, .val (.vw [2])] (dCslot 1 (dCval (.vw [2]) [] (dn 2) dCnil))) (gdN 2))
  (if_law_2 C_Cloth))
def fo_law_1 (C_Cloth : Addr) : S := (sFor .tmp [3, 1, 2, 1] (dRg1 (dAcons .tmp [] (dTwo .tmp [1] oAdd (dc (.int 1)) (dCall D__law_draw [.io 1, .val .tmp] (dCslot 1 (dCval .tmp [] (dc (.int 3)) dCnil)))) dAnil)) (gdN 3) (fb_law_1 C_Cloth))
def b_law (C_Cloth : Addr) : S := (sSeq (sAsg .tmp (dCall D__law_start [.val (.vw [0])] (dCval (.vw [0]) [] (dn 0) dCnil)) (gdN 1))
  (sSeq (sAsg .tmp (dCall D__law_lag_rows [.io 1] (dCslot 1 dCnil)) (gdN 2))
  (sSeq (if_law_1 C_Cloth)
  (sSeq (fo_law_1 C_Cloth)
  (sRt .tmp [] (dCall (D__law_drum_told C_Cloth) [.val .tmp, .val .tmp] (dCval .tmp [1] (dOne revD (dn 2)) (dCval .tmp [] (dCall D__law_draw [.io 1, .val .tmp] (dCslot 1 (dCval .tmp [] (dc (.int 60)) dCnil))) dCnil))))))))
def D_law (C_Cloth : Addr) : FD := fnN 4 [] (b_law C_Cloth)
structure Ad where
  f_in_range : Addr
  fd_in_range : FuncData
  f_rows_fit : Addr
  fd_rows_fit : FuncData
  f_Cloth___init__ : Addr
  fd_Cloth___init__ : FuncData
  f_Cloth___iter__ : Addr
  fd_Cloth___iter__ : FuncData
  f_column : Addr
  fd_column : FuncData
  f_period : Addr
  fd_period : FuncData
  f_least_repeat : Addr
  fd_least_repeat : FuncData
  f_shifted : Addr
  fd_shifted : FuncData
  f_is_mirrored : Addr
  fd_is_mirrored : FuncData
  f_point_lags : Addr
  fd_point_lags : FuncData
  f_drum : Addr
  fd_drum : FuncData
  f__law_start : Addr
  fd__law_start : FuncData
  f__law_draw : Addr
  fd__law_draw : FuncData
  f__law_side : Addr
  fd__law_side : FuncData
  f__law_shuffled : Addr
  fd__law_shuffled : FuncData
  f__law_same : Addr
  fd__law_same : FuncData
  f__law_free_rows : Addr
  fd__law_free_rows : FuncData
  f__law_layer_sizes : Addr
  fd__law_layer_sizes : FuncData
  f__law_ranks_in : Addr
  fd__law_ranks_in : FuncData
  f__law_layered_rows : Addr
  fd__law_layered_rows : FuncData
  f__law_exchange : Addr
  fd__law_exchange : FuncData
  f__law_some_rows : Addr
  fd__law_some_rows : FuncData
  f__law_lag_rows : Addr
  fd__law_lag_rows : FuncData
  f__law_laid_and_turned : Addr
  fd__law_laid_and_turned : FuncData
  f__law_ring_lags : Addr
  fd__law_ring_lags : FuncData
  f__law_lag : Addr
  fd__law_lag : FuncData
  f__law_shows : Addr
  fd__law_shows : FuncData
  f__law_point_lags : Addr
  fd__law_point_lags : FuncData
  f__law_drum_told : Addr
  fd__law_drum_told : FuncData
  f_law : Addr
  fd_law : FuncData
  C_Cloth : Addr
structure Ok (a : Ad) (K : PySem.W.Frag) (mg : Str → Option Value) : Prop where
  F_rows_fit : Fun K "rows_fit" "rows_fit" s_rows_fit a.f_rows_fit a.fd_rows_fit
  b_rows_fit : Binds K a.fd_rows_fit ["rows", "signs", "most"] []
  g_rows_fit : mg "rows_fit" = some (.ref a.f_rows_fit)
  c_SIGNS : ∃ u, mg "SIGNS" = some u ∧ RelV (.str "01") u
  g_Cloth : mg "Cloth" = some (.ref a.C_Cloth)
  r_Cloth : ClX.CRead K a.C_Cloth (.type "type")
  k_Cloth_MOST : ∃ u, ClX.CVal K a.C_Cloth (.type "type") "MOST" (.int 60) u
  m_tuple : mg "tuple" = none
  cl_Cloth : Cls K a.C_Cloth
  na_Cloth_rows : NoAttr K a.C_Cloth "rows"
  m_len : mg "len" = none
  na_Cloth_picks : NoAttr K a.C_Cloth "picks"
  na_Cloth_ends : NoAttr K a.C_Cloth "ends"
  m_isinstance : mg "isinstance" = none
  m_list : mg "list" = none
  F_in_range : Fun K "in_range" "in_range" s_in_range a.f_in_range a.fd_in_range
  b_in_range : Binds K a.fd_in_range ["n", "low", "high"] []
  g_in_range : mg "in_range" = some (.ref a.f_in_range)
  m_str : mg "str" = none
  m_sum : mg "sum" = none
  m_range : mg "range" = none
  F_period : Fun K "period" "period" s_period a.f_period a.fd_period
  b_period : Binds K a.fd_period ["parts"] []
  g_period : mg "period" = some (.ref a.f_period)
  F_column : Fun K "column" "column" s_column a.f_column a.fd_column
  b_column : Binds K a.fd_column ["cloth", "j"] []
  g_column : mg "column" = some (.ref a.f_column)
  F_Cloth___init__ : Fun K "__init__" "Cloth.__init__" s_Cloth___init__ a.f_Cloth___init__ a.fd_Cloth___init__
  b_Cloth___init__ : Binds K a.fd_Cloth___init__ ["self", "rows"] []
  mk_Cloth : Mk K a.C_Cloth a.f_Cloth___init__
  F_is_mirrored : Fun K "is_mirrored" "is_mirrored" s_is_mirrored a.f_is_mirrored a.fd_is_mirrored
  b_is_mirrored : Binds K a.fd_is_mirrored ["rows", "middle"] []
  g_is_mirrored : mg "is_mirrored" = some (.ref a.f_is_mirrored)
  F_least_repeat : Fun K "least_repeat" "least_repeat" s_least_repeat a.f_least_repeat a.fd_least_repeat
  b_least_repeat : Binds K a.fd_least_repeat ["cloth"] []
  g_least_repeat : mg "least_repeat" = some (.ref a.f_least_repeat)
  F_point_lags : Fun K "point_lags" "point_lags" s_point_lags a.f_point_lags a.fd_point_lags
  b_point_lags : Binds K a.fd_point_lags ["rows"] []
  g_point_lags : mg "point_lags" = some (.ref a.f_point_lags)
  m_int : mg "int" = none
  m_abs : mg "abs" = none
  F__law_draw : Fun K "_law_draw" "_law_draw" s__law_draw a.f__law_draw a.fd__law_draw
  b__law_draw : Binds K a.fd__law_draw ["state", "span"] []
  g__law_draw : mg "_law_draw" = some (.ref a.f__law_draw)
  m_min : mg "min" = none
  m_bool : mg "bool" = none
  F__law_same : Fun K "_law_same" "_law_same" s__law_same a.f__law_same a.fd__law_same
  b__law_same : Binds K a.fd__law_same ["actual", "due"] []
  g__law_same : mg "_law_same" = some (.ref a.f__law_same)
  F__law_shuffled : Fun K "_law_shuffled" "_law_shuffled" s__law_shuffled a.f__law_shuffled a.fd__law_shuffled
  b__law_shuffled : Binds K a.fd__law_shuffled ["state", "count"] []
  g__law_shuffled : mg "_law_shuffled" = some (.ref a.f__law_shuffled)
  F__law_ranks_in : Fun K "_law_ranks_in" "_law_ranks_in" s__law_ranks_in a.f__law_ranks_in a.fd__law_ranks_in
  b__law_ranks_in : Binds K a.fd__law_ranks_in ["owner"] []
  g__law_ranks_in : mg "_law_ranks_in" = some (.ref a.f__law_ranks_in)
  F__law_side : Fun K "_law_side" "_law_side" s__law_side a.f__law_side a.fd__law_side
  b__law_side : Binds K a.fd__law_side ["state", "most"] []
  g__law_side : mg "_law_side" = some (.ref a.f__law_side)
  F__law_free_rows : Fun K "_law_free_rows" "_law_free_rows" s__law_free_rows a.f__law_free_rows a.fd__law_free_rows
  b__law_free_rows : Binds K a.fd__law_free_rows ["state", "h", "w"] []
  g__law_free_rows : mg "_law_free_rows" = some (.ref a.f__law_free_rows)
  F__law_layered_rows : Fun K "_law_layered_rows" "_law_layered_rows" s__law_layered_rows a.f__law_layered_rows a.fd__law_layered_rows
  b__law_layered_rows : Binds K a.fd__law_layered_rows ["state", "sizes"] []
  g__law_layered_rows : mg "_law_layered_rows" = some (.ref a.f__law_layered_rows)
  F__law_layer_sizes : Fun K "_law_layer_sizes" "_law_layer_sizes" s__law_layer_sizes a.f__law_layer_sizes a.fd__law_layer_sizes
  b__law_layer_sizes : Binds K a.fd__law_layer_sizes ["state", "most"] []
  g__law_layer_sizes : mg "_law_layer_sizes" = some (.ref a.f__law_layer_sizes)
  F__law_exchange : Fun K "_law_exchange" "_law_exchange" s__law_exchange a.f__law_exchange a.fd__law_exchange
  b__law_exchange : Binds K a.fd__law_exchange ["cloth_rows", "i", "j"] []
  g__law_exchange : mg "_law_exchange" = some (.ref a.f__law_exchange)
  F__law_some_rows : Fun K "_law_some_rows" "_law_some_rows" s__law_some_rows a.f__law_some_rows a.fd__law_some_rows
  b__law_some_rows : Binds K a.fd__law_some_rows ["state", "most"] []
  g__law_some_rows : mg "_law_some_rows" = some (.ref a.f__law_some_rows)
  m_max : mg "max" = none
  F__law_lag : Fun K "_law_lag" "_law_lag" s__law_lag a.f__law_lag a.fd__law_lag
  b__law_lag : Binds K a.fd__law_lag ["n", "x"] []
  g__law_lag : mg "_law_lag" = some (.ref a.f__law_lag)
  F__law_shows : Fun K "_law_shows" "_law_shows" s__law_shows a.f__law_shows a.fd__law_shows
  b__law_shows : Binds K a.fd__law_shows ["cloth_rows", "n", "first"] []
  g__law_shows : mg "_law_shows" = some (.ref a.f__law_shows)
  F__law_ring_lags : Fun K "_law_ring_lags" "_law_ring_lags" s__law_ring_lags a.f__law_ring_lags a.fd__law_ring_lags
  b__law_ring_lags : Binds K a.fd__law_ring_lags ["cloth_rows"] []
  g__law_ring_lags : mg "_law_ring_lags" = some (.ref a.f__law_ring_lags)
  F__law_point_lags : Fun K "_law_point_lags" "_law_point_lags" s__law_point_lags a.f__law_point_lags a.fd__law_point_lags
  b__law_point_lags : Binds K a.fd__law_point_lags ["cloth_rows", "ring"] []
  g__law_point_lags : mg "_law_point_lags" = some (.ref a.f__law_point_lags)
  F_drum : Fun K "drum" "drum" s_drum a.f_drum a.fd_drum
  b_drum : Binds K a.fd_drum ["cloth"] []
  g_drum : mg "drum" = some (.ref a.f_drum)
  F_shifted : Fun K "shifted" "shifted" s_shifted a.f_shifted a.fd_shifted
  b_shifted : Binds K a.fd_shifted ["cloth", "down", "across"] []
  g_shifted : mg "shifted" = some (.ref a.f_shifted)
  F_Cloth___iter__ : Fun K "__iter__" "Cloth.__iter__" s_Cloth___iter__ a.f_Cloth___iter__ a.fd_Cloth___iter__
  b_Cloth___iter__ : Binds K a.fd_Cloth___iter__ ["self"] []
  it_Cloth : ItT K a.C_Cloth a.f_Cloth___iter__
  F__law_start : Fun K "_law_start" "_law_start" s__law_start a.f__law_start a.fd__law_start
  b__law_start : Binds K a.fd__law_start ["script"] []
  g__law_start : mg "_law_start" = some (.ref a.f__law_start)
  F__law_lag_rows : Fun K "_law_lag_rows" "_law_lag_rows" s__law_lag_rows a.f__law_lag_rows a.fd__law_lag_rows
  b__law_lag_rows : Binds K a.fd__law_lag_rows ["state"] []
  g__law_lag_rows : mg "_law_lag_rows" = some (.ref a.f__law_lag_rows)
  F__law_drum_told : Fun K "_law_drum_told" "_law_drum_told" s__law_drum_told a.f__law_drum_told a.fd__law_drum_told
  b__law_drum_told : Binds K a.fd__law_drum_told ["cloth_rows", "turn"] []
  g__law_drum_told : mg "_law_drum_told" = some (.ref a.f__law_drum_told)
  F__law_laid_and_turned : Fun K "_law_laid_and_turned" "_law_laid_and_turned" s__law_laid_and_turned a.f__law_laid_and_turned a.fd__law_laid_and_turned
  b__law_laid_and_turned : Binds K a.fd__law_laid_and_turned ["state", "cloth_rows"] []
  g__law_laid_and_turned : mg "_law_laid_and_turned" = some (.ref a.f__law_laid_and_turned)
  F_law : Fun K "law" "law" s_law a.f_law a.fd_law
  b_law : Binds K a.fd_law ["script"] []
  m_iter : mg "iter" = none
  isa_t : ∀ e ∈ isaT a.C_Cloth, PySem.W.kitOne K e.1.v e.2.1.v = some e.2.2
  isa_c : ∀ C ∈ [a.C_Cloth], InsTy K C
end Wk34
namespace Wk34
open PySem PySem.Spec PyProof.Rows L2 VS
section
variable {P : Program} {w : World} {K : PySem.W.Frag} {mg : Str → Option Value} {base : Heap} {a : Ad}
theorem ok_in_range (o : Ok a K mg) : FnOk P w K mg base CX0 1 a.f_in_range a.fd_in_range ["n", "low", "high"] (spOf K [.val, .val, .val] (D_in_range )) :=
  fn_vs (N := ["n", "low", "high"]) (k := 0) (d := b_in_range ) [.val, .val, .val] o.F_in_range sc_in_range rfl (by decide) fun cdv A outer s H E hr => ⟨_, _, (dss_one (ds_rt (wE (de_chn op_leA cmpd_ok op_leA cmpd_ok (de_n 1) (de_n 0) (de_n 2)))))⟩
theorem ok_rows_fit (o : Ok a K mg) : FnOk P w K mg base CX0 2 a.f_rows_fit a.fd_rows_fit ["rows", "signs", "most"] (spOf K [.val, .val, .val] (D_rows_fit a.C_Cloth)) :=
  fn_vs (N := ["rows", "signs", "most", "row", "sign"]) (k := 1) (d := b_rows_fit a.C_Cloth) [.val, .val, .val] o.F_rows_fit sc_rows_fit rfl (by decide) fun cdv A outer s H E hr => ⟨_, _, (dss_cons (ds_if (wT (DW.dt (dw_or (wT (dt_not (wT (dt_t (wE (de_callB (isi_ok o.isa_t o.isa_c) (call_or call_is1 call_isN) (by rfl) o.m_isinstance VS.boot_isi (wA (da_cons (de_n 0) (wA (da_cons (wE (de_tup (wA (da_cons (de_bltn (by rfl) o.m_list VS.boot_lst (v := .ty "list") rfl) (wA (da_cons (de_bltn (by rfl) o.m_tuple VS.boot_tup (v := .ty "tuple") rfl) da_nil)))))) da_nil)))))))))) (dw_or1 (wT (dt_not (wT (dt_t (wE (de_call (ks := [.val .tmp, .val .tmp, .val (.vw [2])]) (ok_in_range o) (hr.mono (by decide)) (by rfl) o.g_in_range o.F_in_range.kp o.b_in_range (wC (dc_val (wE (de_callB (One.n len_ok) call_len (by rfl) o.m_len VS.boot_len (wA (da_cons (de_n 0) da_nil)))) (wC (dc_val de_int (wC (dc_val (de_n 2) dc_nil)))))))))))))))) (dss_one (ds_rt de_bl)) dss_nil)
      (dss_cons (for_ PassesOwn.never rfl (wI (di_any (de_n 0))) (dg_n 3 sc_rows_fit.nd) (dss_cons (ds_if (wT (DW.dt (dw_or (wT (dt_not (wT (dt_t (wE (de_callB (isi_ok o.isa_t o.isa_c) (call_or call_is1 call_isN) (by rfl) o.m_isinstance VS.boot_isi (wA (da_cons (de_n 3) (wA (da_cons (de_bltn (by rfl) o.m_str VS.boot_str (v := .ty "str") rfl) da_nil)))))))))) (dw_or (wT (dt_not (wT (dt_t (wE (de_call (ks := [.val .tmp, .val .tmp, .val (.vw [2])]) (ok_in_range o) (hr.mono (by decide)) (by rfl) o.g_in_range o.F_in_range.kp o.b_in_range (wC (dc_val (wE (de_callB (One.n len_ok) call_len (by rfl) o.m_len VS.boot_len (wA (da_cons (de_n 3) da_nil)))) (wC (dc_val de_int (wC (dc_val (de_n 2) dc_nil)))))))))))) (dw_or1 (wT (dt_cmp (op_neA (huX hr)) ned_ok (wE (de_callB (One.n len_ok) call_len (by rfl) o.m_len VS.boot_len (wA (da_cons (de_n 3) da_nil)))) (wE (de_callB (One.n len_ok) call_len (by rfl) o.m_len VS.boot_len (wA (da_cons (wE (de_ix (de_n 0) de_int)) da_nil))))))))))) (dss_one (ds_rt de_bl)) dss_nil)
      (dss_one (ds_if (wT (dt_cmp (op_neA (huX hr)) ned_ok (wE (de_callB (One.n sum_ok) (cr_sum rfl) (by rfl) o.m_sum VS.boot_sum (wA (da_cons (wE (lc_ (own := [("sign", 4)]) rfl sc_rows_fit.nd (wI (di_any (de_n 1))) (by refine blkOk_by (own := [("sign", 4)]) ?_; first | (dsimp only [Cx.blk, compEnvC, cxOf, Cx.nox, envOfC]; decide +kernel) | rfl | with_unfolding_all rfl) (fun _ _ _ _ _ => ⟨_, (dg_n 4 sc_rows_fit.nd)⟩) (fun _ _ _ _ _ => ⟨_, dts_nil⟩) (fun _ _ _ _ _ => ⟨_, (wE (de_bm scount_ok tyS_of PySem.F.plainAttrs_str PySem.F.slot_str_count PySem.F.type_str_count mt_count (de_n 3) (wA (da_cons (de_n 4) da_nil))))⟩))) da_nil)))) (wE (de_callB (One.n len_ok) call_len (by rfl) o.m_len VS.boot_len (wA (da_cons (de_n 3) da_nil)))))) (dss_one (ds_rt de_bl)) dss_nil))))
      (dss_one (ds_rt de_bl))))⟩
theorem ok_Cloth___init__ (o : Ok a K mg) : FnOk P w K mg base CX0 3 a.f_Cloth___init__ a.fd_Cloth___init__ ["self", "rows"] (spOf K [.io, .val] (D_Cloth___init__ a.C_Cloth)) :=
  fn_vs (N := ["self", "rows"]) (k := 2) (d := b_Cloth___init__ a.C_Cloth) [.io, .val] o.F_Cloth___init__ sc_Cloth___init__ rfl (by decide) fun cdv A outer s H E hr => ⟨_, _, (dss_cons (ds_if (wT (dt_not (wT (dt_t (wE (de_call (ks := [.val (.vw [1]), .val .tmp, .val .tmp]) (ok_rows_fit o) (hr.mono (by decide)) (by rfl) o.g_rows_fit o.F_rows_fit.kp o.b_rows_fit (wC (dc_val (de_n 1) (wC (dc_val (de_gc (by rfl) o.c_SIGNS) (wC (dc_val (de_cval (pe_glob (by rfl) o.g_Cloth rfl) o.r_Cloth o.k_Cloth_MOST.choose_spec) dc_nil)))))))))))) (dss_one ds_no) dss_nil)
      (dss_cons (ds_fld (Cs := [a.C_Cloth]) (fun C m => (List.mem_cons.mp m).elim (fun e => by subst e; exact ⟨o.cl_Cloth, o.na_Cloth_rows⟩) fun m => nomatch m) (wE (de_callT (One.n tup_ok) call_tuple_of (by rfl) o.m_tuple VS.boot_tup (wA (da_cons (de_n 1) da_nil)))) (dp_n 0))
      (dss_cons (ds_fld (Cs := [a.C_Cloth]) (fun C m => (List.mem_cons.mp m).elim (fun e => by subst e; exact ⟨o.cl_Cloth, o.na_Cloth_picks⟩) fun m => nomatch m) (wE (de_callB (One.n len_ok) call_len (by rfl) o.m_len VS.boot_len (wA (da_cons (wE (de_fld (Cs := [a.C_Cloth]) (fun C m => (List.mem_cons.mp m).elim (fun e => by subst e; exact ⟨o.cl_Cloth, o.na_Cloth_rows⟩) fun m => nomatch m) (de_n 0))) da_nil)))) (dp_n 0))
      (dss_one (ds_fld (Cs := [a.C_Cloth]) (fun C m => (List.mem_cons.mp m).elim (fun e => by subst e; exact ⟨o.cl_Cloth, o.na_Cloth_ends⟩) fun m => nomatch m) (wE (de_callB (One.n len_ok) call_len (by rfl) o.m_len VS.boot_len (wA (da_cons (wE (de_ix (wE (de_fld (Cs := [a.C_Cloth]) (fun C m => (List.mem_cons.mp m).elim (fun e => by subst e; exact ⟨o.cl_Cloth, o.na_Cloth_rows⟩) fun m => nomatch m) (de_n 0))) de_int)) da_nil)))) (dp_n 0))))))⟩
theorem ok_Cloth___iter__ (o : Ok a K mg) : FnOk P w K mg base CX0 1 a.f_Cloth___iter__ a.fd_Cloth___iter__ ["self"] (spIter K "rows") :=
  iter_fn o.F_Cloth___iter__ sc_Cloth___iter__ fun cdv A outer s H E hr => pss_one (ps_ret (pe_callB call_iterT (by rfl) o.m_iter VS.boot_iter (pa_cons (pe_fld (pv 0) rfl) pa_nil)))
theorem ok_column (o : Ok a K mg) : FnOk P w K mg base CX0 1 a.f_column a.fd_column ["cloth", "j"] (spOf K [.val, .val] (D_column a.C_Cloth)) :=
  fn_vs (N := ["cloth", "j", "row"]) (k := 0) (d := b_column a.C_Cloth) [.val, .val] o.F_column sc_column rfl (by decide) fun cdv A outer s H E hr => ⟨_, _, (dss_one (ds_rt (wE (de_bm join_ok tyS_of PySem.F.plainAttrs_str PySem.F.slot_str_join PySem.F.type_str_join mt_join de_str (wA (da_cons (wE (lc_ (own := [("row", 2)]) rfl sc_column.nd (wI (di_any (wE (de_fld (Cs := [a.C_Cloth]) (fun C m => (List.mem_cons.mp m).elim (fun e => by subst e; exact ⟨o.cl_Cloth, o.na_Cloth_rows⟩) fun m => nomatch m) (de_n 0))))) (by refine blkOk_by (own := [("row", 2)]) ?_; first | (dsimp only [Cx.blk, compEnvC, cxOf, Cx.nox, envOfC]; decide +kernel) | rfl | with_unfolding_all rfl) (fun _ _ _ _ _ => ⟨_, (dg_n 2 sc_column.nd)⟩) (fun _ _ _ _ _ => ⟨_, dts_nil⟩) (fun _ _ _ _ _ => ⟨_, (wE (de_ix (de_n 2) (de_n 1)))⟩))) da_nil))))))⟩
theorem ok_period (o : Ok a K mg) : FnOk P w K mg base CX0 1 a.f_period a.fd_period ["parts"] (spOf K [.val] (D_period )) :=
  fn_vs (N := ["parts", "n"]) (k := 0) (d := b_period ) [.val] o.F_period sc_period rfl (by decide) fun cdv A outer s H E hr => ⟨_, _, (dss_cons (for_ PassesOwn.never rfl (wI (di_rg2 (by rfl) o.m_range (wA (da_cons de_int (wA (da_cons (wE (de_callB (One.n len_ok) call_len (by rfl) o.m_len VS.boot_len (wA (da_cons (de_n 0) da_nil)))) da_nil)))))) (dg_n 1 sc_period.nd) (dss_one (ds_if (wT (dt_cmp (op_eqA (huX hr)) eqd_ok (wE (de_bin op_addA oAdd_ok (wE (s10_ (de_n 0) (de_n 1))) (wE (s01_ (de_n 0) (de_n 1))))) (de_n 0))) (dss_one (ds_rt (de_n 1))) dss_nil)))
      (dss_one (ds_rt (wE (de_callB (One.n len_ok) call_len (by rfl) o.m_len VS.boot_len (wA (da_cons (de_n 0) da_nil)))))))⟩
theorem ok_least_repeat (o : Ok a K mg) : FnOk P w K mg base CX0 5 a.f_least_repeat a.fd_least_repeat ["cloth"] (spOf K [.val] (D_least_repeat a.C_Cloth)) :=
  fn_vs (N := ["cloth", "picks", "ends", "j", "row"]) (k := 4) (d := b_least_repeat a.C_Cloth) [.val] o.F_least_repeat sc_least_repeat rfl (by decide) fun cdv A outer s H E hr => ⟨_, _, (dss_cons (ds_asg (wE (de_call (ks := [.val (.vw [0])]) (ok_period o) (hr.mono (by decide)) (by rfl) o.g_period o.F_period.kp o.b_period (wC (dc_val (wE (de_fld (Cs := [a.C_Cloth]) (fun C m => (List.mem_cons.mp m).elim (fun e => by subst e; exact ⟨o.cl_Cloth, o.na_Cloth_rows⟩) fun m => nomatch m) (de_n 0))) dc_nil)))) (dg_n 1 sc_least_repeat.nd))
      (dss_cons (ds_asg (wE (de_call (ks := [.val .tmp]) (ok_period o) (hr.mono (by decide)) (by rfl) o.g_period o.F_period.kp o.b_period (wC (dc_val (wE (lc_ (own := [("j", 3)]) rfl sc_least_repeat.nd (wI (di_rg1 (by rfl) o.m_range (wA (da_cons (wE (de_fld (Cs := [a.C_Cloth]) (fun C m => (List.mem_cons.mp m).elim (fun e => by subst e; exact ⟨o.cl_Cloth, o.na_Cloth_ends⟩) fun m => nomatch m) (de_n 0))) da_nil)))) (by refine blkOk_by (own := [("j", 3)]) ?_; first | (dsimp only [Cx.blk, compEnvC, cxOf, Cx.nox, envOfC]; decide +kernel) | rfl | with_unfolding_all rfl) (fun _ _ _ _ _ => ⟨_, (dg_n 3 sc_least_repeat.nd)⟩) (fun _ _ _ _ _ => ⟨_, dts_nil⟩) (fun _ _ _ _ _ => ⟨_, (wE (de_call (ks := [.val (.vw [0]), .val (.vw [3])]) (ok_column o) (hr.mono (by decide)) (by rfl) o.g_column o.F_column.kp o.b_column (wC (dc_val (de_n 0) (wC (dc_val (de_n 3) dc_nil))))))⟩))) dc_nil)))) (dg_n 2 sc_least_repeat.nd))
      (dss_one (ds_rt (wE (de_make (ks := [.val .tmp]) true o.mk_Cloth (ok_Cloth___init__ o) (hr.mono (by decide)) (by rfl) o.g_Cloth o.b_Cloth___init__ (wC (dc_val (wE (lc_ (own := [("row", 4)]) rfl sc_least_repeat.nd (wI (di_any (wE (s01_ (wE (de_fld (Cs := [a.C_Cloth]) (fun C m => (List.mem_cons.mp m).elim (fun e => by subst e; exact ⟨o.cl_Cloth, o.na_Cloth_rows⟩) fun m => nomatch m) (de_n 0))) (de_n 1))))) (by refine blkOk_by (own := [("row", 4)]) ?_; first | (dsimp only [Cx.blk, compEnvC, cxOf, Cx.nox, envOfC]; decide +kernel) | rfl | with_unfolding_all rfl) (fun _ _ _ _ _ => ⟨_, (dg_n 4 sc_least_repeat.nd)⟩) (fun _ _ _ _ _ => ⟨_, dts_nil⟩) (fun _ _ _ _ _ => ⟨_, (wE (s01_ (de_n 4) (de_n 2)))⟩))) dc_nil))))))))⟩
theorem ok_shifted (o : Ok a K mg) : FnOk P w K mg base CX0 5 a.f_shifted a.fd_shifted ["cloth", "down", "across"] (spOf K [.val, .val, .val] (D_shifted a.C_Cloth)) :=
  fn_vs (N := ["cloth", "down", "across", "first_pick", "first_end", "rows", "row"]) (k := 4) (d := b_shifted a.C_Cloth) [.val, .val, .val] o.F_shifted sc_shifted rfl (by decide) fun cdv A outer s H E hr => ⟨_, _, (dss_cons (ds_asg (wE (de_bin op_mod oMod_ok (de_n 1) (wE (de_fld (Cs := [a.C_Cloth]) (fun C m => (List.mem_cons.mp m).elim (fun e => by subst e; exact ⟨o.cl_Cloth, o.na_Cloth_picks⟩) fun m => nomatch m) (de_n 0))))) (dg_n 3 sc_shifted.nd))
      (dss_cons (ds_asg (wE (de_bin op_mod oMod_ok (de_n 2) (wE (de_fld (Cs := [a.C_Cloth]) (fun C m => (List.mem_cons.mp m).elim (fun e => by subst e; exact ⟨o.cl_Cloth, o.na_Cloth_ends⟩) fun m => nomatch m) (de_n 0))))) (dg_n 4 sc_shifted.nd))
      (dss_cons (ds_asg (wE (de_bin op_addA oAdd_ok (wE (s10_ (wE (de_fld (Cs := [a.C_Cloth]) (fun C m => (List.mem_cons.mp m).elim (fun e => by subst e; exact ⟨o.cl_Cloth, o.na_Cloth_rows⟩) fun m => nomatch m) (de_n 0))) (de_n 3))) (wE (s01_ (wE (de_fld (Cs := [a.C_Cloth]) (fun C m => (List.mem_cons.mp m).elim (fun e => by subst e; exact ⟨o.cl_Cloth, o.na_Cloth_rows⟩) fun m => nomatch m) (de_n 0))) (de_n 3))))) (dg_n 5 sc_shifted.nd))
      (dss_one (ds_rt (wE (de_make (ks := [.val .tmp]) true o.mk_Cloth (ok_Cloth___init__ o) (hr.mono (by decide)) (by rfl) o.g_Cloth o.b_Cloth___init__ (wC (dc_val (wE (lc_ (own := [("row", 6)]) rfl sc_shifted.nd (wI (di_any (de_n 5))) (by refine blkOk_by (own := [("row", 6)]) ?_; first | (dsimp only [Cx.blk, compEnvC, cxOf, Cx.nox, envOfC]; decide +kernel) | rfl | with_unfolding_all rfl) (fun _ _ _ _ _ => ⟨_, (dg_n 6 sc_shifted.nd)⟩) (fun _ _ _ _ _ => ⟨_, dts_nil⟩) (fun _ _ _ _ _ => ⟨_, (wE (de_bin op_addA oAdd_ok (wE (s10_ (de_n 6) (de_n 4))) (wE (s01_ (de_n 6) (de_n 4)))))⟩))) dc_nil)))))))))⟩
theorem ok_is_mirrored (o : Ok a K mg) : FnOk P w K mg base CX0 1 a.f_is_mirrored a.fd_is_mirrored ["rows", "middle"] (spOf K [.val, .val] (D_is_mirrored )) :=
  fn_vs (N := ["rows", "middle", "many", "distance"]) (k := 0) (d := b_is_mirrored ) [.val, .val] o.F_is_mirrored sc_is_mirrored rfl (by decide) fun cdv A outer s H E hr => ⟨_, _, (dss_cons (ds_asg (wE (de_callB (One.n len_ok) call_len (by rfl) o.m_len VS.boot_len (wA (da_cons (de_n 0) da_nil)))) (dg_n 2 sc_is_mirrored.nd))
      (dss_cons (for_ PassesOwn.never rfl (wI (di_rg2 (by rfl) o.m_range (wA (da_cons de_int (wA (da_cons (de_n 2) da_nil)))))) (dg_n 3 sc_is_mirrored.nd) (dss_one (ds_if (wT (dt_cmp (op_neA (huX hr)) ned_ok (wE (de_ix (de_n 0) (wE (de_bin op_mod oMod_ok (wE (de_bin op_sub oInt0_ok (de_n 1) (de_n 3))) (de_n 2))))) (wE (de_ix (de_n 0) (wE (de_bin op_mod oMod_ok (wE (de_bin op_addA oAdd_ok (de_n 1) (de_n 3))) (de_n 2))))))) (dss_one (ds_rt de_bl)) dss_nil)))
      (dss_one (ds_rt de_bl))))⟩
theorem ok_point_lags (o : Ok a K mg) : FnOk P w K mg base CX0 2 a.f_point_lags a.fd_point_lags ["rows"] (spOf K [.val] (D_point_lags )) :=
  fn_vs (N := ["rows", "many", "mirrors", "middle"]) (k := 1) (d := b_point_lags ) [.val] o.F_point_lags sc_point_lags rfl (by decide) fun cdv A outer s H E hr => ⟨_, _, (dss_cons (ds_asg (wE (de_callB (One.n len_ok) call_len (by rfl) o.m_len VS.boot_len (wA (da_cons (de_n 0) da_nil)))) (dg_n 1 sc_point_lags.nd))
      (dss_cons (setLc_ (i := 2) (own := [("middle", 3)]) rfl sc_point_lags.nd rfl rfl (sw_true rfl rfl rfl (by decide +kernel)) (wI (di_rg1 (by rfl) o.m_range (wA (da_cons (de_n 1) da_nil)))) (by refine blkOk_by (own := [("middle", 3)]) ?_; first | (dsimp only [Cx.blk, compEnvC, cxOf, Cx.nox, envOfC]; decide +kernel) | rfl | with_unfolding_all rfl) (fun _ _ _ _ _ => ⟨_, (dg_n 3 sc_point_lags.nd)⟩) (fun _ _ _ _ _ => ⟨_, (dts_one (wT (dt_t (wE (de_call (ks := [.val (.vw [0]), .val (.vw [3])]) (ok_is_mirrored o) (hr.mono (by decide)) (by rfl) o.g_is_mirrored o.F_is_mirrored.kp o.b_is_mirrored (wC (dc_val (de_n 0) (wC (dc_val (de_n 3) dc_nil)))))))))⟩) (fun _ _ _ _ _ => ⟨_, (de_n 3)⟩))
      (dss_cons (ds_if (wT (dt_cmp (op_eqA (huX hr)) eqd_ok (wE (de_callB (One.n len_ok) call_len (by rfl) o.m_len VS.boot_len (wA (da_cons (de_n 2) da_nil)))) de_int)) (dss_one (ds_rt de_non)) dss_nil)
      (dss_cons (ds_if (wT (dt_cmp (op_eqA (huX hr)) eqd_ok (de_n 1) de_int)) (dss_one (ds_rt de_int)) dss_nil)
      (dss_cons (ds_if (wT (dt_cmp (op_eqA (huX hr)) eqd_ok (wE (de_bin op_mod oMod_ok (de_n 1) de_int)) de_int)) (dss_one (ds_rt (wE (de_bin op_addA oAdd_ok (wE (de_bin op_fdivW oDiv_ok (de_n 1) de_int)) de_int)))) dss_nil)
      (dss_one (ds_rt (wE (de_bin op_addA oAdd_ok (de_n 1) de_int)))))))))⟩
theorem ok_drum (o : Ok a K mg) : FnOk P w K mg base CX0 6 a.f_drum a.fd_drum ["cloth"] (spOf K [.val] (D_drum a.C_Cloth)) :=
  fn_vs (N := ["cloth", "rows"]) (k := 5) (d := b_drum a.C_Cloth) [.val] o.F_drum sc_drum rfl (by decide) fun cdv A outer s H E hr => ⟨_, _, (dss_cons (ds_asg (wE (de_fld (Cs := [a.C_Cloth]) (fun C m => (List.mem_cons.mp m).elim (fun e => by subst e; exact ⟨o.cl_Cloth, o.na_Cloth_rows⟩) fun m => nomatch m) (wE (de_call (ks := [.val (.vw [0])]) (ok_least_repeat o) (hr.mono (by decide)) (by rfl) o.g_least_repeat o.F_least_repeat.kp o.b_least_repeat (wC (dc_val (de_n 0) dc_nil)))))) (dg_n 1 sc_drum.nd))
      (dss_one (ds_rt (wE (de_tup (wA (da_cons (wE (de_callB (One.n len_ok) call_len (by rfl) o.m_len VS.boot_len (wA (da_cons (de_n 1) da_nil)))) (wA (da_cons (wE (de_call (ks := [.val (.vw [1])]) (ok_point_lags o) (hr.mono (by decide)) (by rfl) o.g_point_lags o.F_point_lags.kp o.b_point_lags (wC (dc_val (de_n 1) dc_nil)))) da_nil)))))))))⟩
theorem ok__law_start (o : Ok a K mg) : FnOk P w K mg base CX0 1 a.f__law_start a.fd__law_start ["script"] (spOf K [.val] (D__law_start )) :=
  fn_vs (N := ["script", "seed", "cell"]) (k := 0) (d := b__law_start ) [.val] o.F__law_start sc__law_start rfl (by decide) fun cdv A outer s H E hr => ⟨_, _, (dss_cons (ds_asg de_int (dg_n 1 sc__law_start.nd))
      (dss_cons (for_ PassesOwn.never rfl (wI (di_any (wE (s01_ (de_n 0) de_int)))) (dg_n 2 sc__law_start.nd) (dss_one (ds_asg (wE (de_bin op_mod oMod_ok (wE (de_callT (One.n int_ok) call_int1 (by rfl) o.m_int VS.boot_int (wA (da_cons (wE (de_bin op_addA oAdd_ok (wE (de_bin op_addA oAdd_ok (wE (de_bin op_mulA oMul_ok (de_n 1) de_int)) (wE (de_bin op_mod oMod_ok (wE (de_callT (One.n int_ok) call_int1 (by rfl) o.m_int VS.boot_int (wA (da_cons (de_n 2) da_nil)))) de_int)))) de_int)) da_nil)))) de_int)) (dg_n 1 sc__law_start.nd))))
      (dss_one (ds_rt (wE (de_lst (wA (da_cons (wE (de_callT (One.n list_ok) call_list_of (by rfl) o.m_list VS.boot_lst (wA (da_cons (wE (s01_ (de_n 0) de_int)) da_nil)))) (wA (da_cons de_int (wA (da_cons de_int (wA (da_cons (de_n 1) (wA (da_cons de_int da_nil))))))))))))))))⟩
theorem ok__law_draw (o : Ok a K mg) : FnOk P w K mg base CX0 1 a.f__law_draw a.fd__law_draw ["state", "span"] (spOf K [.io, .val] (D__law_draw )) :=
  fn_vs (N := ["state", "span", "base", "mixed", "digit", "cell"]) (k := 0) (d := b__law_draw ) [.io, .val] o.F__law_draw sc__law_draw rfl (by decide) fun cdv A outer s H E hr => ⟨_, _, (dss_cons (ds_setix (wE (de_bin op_addA oAdd_ok (wE (de_ix (de_n 0) de_int)) de_int)) (dp_n 0) de_int)
      (dss_cons (ds_if (wT (dt_cmp op_gtA cmpd_ok (wE (de_ix (de_n 0) de_int)) de_int)) (dss_cons (ds_asg (wE (de_bin op_mod oMod_ok (wE (de_callT (One.n int_ok) call_int1 (by rfl) o.m_int VS.boot_int (wA (da_cons (wE (de_ix (de_n 0) de_int)) da_nil)))) (de_n 1))) (dg_n 4 sc__law_draw.nd))
      (dss_cons (ds_setix (wE (de_bin op_fdivW oDiv_ok (wE (de_ix (de_n 0) de_int)) (de_n 1))) (dp_n 0) de_int)
      (dss_one (ds_rt (de_n 4))))) dss_nil)
      (dss_cons (ds_asg (wE (de_ix (de_n 0) de_int)) (dg_n 2 sc__law_draw.nd))
      (dss_cons (ds_if (wT (dt_cmp op_ltA cmpd_ok (wE (de_ix (de_n 0) de_int)) (wE (de_callB (One.n len_ok) call_len (by rfl) o.m_len VS.boot_len (wA (da_cons (wE (de_ix (de_n 0) de_int)) da_nil)))))) (dss_cons (ds_asg (wE (de_callB (One.n abs_ok) call_abs (by rfl) o.m_abs VS.boot_abs (wA (da_cons (wE (de_callT (One.n int_ok) call_int1 (by rfl) o.m_int VS.boot_int (wA (da_cons (wE (de_ix (wE (de_ix (de_n 0) de_int)) (wE (de_ix (de_n 0) de_int)))) da_nil)))) da_nil)))) (dg_n 5 sc__law_draw.nd))
      (dss_cons (ds_setix (wE (de_bin op_addA oAdd_ok (wE (de_ix (de_n 0) de_int)) de_int)) (dp_n 0) de_int)
      (dss_cons (ds_if (wT (dt_cmp op_geA cmpd_ok (de_n 5) (wE (de_bin op_pow oPow_ok de_int de_int)))) (dss_cons (ds_setix (wE (de_bin op_fdivW oDiv_ok (de_n 5) (de_n 1))) (dp_n 0) de_int)
      (dss_one (ds_rt (wE (de_bin op_mod oMod_ok (wE (de_callT (One.n int_ok) call_int1 (by rfl) o.m_int VS.boot_int (wA (da_cons (de_n 5) da_nil)))) (de_n 1)))))) dss_nil)
      (dss_one (ds_asg (de_n 5) (dg_n 2 sc__law_draw.nd)))))) dss_nil)
      (dss_cons (ds_asg (wE (de_bin op_mod oMod_ok (wE (de_callT (One.n int_ok) call_int1 (by rfl) o.m_int VS.boot_int (wA (da_cons (wE (de_bin op_addA oAdd_ok (wE (de_bin op_addA oAdd_ok (wE (de_bin op_mulA oMul_ok (de_n 2) de_int)) (wE (de_bin op_mulA oMul_ok (wE (de_ix (de_n 0) de_int)) de_int)))) de_int)) da_nil)))) de_int)) (dg_n 3 sc__law_draw.nd))
      (dss_cons (ds_asg (wE (de_bin op_mod oMod_ok (wE (de_callT (One.n int_ok) call_int1 (by rfl) o.m_int VS.boot_int (wA (da_cons (wE (de_bin op_addA oAdd_ok (wE (de_bin op_mulA oMul_ok (de_n 3) (de_n 3))) (wE (de_bin op_mulA oMul_ok (wE (de_ix (de_n 0) de_int)) de_int)))) da_nil)))) de_int)) (dg_n 3 sc__law_draw.nd))
      (dss_cons (ds_asg (wE (de_bin op_mod oMod_ok (wE (de_callT (One.n int_ok) call_int1 (by rfl) o.m_int VS.boot_int (wA (da_cons (wE (de_bin op_addA oAdd_ok (wE (de_bin op_mulA oMul_ok (de_n 3) (de_n 3))) de_int)) da_nil)))) de_int)) (dg_n 3 sc__law_draw.nd))
      (dss_one (ds_rt (wE (de_bin op_mod oMod_ok (wE (de_callT (One.n int_ok) call_int1 (by rfl) o.m_int VS.boot_int (wA (da_cons (de_n 3) da_nil)))) (de_n 1))))))))))))⟩
theorem ok__law_side (o : Ok a K mg) : FnOk P w K mg base CX0 2 a.f__law_side a.fd__law_side ["state", "most"] (spOf K [.io, .val] (D__law_side )) :=
  fn_vs (N := ["state", "most", "kind"]) (k := 1) (d := b__law_side ) [.io, .val] o.F__law_side sc__law_side rfl (by decide) fun cdv A outer s H E hr => ⟨_, _, (dss_cons (ds_asg (wE (de_call (ks := [.io 0, .val .tmp]) (ok__law_draw o) (hr.mono (by decide)) (by rfl) o.g__law_draw o.F__law_draw.kp o.b__law_draw (wC (dc_io 0 (wC (dc_val de_int dc_nil)))))) (dg_n 2 sc__law_side.nd))
      (dss_cons (ds_if (wT (dt_cmp (op_eqA (huX hr)) eqd_ok (de_n 2) de_int)) (dss_one (ds_rt (wE (de_bin op_addA oAdd_ok de_int (wE (de_call (ks := [.io 0, .val (.vw [1])]) (ok__law_draw o) (hr.mono (by decide)) (by rfl) o.g__law_draw o.F__law_draw.kp o.b__law_draw (wC (dc_io 0 (wC (dc_val (de_n 1) dc_nil)))))))))) dss_nil)
      (dss_cons (ds_if (wT (dt_cmp op_ltA cmpd_ok (de_n 2) de_int)) (dss_one (ds_rt (wE (de_bin op_addA oAdd_ok de_int (wE (de_call (ks := [.io 0, .val .tmp]) (ok__law_draw o) (hr.mono (by decide)) (by rfl) o.g__law_draw o.F__law_draw.kp o.b__law_draw (wC (dc_io 0 (wC (dc_val (wE (de_callB (i2_ok (g := minI)) (call_min2 rfl) (by rfl) o.m_min VS.boot_min (wA (da_cons (de_n 1) (wA (da_cons de_int da_nil)))))) dc_nil)))))))))) dss_nil)
      (dss_one (ds_rt (wE (de_bin op_addA oAdd_ok de_int (wE (de_call (ks := [.io 0, .val .tmp]) (ok__law_draw o) (hr.mono (by decide)) (by rfl) o.g__law_draw o.F__law_draw.kp o.b__law_draw (wC (dc_io 0 (wC (dc_val (wE (de_callB (i2_ok (g := minI)) (call_min2 rfl) (by rfl) o.m_min VS.boot_min (wA (da_cons (de_n 1) (wA (da_cons de_int da_nil)))))) dc_nil)))))))))))))⟩
theorem ok__law_shuffled (o : Ok a K mg) : FnOk P w K mg base CX0 2 a.f__law_shuffled a.fd__law_shuffled ["state", "count"] (spOf K [.io, .val] (D__law_shuffled )) :=
  fn_vs (N := ["state", "count", "order", "k", "at", "kept"]) (k := 1) (d := b__law_shuffled ) [.io, .val] o.F__law_shuffled sc__law_shuffled rfl (by decide) fun cdv A outer s H E hr => ⟨_, _, (dss_cons (ds_asg (wE (de_lr1 rfl (by rfl) o.m_list (by rfl) o.m_range (de_n 1))) (dg_n 2 sc__law_shuffled.nd))
      (dss_cons (for_ PassesOwn.never rfl (wI (di_rg1 (by rfl) o.m_range (wA (da_cons (de_n 1) da_nil)))) (dg_n 3 sc__law_shuffled.nd) (dss_cons (ds_asg (wE (de_bin op_addA oAdd_ok (de_n 3) (wE (de_call (ks := [.io 0, .val .tmp]) (ok__law_draw o) (hr.mono (by decide)) (by rfl) o.g__law_draw o.F__law_draw.kp o.b__law_draw (wC (dc_io 0 (wC (dc_val (wE (de_bin op_sub oInt0_ok (de_n 1) (de_n 3))) dc_nil)))))))) (dg_n 4 sc__law_shuffled.nd))
      (dss_cons (ds_asg (wE (de_ix (de_n 2) (de_n 3))) (dg_n 5 sc__law_shuffled.nd))
      (dss_cons (ds_setix (wE (de_ix (de_n 2) (de_n 4))) (dp_n 2) (de_n 3))
      (dss_one (ds_setix (de_n 5) (dp_n 2) (de_n 4)))))))
      (dss_one (ds_rt (de_n 2)))))⟩
theorem ok__law_same (o : Ok a K mg) : ∀ k : Nat, FnOk P w K mg base CX0 (1 + k) a.f__law_same a.fd__law_same ["actual", "due"] (spOf K [.val, .val] (D__law_same a.C_Cloth k))
  | 0 => fn_no [.val, .val] rfl
  | k + 1 => by
    have ih := ok__law_same o k
    exact fn_vs (N := ["actual", "due", "k"]) (k := 1 + k) (d := b__law_same a.C_Cloth (D__law_same a.C_Cloth k)) [.val, .val] o.F__law_same sc__law_same rfl (by decide) fun cdv A outer s H E hr => ⟨_, _, (dss_cons (ds_if (wT (dt_cmp op_isN is_ok (de_n 1) de_non)) (dss_one (ds_rt (wE (de_cmp op_isN is_ok (de_n 0) de_non)))) dss_nil)
      (dss_cons (ds_if (wT (dt_t (wE (de_callB (isi_ok o.isa_t o.isa_c) (call_or call_is1 call_isN) (by rfl) o.m_isinstance VS.boot_isi (wA (da_cons (de_n 1) (wA (da_cons (de_bltn (by rfl) o.m_bool VS.boot_bool (v := .ty "bool") rfl) da_nil)))))))) (dss_one (ds_rt (wE (de_and (wE (de_callB (isi_ok o.isa_t o.isa_c) (call_or call_is1 call_isN) (by rfl) o.m_isinstance VS.boot_isi (wA (da_cons (de_n 0) (wA (da_cons (de_bltn (by rfl) o.m_bool VS.boot_bool (v := .ty "bool") rfl) da_nil)))))) (wE (de_one1 (wE (de_cmp (op_eqA (huX hr)) eqd_ok (de_n 0) (de_n 1))))))))) dss_nil)
      (dss_cons (ds_if (wT (dt_t (wE (de_callB (isi_ok o.isa_t o.isa_c) (call_or call_is1 call_isN) (by rfl) o.m_isinstance VS.boot_isi (wA (da_cons (de_n 1) (wA (da_cons (de_bltn (by rfl) o.m_int VS.boot_int (v := .ty "int") rfl) da_nil)))))))) (dss_one (ds_rt (wE (de_and (wE (de_callB (isi_ok o.isa_t o.isa_c) (call_or call_is1 call_isN) (by rfl) o.m_isinstance VS.boot_isi (wA (da_cons (de_n 0) (wA (da_cons (de_bltn (by rfl) o.m_int VS.boot_int (v := .ty "int") rfl) da_nil)))))) (wE (de_and (wE (de_not (wE (de_callB (isi_ok o.isa_t o.isa_c) (call_or call_is1 call_isN) (by rfl) o.m_isinstance VS.boot_isi (wA (da_cons (de_n 0) (wA (da_cons (de_bltn (by rfl) o.m_bool VS.boot_bool (v := .ty "bool") rfl) da_nil)))))))) (wE (de_one1 (wE (de_cmp (op_eqA (huX hr)) eqd_ok (de_n 0) (de_n 1))))))))))) dss_nil)
      (dss_cons (ds_if (wT (dt_t (wE (de_callB (isi_ok o.isa_t o.isa_c) (call_or call_is1 call_isN) (by rfl) o.m_isinstance VS.boot_isi (wA (da_cons (de_n 1) (wA (da_cons (de_bltn (by rfl) o.m_str VS.boot_str (v := .ty "str") rfl) da_nil)))))))) (dss_one (ds_rt (wE (de_and (wE (de_callB (isi_ok o.isa_t o.isa_c) (call_or call_is1 call_isN) (by rfl) o.m_isinstance VS.boot_isi (wA (da_cons (de_n 0) (wA (da_cons (de_bltn (by rfl) o.m_str VS.boot_str (v := .ty "str") rfl) da_nil)))))) (wE (de_one1 (wE (de_cmp (op_eqA (huX hr)) eqd_ok (de_n 0) (de_n 1))))))))) dss_nil)
      (dss_cons (ds_if (wT (DW.dt (dw_or (wT (dt_not (wT (dt_t (wE (de_callB (isi_ok o.isa_t o.isa_c) (call_or call_is1 call_isN) (by rfl) o.m_isinstance VS.boot_isi (wA (da_cons (de_n 0) (wA (da_cons (de_bltn (by rfl) o.m_tuple VS.boot_tup (v := .ty "tuple") rfl) da_nil)))))))))) (dw_or1 (wT (dt_cmp (op_neA (huX hr)) ned_ok (wE (de_callB (One.n len_ok) call_len (by rfl) o.m_len VS.boot_len (wA (da_cons (de_n 0) da_nil)))) (wE (de_callB (One.n len_ok) call_len (by rfl) o.m_len VS.boot_len (wA (da_cons (de_n 1) da_nil)))))))))) (dss_one (ds_rt de_bl)) dss_nil)
      (dss_cons (for_ PassesOwn.never rfl (wI (di_rg1 (by rfl) o.m_range (wA (da_cons (wE (de_callB (One.n len_ok) call_len (by rfl) o.m_len VS.boot_len (wA (da_cons (de_n 1) da_nil)))) da_nil)))) (dg_n 2 sc__law_same.nd) (dss_one (ds_if (wT (dt_not (wT (dt_t (wE (de_call (ks := [.val (.vw [0]), .val (.vw [1])]) ih (hr.mono (by omega)) (by rfl) o.g__law_same o.F__law_same.kp o.b__law_same (wC (dc_val (wE (de_ix (de_n 0) (de_n 2))) (wC (dc_val (wE (de_ix (de_n 1) (de_n 2))) dc_nil)))))))))) (dss_one (ds_rt de_bl)) dss_nil)))
      (dss_one (ds_rt de_bl))))))))⟩
theorem ok__law_free_rows (o : Ok a K mg) : FnOk P w K mg base CX0 2 a.f__law_free_rows a.fd__law_free_rows ["state", "h", "w"] (spOf K [.io, .val, .val] (D__law_free_rows )) :=
  fn_vs (N := ["state", "h", "w", "told", "i", "j"]) (k := 1) (d := b__law_free_rows ) [.io, .val, .val] o.F__law_free_rows sc__law_free_rows rfl (by decide) fun cdv A outer s H E hr => ⟨_, _, (dss_cons (ds_asg (wE (de_lst da_nil)) (dg_n 3 sc__law_free_rows.nd))
      (dss_cons (for_ PassesOwn.never rfl (wI (di_rg1 (by rfl) o.m_range (wA (da_cons (de_n 1) da_nil)))) (dg_n 4 sc__law_free_rows.nd) (dss_one (ds_expr (wE (de_append (dp_n 3) (wE (de_bm join_ok tyS_of PySem.F.plainAttrs_str PySem.F.slot_str_join PySem.F.type_str_join mt_join de_str (wA (da_cons (wE (lc_ (own := [("j", 5)]) rfl sc__law_free_rows.nd (wI (di_rg1 (by rfl) o.m_range (wA (da_cons (de_n 2) da_nil)))) (by refine blkOk_by (own := [("j", 5)]) ?_; first | (dsimp only [Cx.blk, compEnvC, cxOf, Cx.nox, envOfC]; decide +kernel) | rfl | with_unfolding_all rfl) (fun _ _ _ _ _ => ⟨_, (dg_n 5 sc__law_free_rows.nd)⟩) (fun _ _ _ _ _ => ⟨_, dts_nil⟩) (fun _ _ _ _ _ => ⟨_, (wE (de_ix de_str (wE (de_call (ks := [.io 0, .val .tmp]) (ok__law_draw o) (hr.mono (by decide)) (by rfl) o.g__law_draw o.F__law_draw.kp o.b__law_draw (wC (dc_io 0 (wC (dc_val de_int dc_nil))))))))⟩))) da_nil)))))))))
      (dss_one (ds_rt (de_n 3)))))⟩
theorem ok__law_layer_sizes (o : Ok a K mg) : FnOk P w K mg base CX0 2 a.f__law_layer_sizes a.fd__law_layer_sizes ["state", "most"] (spOf K [.io, .val] (D__law_layer_sizes )) :=
  fn_vs (N := ["state", "most", "sizes", "ends", "picks", "k", "kind", "e", "p"]) (k := 1) (d := b__law_layer_sizes ) [.io, .val] o.F__law_layer_sizes sc__law_layer_sizes rfl (by decide) fun cdv A outer s H E hr => ⟨_, _, (dss_cons (ds_asg (wE (de_lst da_nil)) (dg_n 2 sc__law_layer_sizes.nd))
      (dss_cons (ds_asg de_int (dg_n 3 sc__law_layer_sizes.nd))
      (dss_cons (ds_asg de_int (dg_n 4 sc__law_layer_sizes.nd))
      (dss_cons (for_ PassesOwn.never rfl (wI (di_rg1 (by rfl) o.m_range (wA (da_cons (wE (de_bin op_addA oAdd_ok de_int (wE (de_call (ks := [.io 0, .val .tmp]) (ok__law_draw o) (hr.mono (by decide)) (by rfl) o.g__law_draw o.F__law_draw.kp o.b__law_draw (wC (dc_io 0 (wC (dc_val de_int dc_nil)))))))) da_nil)))) (dg_n 5 sc__law_layer_sizes.nd) (dss_cons (ds_asg (wE (de_call (ks := [.io 0, .val .tmp]) (ok__law_draw o) (hr.mono (by decide)) (by rfl) o.g__law_draw o.F__law_draw.kp o.b__law_draw (wC (dc_io 0 (wC (dc_val de_int dc_nil)))))) (dg_n 6 sc__law_layer_sizes.nd))
      (dss_cons (ds_if (wT (DW.dt (dw_and (wT (dt_cmp op_gtA cmpd_ok (wE (de_callB (One.n len_ok) call_len (by rfl) o.m_len VS.boot_len (wA (da_cons (de_n 2) da_nil)))) de_int)) (dw_and1 (wT (dt_cmp (op_eqA (huX hr)) eqd_ok (wE (de_ix (wE (de_ix (de_n 2) (wE (de_neg de_int)))) de_int)) (de_n 6))))))) (dss_one (ds_asg de_int (dg_n 6 sc__law_layer_sizes.nd))) dss_nil)
      (dss_cons (ds_asg (wE (de_ix (wE (de_lst (wA (da_cons (wE (de_bin op_addA oAdd_ok de_int (wE (de_call (ks := [.io 0, .val .tmp]) (ok__law_draw o) (hr.mono (by decide)) (by rfl) o.g__law_draw o.F__law_draw.kp o.b__law_draw (wC (dc_io 0 (wC (dc_val de_int dc_nil)))))))) (wA (da_cons (wE (de_bin op_addA oAdd_ok de_int (wE (de_call (ks := [.io 0, .val .tmp]) (ok__law_draw o) (hr.mono (by decide)) (by rfl) o.g__law_draw o.F__law_draw.kp o.b__law_draw (wC (dc_io 0 (wC (dc_val de_int dc_nil)))))))) (wA (da_cons de_int da_nil)))))))) (de_n 6))) (dg_n 7 sc__law_layer_sizes.nd))
      (dss_cons (ds_asg (wE (de_ix (wE (de_lst (wA (da_cons (wE (de_bin op_addA oAdd_ok de_int (wE (de_call (ks := [.io 0, .val .tmp]) (ok__law_draw o) (hr.mono (by decide)) (by rfl) o.g__law_draw o.F__law_draw.kp o.b__law_draw (wC (dc_io 0 (wC (dc_val de_int dc_nil)))))))) (wA (da_cons de_int (wA (da_cons (wE (de_bin op_addA oAdd_ok de_int (wE (de_call (ks := [.io 0, .val .tmp]) (ok__law_draw o) (hr.mono (by decide)) (by rfl) o.g__law_draw o.F__law_draw.kp o.b__law_draw (wC (dc_io 0 (wC (dc_val de_int dc_nil)))))))) da_nil)))))))) (de_n 6))) (dg_n 8 sc__law_layer_sizes.nd))
      (dss_one (ds_if (wT (DW.dt (dw_and (wT (dt_cmp op_leA cmpd_ok (wE (de_bin op_addA oAdd_ok (de_n 3) (de_n 7))) (de_n 1))) (dw_and1 (wT (dt_cmp op_leA cmpd_ok (wE (de_bin op_addA oAdd_ok (de_n 4) (de_n 8))) (de_n 1))))))) (dss_cons (ds_expr (wE (de_append (dp_n 2) (wE (de_lst (wA (da_cons (de_n 6) (wA (da_cons (de_n 7) (wA (da_cons (de_n 8) da_nil)))))))))))
      (dss_cons (ds_asg (wE (de_bin op_addA oAdd_ok (de_n 3) (de_n 7))) (dg_n 3 sc__law_layer_sizes.nd))
      (dss_one (ds_asg (wE (de_bin op_addA oAdd_ok (de_n 4) (de_n 8))) (dg_n 4 sc__law_layer_sizes.nd))))) dss_nil)))))))
      (dss_cons (ds_if (wT (dt_cmp (op_eqA (huX hr)) eqd_ok (de_n 3) de_int)) (dss_one (ds_expr (wE (de_append (dp_n 2) (wE (de_lst (wA (da_cons de_int (wA (da_cons de_int (wA (da_cons de_int da_nil)))))))))))) dss_nil)
      (dss_cons (ds_if (wT (dt_cmp (op_eqA (huX hr)) eqd_ok (de_n 4) de_int)) (dss_one (ds_expr (wE (de_append (dp_n 2) (wE (de_lst (wA (da_cons de_int (wA (da_cons de_int (wA (da_cons de_int da_nil)))))))))))) dss_nil)
      (dss_one (ds_rt (de_n 2)))))))))⟩
theorem ok__law_ranks_in (o : Ok a K mg) : FnOk P w K mg base CX0 1 a.f__law_ranks_in a.fd__law_ranks_in ["owner"] (spOf K [.val] (D__law_ranks_in )) :=
  fn_vs (N := ["owner", "told", "k"]) (k := 0) (d := b__law_ranks_in ) [.val] o.F__law_ranks_in sc__law_ranks_in rfl (by decide) fun cdv A outer s H E hr => ⟨_, _, (dss_cons (ds_asg (wE (de_lst da_nil)) (dg_n 1 sc__law_ranks_in.nd))
      (dss_cons (for_ PassesOwn.never rfl (wI (di_rg1 (by rfl) o.m_range (wA (da_cons (wE (de_callB (One.n len_ok) call_len (by rfl) o.m_len VS.boot_len (wA (da_cons (de_n 0) da_nil)))) da_nil)))) (dg_n 2 sc__law_ranks_in.nd) (dss_one (ds_expr (wE (de_append (dp_n 1) (wE (de_bm lcount_ok tyL_of PySem.F.plainAttrs_list PySem.F.slot_list_count PySem.F.type_list_count mt_lcount (wE (s01_ (de_n 0) (de_n 2))) (wA (da_cons (wE (de_ix (de_n 0) (de_n 2))) da_nil)))))))))
      (dss_one (ds_rt (de_n 1)))))⟩
theorem ok__law_layered_rows (o : Ok a K mg) : FnOk P w K mg base CX0 3 a.f__law_layered_rows a.fd__law_layered_rows ["state", "sizes"] (spOf K [.io, .val] (D__law_layered_rows )) :=
  fn_vs (N := ["state", "sizes", "ends", "picks", "k", "end_ranks", "pick_ranks", "told", "i", "row", "j", "x"]) (k := 2) (d := b__law_layered_rows ) [.io, .val] o.F__law_layered_rows sc__law_layered_rows rfl (by decide) fun cdv A outer s H E hr => ⟨_, _, (dss_cons (ds_asg (wE (de_lst da_nil)) (dg_n 2 sc__law_layered_rows.nd))
      (dss_cons (ds_asg (wE (de_lst da_nil)) (dg_n 3 sc__law_layered_rows.nd))
      (dss_cons (for_ PassesOwn.never rfl (wI (di_rg1 (by rfl) o.m_range (wA (da_cons (wE (de_callB (One.n len_ok) call_len (by rfl) o.m_len VS.boot_len (wA (da_cons (de_n 1) da_nil)))) da_nil)))) (dg_n 4 sc__law_layered_rows.nd) (dss_cons (ds_expr (wE (de_extend (dp_n 2) (wE (de_bin op_mulA oMul_ok (wE (de_lst (wA (da_cons (de_n 4) da_nil)))) (wE (de_ix (wE (de_ix (de_n 1) (de_n 4))) de_int)))))))
      (dss_one (ds_expr (wE (de_extend (dp_n 3) (wE (de_bin op_mulA oMul_ok (wE (de_lst (wA (da_cons (de_n 4) da_nil)))) (wE (de_ix (wE (de_ix (de_n 1) (de_n 4))) de_int))))))))))
      (dss_cons (ds_asg (wE (lc_ (own := [("x", 11)]) rfl sc__law_layered_rows.nd (wI (di_any (wE (de_call (ks := [.io 0, .val .tmp]) (ok__law_shuffled o) (hr.mono (by decide)) (by rfl) o.g__law_shuffled o.F__law_shuffled.kp o.b__law_shuffled (wC (dc_io 0 (wC (dc_val (wE (de_callB (One.n len_ok) call_len (by rfl) o.m_len VS.boot_len (wA (da_cons (de_n 2) da_nil)))) dc_nil)))))))) (by refine blkOk_by (own := [("x", 11)]) ?_; first | (dsimp only [Cx.blk, compEnvC, cxOf, Cx.nox, envOfC]; decide +kernel) | rfl | with_unfolding_all rfl) (fun _ _ _ _ _ => ⟨_, (dg_n 11 sc__law_layered_rows.nd)⟩) (fun _ _ _ _ _ => ⟨_, dts_nil⟩) (fun _ _ _ _ _ => ⟨_, (wE (de_ix (de_n 2) (de_n 11)))⟩))) (dg_n 2 sc__law_layered_rows.nd))
      (dss_cons (ds_asg (wE (lc_ (own := [("x", 11)]) rfl sc__law_layered_rows.nd (wI (di_any (wE (de_call (ks := [.io 0, .val .tmp]) (ok__law_shuffled o) (hr.mono (by decide)) (by rfl) o.g__law_shuffled o.F__law_shuffled.kp o.b__law_shuffled (wC (dc_io 0 (wC (dc_val (wE (de_callB (One.n len_ok) call_len (by rfl) o.m_len VS.boot_len (wA (da_cons (de_n 3) da_nil)))) dc_nil)))))))) (by refine blkOk_by (own := [("x", 11)]) ?_; first | (dsimp only [Cx.blk, compEnvC, cxOf, Cx.nox, envOfC]; decide +kernel) | rfl | with_unfolding_all rfl) (fun _ _ _ _ _ => ⟨_, (dg_n 11 sc__law_layered_rows.nd)⟩) (fun _ _ _ _ _ => ⟨_, dts_nil⟩) (fun _ _ _ _ _ => ⟨_, (wE (de_ix (de_n 3) (de_n 11)))⟩))) (dg_n 3 sc__law_layered_rows.nd))
      (dss_cons (ds_asg (wE (de_call (ks := [.val (.vw [2])]) (ok__law_ranks_in o) (hr.mono (by decide)) (by rfl) o.g__law_ranks_in o.F__law_ranks_in.kp o.b__law_ranks_in (wC (dc_val (de_n 2) dc_nil)))) (dg_n 5 sc__law_layered_rows.nd))
      (dss_cons (ds_asg (wE (de_call (ks := [.val (.vw [3])]) (ok__law_ranks_in o) (hr.mono (by decide)) (by rfl) o.g__law_ranks_in o.F__law_ranks_in.kp o.b__law_ranks_in (wC (dc_val (de_n 3) dc_nil)))) (dg_n 6 sc__law_layered_rows.nd))
      (dss_cons (ds_asg (wE (de_lst da_nil)) (dg_n 7 sc__law_layered_rows.nd))
      (dss_cons (for_ PassesOwn.never rfl (wI (di_rg1 (by rfl) o.m_range (wA (da_cons (wE (de_callB (One.n len_ok) call_len (by rfl) o.m_len VS.boot_len (wA (da_cons (de_n 3) da_nil)))) da_nil)))) (dg_n 8 sc__law_layered_rows.nd) (dss_cons (ds_asg de_str (dg_n 9 sc__law_layered_rows.nd))
      (dss_cons (for_ PassesOwn.never rfl (wI (di_rg1 (by rfl) o.m_range (wA (da_cons (wE (de_callB (One.n len_ok) call_len (by rfl) o.m_len VS.boot_len (wA (da_cons (de_n 2) da_nil)))) da_nil)))) (dg_n 10 sc__law_layered_rows.nd) (dss_one (ds_if (wT (dt_cmp (op_eqA (huX hr)) eqd_ok (wE (de_ix (de_n 2) (de_n 10))) (wE (de_ix (de_n 3) (de_n 8))))) (dss_one (ds_asg (wE (de_bin op_addA oAdd_ok (de_n 9) (wE (de_ix de_str (wE (de_bin op_mod oMod_ok (wE (de_callT (One.n int_ok) call_int1 (by rfl) o.m_int VS.boot_int (wA (da_cons (wE (de_bin op_addA oAdd_ok (wE (de_ix (de_n 5) (de_n 10))) (wE (de_ix (de_n 6) (de_n 8))))) da_nil)))) de_int)))))) (dg_n 9 sc__law_layered_rows.nd))) (dss_one (ds_asg (wE (de_bin op_addA oAdd_ok (de_n 9) (wE (de_ix de_str (wE (de_callT (One.n int_ok) call_int1 (by rfl) o.m_int VS.boot_int (wA (da_cons (wE (de_cmp op_ltA cmpd_ok (wE (de_ix (de_n 2) (de_n 10))) (wE (de_ix (de_n 3) (de_n 8))))) da_nil)))))))) (dg_n 9 sc__law_layered_rows.nd))))))
      (dss_one (ds_expr (wE (de_append (dp_n 7) (de_n 9))))))))
      (dss_one (ds_rt (de_n 7))))))))))))⟩
theorem ok__law_exchange (o : Ok a K mg) : FnOk P w K mg base CX0 1 a.f__law_exchange a.fd__law_exchange ["cloth_rows", "i", "j"] (spOf K [.val, .val, .val] (D__law_exchange )) :=
  fn_vs (N := ["cloth_rows", "i", "j", "told", "sign"]) (k := 0) (d := b__law_exchange ) [.val, .val, .val] o.F__law_exchange sc__law_exchange rfl (by decide) fun cdv A outer s H E hr => ⟨_, _, (dss_cons (ds_asg (wE (de_callT (One.n list_ok) call_list_of (by rfl) o.m_list VS.boot_lst (wA (da_cons (de_n 0) da_nil)))) (dg_n 3 sc__law_exchange.nd))
      (dss_cons (ds_asg (wE (de_ix de_str (wE (de_callT (One.n int_ok) call_int1 (by rfl) o.m_int VS.boot_int (wA (da_cons (wE (de_cmp (op_eqA (huX hr)) eqd_ok (wE (de_ix (wE (de_ix (de_n 3) (de_n 1))) (de_n 2))) de_str)) da_nil)))))) (dg_n 4 sc__law_exchange.nd))
      (dss_cons (ds_setix (wE (de_bin op_addA oAdd_ok (wE (de_bin op_addA oAdd_ok (wE (s01_ (wE (de_ix (de_n 3) (de_n 1))) (de_n 2))) (de_n 4))) (wE (s10_ (wE (de_ix (de_n 3) (de_n 1))) (wE (de_bin op_addA oAdd_ok (de_n 2) de_int)))))) (dp_n 3) (de_n 1))
      (dss_one (ds_rt (de_n 3))))))⟩
theorem ok__law_some_rows (o : Ok a K mg) : FnOk P w K mg base CX0 4 a.f__law_some_rows a.fd__law_some_rows ["state", "most"] (spOf K [.io, .val] (D__law_some_rows )) :=
  fn_vs (N := ["state", "most", "kind", "told", "h", "i"]) (k := 3) (d := b__law_some_rows ) [.io, .val] o.F__law_some_rows sc__law_some_rows rfl (by decide) fun cdv A outer s H E hr => ⟨_, _, (dss_cons (ds_asg (wE (de_call (ks := [.io 0, .val .tmp]) (ok__law_draw o) (hr.mono (by decide)) (by rfl) o.g__law_draw o.F__law_draw.kp o.b__law_draw (wC (dc_io 0 (wC (dc_val de_int dc_nil)))))) (dg_n 2 sc__law_some_rows.nd))
      (dss_cons (ds_if (wT (dt_cmp op_ltA cmpd_ok (de_n 2) de_int)) (dss_cons (ds_asg (wE (de_call (ks := [.io 0, .val (.vw [1])]) (ok__law_side o) (hr.mono (by decide)) (by rfl) o.g__law_side o.F__law_side.kp o.b__law_side (wC (dc_io 0 (wC (dc_val (de_n 1) dc_nil)))))) (dg_n 4 sc__law_some_rows.nd))
      (dss_one (ds_rt (wE (de_call (ks := [.io 0, .val (.vw [4]), .val .tmp]) (ok__law_free_rows o) (hr.mono (by decide)) (by rfl) o.g__law_free_rows o.F__law_free_rows.kp o.b__law_free_rows (wC (dc_io 0 (wC (dc_val (de_n 4) (wC (dc_val (wE (de_call (ks := [.io 0, .val (.vw [1])]) (ok__law_side o) (hr.mono (by decide)) (by rfl) o.g__law_side o.F__law_side.kp o.b__law_side (wC (dc_io 0 (wC (dc_val (de_n 1) dc_nil)))))) dc_nil))))))))))) dss_nil)
      (dss_cons (ds_asg (wE (de_call (ks := [.io 0, .val .tmp]) (ok__law_layered_rows o) (hr.mono (by decide)) (by rfl) o.g__law_layered_rows o.F__law_layered_rows.kp o.b__law_layered_rows (wC (dc_io 0 (wC (dc_val (wE (de_call (ks := [.io 0, .val .tmp]) (ok__law_layer_sizes o) (hr.mono (by decide)) (by rfl) o.g__law_layer_sizes o.F__law_layer_sizes.kp o.b__law_layer_sizes (wC (dc_io 0 (wC (dc_val (wE (de_callB (i2_ok (g := minI)) (call_min2 rfl) (by rfl) o.m_min VS.boot_min (wA (da_cons (de_n 1) (wA (da_cons de_int da_nil)))))) dc_nil)))))) dc_nil)))))) (dg_n 3 sc__law_some_rows.nd))
      (dss_cons (ds_if (wT (dt_cmp (op_eqA (huX hr)) eqd_ok (de_n 2) de_int)) (dss_cons (ds_asg (wE (de_call (ks := [.io 0, .val .tmp]) (ok__law_draw o) (hr.mono (by decide)) (by rfl) o.g__law_draw o.F__law_draw.kp o.b__law_draw (wC (dc_io 0 (wC (dc_val (wE (de_callB (One.n len_ok) call_len (by rfl) o.m_len VS.boot_len (wA (da_cons (de_n 3) da_nil)))) dc_nil)))))) (dg_n 5 sc__law_some_rows.nd))
      (dss_one (ds_asg (wE (de_call (ks := [.val (.vw [3]), .val (.vw [5]), .val .tmp]) (ok__law_exchange o) (hr.mono (by decide)) (by rfl) o.g__law_exchange o.F__law_exchange.kp o.b__law_exchange (wC (dc_val (de_n 3) (wC (dc_val (de_n 5) (wC (dc_val (wE (de_call (ks := [.io 0, .val .tmp]) (ok__law_draw o) (hr.mono (by decide)) (by rfl) o.g__law_draw o.F__law_draw.kp o.b__law_draw (wC (dc_io 0 (wC (dc_val (wE (de_callB (One.n len_ok) call_len (by rfl) o.m_len VS.boot_len (wA (da_cons (wE (de_ix (de_n 3) de_int)) da_nil)))) dc_nil)))))) dc_nil)))))))) (dg_n 3 sc__law_some_rows.nd)))) dss_nil)
      (dss_one (ds_rt (de_n 3)))))))⟩
theorem ok__law_lag_rows (o : Ok a K mg) : FnOk P w K mg base CX0 5 a.f__law_lag_rows a.fd__law_lag_rows ["state"] (spOf K [.io] (D__law_lag_rows )) :=
  fn_vs (N := ["state", "kind", "pool", "count", "some", "k"]) (k := 4) (d := b__law_lag_rows ) [.io] o.F__law_lag_rows sc__law_lag_rows rfl (by decide) fun cdv A outer s H E hr => ⟨_, _, (dss_cons (ds_asg (wE (de_call (ks := [.io 0, .val .tmp]) (ok__law_draw o) (hr.mono (by decide)) (by rfl) o.g__law_draw o.F__law_draw.kp o.b__law_draw (wC (dc_io 0 (wC (dc_val de_int dc_nil)))))) (dg_n 1 sc__law_lag_rows.nd))
      (dss_cons (ds_if (wT (dt_cmp (op_eqA (huX hr)) eqd_ok (de_n 1) de_int)) (dss_one (ds_rt (wE (de_call (ks := [.io 0, .val .tmp]) (ok__law_some_rows o) (hr.mono (by decide)) (by rfl) o.g__law_some_rows o.F__law_some_rows.kp o.b__law_some_rows (wC (dc_io 0 (wC (dc_val de_int dc_nil)))))))) dss_nil)
      (dss_cons (ds_asg (wE (de_call (ks := [.io 0, .val .tmp, .val .tmp]) (ok__law_free_rows o) (hr.mono (by decide)) (by rfl) o.g__law_free_rows o.F__law_free_rows.kp o.b__law_free_rows (wC (dc_io 0 (wC (dc_val (wE (de_bin op_addA oAdd_ok de_int (wE (de_call (ks := [.io 0, .val .tmp]) (ok__law_draw o) (hr.mono (by decide)) (by rfl) o.g__law_draw o.F__law_draw.kp o.b__law_draw (wC (dc_io 0 (wC (dc_val de_int dc_nil)))))))) (wC (dc_val (wE (de_call (ks := [.io 0, .val .tmp]) (ok__law_side o) (hr.mono (by decide)) (by rfl) o.g__law_side o.F__law_side.kp o.b__law_side (wC (dc_io 0 (wC (dc_val de_int dc_nil)))))) dc_nil)))))))) (dg_n 2 sc__law_lag_rows.nd))
      (dss_cons (ds_asg (wE (de_bin op_addA oAdd_ok de_int (wE (de_call (ks := [.io 0, .val .tmp]) (ok__law_draw o) (hr.mono (by decide)) (by rfl) o.g__law_draw o.F__law_draw.kp o.b__law_draw (wC (dc_io 0 (wC (dc_val de_int dc_nil)))))))) (dg_n 3 sc__law_lag_rows.nd))
      (dss_cons (ds_if (wT (dt_cmp (op_eqA (huX hr)) eqd_ok (wE (de_call (ks := [.io 0, .val .tmp]) (ok__law_draw o) (hr.mono (by decide)) (by rfl) o.g__law_draw o.F__law_draw.kp o.b__law_draw (wC (dc_io 0 (wC (dc_val de_int dc_nil)))))) de_int)) (dss_one (ds_asg (wE (de_bin op_addA oAdd_ok de_int (wE (de_call (ks := [.io 0, .val .tmp]) (ok__law_draw o) (hr.mono (by decide)) (by rfl) o.g__law_draw o.F__law_draw.kp o.b__law_draw (wC (dc_io 0 (wC (dc_val de_int dc_nil)))))))) (dg_n 3 sc__law_lag_rows.nd))) dss_nil)
      (dss_cons (setLc_ (i := 4) (own := [("k", 5)]) rfl sc__law_lag_rows.nd rfl rfl (sw_true rfl rfl rfl (by decide +kernel)) (wI (di_rg1 (by rfl) o.m_range (wA (da_cons (de_n 3) da_nil)))) (by refine blkOk_by (own := [("k", 5)]) ?_; first | (dsimp only [Cx.blk, compEnvC, cxOf, Cx.nox, envOfC]; decide +kernel) | rfl | with_unfolding_all rfl) (fun _ _ _ _ _ => ⟨_, (dg_n 5 sc__law_lag_rows.nd)⟩) (fun _ _ _ _ _ => ⟨_, dts_nil⟩) (fun _ _ _ _ _ => ⟨_, (wE (de_ix (de_n 2) (wE (de_call (ks := [.io 0, .val .tmp]) (ok__law_draw o) (hr.mono (by decide)) (by rfl) o.g__law_draw o.F__law_draw.kp o.b__law_draw (wC (dc_io 0 (wC (dc_val (wE (de_callB (One.n len_ok) call_len (by rfl) o.m_len VS.boot_len (wA (da_cons (de_n 2) da_nil)))) dc_nil))))))))⟩))
      (dss_cons (ds_if (wT (dt_cmp op_ltA cmpd_ok (de_n 1) de_int)) (dss_one (ds_rt (wE (de_bin op_addA oAdd_ok (de_n 4) (wE (de_rev (wE (s11_ (de_n 4) de_int (wE (de_neg de_int)))))))))) dss_nil)
      (dss_cons (ds_if (wT (dt_cmp op_ltA cmpd_ok (de_n 1) de_int)) (dss_one (ds_rt (wE (de_bin op_addA oAdd_ok (de_n 4) (wE (de_rev (wE (s10_ (de_n 4) de_int)))))))) dss_nil)
      (dss_cons (ds_if (wT (dt_cmp (op_eqA (huX hr)) eqd_ok (de_n 1) de_int)) (dss_one (ds_rt (wE (de_bin op_addA oAdd_ok (de_n 4) (wE (de_rev (de_n 4))))))) dss_nil)
      (dss_one (ds_rt (de_n 4))))))))))))⟩
theorem ok__law_laid_and_turned (o : Ok a K mg) : FnOk P w K mg base CX0 2 a.f__law_laid_and_turned a.fd__law_laid_and_turned ["state", "cloth_rows"] (spOf K [.io, .val] (D__law_laid_and_turned )) :=
  fn_vs (N := ["state", "cloth_rows", "h", "down", "told", "i"]) (k := 1) (d := b__law_laid_and_turned ) [.io, .val] o.F__law_laid_and_turned sc__law_laid_and_turned rfl (by decide) fun cdv A outer s H E hr => ⟨_, _, (dss_cons (ds_asg (wE (de_callB (One.n len_ok) call_len (by rfl) o.m_len VS.boot_len (wA (da_cons (de_n 1) da_nil)))) (dg_n 2 sc__law_laid_and_turned.nd))
      (dss_cons (ds_asg (wE (de_call (ks := [.io 0, .val (.vw [2])]) (ok__law_draw o) (hr.mono (by decide)) (by rfl) o.g__law_draw o.F__law_draw.kp o.b__law_draw (wC (dc_io 0 (wC (dc_val (de_n 2) dc_nil)))))) (dg_n 3 sc__law_laid_and_turned.nd))
      (dss_cons (ds_asg (wE (de_bin op_addA oAdd_ok (wE (s10_ (de_n 1) (de_n 3))) (wE (s01_ (de_n 1) (de_n 3))))) (dg_n 4 sc__law_laid_and_turned.nd))
      (dss_cons (ds_asg (wE (de_bin op_mulA oMul_ok (de_n 4) (wE (de_bin op_addA oAdd_ok de_int (wE (de_call (ks := [.io 0, .val .tmp]) (ok__law_draw o) (hr.mono (by decide)) (by rfl) o.g__law_draw o.F__law_draw.kp o.b__law_draw (wC (dc_io 0 (wC (dc_val (wE (de_callB (i2_ok (g := minI)) (call_min2 rfl) (by rfl) o.m_min VS.boot_min (wA (da_cons de_int (wA (da_cons (wE (de_bin op_fdivW oDiv_ok de_int (de_n 2))) da_nil)))))) dc_nil)))))))))) (dg_n 4 sc__law_laid_and_turned.nd))
      (dss_cons (ds_if (wT (dt_cmp (op_eqA (huX hr)) eqd_ok (wE (de_call (ks := [.io 0, .val .tmp]) (ok__law_draw o) (hr.mono (by decide)) (by rfl) o.g__law_draw o.F__law_draw.kp o.b__law_draw (wC (dc_io 0 (wC (dc_val de_int dc_nil)))))) de_int)) (dss_cons (ds_asg (wE (de_call (ks := [.io 0, .val .tmp]) (ok__law_draw o) (hr.mono (by decide)) (by rfl) o.g__law_draw o.F__law_draw.kp o.b__law_draw (wC (dc_io 0 (wC (dc_val (wE (de_callB (One.n len_ok) call_len (by rfl) o.m_len VS.boot_len (wA (da_cons (de_n 4) da_nil)))) dc_nil)))))) (dg_n 5 sc__law_laid_and_turned.nd))
      (dss_one (ds_rt (wE (de_call (ks := [.val (.vw [4]), .val (.vw [5]), .val .tmp]) (ok__law_exchange o) (hr.mono (by decide)) (by rfl) o.g__law_exchange o.F__law_exchange.kp o.b__law_exchange (wC (dc_val (de_n 4) (wC (dc_val (de_n 5) (wC (dc_val (wE (de_call (ks := [.io 0, .val .tmp]) (ok__law_draw o) (hr.mono (by decide)) (by rfl) o.g__law_draw o.F__law_draw.kp o.b__law_draw (wC (dc_io 0 (wC (dc_val (wE (de_callB (One.n len_ok) call_len (by rfl) o.m_len VS.boot_len (wA (da_cons (wE (de_ix (de_n 4) de_int)) da_nil)))) dc_nil)))))) dc_nil))))))))))) dss_nil)
      (dss_one (ds_rt (de_n 4))))))))⟩
theorem ok__law_ring_lags (o : Ok a K mg) : FnOk P w K mg base CX0 1 a.f__law_ring_lags a.fd__law_ring_lags ["cloth_rows"] (spOf K [.val] (D__law_ring_lags )) :=
  fn_vs (N := ["cloth_rows", "h", "d"]) (k := 0) (d := b__law_ring_lags ) [.val] o.F__law_ring_lags sc__law_ring_lags rfl (by decide) fun cdv A outer s H E hr => ⟨_, _, (dss_cons (ds_asg (wE (de_callB (One.n len_ok) call_len (by rfl) o.m_len VS.boot_len (wA (da_cons (de_n 0) da_nil)))) (dg_n 1 sc__law_ring_lags.nd))
      (dss_one (ds_rt (wE (de_ix (wE (lc_ (own := [("d", 2)]) rfl sc__law_ring_lags.nd (wI (di_rg2 (by rfl) o.m_range (wA (da_cons de_int (wA (da_cons (wE (de_bin op_addA oAdd_ok (de_n 1) de_int)) da_nil)))))) (by refine blkOk_by (own := [("d", 2)]) ?_; first | (dsimp only [Cx.blk, compEnvC, cxOf, Cx.nox, envOfC]; decide +kernel) | rfl | with_unfolding_all rfl) (fun _ _ _ _ _ => ⟨_, (dg_n 2 sc__law_ring_lags.nd)⟩) (fun _ _ _ _ _ => ⟨_, (dts_one (wT (DW.dt (dw_and (wT (dt_cmp (op_eqA (huX hr)) eqd_ok (wE (de_bin op_mod oMod_ok (wE (de_callT (One.n int_ok) call_int1 (by rfl) o.m_int VS.boot_int (wA (da_cons (de_n 1) da_nil)))) (de_n 2))) de_int)) (dw_and1 (wT (dt_cmp (op_eqA (huX hr)) eqd_ok (wE (de_bin op_mulA oMul_ok (wE (s01_ (de_n 0) (de_n 2))) (wE (de_bin op_fdivW oDiv_ok (de_n 1) (de_n 2))))) (de_n 0))))))))⟩) (fun _ _ _ _ _ => ⟨_, (de_n 2)⟩))) de_int)))))⟩
theorem ok__law_lag (o : Ok a K mg) : FnOk P w K mg base CX0 1 a.f__law_lag a.fd__law_lag ["n", "x"] (spOf K [.val, .val] (D__law_lag )) :=
  fn_vs (N := ["n", "x"]) (k := 0) (d := b__law_lag ) [.val, .val] o.F__law_lag sc__law_lag rfl (by decide) fun cdv A outer s H E hr => ⟨_, _, (dss_cons (ds_if (wT (dt_cmp (op_eqA (huX hr)) eqd_ok (de_n 0) de_int)) (dss_one (ds_rt de_int)) dss_nil)
      (dss_cons (ds_asg (wE (de_bin op_mod oMod_ok (wE (de_callT (One.n int_ok) call_int1 (by rfl) o.m_int VS.boot_int (wA (da_cons (de_n 1) da_nil)))) (wE (de_bin op_sub oInt0_ok (wE (de_bin op_mulA oMul_ok de_int (de_n 0))) de_int)))) (dg_n 1 sc__law_lag.nd))
      (dss_one (ds_rt (wE (de_callB (i2_ok (g := minI)) (call_min2 rfl) (by rfl) o.m_min VS.boot_min (wA (da_cons (de_n 1) (wA (da_cons (wE (de_bin op_sub oInt0_ok (wE (de_bin op_sub oInt0_ok (wE (de_bin op_mulA oMul_ok de_int (de_n 0))) de_int)) (de_n 1))) da_nil))))))))))⟩
theorem ok__law_shows (o : Ok a K mg) : FnOk P w K mg base CX0 2 a.f__law_shows a.fd__law_shows ["cloth_rows", "n", "first"] (spOf K [.val, .val, .val] (D__law_shows )) :=
  fn_vs (N := ["cloth_rows", "n", "first", "lags", "t", "row", "lag"]) (k := 1) (d := b__law_shows ) [.val, .val, .val] o.F__law_shows sc__law_shows rfl (by decide) fun cdv A outer s H E hr => ⟨_, _, (dss_cons (ds_asg (wE (de_bin op_mulA oMul_ok (wE (de_lst (wA (da_cons de_non da_nil)))) (de_n 1))) (dg_n 3 sc__law_shows.nd))
      (dss_cons (for_ PassesOwn.never rfl (wI (di_rg1 (by rfl) o.m_range (wA (da_cons (wE (de_bin op_mulA oMul_ok (wE (de_callB (i2_ok (g := maxI)) (call_max2 rfl) (by rfl) o.m_max VS.boot_max (wA (da_cons de_int (wA (da_cons (wE (de_bin op_sub oInt0_ok (wE (de_bin op_mulA oMul_ok de_int (de_n 1))) de_int)) da_nil)))))) (wE (de_callB (One.n len_ok) call_len (by rfl) o.m_len VS.boot_len (wA (da_cons (de_n 0) da_nil)))))) da_nil)))) (dg_n 4 sc__law_shows.nd) (dss_cons (ds_asg (wE (de_ix (de_n 0) (wE (de_bin op_mod oMod_ok (wE (de_callT (One.n int_ok) call_int1 (by rfl) o.m_int VS.boot_int (wA (da_cons (de_n 4) da_nil)))) (wE (de_callB (One.n len_ok) call_len (by rfl) o.m_len VS.boot_len (wA (da_cons (de_n 0) da_nil)))))))) (dg_n 5 sc__law_shows.nd))
      (dss_cons (ds_asg (wE (de_call (ks := [.val (.vw [1]), .val .tmp]) (ok__law_lag o) (hr.mono (by decide)) (by rfl) o.g__law_lag o.F__law_lag.kp o.b__law_lag (wC (dc_val (de_n 1) (wC (dc_val (wE (de_bin op_addA oAdd_ok (de_n 2) (de_n 4))) dc_nil)))))) (dg_n 6 sc__law_shows.nd))
      (dss_cons (ds_if (wT (dt_cmp op_isN is_ok (wE (de_ix (de_n 3) (de_n 6))) de_non)) (dss_one (ds_setix (de_n 5) (dp_n 3) (de_n 6))) dss_nil)
      (dss_one (ds_if (wT (dt_cmp (op_neA (huX hr)) ned_ok (wE (de_ix (de_n 3) (de_n 6))) (de_n 5))) (dss_one (ds_rt de_bl)) dss_nil))))))
      (dss_one (ds_rt de_bl))))⟩
theorem ok__law_point_lags (o : Ok a K mg) : FnOk P w K mg base CX0 3 a.f__law_point_lags a.fd__law_point_lags ["cloth_rows", "ring"] (spOf K [.val, .val] (D__law_point_lags )) :=
  fn_vs (N := ["cloth_rows", "ring", "base", "n", "mirrors", "first", "a"]) (k := 2) (d := b__law_point_lags ) [.val, .val] o.F__law_point_lags sc__law_point_lags rfl (by decide) fun cdv A outer s H E hr => ⟨_, _, (dss_cons (ds_asg (wE (s01_ (de_n 0) (de_n 1))) (dg_n 2 sc__law_point_lags.nd))
      (dss_cons (for_ PassesOwn.never rfl (wI (di_rg2 (by rfl) o.m_range (wA (da_cons de_int (wA (da_cons de_int da_nil)))))) (dg_n 3 sc__law_point_lags.nd) (dss_one (for_ PassesOwn.never rfl (wI (di_rg1 (by rfl) o.m_range (wA (da_cons (wE (de_callB (i2_ok (g := maxI)) (call_max2 rfl) (by rfl) o.m_max VS.boot_max (wA (da_cons de_int (wA (da_cons (wE (de_bin op_sub oInt0_ok (wE (de_bin op_mulA oMul_ok de_int (de_n 3))) de_int)) da_nil)))))) da_nil)))) (dg_n 5 sc__law_point_lags.nd) (dss_one (ds_if (wT (dt_t (wE (de_call (ks := [.val (.vw [2]), .val (.vw [3]), .val (.vw [5])]) (ok__law_shows o) (hr.mono (by decide)) (by rfl) o.g__law_shows o.F__law_shows.kp o.b__law_shows (wC (dc_val (de_n 2) (wC (dc_val (de_n 3) (wC (dc_val (de_n 5) dc_nil)))))))))) (dss_one (ds_rt (de_n 3))) dss_nil)))))
      (dss_cons (setLc_ (i := 4) (own := [("a", 6)]) rfl sc__law_point_lags.nd rfl rfl (sw_true rfl rfl rfl (by decide +kernel)) (wI (di_rg1 (by rfl) o.m_range (wA (da_cons (de_n 1) da_nil)))) (by refine blkOk_by (own := [("a", 6)]) ?_; first | (dsimp only [Cx.blk, compEnvC, cxOf, Cx.nox, envOfC]; decide +kernel) | rfl | with_unfolding_all rfl) (fun _ _ _ _ _ => ⟨_, (dg_n 6 sc__law_point_lags.nd)⟩) (fun _ _ _ _ _ => ⟨_, (dts_one (wT (dt_cmp (op_eqA (huX hr)) eqd_ok (wE (s10_ (wE (de_bin op_addA oAdd_ok (wE (s10_ (de_n 2) (de_n 6))) (wE (s01_ (de_n 2) (de_n 6))))) de_int)) (wE (de_rev (wE (s10_ (wE (de_bin op_addA oAdd_ok (wE (s10_ (de_n 2) (de_n 6))) (wE (s01_ (de_n 2) (de_n 6))))) de_int)))))))⟩) (fun _ _ _ _ _ => ⟨_, (de_n 6)⟩))
      (dss_cons (ds_if (wT (dt_cmp (op_eqA (huX hr)) eqd_ok (wE (de_callB (One.n len_ok) call_len (by rfl) o.m_len VS.boot_len (wA (da_cons (de_n 4) da_nil)))) de_int)) (dss_one (ds_rt de_non)) dss_nil)
      (dss_cons (ds_if (wT (dt_cmp (op_eqA (huX hr)) eqd_ok (wE (de_bin op_mod oMod_ok (wE (de_callT (One.n int_ok) call_int1 (by rfl) o.m_int VS.boot_int (wA (da_cons (de_n 1) da_nil)))) de_int)) de_int)) (dss_one (ds_rt (wE (de_bin op_addA oAdd_ok (wE (de_bin op_fdivW oDiv_ok (de_n 1) de_int)) de_int)))) dss_nil)
      (dss_one (ds_rt (wE (de_bin op_addA oAdd_ok (de_n 1) de_int)))))))))⟩
theorem ok__law_drum_told (o : Ok a K mg) : FnOk P w K mg base CX0 7 a.f__law_drum_told a.fd__law_drum_told ["cloth_rows", "turn"] (spOf K [.val, .val] (D__law_drum_told a.C_Cloth)) :=
  fn_vs (N := ["cloth_rows", "turn", "ring", "due", "cloth"]) (k := 6) (d := b__law_drum_told a.C_Cloth) [.val, .val] o.F__law_drum_told sc__law_drum_told rfl (by decide) fun cdv A outer s H E hr => ⟨_, _, (dss_cons (ds_asg (wE (de_call (ks := [.val (.vw [0])]) (ok__law_ring_lags o) (hr.mono (by decide)) (by rfl) o.g__law_ring_lags o.F__law_ring_lags.kp o.b__law_ring_lags (wC (dc_val (de_n 0) dc_nil)))) (dg_n 2 sc__law_drum_told.nd))
      (dss_cons (ds_asg (wE (de_tup (wA (da_cons (de_n 2) (wA (da_cons (wE (de_call (ks := [.val (.vw [0]), .val (.vw [2])]) (ok__law_point_lags o) (hr.mono (by decide)) (by rfl) o.g__law_point_lags o.F__law_point_lags.kp o.b__law_point_lags (wC (dc_val (de_n 0) (wC (dc_val (de_n 2) dc_nil)))))) da_nil)))))) (dg_n 3 sc__law_drum_told.nd))
      (dss_cons (ds_asg (wE (de_make (ks := [.val .tmp]) true o.mk_Cloth (ok_Cloth___init__ o) (hr.mono (by decide)) (by rfl) o.g_Cloth o.b_Cloth___init__ (wC (dc_val (wE (de_ix (wE (de_lst (wA (da_cons (wE (de_callT (One.n list_ok) call_list_of (by rfl) o.m_list VS.boot_lst (wA (da_cons (de_n 0) da_nil)))) (wA (da_cons (wE (de_callT (One.n tup_ok) call_tuple_of (by rfl) o.m_tuple VS.boot_tup (wA (da_cons (de_n 0) da_nil)))) da_nil)))))) (wE (de_bin op_mod oMod_ok (wE (de_callT (One.n int_ok) call_int1 (by rfl) o.m_int VS.boot_int (wA (da_cons (de_n 1) da_nil)))) de_int)))) dc_nil)))) (dg_n 4 sc__law_drum_told.nd))
      (dss_cons (ds_if (wT (DW.dt (dw_or (wT (dt_not (wT (dt_t (wE (de_call (ks := [.val .tmp, .val (.vw [3])]) (ok__law_same o 3) (hr.mono (by decide)) (by rfl) o.g__law_same o.F__law_same.kp o.b__law_same (wC (dc_val (wE (de_call (ks := [.val (.vw [4])]) (ok_drum o) (hr.mono (by decide)) (by rfl) o.g_drum o.F_drum.kp o.b_drum (wC (dc_val (de_n 4) dc_nil)))) (wC (dc_val (de_n 3) dc_nil)))))))))) (dw_or1 (wT (dt_not (wT (dt_t (wE (de_call (ks := [.val .tmp, .val (.vw [3])]) (ok__law_same o 3) (hr.mono (by decide)) (by rfl) o.g__law_same o.F__law_same.kp o.b__law_same (wC (dc_val (wE (de_call (ks := [.val .tmp]) (ok_drum o) (hr.mono (by decide)) (by rfl) o.g_drum o.F_drum.kp o.b_drum (wC (dc_val (wE (de_call (ks := [.val (.vw [4]), .val .tmp, .val .tmp]) (ok_shifted o) (hr.mono (by decide)) (by rfl) o.g_shifted o.F_shifted.kp o.b_shifted (wC (dc_val (de_n 4) (wC (dc_val (wE (de_bin op_addA oAdd_ok (de_n 1) de_int)) (wC (dc_val (wE (de_bin op_sub oInt0_ok (de_n 1) de_int)) dc_nil)))))))) dc_nil)))) (wC (dc_val (de_n 3) dc_nil)))))))))))))) (dss_one (ds_rt de_bl)) dss_nil)
      (dss_cons (ds_if (wT (DW.dt (dw_or (wT (dt_not (wT (dt_t (wE (de_call (ks := [.val .tmp, .val (.vw [3])]) (ok__law_same o 3) (hr.mono (by decide)) (by rfl) o.g__law_same o.F__law_same.kp o.b__law_same (wC (dc_val (wE (de_call (ks := [.val (.vw [4])]) (ok_drum o) (hr.mono (by decide)) (by rfl) o.g_drum o.F_drum.kp o.b_drum (wC (dc_val (de_n 4) dc_nil)))) (wC (dc_val (de_n 3) dc_nil)))))))))) (dw_or1 (wT (dt_cmp (op_neA (huX hr)) ned_ok (wE (de_callT (One.n (One.or list_ok own_ok)) (call_or call_list_of (call_listT (f := "rows") rfl o.it_Cloth o.cl_Cloth o.na_Cloth_rows (ok_Cloth___iter__ o) o.b_Cloth___iter__ (hr.mono (by decide)))) (by rfl) o.m_list VS.boot_lst (wA (da_cons (de_n 4) da_nil)))) (de_n 0))))))) (dss_one (ds_rt de_bl)) dss_nil)
      (dss_one (ds_rt (wE (de_call (ks := [.val .tmp, .val .tmp]) (ok__law_same o 3) (hr.mono (by decide)) (by rfl) o.g__law_same o.F__law_same.kp o.b__law_same (wC (dc_val (wE (de_tup (wA (da_cons (wE (de_fld (Cs := [a.C_Cloth]) (fun C m => (List.mem_cons.mp m).elim (fun e => by subst e; exact ⟨o.cl_Cloth, o.na_Cloth_rows⟩) fun m => nomatch m) (de_n 4))) (wA (da_cons (wE (de_fld (Cs := [a.C_Cloth]) (fun C m => (List.mem_cons.mp m).elim (fun e => by subst e; exact ⟨o.cl_Cloth, o.na_Cloth_picks⟩) fun m => nomatch m) (de_n 4))) (wA (da_cons (wE (de_fld (Cs := [a.C_Cloth]) (fun C m => (List.mem_cons.mp m).elim (fun e => by subst e; exact ⟨o.cl_Cloth, o.na_Cloth_ends⟩) fun m => nomatch m) (de_n 4))) da_nil)))))))) (wC (dc_val (wE (de_tup (wA (da_cons (wE (de_callT (One.n tup_ok) call_tuple_of (by rfl) o.m_tuple VS.boot_tup (wA (da_cons (de_n 0) da_nil)))) (wA (da_cons (wE (de_callB (One.n len_ok) call_len (by rfl) o.m_len VS.boot_len (wA (da_cons (de_n 0) da_nil)))) (wA (da_cons (wE (de_callB (One.n len_ok) call_len (by rfl) o.m_len VS.boot_len (wA (da_cons (wE (de_ix (de_n 0) de_int)) da_nil)))) da_nil)))))))) dc_nil)))))))))))))⟩
theorem ok_law (o : Ok a K mg) : FnOk P w K mg base CX0 8 a.f_law a.fd_law ["script"] (spOf K [.val] (D_law a.C_Cloth)) :=
  fn_vs (N := ["script", "state", "cloth_rows", "k"]) (k := 7) (d := b_law a.C_Cloth) [.val] o.F_law sc_law rfl (by decide) fun cdv A outer s H E hr => ⟨_, _, (dss_cons (ds_asg (wE (de_call (ks := [.val (.vw [0])]) (ok__law_start o) (hr.mono (by decide)) (by rfl) o.g__law_start o.F__law_start.kp o.b__law_start (wC (dc_val (de_n 0) dc_nil)))) (dg_n 1 sc_law.nd))
      (dss_cons (ds_asg (wE (de_call (ks := [.io 1]) (ok__law_lag_rows o) (hr.mono (by decide)) (by rfl) o.g__law_lag_rows o.F__law_lag_rows.kp o.b__law_lag_rows (wC (dc_io 1 dc_nil)))) (dg_n 2 sc_law.nd))
      (dss_cons (ds_if (wT (dt_not (wT (dt_t (wE (de_call (ks := [.val (.vw [2]), .val .tmp]) (ok__law_drum_told o) (hr.mono (by decide)) (by rfl) o.g__law_drum_told o.F__law_drum_told.kp o.b__law_drum_told (wC (dc_val (de_n 2) (wC (dc_val (wE (de_call (ks := [.io 1, .val .tmp]) (ok__law_draw o) (hr.mono (by decide)) (by rfl) o.g__law_draw o.F__law_draw.kp o.b__law_draw (wC (dc_io 1 (wC (dc_val de_int dc_nil)))))) dc_nil)))))))))) (dss_one (ds_rt de_bl)) dss_nil)
      (dss_cons (for_ PassesOwn.never rfl (wI (di_rg1 (by rfl) o.m_range (wA (da_cons (wE (de_bin op_addA oAdd_ok de_int (wE (de_call (ks := [.io 1, .val .tmp]) (ok__law_draw o) (hr.mono (by decide)) (by rfl) o.g__law_draw o.F__law_draw.kp o.b__law_draw (wC (dc_io 1 (wC (dc_val de_int dc_nil)))))))) da_nil)))) (dg_n 3 sc_law.nd) (dss_cons (ds_asg (wE (de_call (ks := [.io 1, .val (.vw [2])]) (ok__law_laid_and_turned o) (hr.mono (by decide)) (by rfl) o.g__law_laid_and_turned o.F__law_laid_and_turned.kp o.b__law_laid_and_turned (wC (dc_io 1 (wC (dc_val (de_n 2) dc_nil)))))) (dg_n 2 sc_law.nd))
      (dss_one (ds_if (wT (dt_not (wT (dt_t (wE (de_call (ks := [.val (.vw [2]), .val .tmp]) (ok__law_drum_told o) (hr.mono (by decide)) (by rfl) o.g__law_drum_told o.F__law_drum_told.kp o.b__law_drum_told (wC (dc_val (de_n 2) (wC (dc_val (wE (de_call (ks := [.io 1, .val .tmp]) (ok__law_draw o) (hr.mono (by decide)) (by rfl) o.g__law_draw o.F__law_draw.kp o.b__law_draw (wC (dc_io 1 (wC (dc_val de_int dc_nil)))))) dc_nil)))))))))) (dss_one (ds_rt de_bl)) dss_nil))))
      (dss_one (ds_rt (wE (de_call (ks := [.val .tmp, .val .tmp]) (ok__law_drum_told o) (hr.mono (by decide)) (by rfl) o.g__law_drum_told o.F__law_drum_told.kp o.b__law_drum_told (wC (dc_val (wE (de_rev (de_n 2))) (wC (dc_val (wE (de_call (ks := [.io 1, .val .tmp]) (ok__law_draw o) (hr.mono (by decide)) (by rfl) o.g__law_draw o.F__law_draw.kp o.b__law_draw (wC (dc_io 1 (wC (dc_val de_int dc_nil)))))) dc_nil))))))))))))⟩
end
end Wk34
namespace Wk34
open PySem PySem.Spec PyProof.Rows L2 VS
theorem all_mk {l : PySem.W.OpenLaw} {w : World} {K : PySem.W.Frag} {h : Heap} {mg : Str → Option Value} {fa : Addr} (X : K.In h) (G : h.Ns mainGlobals mg) (hfa : mg "law" = some (.ref fa))
    {f_in_range : Addr} {od_in_range an_in_range : Option Addr} {sl_in_range : Array (Option Value)} {oc_in_range kV_in_range dc_in_range pm_in_range cd_in_range ct_in_range : Value} {f_rows_fit : Addr} {od_rows_fit an_rows_fit : Option Addr} {sl_rows_fit : Array (Option Value)} {oc_rows_fit kV_rows_fit dc_rows_fit pm_rows_fit cd_rows_fit ct_rows_fit : Value} {f_Cloth___init__ : Addr} {od_Cloth___init__ an_Cloth___init__ : Option Addr} {sl_Cloth___init__ : Array (Option Value)} {oc_Cloth___init__ kV_Cloth___init__ dc_Cloth___init__ pm_Cloth___init__ cd_Cloth___init__ ct_Cloth___init__ : Value} {f_Cloth___iter__ : Addr} {od_Cloth___iter__ an_Cloth___iter__ : Option Addr} {sl_Cloth___iter__ : Array (Option Value)} {oc_Cloth___iter__ kV_Cloth___iter__ dc_Cloth___iter__ pm_Cloth___iter__ cd_Cloth___iter__ ct_Cloth___iter__ : Value} {f_column : Addr} {od_column an_column : Option Addr} {sl_column : Array (Option Value)} {oc_column kV_column dc_column pm_column cd_column ct_column : Value} {f_period : Addr} {od_period an_period : Option Addr} {sl_period : Array (Option Value)} {oc_period kV_period dc_period pm_period cd_period ct_period : Value} {f_least_repeat : Addr} {od_least_repeat an_least_repeat : Option Addr} {sl_least_repeat : Array (Option Value)} {oc_least_repeat kV_least_repeat dc_least_repeat pm_least_repeat cd_least_repeat ct_least_repeat : Value} {f_shifted : Addr} {od_shifted an_shifted : Option Addr} {sl_shifted : Array (Option Value)} {oc_shifted kV_shifted dc_shifted pm_shifted cd_shifted ct_shifted : Value} {f_is_mirrored : Addr} {od_is_mirrored an_is_mirrored : Option Addr} {sl_is_mirrored : Array (Option Value)} {oc_is_mirrored kV_is_mirrored dc_is_mirrored pm_is_mirrored cd_is_mirrored ct_is_mirrored : Value} {f_point_lags : Addr} {od_point_lags an_point_lags : Option Addr} {sl_point_lags : Array (Option Value)} {oc_point_lags kV_point_lags dc_point_lags pm_point_lags cd_point_lags ct_point_lags : Value} {f_drum : Addr} {od_drum an_drum : Option Addr} {sl_drum : Array (Option Value)} {oc_drum kV_drum dc_drum pm_drum cd_drum ct_drum : Value} {f__law_start : Addr} {od__law_start an__law_start : Option Addr} {sl__law_start : Array (Option Value)} {oc__law_start kV__law_start dc__law_start pm__law_start cd__law_start ct__law_start : Value} {f__law_draw : Addr} {od__law_draw an__law_draw : Option Addr} {sl__law_draw : Array (Option Value)} {oc__law_draw kV__law_draw dc__law_draw pm__law_draw cd__law_draw ct__law_draw : Value} {f__law_side : Addr} {od__law_side an__law_side : Option Addr} {sl__law_side : Array (Option Value)} {oc__law_side kV__law_side dc__law_side pm__law_side cd__law_side ct__law_side : Value} {f__law_shuffled : Addr} {od__law_shuffled an__law_shuffled : Option Addr} {sl__law_shuffled : Array (Option Value)} {oc__law_shuffled kV__law_shuffled dc__law_shuffled pm__law_shuffled cd__law_shuffled ct__law_shuffled : Value} {f__law_same : Addr} {od__law_same an__law_same : Option Addr} {sl__law_same : Array (Option Value)} {oc__law_same kV__law_same dc__law_same pm__law_same cd__law_same ct__law_same : Value} {f__law_free_rows : Addr} {od__law_free_rows an__law_free_rows : Option Addr} {sl__law_free_rows : Array (Option Value)} {oc__law_free_rows kV__law_free_rows dc__law_free_rows pm__law_free_rows cd__law_free_rows ct__law_free_rows : Value} {f__law_layer_sizes : Addr} {od__law_layer_sizes an__law_layer_sizes : Option Addr} {sl__law_layer_sizes : Array (Option Value)} {oc__law_layer_sizes kV__law_layer_sizes dc__law_layer_sizes pm__law_layer_sizes cd__law_layer_sizes ct__law_layer_sizes : Value} {f__law_ranks_in : Addr} {od__law_ranks_in an__law_ranks_in : Option Addr} {sl__law_ranks_in : Array (Option Value)} {oc__law_ranks_in kV__law_ranks_in dc__law_ranks_in pm__law_ranks_in cd__law_ranks_in ct__law_ranks_in : Value} {f__law_layered_rows : Addr} {od__law_layered_rows an__law_layered_rows : Option Addr} {sl__law_layered_rows : Array (Option Value)} {oc__law_layered_rows kV__law_layered_rows dc__law_layered_rows pm__law_layered_rows cd__law_layered_rows ct__law_layered_rows : Value} {f__law_exchange : Addr} {od__law_exchange an__law_exchange : Option Addr} {sl__law_exchange : Array (Option Value)} {oc__law_exchange kV__law_exchange dc__law_exchange pm__law_exchange cd__law_exchange ct__law_exchange : Value} {f__law_some_rows : Addr} {od__law_some_rows an__law_some_rows : Option Addr} {sl__law_some_rows : Array (Option Value)} {oc__law_some_rows kV__law_some_rows dc__law_some_rows pm__law_some_rows cd__law_some_rows ct__law_some_rows : Value} {f__law_lag_rows : Addr} {od__law_lag_rows an__law_lag_rows : Option Addr} {sl__law_lag_rows : Array (Option Value)} {oc__law_lag_rows kV__law_lag_rows dc__law_lag_rows pm__law_lag_rows cd__law_lag_rows ct__law_lag_rows : Value} {f__law_laid_and_turned : Addr} {od__law_laid_and_turned an__law_laid_and_turned : Option Addr} {sl__law_laid_and_turned : Array (Option Value)} {oc__law_laid_and_turned kV__law_laid_and_turned dc__law_laid_and_turned pm__law_laid_and_turned cd__law_laid_and_turned ct__law_laid_and_turned : Value} {f__law_ring_lags : Addr} {od__law_ring_lags an__law_ring_lags : Option Addr} {sl__law_ring_lags : Array (Option Value)} {oc__law_ring_lags kV__law_ring_lags dc__law_ring_lags pm__law_ring_lags cd__law_ring_lags ct__law_ring_lags : Value} {f__law_lag : Addr} {od__law_lag an__law_lag : Option Addr} {sl__law_lag : Array (Option Value)} {oc__law_lag kV__law_lag dc__law_lag pm__law_lag cd__law_lag ct__law_lag : Value} {f__law_shows : Addr} {od__law_shows an__law_shows : Option Addr} {sl__law_shows : Array (Option Value)} {oc__law_shows kV__law_shows dc__law_shows pm__law_shows cd__law_shows ct__law_shows : Value} {f__law_point_lags : Addr} {od__law_point_lags an__law_point_lags : Option Addr} {sl__law_point_lags : Array (Option Value)} {oc__law_point_lags kV__law_point_lags dc__law_point_lags pm__law_point_lags cd__law_point_lags ct__law_point_lags : Value} {f__law_drum_told : Addr} {od__law_drum_told an__law_drum_told : Option Addr} {sl__law_drum_told : Array (Option Value)} {oc__law_drum_told kV__law_drum_told dc__law_drum_told pm__law_drum_told cd__law_drum_told ct__law_drum_told : Value} {f_law : Addr} {od_law an_law : Option Addr} {sl_law : Array (Option Value)} {oc_law kV_law dc_law pm_law cd_law ct_law : Value} {C_Cloth : Addr} {t_SIGNS : Tok} {tk_Cloth_MOST : Tok}
    (l_in_range : K.lookup f_in_range = some ⟨oc_in_range, od_in_range, .func (PySem.W.fnOf "in_range" "in_range" (defArgs s_in_range) (defBody s_in_range) (defScope s_in_range) .none kV_in_range dc_in_range pm_in_range an_in_range cd_in_range ct_in_range), sl_in_range⟩)
    (c_in_range : PySem.W.codeIn K cd_in_range "in_range" = true)
    (k_in_range : PySem.W.keepIn K (.ref f_in_range) = true)
    (l_rows_fit : K.lookup f_rows_fit = some ⟨oc_rows_fit, od_rows_fit, .func (PySem.W.fnOf "rows_fit" "rows_fit" (defArgs s_rows_fit) (defBody s_rows_fit) (defScope s_rows_fit) .none kV_rows_fit dc_rows_fit pm_rows_fit an_rows_fit cd_rows_fit ct_rows_fit), sl_rows_fit⟩)
    (c_rows_fit : PySem.W.codeIn K cd_rows_fit "rows_fit" = true)
    (k_rows_fit : PySem.W.keepIn K (.ref f_rows_fit) = true)
    (l_Cloth___init__ : K.lookup f_Cloth___init__ = some ⟨oc_Cloth___init__, od_Cloth___init__, .func (PySem.W.fnOf "__init__" "Cloth.__init__" (defArgs s_Cloth___init__) (defBody s_Cloth___init__) (defScope s_Cloth___init__) .none kV_Cloth___init__ dc_Cloth___init__ pm_Cloth___init__ an_Cloth___init__ cd_Cloth___init__ ct_Cloth___init__), sl_Cloth___init__⟩)
    (c_Cloth___init__ : PySem.W.codeIn K cd_Cloth___init__ "Cloth.__init__" = true)
    (k_Cloth___init__ : PySem.W.keepIn K (.ref f_Cloth___init__) = true)
    (l_Cloth___iter__ : K.lookup f_Cloth___iter__ = some ⟨oc_Cloth___iter__, od_Cloth___iter__, .func (PySem.W.fnOf "__iter__" "Cloth.__iter__" (defArgs s_Cloth___iter__) (defBody s_Cloth___iter__) (defScope s_Cloth___iter__) .none kV_Cloth___iter__ dc_Cloth___iter__ pm_Cloth___iter__ an_Cloth___iter__ cd_Cloth___iter__ ct_Cloth___iter__), sl_Cloth___iter__⟩)
    (c_Cloth___iter__ : PySem.W.codeIn K cd_Cloth___iter__ "Cloth.__iter__" = true)
    (k_Cloth___iter__ : PySem.W.keepIn K (.ref f_Cloth___iter__) = true)
    (l_column : K.lookup f_column = some ⟨oc_column, od_column, .func (PySem.W.fnOf "column" "column" (defArgs s_column) (defBody s_column) (defScope s_column) .none kV_column dc_column pm_column an_column cd_column ct_column), sl_column⟩)
    (c_column : PySem.W.codeIn K cd_column "column" = true)
    (k_column : PySem.W.keepIn K (.ref f_column) = true)
    (l_period : K.lookup f_period = some ⟨oc_period, od_period, .func (PySem.W.fnOf "period" "period" (defArgs s_period) (defBody s_period) (defScope s_period) .none kV_period dc_period pm_period an_period cd_period ct_period), sl_period⟩)
    (c_period : PySem.W.codeIn K cd_period "period" = true)
    (k_period : PySem.W.keepIn K (.ref f_period) = true)
    (l_least_repeat : K.lookup f_least_repeat = some ⟨oc_least_repeat, od_least_repeat, .func (PySem.W.fnOf "least_repeat" "least_repeat" (defArgs s_least_repeat) (defBody s_least_repeat) (defScope s_least_repeat) .none kV_least_repeat dc_least_repeat pm_least_repeat an_least_repeat cd_least_repeat ct_least_repeat), sl_least_repeat⟩)
    (c_least_repeat : PySem.W.codeIn K cd_least_repeat "least_repeat" = true)
    (k_least_repeat : PySem.W.keepIn K (.ref f_least_repeat) = true)
    (l_shifted : K.lookup f_shifted = some ⟨oc_shifted, od_shifted, .func (PySem.W.fnOf "shifted" "shifted" (defArgs s_shifted) (defBody s_shifted) (defScope s_shifted) .none kV_shifted dc_shifted pm_shifted an_shifted cd_shifted ct_shifted), sl_shifted⟩)
    (c_shifted : PySem.W.codeIn K cd_shifted "shifted" = true)
    (k_shifted : PySem.W.keepIn K (.ref f_shifted) = true)
    (l_is_mirrored : K.lookup f_is_mirrored = some ⟨oc_is_mirrored, od_is_mirrored, .func (PySem.W.fnOf "is_mirrored" "is_mirrored" (defArgs s_is_mirrored) (defBody s_is_mirrored) (defScope s_is_mirrored) .none kV_is_mirrored dc_is_mirrored pm_is_mirrored an_is_mirrored cd_is_mirrored ct_is_mirrored), sl_is_mirrored⟩)
    (c_is_mirrored : PySem.W.codeIn K cd_is_mirrored "is_mirrored" = true)
    (k_is_mirrored : PySem.W.keepIn K (.ref f_is_mirrored) = true)
    (l_point_lags : K.lookup f_point_lags = some ⟨oc_point_lags, od_point_lags, .func (PySem.W.fnOf "point_lags" "point_lags" (defArgs s_point_lags) (defBody s_point_lags) (defScope s_point_lags) .none kV_point_lags dc_point_lags pm_point_lags an_point_lags cd_point_lags ct_point_lags), sl_point_lags⟩)
    (c_point_lags : PySem.W.codeIn K cd_point_lags "point_lags" = true)
    (k_point_lags : PySem.W.keepIn K (.ref f_point_lags) = true)
    (l_drum : K.lookup f_drum = some ⟨oc_drum, od_drum, .func (PySem.W.fnOf "drum" "drum" (defArgs s_drum) (defBody s_drum) (defScope s_drum) .none kV_drum dc_drum pm_drum an_drum cd_drum ct_drum), sl_drum⟩)
    (c_drum : PySem.W.codeIn K cd_drum "drum" = true)
    (k_drum : PySem.W.keepIn K (.ref f_drum) = true)
    (l__law_start : K.lookup f__law_start = some ⟨oc__law_start, od__law_start, .func (PySem.W.fnOf "_law_start" "_law_start" (defArgs s__law_start) (defBody s__law_start) (defScope s__law_start) .none kV__law_start dc__law_start pm__law_start an__law_start cd__law_start ct__law_start), sl__law_start⟩)
    (c__law_start : PySem.W.codeIn K cd__law_start "_law_start" = true)
    (k__law_start : PySem.W.keepIn K (.ref f__law_start) = true)
    (l__law_draw : K.lookup f__law_draw = some ⟨oc__law_draw, od__law_draw, .func (PySem.W.fnOf "_law_draw" "_law_draw" (defArgs s__law_draw) (defBody s__law_draw) (defScope s__law_draw) .none kV__law_draw dc__law_draw pm__law_draw an__law_draw cd__law_draw ct__law_draw), sl__law_draw⟩)
    (c__law_draw : PySem.W.codeIn K cd__law_draw "_law_draw" = true)
    (k__law_draw : PySem.W.keepIn K (.ref f__law_draw) = true)
    (l__law_side : K.lookup f__law_side = some ⟨oc__law_side, od__law_side, .func (PySem.W.fnOf "_law_side" "_law_side" (defArgs s__law_side) (defBody s__law_side) (defScope s__law_side) .none kV__law_side dc__law_side pm__law_side an__law_side cd__law_side ct__law_side), sl__law_side⟩)
    (c__law_side : PySem.W.codeIn K cd__law_side "_law_side" = true)
    (k__law_side : PySem.W.keepIn K (.ref f__law_side) = true)
    (l__law_shuffled : K.lookup f__law_shuffled = some ⟨oc__law_shuffled, od__law_shuffled, .func (PySem.W.fnOf "_law_shuffled" "_law_shuffled" (defArgs s__law_shuffled) (defBody s__law_shuffled) (defScope s__law_shuffled) .none kV__law_shuffled dc__law_shuffled pm__law_shuffled an__law_shuffled cd__law_shuffled ct__law_shuffled), sl__law_shuffled⟩)
    (c__law_shuffled : PySem.W.codeIn K cd__law_shuffled "_law_shuffled" = true)
    (k__law_shuffled : PySem.W.keepIn K (.ref f__law_shuffled) = true)
    (l__law_same : K.lookup f__law_same = some ⟨oc__law_same, od__law_same, .func (PySem.W.fnOf "_law_same" "_law_same" (defArgs s__law_same) (defBody s__law_same) (defScope s__law_same) .none kV__law_same dc__law_same pm__law_same an__law_same cd__law_same ct__law_same), sl__law_same⟩)
    (c__law_same : PySem.W.codeIn K cd__law_same "_law_same" = true)
    (k__law_same : PySem.W.keepIn K (.ref f__law_same) = true)
    (l__law_free_rows : K.lookup f__law_free_rows = some ⟨oc__law_free_rows, od__law_free_rows, .func (PySem.W.fnOf "_law_free_rows" "_law_free_rows" (defArgs s__law_free_rows) (defBody s__law_free_rows) (defScope s__law_free_rows) .none kV__law_free_rows dc__law_free_rows pm__law_free_rows an__law_free_rows cd__law_free_rows ct__law_free_rows), sl__law_free_rows⟩)
    (c__law_free_rows : PySem.W.codeIn K cd__law_free_rows "_law_free_rows" = true)
    (k__law_free_rows : PySem.W.keepIn K (.ref f__law_free_rows) = true)
    (l__law_layer_sizes : K.lookup f__law_layer_sizes = some ⟨oc__law_layer_sizes, od__law_layer_sizes, .func (PySem.W.fnOf "_law_layer_sizes" "_law_layer_sizes" (defArgs s__law_layer_sizes) (defBody s__law_layer_sizes) (defScope s__law_layer_sizes) .none kV__law_layer_sizes dc__law_layer_sizes pm__law_layer_sizes an__law_layer_sizes cd__law_layer_sizes ct__law_layer_sizes), sl__law_layer_sizes⟩)
    (c__law_layer_sizes : PySem.W.codeIn K cd__law_layer_sizes "_law_layer_sizes" = true)
    (k__law_layer_sizes : PySem.W.keepIn K (.ref f__law_layer_sizes) = true)
    (l__law_ranks_in : K.lookup f__law_ranks_in = some ⟨oc__law_ranks_in, od__law_ranks_in, .func (PySem.W.fnOf "_law_ranks_in" "_law_ranks_in" (defArgs s__law_ranks_in) (defBody s__law_ranks_in) (defScope s__law_ranks_in) .none kV__law_ranks_in dc__law_ranks_in pm__law_ranks_in an__law_ranks_in cd__law_ranks_in ct__law_ranks_in), sl__law_ranks_in⟩)
    (c__law_ranks_in : PySem.W.codeIn K cd__law_ranks_in "_law_ranks_in" = true)
    (k__law_ranks_in : PySem.W.keepIn K (.ref f__law_ranks_in) = true)
    (l__law_layered_rows : K.lookup f__law_layered_rows = some ⟨oc__law_layered_rows, od__law_layered_rows, .func (PySem.W.fnOf "_law_layered_rows" "_law_layered_rows" (defArgs s__law_layered_rows) (defBody s__law_layered_rows) (defScope s__law_layered_rows) .none kV__law_layered_rows dc__law_layered_rows pm__law_layered_rows an__law_layered_rows cd__law_layered_rows ct__law_layered_rows), sl__law_layered_rows⟩)
    (c__law_layered_rows : PySem.W.codeIn K cd__law_layered_rows "_law_layered_rows" = true)
    (k__law_layered_rows : PySem.W.keepIn K (.ref f__law_layered_rows) = true)
    (l__law_exchange : K.lookup f__law_exchange = some ⟨oc__law_exchange, od__law_exchange, .func (PySem.W.fnOf "_law_exchange" "_law_exchange" (defArgs s__law_exchange) (defBody s__law_exchange) (defScope s__law_exchange) .none kV__law_exchange dc__law_exchange pm__law_exchange an__law_exchange cd__law_exchange ct__law_exchange), sl__law_exchange⟩)
    (c__law_exchange : PySem.W.codeIn K cd__law_exchange "_law_exchange" = true)
    (k__law_exchange : PySem.W.keepIn K (.ref f__law_exchange) = true)
    (l__law_some_rows : K.lookup f__law_some_rows = some ⟨oc__law_some_rows, od__law_some_rows, .func (PySem.W.fnOf "_law_some_rows" "_law_some_rows" (defArgs s__law_some_rows) (defBody s__law_some_rows) (defScope s__law_some_rows) .none kV__law_some_rows dc__law_some_rows pm__law_some_rows an__law_some_rows cd__law_some_rows ct__law_some_rows), sl__law_some_rows⟩)
    (c__law_some_rows : PySem.W.codeIn K cd__law_some_rows "_law_some_rows" = true)
    (k__law_some_rows : PySem.W.keepIn K (.ref f__law_some_rows) = true)
    (l__law_lag_rows : K.lookup f__law_lag_rows = some ⟨oc__law_lag_rows, od__law_lag_rows, .func (PySem.W.fnOf "_law_lag_rows" "_law_lag_rows" (defArgs s__law_lag_rows) (defBody s__law_lag_rows) (defScope s__law_lag_rows) .none kV__law_lag_rows dc__law_lag_rows pm__law_lag_rows an__law_lag_rows cd__law_lag_rows ct__law_lag_rows), sl__law_lag_rows⟩)
    (c__law_lag_rows : PySem.W.codeIn K cd__law_lag_rows "_law_lag_rows" = true)
    (k__law_lag_rows : PySem.W.keepIn K (.ref f__law_lag_rows) = true)
    (l__law_laid_and_turned : K.lookup f__law_laid_and_turned = some ⟨oc__law_laid_and_turned, od__law_laid_and_turned, .func (PySem.W.fnOf "_law_laid_and_turned" "_law_laid_and_turned" (defArgs s__law_laid_and_turned) (defBody s__law_laid_and_turned) (defScope s__law_laid_and_turned) .none kV__law_laid_and_turned dc__law_laid_and_turned pm__law_laid_and_turned an__law_laid_and_turned cd__law_laid_and_turned ct__law_laid_and_turned), sl__law_laid_and_turned⟩)
    (c__law_laid_and_turned : PySem.W.codeIn K cd__law_laid_and_turned "_law_laid_and_turned" = true)
    (k__law_laid_and_turned : PySem.W.keepIn K (.ref f__law_laid_and_turned) = true)
    (l__law_ring_lags : K.lookup f__law_ring_lags = some ⟨oc__law_ring_lags, od__law_ring_lags, .func (PySem.W.fnOf "_law_ring_lags" "_law_ring_lags" (defArgs s__law_ring_lags) (defBody s__law_ring_lags) (defScope s__law_ring_lags) .none kV__law_ring_lags dc__law_ring_lags pm__law_ring_lags an__law_ring_lags cd__law_ring_lags ct__law_ring_lags), sl__law_ring_lags⟩)
    (c__law_ring_lags : PySem.W.codeIn K cd__law_ring_lags "_law_ring_lags" = true)
    (k__law_ring_lags : PySem.W.keepIn K (.ref f__law_ring_lags) = true)
    (l__law_lag : K.lookup f__law_lag = some ⟨oc__law_lag, od__law_lag, .func (PySem.W.fnOf "_law_lag" "_law_lag" (defArgs s__law_lag) (defBody s__law_lag) (defScope s__law_lag) .none kV__law_lag dc__law_lag pm__law_lag an__law_lag cd__law_lag ct__law_lag), sl__law_lag⟩)
    (c__law_lag : PySem.W.codeIn K cd__law_lag "_law_lag" = true)
    (k__law_lag : PySem.W.keepIn K (.ref f__law_lag) = true)
    (l__law_shows : K.lookup f__law_shows = some ⟨oc__law_shows, od__law_shows, .func (PySem.W.fnOf "_law_shows" "_law_shows" (defArgs s__law_shows) (defBody s__law_shows) (defScope s__law_shows) .none kV__law_shows dc__law_shows pm__law_shows an__law_shows cd__law_shows ct__law_shows), sl__law_shows⟩)
    (c__law_shows : PySem.W.codeIn K cd__law_shows "_law_shows" = true)
    (k__law_shows : PySem.W.keepIn K (.ref f__law_shows) = true)
    (l__law_point_lags : K.lookup f__law_point_lags = some ⟨oc__law_point_lags, od__law_point_lags, .func (PySem.W.fnOf "_law_point_lags" "_law_point_lags" (defArgs s__law_point_lags) (defBody s__law_point_lags) (defScope s__law_point_lags) .none kV__law_point_lags dc__law_point_lags pm__law_point_lags an__law_point_lags cd__law_point_lags ct__law_point_lags), sl__law_point_lags⟩)
    (c__law_point_lags : PySem.W.codeIn K cd__law_point_lags "_law_point_lags" = true)
    (k__law_point_lags : PySem.W.keepIn K (.ref f__law_point_lags) = true)
    (l__law_drum_told : K.lookup f__law_drum_told = some ⟨oc__law_drum_told, od__law_drum_told, .func (PySem.W.fnOf "_law_drum_told" "_law_drum_told" (defArgs s__law_drum_told) (defBody s__law_drum_told) (defScope s__law_drum_told) .none kV__law_drum_told dc__law_drum_told pm__law_drum_told an__law_drum_told cd__law_drum_told ct__law_drum_told), sl__law_drum_told⟩)
    (c__law_drum_told : PySem.W.codeIn K cd__law_drum_told "_law_drum_told" = true)
    (k__law_drum_told : PySem.W.keepIn K (.ref f__law_drum_told) = true)
    (l_law : K.lookup f_law = some ⟨oc_law, od_law, .func (PySem.W.fnOf "law" "law" (defArgs s_law) (defBody s_law) (defScope s_law) .none kV_law dc_law pm_law an_law cd_law ct_law), sl_law⟩)
    (c_law : PySem.W.codeIn K cd_law "law" = true)
    (k_law : PySem.W.keepIn K (.ref f_law) = true)
    (g_rows_fit : PySem.W.nsIn K mainGlobals "rows_fit" = some (some (.ref f_rows_fit)))
    (c_SIGNS_ : PySem.W.nsIn K mainGlobals "SIGNS" = some (some (.str "01" t_SIGNS)))
    (g_Cloth : PySem.W.nsIn K mainGlobals "Cloth" = some (some (.ref C_Cloth)))
    (rd_Cloth : PySem.W.readsIn K C_Cloth (.type "type") = true)
    (ga_Cloth : PySem.W.specialIn K (.ref C_Cloth) "__getattribute__" = some (some (.builtin "type.__getattribute__")))
    (k_Cloth_MOST_ : PySem.W.findCls K (.ref C_Cloth) (.type "type") "MOST" = some (.val (.int 60 tk_Cloth_MOST)))
    (m_tuple : PySem.W.nsIn K mainGlobals "tuple" = some none)
    (pg_Cloth : PySem.W.plainGet K C_Cloth Str.empty = true)
    (hd_Cloth : PySem.W.hasDictIn K C_Cloth = true)
    (po_Cloth : PySem.W.plainOver K C_Cloth = true)
    (sa_Cloth : PySem.W.findIn K (.ref C_Cloth) "__setattr__" = some (some (.builtin "object.__setattr__")))
    (na_Cloth_rows : PySem.W.findIn K (.ref C_Cloth) "rows" = some none)
    (m_len : PySem.W.nsIn K mainGlobals "len" = some none)
    (na_Cloth_picks : PySem.W.findIn K (.ref C_Cloth) "picks" = some none)
    (na_Cloth_ends : PySem.W.findIn K (.ref C_Cloth) "ends" = some none)
    (m_isinstance : PySem.W.nsIn K mainGlobals "isinstance" = some none)
    (m_list : PySem.W.nsIn K mainGlobals "list" = some none)
    (g_in_range : PySem.W.nsIn K mainGlobals "in_range" = some (some (.ref f_in_range)))
    (m_str : PySem.W.nsIn K mainGlobals "str" = some none)
    (m_sum : PySem.W.nsIn K mainGlobals "sum" = some none)
    (m_range : PySem.W.nsIn K mainGlobals "range" = some none)
    (g_period : PySem.W.nsIn K mainGlobals "period" = some (some (.ref f_period)))
    (g_column : PySem.W.nsIn K mainGlobals "column" = some (some (.ref f_column)))
    (i_Cloth___init__ : PySem.W.isFn K (.ref f_Cloth___init__) = true)
    (mk1_Cloth : PySem.W.makesIn K C_Cloth = true)
    (mk2_Cloth : PySem.W.findIn K (.ref C_Cloth) "__init__" = some (some (.ref f_Cloth___init__)))
    (mk3_Cloth : PySem.W.keepIn K (.ref C_Cloth) = true)
    (g_is_mirrored : PySem.W.nsIn K mainGlobals "is_mirrored" = some (some (.ref f_is_mirrored)))
    (g_least_repeat : PySem.W.nsIn K mainGlobals "least_repeat" = some (some (.ref f_least_repeat)))
    (g_point_lags : PySem.W.nsIn K mainGlobals "point_lags" = some (some (.ref f_point_lags)))
    (m_int : PySem.W.nsIn K mainGlobals "int" = some none)
    (m_abs : PySem.W.nsIn K mainGlobals "abs" = some none)
    (g__law_draw : PySem.W.nsIn K mainGlobals "_law_draw" = some (some (.ref f__law_draw)))
    (m_min : PySem.W.nsIn K mainGlobals "min" = some none)
    (m_bool : PySem.W.nsIn K mainGlobals "bool" = some none)
    (g__law_same : PySem.W.nsIn K mainGlobals "_law_same" = some (some (.ref f__law_same)))
    (g__law_shuffled : PySem.W.nsIn K mainGlobals "_law_shuffled" = some (some (.ref f__law_shuffled)))
    (g__law_ranks_in : PySem.W.nsIn K mainGlobals "_law_ranks_in" = some (some (.ref f__law_ranks_in)))
    (g__law_side : PySem.W.nsIn K mainGlobals "_law_side" = some (some (.ref f__law_side)))
    (g__law_free_rows : PySem.W.nsIn K mainGlobals "_law_free_rows" = some (some (.ref f__law_free_rows)))
    (g__law_layered_rows : PySem.W.nsIn K mainGlobals "_law_layered_rows" = some (some (.ref f__law_layered_rows)))
    (g__law_layer_sizes : PySem.W.nsIn K mainGlobals "_law_layer_sizes" = some (some (.ref f__law_layer_sizes)))
    (g__law_exchange : PySem.W.nsIn K mainGlobals "_law_exchange" = some (some (.ref f__law_exchange)))
    (g__law_some_rows : PySem.W.nsIn K mainGlobals "_law_some_rows" = some (some (.ref f__law_some_rows)))
    (m_max : PySem.W.nsIn K mainGlobals "max" = some none)
    (g__law_lag : PySem.W.nsIn K mainGlobals "_law_lag" = some (some (.ref f__law_lag)))
    (g__law_shows : PySem.W.nsIn K mainGlobals "_law_shows" = some (some (.ref f__law_shows)))
    (g__law_ring_lags : PySem.W.nsIn K mainGlobals "_law_ring_lags" = some (some (.ref f__law_ring_lags)))
    (g__law_point_lags : PySem.W.nsIn K mainGlobals "_law_point_lags" = some (some (.ref f__law_point_lags)))
    (g_drum : PySem.W.nsIn K mainGlobals "drum" = some (some (.ref f_drum)))
    (g_shifted : PySem.W.nsIn K mainGlobals "shifted" = some (some (.ref f_shifted)))
    (i_Cloth___iter__ : PySem.W.isFn K (.ref f_Cloth___iter__) = true)
    (it1_Cloth : PySem.W.findIn K (.ref C_Cloth) "__iter__" = some (some (.ref f_Cloth___iter__)))
    (it2_Cloth : PySem.W.findIn K (.ref C_Cloth) "__len__" = some none)
    (it3_Cloth : PySem.W.findIn K (.ref C_Cloth) "__length_hint__" = some none)
    (g__law_start : PySem.W.nsIn K mainGlobals "_law_start" = some (some (.ref f__law_start)))
    (g__law_lag_rows : PySem.W.nsIn K mainGlobals "_law_lag_rows" = some (some (.ref f__law_lag_rows)))
    (g__law_drum_told : PySem.W.nsIn K mainGlobals "_law_drum_told" = some (some (.ref f__law_drum_told)))
    (g__law_laid_and_turned : PySem.W.nsIn K mainGlobals "_law_laid_and_turned" = some (some (.ref f__law_laid_and_turned)))
    (m_iter : PySem.W.nsIn K mainGlobals "iter" = some none)
    (icl_Cloth : PySem.W.isClsIn K C_Cloth = true)
    (tyc_Cloth : PySem.W.typeIn K (.ref C_Cloth) = some (.type "type"))
    (is_0 : PySem.W.mroIn K C_Cloth (.type "bool") = some false)
    (is_1 : PySem.W.mroIn K C_Cloth (.type "int") = some false)
    (is_2 : PySem.W.mroIn K C_Cloth (.type "str") = some false)
    (is_3 : PySem.W.mroIn K C_Cloth (.type "tuple") = some false)
    (is_4 : PySem.W.mroIn K C_Cloth (.type "list") = some false)
    (is_5 : PySem.W.mroIn K C_Cloth (.type "dict") = some false)
    (in1_Cloth : PySem.W.findIn K (.ref C_Cloth) "__class__" = some (some (.builtin "object.__class__")))
    (in2_Cloth : PySem.W.mroIn K C_Cloth (.type "object") = some true)
    (in3 : PySem.W.specialIn K (.builtin "object.__class__") "__get__" = some (some (.builtin "getset_descriptor.__get__")))
    (in4 : PySem.W.takesIn K (.builtin "object.__class__") = some true)
    (glaw : PySem.W.nsIn K mainGlobals "law" = some (some (.ref f_law))) :
    ∃ (C : Addr) (fd : FuncData), (∀ (s : Shared) (v : Value), BindsTo s fd ⟨[v], []⟩ [("script", v)]) ∧ ∀ base : Heap, K.In base → base.Ns mainGlobals mg → FnOk l.prog w K mg base CX0 8 fa fd ["script"] (spOf K [.val] (D_law C)) := by
  have e := hfa.symm.trans (PySem.W.mg_of X G glaw)
  cases e
  have F_in_range := fun_mk (st := s_in_range) l_in_range c_in_range k_in_range
  have b_in_range := F_in_range.binds (ps := ["n", "low", "high"]) fun _ _ _ _ _ _ us hl => match us, hl with | [_, _, _], _ => rfl
  have F_rows_fit := fun_mk (st := s_rows_fit) l_rows_fit c_rows_fit k_rows_fit
  have b_rows_fit := F_rows_fit.binds (ps := ["rows", "signs", "most"]) fun _ _ _ _ _ _ us hl => match us, hl with | [_, _, _], _ => rfl
  have F_Cloth___init__ := fun_mk (st := s_Cloth___init__) l_Cloth___init__ c_Cloth___init__ k_Cloth___init__
  have b_Cloth___init__ := F_Cloth___init__.binds (ps := ["self", "rows"]) fun _ _ _ _ _ _ us hl => match us, hl with | [_, _], _ => rfl
  have F_Cloth___iter__ := fun_mk (st := s_Cloth___iter__) l_Cloth___iter__ c_Cloth___iter__ k_Cloth___iter__
  have b_Cloth___iter__ := F_Cloth___iter__.binds (ps := ["self"]) fun _ _ _ _ _ _ us hl => match us, hl with | [_], _ => rfl
  have F_column := fun_mk (st := s_column) l_column c_column k_column
  have b_column := F_column.binds (ps := ["cloth", "j"]) fun _ _ _ _ _ _ us hl => match us, hl with | [_, _], _ => rfl
  have F_period := fun_mk (st := s_period) l_period c_period k_period
  have b_period := F_period.binds (ps := ["parts"]) fun _ _ _ _ _ _ us hl => match us, hl with | [_], _ => rfl
  have F_least_repeat := fun_mk (st := s_least_repeat) l_least_repeat c_least_repeat k_least_repeat
  have b_least_repeat := F_least_repeat.binds (ps := ["cloth"]) fun _ _ _ _ _ _ us hl => match us, hl with | [_], _ => rfl
  have F_shifted := fun_mk (st := s_shifted) l_shifted c_shifted k_shifted
  have b_shifted := F_shifted.binds (ps := ["cloth", "down", "across"]) fun _ _ _ _ _ _ us hl => match us, hl with | [_, _, _], _ => rfl
  have F_is_mirrored := fun_mk (st := s_is_mirrored) l_is_mirrored c_is_mirrored k_is_mirrored
  have b_is_mirrored := F_is_mirrored.binds (ps := ["rows", "middle"]) fun _ _ _ _ _ _ us hl => match us, hl with | [_, _], _ => rfl
  have F_point_lags := fun_mk (st := s_point_lags) l_point_lags c_point_lags k_point_lags
  have b_point_lags := F_point_lags.binds (ps := ["rows"]) fun _ _ _ _ _ _ us hl => match us, hl with | [_], _ => rfl
  have F_drum := fun_mk (st := s_drum) l_drum c_drum k_drum
  have b_drum := F_drum.binds (ps := ["cloth"]) fun _ _ _ _ _ _ us hl => match us, hl with | [_], _ => rfl
  have F__law_start := fun_mk (st := s__law_start) l__law_start c__law_start k__law_start
  have b__law_start := F__law_start.binds (ps := ["script"]) fun _ _ _ _ _ _ us hl => match us, hl with | [_], _ => rfl
  have F__law_draw := fun_mk (st := s__law_draw) l__law_draw c__law_draw k__law_draw
  have b__law_draw := F__law_draw.binds (ps := ["state", "span"]) fun _ _ _ _ _ _ us hl => match us, hl with | [_, _], _ => rfl
  have F__law_side := fun_mk (st := s__law_side) l__law_side c__law_side k__law_side
  have b__law_side := F__law_side.binds (ps := ["state", "most"]) fun _ _ _ _ _ _ us hl => match us, hl with | [_, _], _ => rfl
  have F__law_shuffled := fun_mk (st := s__law_shuffled) l__law_shuffled c__law_shuffled k__law_shuffled
  have b__law_shuffled := F__law_shuffled.binds (ps := ["state", "count"]) fun _ _ _ _ _ _ us hl => match us, hl with | [_, _], _ => rfl
  have F__law_same := fun_mk (st := s__law_same) l__law_same c__law_same k__law_same
  have b__law_same := F__law_same.binds (ps := ["actual", "due"]) fun _ _ _ _ _ _ us hl => match us, hl with | [_, _], _ => rfl
  have F__law_free_rows := fun_mk (st := s__law_free_rows) l__law_free_rows c__law_free_rows k__law_free_rows
  have b__law_free_rows := F__law_free_rows.binds (ps := ["state", "h", "w"]) fun _ _ _ _ _ _ us hl => match us, hl with | [_, _, _], _ => rfl
  have F__law_layer_sizes := fun_mk (st := s__law_layer_sizes) l__law_layer_sizes c__law_layer_sizes k__law_layer_sizes
  have b__law_layer_sizes := F__law_layer_sizes.binds (ps := ["state", "most"]) fun _ _ _ _ _ _ us hl => match us, hl with | [_, _], _ => rfl
  have F__law_ranks_in := fun_mk (st := s__law_ranks_in) l__law_ranks_in c__law_ranks_in k__law_ranks_in
  have b__law_ranks_in := F__law_ranks_in.binds (ps := ["owner"]) fun _ _ _ _ _ _ us hl => match us, hl with | [_], _ => rfl
  have F__law_layered_rows := fun_mk (st := s__law_layered_rows) l__law_layered_rows c__law_layered_rows k__law_layered_rows
  have b__law_layered_rows := F__law_layered_rows.binds (ps := ["state", "sizes"]) fun _ _ _ _ _ _ us hl => match us, hl with | [_, _], _ => rfl
  have F__law_exchange := fun_mk (st := s__law_exchange) l__law_exchange c__law_exchange k__law_exchange
  have b__law_exchange := F__law_exchange.binds (ps := ["cloth_rows", "i", "j"]) fun _ _ _ _ _ _ us hl => match us, hl with | [_, _, _], _ => rfl
  have F__law_some_rows := fun_mk (st := s__law_some_rows) l__law_some_rows c__law_some_rows k__law_some_rows
  have b__law_some_rows := F__law_some_rows.binds (ps := ["state", "most"]) fun _ _ _ _ _ _ us hl => match us, hl with | [_, _], _ => rfl
  have F__law_lag_rows := fun_mk (st := s__law_lag_rows) l__law_lag_rows c__law_lag_rows k__law_lag_rows
  have b__law_lag_rows := F__law_lag_rows.binds (ps := ["state"]) fun _ _ _ _ _ _ us hl => match us, hl with | [_], _ => rfl
  have F__law_laid_and_turned := fun_mk (st := s__law_laid_and_turned) l__law_laid_and_turned c__law_laid_and_turned k__law_laid_and_turned
  have b__law_laid_and_turned := F__law_laid_and_turned.binds (ps := ["state", "cloth_rows"]) fun _ _ _ _ _ _ us hl => match us, hl with | [_, _], _ => rfl
  have F__law_ring_lags := fun_mk (st := s__law_ring_lags) l__law_ring_lags c__law_ring_lags k__law_ring_lags
  have b__law_ring_lags := F__law_ring_lags.binds (ps := ["cloth_rows"]) fun _ _ _ _ _ _ us hl => match us, hl with | [_], _ => rfl
  have F__law_lag := fun_mk (st := s__law_lag) l__law_lag c__law_lag k__law_lag
  have b__law_lag := F__law_lag.binds (ps := ["n", "x"]) fun _ _ _ _ _ _ us hl => match us, hl with | [_, _], _ => rfl
  have F__law_shows := fun_mk (st := s__law_shows) l__law_shows c__law_shows k__law_shows
  have b__law_shows := F__law_shows.binds (ps := ["cloth_rows", "n", "first"]) fun _ _ _ _ _ _ us hl => match us, hl with | [_, _, _], _ => rfl
  have F__law_point_lags := fun_mk (st := s__law_point_lags) l__law_point_lags c__law_point_lags k__law_point_lags
  have b__law_point_lags := F__law_point_lags.binds (ps := ["cloth_rows", "ring"]) fun _ _ _ _ _ _ us hl => match us, hl with | [_, _], _ => rfl
  have F__law_drum_told := fun_mk (st := s__law_drum_told) l__law_drum_told c__law_drum_told k__law_drum_told
  have b__law_drum_told := F__law_drum_told.binds (ps := ["cloth_rows", "turn"]) fun _ _ _ _ _ _ us hl => match us, hl with | [_, _], _ => rfl
  have F_law := fun_mk (st := s_law) l_law c_law k_law
  have b_law := F_law.binds (ps := ["script"]) fun _ _ _ _ _ _ us hl => match us, hl with | [_], _ => rfl
  have isa_t : ∀ e ∈ isaT C_Cloth, PySem.W.kitOne K e.1.v e.2.1.v = some e.2.2 := by
    intro e m
    simp only [isaT, List.mem_cons, List.not_mem_nil, or_false] at m
    rcases m with rfl | rfl | rfl | rfl | rfl | rfl | rfl | rfl | rfl | rfl | rfl | rfl | rfl | rfl
    · exact VS.kit_co (by decide +kernel) is_0
    · exact VS.kit_co (by decide +kernel) is_1
    · exact VS.kit_co (by decide +kernel) is_2
    · exact VS.kit_co (by decide +kernel) is_3
    · exact VS.kit_co (by decide +kernel) is_4
    · exact VS.kit_co (by decide +kernel) is_5
    · exact VS.kit_bo icl_Cloth tyc_Cloth rfl
    · exact VS.kit_bo icl_Cloth tyc_Cloth rfl
    · exact VS.kit_bo icl_Cloth tyc_Cloth rfl
    · exact VS.kit_bo icl_Cloth tyc_Cloth rfl
    · exact VS.kit_bo icl_Cloth tyc_Cloth rfl
    · exact VS.kit_bo icl_Cloth tyc_Cloth rfl
    · exact VS.kit_bo icl_Cloth tyc_Cloth rfl
    · exact VS.kit_cc
  have isa_c : ∀ C ∈ [C_Cloth], InsTy K C := by
    intro C m
    simp only [List.mem_cons, List.not_mem_nil, or_false] at m
    rcases m with rfl
    · exact ⟨⟨pg_Cloth, hd_Cloth, po_Cloth, sa_Cloth⟩, in1_Cloth, in3, in4, in2_Cloth⟩
  have o : Ok { f_in_range := f_in_range, fd_in_range := _, f_rows_fit := f_rows_fit, fd_rows_fit := _, f_Cloth___init__ := f_Cloth___init__, fd_Cloth___init__ := _, f_Cloth___iter__ := f_Cloth___iter__, fd_Cloth___iter__ := _, f_column := f_column, fd_column := _, f_period := f_period, fd_period := _, f_least_repeat := f_least_repeat, fd_least_repeat := _, f_shifted := f_shifted, fd_shifted := _, f_is_mirrored := f_is_mirrored, fd_is_mirrored := _, f_point_lags := f_point_lags, fd_point_lags := _, f_drum := f_drum, fd_drum := _, f__law_start := f__law_start, fd__law_start := _, f__law_draw := f__law_draw, fd__law_draw := _, f__law_side := f__law_side, fd__law_side := _, f__law_shuffled := f__law_shuffled, fd__law_shuffled := _, f__law_same := f__law_same, fd__law_same := _, f__law_free_rows := f__law_free_rows, fd__law_free_rows := _, f__law_layer_sizes := f__law_layer_sizes, fd__law_layer_sizes := _, f__law_ranks_in := f__law_ranks_in, fd__law_ranks_in := _, f__law_layered_rows := f__law_layered_rows, fd__law_layered_rows := _, f__law_exchange := f__law_exchange, fd__law_exchange := _, f__law_some_rows := f__law_some_rows, fd__law_some_rows := _, f__law_lag_rows := f__law_lag_rows, fd__law_lag_rows := _, f__law_laid_and_turned := f__law_laid_and_turned, fd__law_laid_and_turned := _, f__law_ring_lags := f__law_ring_lags, fd__law_ring_lags := _, f__law_lag := f__law_lag, fd__law_lag := _, f__law_shows := f__law_shows, fd__law_shows := _, f__law_point_lags := f__law_point_lags, fd__law_point_lags := _, f__law_drum_told := f__law_drum_told, fd__law_drum_told := _, f_law := fa, fd_law := _, C_Cloth := C_Cloth } K mg := { F_rows_fit := F_rows_fit, b_rows_fit := b_rows_fit, g_rows_fit := PySem.W.mg_of X G g_rows_fit, c_SIGNS := ⟨_, PySem.W.mg_of X G c_SIGNS_, ⟨_, rfl⟩⟩, g_Cloth := PySem.W.mg_of X G g_Cloth, r_Cloth := ⟨rd_Cloth, ga_Cloth⟩, k_Cloth_MOST := ⟨_, ⟨k_Cloth_MOST_, ⟨_, rfl⟩⟩⟩, m_tuple := PySem.W.mg_none_of X G m_tuple, cl_Cloth := ⟨pg_Cloth, hd_Cloth, po_Cloth, sa_Cloth⟩, na_Cloth_rows := na_Cloth_rows, m_len := PySem.W.mg_none_of X G m_len, na_Cloth_picks := na_Cloth_picks, na_Cloth_ends := na_Cloth_ends, m_isinstance := PySem.W.mg_none_of X G m_isinstance, m_list := PySem.W.mg_none_of X G m_list, F_in_range := F_in_range, b_in_range := b_in_range, g_in_range := PySem.W.mg_of X G g_in_range, m_str := PySem.W.mg_none_of X G m_str, m_sum := PySem.W.mg_none_of X G m_sum, m_range := PySem.W.mg_none_of X G m_range, F_period := F_period, b_period := b_period, g_period := PySem.W.mg_of X G g_period, F_column := F_column, b_column := b_column, g_column := PySem.W.mg_of X G g_column, F_Cloth___init__ := F_Cloth___init__, b_Cloth___init__ := b_Cloth___init__, mk_Cloth := ⟨mk1_Cloth, mk2_Cloth, i_Cloth___init__, mk3_Cloth⟩, F_is_mirrored := F_is_mirrored, b_is_mirrored := b_is_mirrored, g_is_mirrored := PySem.W.mg_of X G g_is_mirrored, F_least_repeat := F_least_repeat, b_least_repeat := b_least_repeat, g_least_repeat := PySem.W.mg_of X G g_least_repeat, F_point_lags := F_point_lags, b_point_lags := b_point_lags, g_point_lags := PySem.W.mg_of X G g_point_lags, m_int := PySem.W.mg_none_of X G m_int, m_abs := PySem.W.mg_none_of X G m_abs, F__law_draw := F__law_draw, b__law_draw := b__law_draw, g__law_draw := PySem.W.mg_of X G g__law_draw, m_min := PySem.W.mg_none_of X G m_min, m_bool := PySem.W.mg_none_of X G m_bool, F__law_same := F__law_same, b__law_same := b__law_same, g__law_same := PySem.W.mg_of X G g__law_same, F__law_shuffled := F__law_shuffled, b__law_shuffled := b__law_shuffled, g__law_shuffled := PySem.W.mg_of X G g__law_shuffled, F__law_ranks_in := F__law_ranks_in, b__law_ranks_in := b__law_ranks_in, g__law_ranks_in := PySem.W.mg_of X G g__law_ranks_in, F__law_side := F__law_side, b__law_side := b__law_side, g__law_side := PySem.W.mg_of X G g__law_side, F__law_free_rows := F__law_free_rows, b__law_free_rows := b__law_free_rows, g__law_free_rows := PySem.W.mg_of X G g__law_free_rows, F__law_layered_rows := F__law_layered_rows, b__law_layered_rows := b__law_layered_rows, g__law_layered_rows := PySem.W.mg_of X G g__law_layered_rows, F__law_layer_sizes := F__law_layer_sizes, b__law_layer_sizes := b__law_layer_sizes, g__law_layer_sizes := PySem.W.mg_of X G g__law_layer_sizes, F__law_exchange := F__law_exchange, b__law_exchange := b__law_exchange, g__law_exchange := PySem.W.mg_of X G g__law_exchange, F__law_some_rows := F__law_some_rows, b__law_some_rows := b__law_some_rows, g__law_some_rows := PySem.W.mg_of X G g__law_some_rows, m_max := PySem.W.mg_none_of X G m_max, F__law_lag := F__law_lag, b__law_lag := b__law_lag, g__law_lag := PySem.W.mg_of X G g__law_lag, F__law_shows := F__law_shows, b__law_shows := b__law_shows, g__law_shows := PySem.W.mg_of X G g__law_shows, F__law_ring_lags := F__law_ring_lags, b__law_ring_lags := b__law_ring_lags, g__law_ring_lags := PySem.W.mg_of X G g__law_ring_lags, F__law_point_lags := F__law_point_lags, b__law_point_lags := b__law_point_lags, g__law_point_lags := PySem.W.mg_of X G g__law_point_lags, F_drum := F_drum, b_drum := b_drum, g_drum := PySem.W.mg_of X G g_drum, F_shifted := F_shifted, b_shifted := b_shifted, g_shifted := PySem.W.mg_of X G g_shifted, F_Cloth___iter__ := F_Cloth___iter__, b_Cloth___iter__ := b_Cloth___iter__, it_Cloth := ⟨it1_Cloth, i_Cloth___iter__, it2_Cloth, it3_Cloth⟩, F__law_start := F__law_start, b__law_start := b__law_start, g__law_start := PySem.W.mg_of X G g__law_start, F__law_lag_rows := F__law_lag_rows, b__law_lag_rows := b__law_lag_rows, g__law_lag_rows := PySem.W.mg_of X G g__law_lag_rows, F__law_drum_told := F__law_drum_told, b__law_drum_told := b__law_drum_told, g__law_drum_told := PySem.W.mg_of X G g__law_drum_told, F__law_laid_and_turned := F__law_laid_and_turned, b__law_laid_and_turned := b__law_laid_and_turned, g__law_laid_and_turned := PySem.W.mg_of X G g__law_laid_and_turned, F_law := F_law, b_law := b_law, m_iter := PySem.W.mg_none_of X G m_iter, isa_t := isa_t, isa_c := isa_c }
  exact ⟨C_Cloth, _, fun s v => .of_eq rfl, fun base _ _ => ok_law o⟩
end Wk34
namespace Wk34
open PySem PySem.Spec PyProof.Rows L2 VS
def stD (cs : List Int) (p r sd k : Int) : D := .nd (.lst true) [.nd (.lst true) (cs.map D.int), .v (.int p), .v (.int r), .v (.int sd), .v (.int k)]
structure StO (N : Nat) (p r sd k : Int) : Prop where
  p0 : 0 ≤ p
  k0 : 0 ≤ k
  kN : k ≤ N
  s0 : 0 ≤ sd
  s1 : sd < 2147483647
theorem draw_ok {N : Nat} (hN : N < 1000000000000) {cs : List Int} {p r sd k span : Int} (o : StO N p r sd k) (hs : 0 < span) (hs2 : span ≤ 10000000000) :
    ∃ d p' r' k', D__law_draw [stD cs p r sd k, .int span] = .ok (.int d, [stD cs p' r' sd k']) ∧ 0 ≤ d ∧ d < span ∧ StO (N + 1) p' r' sd k' := by
  have hlog : span.natAbs.log2 < 9000 := Nat.lt_trans (log2_lt (by omega)) (by decide)
  obtain ⟨p0, k0, kN, s0, s1⟩ := o
  have hL : lenD (.nd (.lst true) (cs.map D.int)) = some (.v (.int cs.length)) := len_ints
  have hO : D.hass NK.isOwn (cs.map D.int) = false := has_ints _ cs
  have hG : p < (cs.length : Int) → ∃ c0, (cs.map D.int)[p.toNat]? = some (.v (.int c0)) := fun h => ⟨_, by rw [List.getElem?_map, List.getElem?_eq_getElem (show p.toNat < cs.length by omega)]; rfl⟩
  unfold stD
  generalize (cs.length : Int) = m at *
  generalize cs.map D.int = L at *
  by_cases h1 : r > 1
  · refine ⟨r % span, p, r / span, k + 1, ?_, Int.emod_nonneg _ (by omega), Int.emod_lt_of_pos _ hs, ⟨p0, by omega, by omega, s0, s1⟩⟩
    simp [D__law_draw, b__law_draw, if__law_draw_1, if__law_draw_2, if__law_draw_3, ix_lst, ixN_pos, hO, h1, hs, hlog]
  · -- the mixing
    have mix : ∀ base : Int, 0 ≤ base → base < 10 ^ 18 → ∃ m1 m2 m3 : Int, m1 = (base * 48271 + (k + 1) * 69621 + 11) % 2147483647 ∧ m2 = (m1 * m1 + (k + 1) * 7919) % 2147483629 ∧ m3 = (m2 * m2 + 101) % 2147483587 ∧
        oMul (.v (.int base)) (.v (.int 48271)) = some (.v (.int (base * 48271))) ∧ oMul (.v (.int (k + 1))) (.v (.int 69621)) = some (.v (.int ((k + 1) * 69621))) ∧
        oMul (.v (.int m1)) (.v (.int m1)) = some (.v (.int (m1 * m1))) ∧ oMul (.v (.int (k + 1))) (.v (.int 7919)) = some (.v (.int ((k + 1) * 7919))) ∧ oMul (.v (.int m2)) (.v (.int m2)) = some (.v (.int (m2 * m2))) := fun base b0 b1 => by
      refine ⟨_, _, _, rfl, rfl, rfl, oMul_s (by omega) (by omega) (by omega) (by omega), oMul_s (by omega) (by omega) (by omega) (by omega), ?_, oMul_s (by omega) (by omega) (by omega) (by omega), ?_⟩
      · have := Int.emod_nonneg (base * 48271 + (k + 1) * 69621 + 11) (show (2147483647 : Int) ≠ 0 by decide)
        have := Int.emod_lt_of_pos (base * 48271 + (k + 1) * 69621 + 11) (show (0 : Int) < 2147483647 by decide)
        exact oMul_s (by omega) (by omega) (by omega) (by omega)
      · generalize ((base * 48271 + (k + 1) * 69621 + 11) % 2147483647 * ((base * 48271 + (k + 1) * 69621 + 11) % 2147483647) + (k + 1) * 7919) = z
        have := Int.emod_nonneg z (show (2147483629 : Int) ≠ 0 by decide)
        have := Int.emod_lt_of_pos z (show (0 : Int) < 2147483629 by decide)
        exact oMul_s (by omega) (by omega) (by omega) (by omega)
    by_cases h2 : p < m
    · obtain ⟨c0, e0⟩ := hG h2
      have a0 : 0 ≤ (if c0 < 0 then -c0 else c0) := by split <;> omega
      generalize hb : (if c0 < 0 then -c0 else c0) = b at *
      by_cases h3 : 1000000000000000000 ≤ b
      · refine ⟨b % span, p + 1, b / span, k + 1, ?_, Int.emod_nonneg _ (by omega), Int.emod_lt_of_pos _ hs, ⟨by omega, by omega, by omega, s0, s1⟩⟩
        simp [D__law_draw, b__law_draw, if__law_draw_1, if__law_draw_2, if__law_draw_3, ix_lst, ixN_pos, hO, hL, h1, h2, hs, hlog, p0, e0, hb, h3]
      · obtain ⟨m1, m2, m3, e1, e2, e3, f1, f2, f3, f4, f5⟩ := mix b a0 (by omega)
        refine ⟨m3 % span, p + 1, r, k + 1, ?_, Int.emod_nonneg _ (by omega), Int.emod_lt_of_pos _ hs, ⟨by omega, by omega, by omega, s0, s1⟩⟩
        simp [D__law_draw, b__law_draw, if__law_draw_1, if__law_draw_2, if__law_draw_3, ix_lst, ixN_pos, hO, hL, h1, h2, hs, hlog, p0, e0, hb, h3, f1, f2, ← e1, f3, f4, ← e2, f5, ← e3]
    · obtain ⟨m1, m2, m3, e1, e2, e3, f1, f2, f3, f4, f5⟩ := mix sd s0 (by omega)
      refine ⟨m3 % span, p, r, k + 1, ?_, Int.emod_nonneg _ (by omega), Int.emod_lt_of_pos _ hs, ⟨p0, by omega, by omega, s0, s1⟩⟩
      simp [D__law_draw, b__law_draw, if__law_draw_1, if__law_draw_2, if__law_draw_3, ix_lst, ixN_pos, hO, hL, h1, h2, hs, hlog, f1, f2, ← e1, f3, f4, ← e2, f5, ← e3]
/-- a state that draws, at most N times drawn -/
def St (N : Nat) (x : D) : Prop := ∃ cs p r sd k, x = stD cs p r sd k ∧ StO N p r sd k
theorem St.le {N M : Nat} {x : D} (h : St N x) (l : N ≤ M) : St M x := by
  obtain ⟨cs, p, r, sd, k, e, o⟩ := h
  exact ⟨cs, p, r, sd, k, e, ⟨o.p0, o.k0, by have := o.kN; omega, o.s0, o.s1⟩⟩
theorem stD_shr {cs : List Int} {p r sd k : Int} : (stD cs p r sd k).has NK.isShr = false := by
  unfold stD; simp [has_ints]
theorem St.shr {N : Nat} {x : D} (h : St N x) : x.has NK.isShr = false := by
  obtain ⟨cs, p, r, sd, k, rfl, o⟩ := h; exact stD_shr
theorem St.isUn {N : Nat} {x : D} (h : St N x) : x.isUn = false := by
  obtain ⟨cs, p, r, sd, k, rfl, o⟩ := h; rfl
abbrev BIG : Nat := 1000000000000
theorem draw {N : Nat} (hN : N < BIG) {x : D} (h : St N x) {span : Int} (hs : 0 < span) (hs2 : span ≤ 10000000000) :
    ∃ d x', D__law_draw [x, .v (.int span)] = .ok (.v (.int d), [x']) ∧ 0 ≤ d ∧ d < span ∧ St (N + 1) x' := by
  obtain ⟨cs, p, r, sd, k, rfl, o⟩ := h
  obtain ⟨d, p', r', k', e, d0, d1, o'⟩ := draw_ok hN o hs hs2
  exact ⟨d, _, e, d0, d1, ⟨_, _, _, _, _, rfl, o'⟩⟩
/-- what a call of a def with a state and a number gives, where the state stands in slot 0 -/
theorem call_st {F : FD} {N : Nat} {x x' : D} {v : V} {s : List D} {m : Md} {mr : List Nat} {de : E} {i : Int} (hx : St N x) (he : de (x :: s) = .ok (.v (.int i), x :: s)) (h : F [x, .v (.int i)] = .ok (.v v, [x'])) (hx' : x'.has NK.isShr = false) :
    dCall F [.io 0, .val m] (dCslot 0 (dCval m mr de dCnil)) (x :: s) = .ok (.v v, x' :: s) := by
  have hu := hx.isUn
  unfold dCall dCslot dCval dCnil
  have e0 : dn 0 (x :: s) = .ok (x, x :: s) := dn_eq rfl (fun z => by rw [z] at hu; cases hu)
  cases x with
  | un => cases hu
  | v y => simp [e0, he, h, hx']
  | nd k xs => simp [e0, he, h, hx']
/-- a call whose first argument is the state in slot 0, the others values -/
theorem call0 {F : FD} {ks : List AK} {dr : EC} {x x1 x2 r : D} {s s1 : List D} {os : List (Option D)} {as : List D} (hx : x.isUn = false) (hr : dr (x :: s) = .ok (os, x1 :: s1)) (hx1 : x1.isUn = false) (ha : asmD ks os (x1 :: s1) = some as) (hv : valOk [0] ks os = true) (hu : (as.all fun y => !y.isUn) = true)
    (hk : ixs ks = []) (hp : ∀ os' s', putD' ks os' s' = s') (hF : F (x1 :: as) = .ok (r, [x2])) (hz : r.has NK.isShr = false) (hz2 : x2.has NK.isShr = false) : dCall F (.io 0 :: ks) (dCslot 0 dr) (x :: s) = .ok (r, x2 :: s1) := by
  have e0 : dn 0 (x :: s) = .ok (x, x :: s) := dn_eq rfl (fun z => by rw [z] at hx; cases hx)
  unfold dCall dCslot
  rw [e0]
  simp only [R.bind, hr]
  have ea : asmD (.io 0 :: ks) (none :: os) (x1 :: s1) = some (x1 :: as) := by
    rw [asmD]
    cases x1 with
    | un => cases hx1
    | v y => simp [ha]
    | nd k xs => simp [ha]
  rw [ea]
  simp only [ixs, hk, valOk, hv, List.all_cons, hx1, hu, Bool.not_false, Bool.and_self, if_true, hF]
  have : (valFree (.io 0 :: ks) (none :: os) || (!r.hasShr && !D.hass NK.isShr [x2])) = true := by
    show (_ || (!r.has NK.isShr && !(x2.has NK.isShr || false))) = true
    rw [hz, hz2]; simp
  rw [if_pos this]
  simp [putD, ixs, hk, putD', hp]
theorem side {N : Nat} (hN : N + 2 < BIG) {x : D} (h : St N x) {most : Int} (hm : 1 ≤ most) (hm2 : most ≤ 1000) :
    ∃ d x', D__law_side [x, .v (.int most)] = .ok (.v (.int d), [x']) ∧ 1 ≤ d ∧ d ≤ most ∧ St (N + 2) x' := by
  obtain ⟨k, x1, e1, k0, k1, h1⟩ := draw (by omega) h (span := 16) (by decide) (by decide)
  have c1 : dCall D__law_draw [.io 0, .val .tmp] (dCslot 0 (dCval .tmp [] (dc (.int 16)) dCnil)) [x, .v (.int most), .un] = .ok (.v (.int k), [x1, .v (.int most), .un]) := call_st h rfl e1 h1.shr
  by_cases hk : k = 0
  · subst hk
    obtain ⟨d, x2, e2, d0, d1, h2⟩ := draw (by omega) h1 (span := most) (by omega) (by omega)
    have c2 : dCall D__law_draw [.io 0, .val (.vw [1])] (dCslot 0 (dCval (.vw [1]) [] (dn 1) dCnil)) [x1, .v (.int most), .v (.int 0)] = .ok (.v (.int d), [x2, .v (.int most), .v (.int 0)]) := call_st h1 rfl e2 h2.shr
    refine ⟨1 + d, x2, ?_, by omega, by omega, h2⟩
    simp [D__law_side, b__law_side, if__law_side_1, if__law_side_2, -u_dCall_1, -u_dCslot_1, -u_dCval_1, c1, c2]
  · have go : ∀ z : Int, 1 ≤ z → ∃ d x', D__law_draw [x1, .v (.int (minI most z))] = .ok (.v (.int d), [x']) ∧ 1 ≤ 1 + d ∧ 1 + d ≤ most ∧ St (N + 2) x' := fun z hz => by
      have hmn : 1 ≤ minI most z ∧ minI most z ≤ most := by
        show 1 ≤ (if z < most then z else most) ∧ (if z < most then z else most) ≤ most
        split <;> omega
      obtain ⟨d, x2, e2, d0, d1, h2⟩ := draw (by omega) h1 (span := minI most z) (by omega) (by omega)
      exact ⟨d, x2, e2, by omega, by omega, h2⟩
    by_cases hk4 : k < 4
    · obtain ⟨d, x2, e2, d0, d1, h2⟩ := go 12 (by decide)
      have c2 : dCall D__law_draw [.io 0, .val .tmp] (dCslot 0 (dCval .tmp [] (dOp (i2D minI) (dAcons (.vw [1]) [] (dn 1) (dAcons .tmp [] (dc (.int 12)) dAnil))) dCnil)) [x1, .v (.int most), .v (.int k)] = .ok (.v (.int d), [x2, .v (.int most), .v (.int k)]) := call_st h1 rfl e2 h2.shr
      refine ⟨1 + d, x2, ?_, by omega, by omega, h2⟩
      simp [D__law_side, b__law_side, if__law_side_1, if__law_side_2, -u_dCall_1, -u_dCslot_1, -u_dCval_1, c1, c2, hk, hk4]
    · obtain ⟨d, x2, e2, d0, d1, h2⟩ := go 5 (by decide)
      have c2 : dCall D__law_draw [.io 0, .val .tmp] (dCslot 0 (dCval .tmp [] (dOp (i2D minI) (dAcons (.vw [1]) [] (dn 1) (dAcons .tmp [] (dc (.int 5)) dAnil))) dCnil)) [x1, .v (.int most), .v (.int k)] = .ok (.v (.int d), [x2, .v (.int most), .v (.int k)]) := call_st h1 rfl e2 h2.shr
      refine ⟨1 + d, x2, ?_, by omega, by omega, h2⟩
      simp [D__law_side, b__law_side, if__law_side_1, if__law_side_2, -u_dCall_1, -u_dCslot_1, -u_dCval_1, c1, c2, hk, hk4]
end Wk34
namespace Wk34
open PySem PySem.Spec PyProof.Rows L2 VS
/-- w drawn signs -/
theorem row_lc {N : Nat} {x h told i j : D} {w : Int} (hw : 0 ≤ w) (hw2 : w ≤ 1000) (hN : N + w.toNat < BIG) (hx : St N x) :
    ∃ (zs : List Str) (x' : D), co__law_free_rows_1 [x, h, .v (.int w), told, i, j] = .ok (.nd (.lst true) (zs.map D.str), [x', h, .v (.int w), told, i, .un]) ∧ (∀ z ∈ zs, z.length = 1) ∧ (∀ z ∈ zs, Bits z) ∧ (zs.length : Int) = w ∧ St (N + w.toNat) x' := by
  have inv := lcL_inv (vs := [5]) (g := gdN 5) (c := bYes) (m := .tmp) (e := ce__law_free_rows_1)
    (fun xs s acc => ∃ (x' : D) (zs : List Str), s = [x', h, .v (.int w), told, i, .un] ∧ acc = zs.map D.str ∧ (∀ z ∈ zs, z.length = 1) ∧ (∀ z ∈ zs, Bits z) ∧ zs.length + xs.length = w.toNat ∧ St (N + zs.length) x') ?_
    (rangeD w.toNat) [x, h, .v (.int w), told, i, .un] [] ⟨x, [], rfl, rfl, fun _ m => (nomatch m), fun _ m => (nomatch m), by rw [rangeD_len]; simp, hx⟩
  · obtain ⟨z, e, x', zs, e1, e2, e3, e4, e5, e6⟩ := inv
    rw [List.nil_append] at e2
    refine ⟨zs, x', ?_, e3, e4, by simp at e5; omega, by simp at e5; rw [e5] at e6; exact e6⟩
    unfold co__law_free_rows_1
    rw [lc_rg (rg1_ok (s' := [x, h, .v (.int w), told, i, j]) (w := w) (by simp) (by omega) (by omega)) (by omega)]
    show R.bind (lcL [5] _ _ _ _ _ [x, h, .v (.int w), told, i, .un]) _ = _
    rw [e]
    simp [e1, e2]
  · rintro y r s acc ⟨x', zs, rfl, rfl, h1, h2, h3, h4⟩
    rw [List.length_cons] at h3
    obtain ⟨d, x2, ed, d0, d1, hx2⟩ := draw (by omega) h4 (span := 2) (by decide) (by decide)
    have c1 : dCall D__law_draw [.io 0, .val .tmp] (dCslot 0 (dCval .tmp [] (dc (.int 2)) dCnil)) [x', h, .v (.int w), told, i, y] = .ok (.v (.int d), [x2, h, .v (.int w), told, i, y]) := call_st h4 rfl ed hx2.shr
    refine ⟨_, rfl, .inl ⟨_, rfl, (.v (.str (bit (decide (d = 1)))), [x2, h, .v (.int w), told, i, y]), ?_, rfl, x2, zs ++ [bit (decide (d = 1))], rfl, by simp, fun z m => ?_, fun z m => ?_, by simp; omega, ?_⟩⟩
    · simp [ce__law_free_rows_1, -u_dCall_1, -u_dCslot_1, -u_dCval_1, c1, ix01 d0 d1]
    · rcases List.mem_append.mp m with m | m
      · exact h1 z m
      · rw [List.mem_singleton.mp m]; exact bit_len _
    · rcases List.mem_append.mp m with m | m
      · exact h2 z m
      · rw [List.mem_singleton.mp m]; exact bit_bits _
    · rw [List.length_append]; exact hx2
theorem free_rows {N : Nat} {x : D} {h w : Int} (h0 : 0 ≤ h) (h1 : h ≤ 1000) (w0 : 0 ≤ w) (w1 : w ≤ 1000) (hN : N + 1000000 < BIG) (hx : St N x) :
    ∃ (rows : List Str) (x' : D), D__law_free_rows [x, .v (.int h), .v (.int w)] = .ok (.nd (.lst true) (rows.map D.str), [x']) ∧ (rows.length : Int) = h ∧ (∀ z ∈ rows, (z.length : Int) = w ∧ Bits z) ∧ St (N + 1000000) x' := by
  have inv := forL_inv (g := gdN 4) (body := fb__law_free_rows_1)
    (fun xs s => ∃ (x' : D) (rows : List Str) (i j : D), s = [x', .v (.int h), .v (.int w), .nd (.lst true) (rows.map D.str), i, j] ∧ (∀ z ∈ rows, (z.length : Int) = w ∧ Bits z) ∧ rows.length + xs.length = h.toNat ∧ St (N + rows.length * w.toNat) x') ?_
    (rangeD h.toNat) [x, .v (.int h), .v (.int w), .nd (.lst true) [], .un, .un] ⟨x, [], .un, .un, rfl, fun _ m => (nomatch m), by rw [rangeD_len]; simp, by simpa using hx⟩
  · obtain ⟨s', e, x', rows, i, j, rfl, e2, e3, e4⟩ := inv
    simp at e3
    refine ⟨rows, x', ?_, by omega, e2, e4.le ?_⟩
    · have ef : fo__law_free_rows_1 [x, .v (.int h), .v (.int w), .nd (.lst true) [], .un, .un] = .nx [x', .v (.int h), .v (.int w), .nd (.lst true) (rows.map D.str), i, j] := by
        unfold fo__law_free_rows_1
        rw [for_rg (rg1_ok (s' := [x, .v (.int h), .v (.int w), .nd (.lst true) [], .un, .un]) (w := h) (by simp) (by omega) (by omega)), e]
      simp [D__law_free_rows, b__law_free_rows, ef]
    · rw [e3]
      have : h.toNat * w.toNat ≤ 1000 * 1000 := Nat.mul_le_mul (by omega) (by omega)
      omega
  · rintro y r s ⟨x', rows, i, j, rfl, h2, h3, h4⟩
    rw [List.length_cons] at h3
    have hb : rows.length * w.toNat + w.toNat ≤ 1000000 := by
      have : (rows.length + 1) * w.toNat ≤ 1000 * 1000 := Nat.mul_le_mul (by omega) (by omega)
      rw [Nat.add_mul] at this; omega
    obtain ⟨zs, x2, e1, e2, e3, e4, e5⟩ := row_lc (h := .v (.int h)) (told := .nd (.lst true) (rows.map D.str)) (i := y) (j := j) w0 w1 (by omega) h4
    have hl : zs.length ≤ 1000 := by omega
    have hr : rows.length < sizeLine := by rw [sizeLine_eq]; omega
    obtain ⟨j1, j2⟩ := join_ok1 e2 e3
    refine ⟨_, [x2, .v (.int h), .v (.int w), .nd (.lst true) ((rows ++ [Txt.join "" zs]).map D.str), y, .un], rfl, .inl ?_, x2, rows ++ [Txt.join "" zs], y, .un, rfl, fun z m => ?_, by simp; omega, ?_⟩
    · simp [fb__law_free_rows_1, dMeth, mAppend, D.isStr, e1, join_d e2 hl, hr]
    · rcases List.mem_append.mp m with m | m
      · exact h2 z m
      · rw [List.mem_singleton.mp m]; exact ⟨by omega, j2⟩
    · rw [List.length_append, List.length_singleton, Nat.add_mul, Nat.one_mul, ← Nat.add_assoc]; exact e5
end Wk34
namespace Wk34
open PySem PySem.Spec PyProof.Rows L2 VS
theorem lrD1_ok {n : Int} (h0 : 0 ≤ n) (h1 : n ≤ 1000000) : lrD1 (.v (.int n)) = some (.nd (.lst true) (rangeD n.toNat)) := by
  have h : rgOk 0 n = true := by unfold rgOk; simp; omega
  unfold lrD1
  simp only [h, if_true]
  unfold rgL rangeD
  simp
def Ix (n : Nat) (xs : List D) : Prop := xs.length = n ∧ ∀ y ∈ xs, ∃ k : Int, y = .v (.int k) ∧ 0 ≤ k ∧ k < n
theorem Ix.get {n : Nat} {xs : List D} (h : Ix n xs) {i : Nat} (hi : i < n) : ∃ k : Int, xs[i]? = some (.v (.int k)) ∧ 0 ≤ k ∧ k < n := by
  have hl : i < xs.length := by rw [h.1]; exact hi
  obtain ⟨k, e, k0, k1⟩ := h.2 xs[i] (List.getElem_mem hl)
  exact ⟨k, by rw [List.getElem?_eq_getElem hl, e], k0, k1⟩
theorem Ix.set {n : Nat} {xs : List D} (h : Ix n xs) {i : Nat} {k : Int} (k0 : 0 ≤ k) (k1 : k < n) : Ix n (xs.set i (.v (.int k))) := by
  refine ⟨by rw [List.length_set]; exact h.1, fun y m => ?_⟩
  rcases List.mem_or_eq_of_mem_set m with m | rfl
  · exact h.2 y m
  · exact ⟨k, rfl, k0, k1⟩
theorem Ix.has {n : Nat} {xs : List D} (h : Ix n xs) (q : NK → Bool) : D.hass q xs = false := by
  rw [D.hass_any]
  refine List.any_eq_false.mpr fun y m => ?_
  obtain ⟨k, rfl, _⟩ := h.2 y m
  simp
theorem Ix.range (n : Nat) : Ix n (rangeD n) := by
  refine ⟨rangeD_len n, fun y m => ?_⟩
  obtain ⟨k, mk, rfl⟩ := List.mem_map.mp m
  exact ⟨k, rfl, by omega, by have := List.mem_range.mp mk; omega⟩
theorem shuffled {N : Nat} {x : D} {n : Int} (n0 : 0 ≤ n) (n1 : n ≤ 100000) (hN : N + n.toNat < BIG) (hx : St N x) :
    ∃ (xs : List D) (x' : D), D__law_shuffled [x, .v (.int n)] = .ok (.nd (.lst true) xs, [x']) ∧ Ix n.toNat xs ∧ St (N + n.toNat) x' := by
  have inv := forL_inv (g := gdN 3) (body := fb__law_shuffled_1)
    (fun ys s => ∃ (x' : D) (xs : List D) (a b c : D) (k : Nat), s = [x', .v (.int n), .nd (.lst true) xs, a, b, c] ∧ Ix n.toNat xs ∧ k + ys.length = n.toNat ∧ St (N + k) x' ∧ ys = (rangeD n.toNat).drop k) ?_
    (rangeD n.toNat) [x, .v (.int n), .nd (.lst true) (rangeD n.toNat), .un, .un, .un] ⟨x, _, .un, .un, .un, 0, rfl, Ix.range _, by rw [rangeD_len]; simp, hx, rfl⟩
  · obtain ⟨s', e, x', xs, a, b, c, k, rfl, e2, e3, e4, _⟩ := inv
    simp at e3
    subst e3
    refine ⟨xs, x', ?_, e2, e4⟩
    have ef : fo__law_shuffled_1 [x, .v (.int n), .nd (.lst true) (rangeD n.toNat), .un, .un, .un] = .nx [x', .v (.int n), .nd (.lst true) xs, a, b, c] := by
      unfold fo__law_shuffled_1
      rw [for_rg (rg1_ok (s' := [x, .v (.int n), .nd (.lst true) (rangeD n.toNat), .un, .un, .un]) (w := n) (by simp) (by omega) (by omega)), e]
    simp [D__law_shuffled, b__law_shuffled, lrD1_ok n0 (show n ≤ 1000000 by omega), ef]
  · rintro y r s ⟨x', xs, a, b, c, k, rfl, h2, h3, h4, h5⟩
    rw [List.length_cons] at h3
    have hk : k < n.toNat := by omega
    have hy : y = .v (.int k) ∧ r = (rangeD n.toNat).drop (k + 1) := by
      have hl : k < (rangeD n.toNat).length := by rw [rangeD_len]; exact hk
      rw [List.drop_eq_getElem_cons hl] at h5
      injection h5 with q1 q2
      exact ⟨by rw [q1]; simp [rangeD], q2⟩
    obtain ⟨rfl, rfl⟩ := hy
    obtain ⟨d, x2, ed, d0, d1, hx2⟩ := draw (by omega) h4 (span := n - k) (by omega) (by omega)
    have c1 : dCall D__law_draw [.io 0, .val .tmp] (dCslot 0 (dCval .tmp [] (dTwo (.vw [1]) [] oSub (dn 1) (dn 3)) dCnil)) [x', .v (.int n), .nd (.lst true) xs, .v (.int k), b, c] = .ok (.v (.int d), [x2, .v (.int n), .nd (.lst true) xs, .v (.int k), b, c]) := call_st h4 (by simp) ed hx2.shr
    obtain ⟨v1, g1, v10, v11⟩ := h2.get hk
    obtain ⟨v2, g2, v20, v21⟩ := h2.get (show (k + d).toNat < n.toNat by omega)
    have hset := (h2.set (i := k) v20 v21)
    have hset2 := hset.set (i := (k + d).toNat) v10 v11
    have b1 : (0 : Int) ≤ k := by omega
    have b2 : (k : Int) < xs.length := by rw [h2.1]; omega
    have b3 : (0 : Int) ≤ k + d := by omega
    have b4 : (k : Int) + d < (xs.set k (.v (.int v2))).length := by rw [hset.1]; omega
    refine ⟨_, [x2, .v (.int n), .nd (.lst true) ((xs.set k (.v (.int v2))).set (k + d).toNat (.v (.int v1))), .v (.int k), .v (.int (k + d)), .v (.int v1)], rfl, .inl ?_, x2, _, _, _, _, k + 1, rfl, hset2, by omega, hx2, rfl⟩
    have kt : (k : Int).toNat = k := by omega
    simp [fb__law_shuffled_1, -u_dCall_1, -u_dCslot_1, -u_dCval_1, c1, ix_lst b1, ix_lst b3, g1, g2, ixN_pos b1 b2, ixN_pos b3 b4, kt, (Ix.has h2), -List.length_set]
end Wk34
namespace Wk34
open PySem PySem.Spec PyProof.Rows L2 VS
theorem drawc {N : Nat} (hN : N < BIG) {x : D} (h : St N x) {n : Int} (h0 : 0 < n) (h1 : n ≤ 10000000000) :
    ∃ d x2, (∀ s, dCall D__law_draw [.io 0, .val .tmp] (dCslot 0 (dCval .tmp [] (dc (.int n)) dCnil)) (x :: s) = .ok (.v (.int d), x2 :: s)) ∧ 0 ≤ d ∧ d < n ∧ St (N + 1) x2 := by
  obtain ⟨d, x2, e, d0, d1, h2⟩ := draw hN h h0 h1
  exact ⟨d, x2, fun s => call_st h rfl e h2.shr, d0, d1, h2⟩
def trip (t : Int × Int × Int) : D := .nd (.lst true) [.v (.int t.1), .v (.int t.2.1), .v (.int t.2.2)]
def sumE : List (Int × Int × Int) → Int
  | [] => 0
  | t :: r => t.2.1 + sumE r
def sumP : List (Int × Int × Int) → Int
  | [] => 0
  | t :: r => t.2.2 + sumP r
theorem sumE_app : ∀ a b, sumE (a ++ b) = sumE a + sumE b
  | [], b => by simp [sumE]
  | t :: r, b => by rw [List.cons_append, sumE, sumE_app r b, sumE]; omega
theorem sumP_app : ∀ a b, sumP (a ++ b) = sumP a + sumP b
  | [], b => by simp [sumP]
  | t :: r, b => by rw [List.cons_append, sumP, sumP_app r b, sumP]; omega
theorem ix_last {o : Bool} {xs : List D} (h : xs ≠ []) : ixD (.nd (.lst o) xs) (.v (.int (-1))) = xs[xs.length - 1]? := by
  have hl : 0 < xs.length := List.length_pos_iff.mpr h
  unfold ixD
  simp only [D.kids]
  unfold ixN
  rw [if_neg (by decide), if_pos (by omega)]
  show xs[(-1 + (xs.length : Int)).toNat]? = _
  congr 1
  omega
structure Sz (most : Int) (S : List (Int × Int × Int)) : Prop where
  nn : ∀ t ∈ S, 0 ≤ t.2.1 ∧ t.2.1 ≤ 14 ∧ 0 ≤ t.2.2 ∧ t.2.2 ≤ 14
  e0 : 0 ≤ sumE S
  p0 : 0 ≤ sumP S
  em : sumE S ≤ most
  pm : sumP S ≤ most
theorem if1_ok {x m e p k a b : D} {S : List (Int × Int × Int)} {kind : Int} (h0 : 0 ≤ kind) (h1 : kind < 3) : ∃ kind' : Int, 0 ≤ kind' ∧ kind' < 3 ∧
    if__law_layer_sizes_1 [x, m, .nd (.lst true) (S.map trip), e, p, k, .v (.int kind), a, b] = .nx [x, m, .nd (.lst true) (S.map trip), e, p, k, .v (.int kind'), a, b] := by
  by_cases hS : S = []
  · subst hS
    exact ⟨kind, h0, h1, by simp [if__law_layer_sizes_1, lenD]⟩
  · have hm : S.map trip ≠ [] := by simpa using hS
    have hl : 0 < S.length := List.length_pos_iff.mpr hS
    obtain ⟨t, ht⟩ : ∃ t, S[S.length - 1]? = some t := ⟨_, List.getElem?_eq_getElem (by omega)⟩
    have e1 : ixD (.nd (.lst true) (S.map trip)) (.v (.int (-1))) = some (trip t) := by rw [ix_last hm, List.length_map, List.getElem?_map, ht]; rfl
    have e2 : ixD (trip t) (.v (.int 0)) = some (.v (.int t.1)) := by unfold trip; rw [ix_lst (by decide)]; rfl
    have e3 : lenD (.nd (.lst true) (S.map trip)) = some (.int S.length) := by simp [lenD]
    have e4 : oNeg (.v (.int 1)) = some (.v (.int (-1))) := rfl
    have e5 : (0 : Int) < S.length := by omega
    by_cases hk : t.1 = kind
    · exact ⟨0, by decide, by decide, by simp [if__law_layer_sizes_1, e1, e2, e3, e4, hl, hk]⟩
    · exact ⟨kind, h0, h1, by simp [if__law_layer_sizes_1, e1, e2, e3, e4, hl, hk]⟩
theorem trips_has : ∀ S : List (Int × Int × Int), D.hass NK.isShr (S.map trip) = false
  | [] => rfl
  | t :: r => by rw [List.map_cons, D.hass, trips_has r]; rfl
theorem if2_ok {x k kd : D} {most : Int} {S : List (Int × Int × Int)} {kind e p : Int} (hS : Sz most S) (hl : S.length ≤ 1000) (he : 0 ≤ e ∧ e ≤ 3) (hp : 0 ≤ p ∧ p ≤ 3) : ∃ S', Sz most S' ∧ S'.length ≤ S.length + 1 ∧
    if__law_layer_sizes_2 [x, .v (.int most), .nd (.lst true) (S.map trip), .v (.int (sumE S)), .v (.int (sumP S)), k, .v (.int kind), .v (.int e), .v (.int p)] = .nx [x, .v (.int most), .nd (.lst true) (S'.map trip), .v (.int (sumE S')), .v (.int (sumP S')), k, .v (.int kind), .v (.int e), .v (.int p)] := by
  have hz : S.length < sizeLine := by rw [sizeLine_eq]; omega
  have h3 : 3 ≤ sizeLine := by rw [sizeLine_eq]; decide
  by_cases h1 : sumE S + e ≤ most
  · by_cases h2 : sumP S + p ≤ most
    · refine ⟨S ++ [(kind, e, p)], ⟨fun t m => ?_, by rw [sumE_app]; simp only [sumE]; have := hS.e0; omega, by rw [sumP_app]; simp only [sumP]; have := hS.p0; omega, by rw [sumE_app]; simp only [sumE]; omega, by rw [sumP_app]; simp only [sumP]; omega⟩, by simp, ?_⟩
      · rcases List.mem_append.mp m with m | m
        · exact hS.nn t m
        · rw [List.mem_singleton.mp m]; exact ⟨he.1, Int.le_trans he.2 (by decide), hp.1, Int.le_trans hp.2 (by decide)⟩
      · simp [if__law_layer_sizes_2, h1, h2, hz, h3, sumE_app, sumP_app, sumE, sumP, trip]
    · exact ⟨S, hS, by omega, by simp [if__law_layer_sizes_2, h1, h2]⟩
  · exact ⟨S, hS, by omega, by simp [if__law_layer_sizes_2, h1]⟩
/-- a display of three numbers, taken at a place -/
theorem pick3 {a b c k : Int} (h0 : 0 ≤ k) (h1 : k < 3) : ∃ d, ixD (.nd (.lst true) [.v (.int a), .v (.int b), .v (.int c)]) (.v (.int k)) = some (.v (.int d)) ∧ (d = a ∨ d = b ∨ d = c) := by
  rw [ix_lst h0]
  have : k = 0 ∨ k = 1 ∨ k = 2 := by omega
  rcases this with rfl | rfl | rfl
  · exact ⟨a, rfl, .inl rfl⟩
  · exact ⟨b, rfl, .inr (.inl rfl)⟩
  · exact ⟨c, rfl, .inr (.inr rfl)⟩
theorem layer_sizes {N : Nat} (hN : N + 100 < BIG) {x : D} (hx : St N x) {most : Int} (m0 : 1 ≤ most) (m1 : most ≤ 14) :
    ∃ (S : List (Int × Int × Int)) (x' : D), D__law_layer_sizes [x, .v (.int most)] = .ok (.nd (.lst true) (S.map trip), [x']) ∧ (∀ t ∈ S, 0 ≤ t.2.1 ∧ t.2.1 ≤ 14 ∧ 0 ≤ t.2.2 ∧ t.2.2 ≤ 14) ∧ 1 ≤ sumE S ∧ sumE S ≤ 14 ∧ 1 ≤ sumP S ∧ sumP S ≤ 14 ∧ S.length ≤ 10 ∧ St (N + 100) x' := by
  obtain ⟨c0, x0, cc0, c00, c01, hx0⟩ := drawc (by omega) hx (n := 4) (by decide) (by decide)
  have inv := forL_inv (g := gdN 5) (body := fb__law_layer_sizes_1)
    (fun ys s => ∃ (x' : D) (S : List (Int × Int × Int)) (a b c d : D), s = [x', .v (.int most), .nd (.lst true) (S.map trip), .v (.int (sumE S)), .v (.int (sumP S)), a, b, c, d] ∧ Sz most S ∧ S.length + ys.length ≤ 4 ∧ ∃ j, j + ys.length ≤ 4 ∧ St (N + 1 + 5 * j) x') ?_
    (rangeD (1 + c0).toNat) [x0, .v (.int most), .nd (.lst true) [], .v (.int 0), .v (.int 0), .un, .un, .un, .un] ⟨x0, [], .un, .un, .un, .un, rfl, ⟨fun _ m => (nomatch m), by decide, by decide, by simp [sumE]; omega, by simp [sumP]; omega⟩, by rw [rangeD_len]; simp; omega, 0, by rw [rangeD_len]; omega, by simpa using hx0⟩
  · obtain ⟨s', e, x', S, a, b, c, d, rfl, hS, hl, j, hj, hx'⟩ := inv
    simp at hl hj
    have ef : fo__law_layer_sizes_1 [x, .v (.int most), .nd (.lst true) [], .v (.int 0), .v (.int 0), .un, .un, .un, .un] = .nx [x', .v (.int most), .nd (.lst true) (S.map trip), .v (.int (sumE S)), .v (.int (sumP S)), a, b, c, d] := by
      unfold fo__law_layer_sizes_1
      rw [for_rg (rg1_ok (s' := [x0, .v (.int most), .nd (.lst true) [], .v (.int 0), .v (.int 0), .un, .un, .un, .un]) (w := 1 + c0) (by simp [-u_dCall_1, -u_dCslot_1, -u_dCval_1, cc0]) (by omega) (by omega)), e]
    have hz : S.length < sizeLine := by rw [sizeLine_eq]; omega
    have hz1 : S.length + 1 < sizeLine := by rw [sizeLine_eq]; omega
    have h3 : 3 ≤ sizeLine := by rw [sizeLine_eq]; decide
    have hS2 : ∃ S2, (∀ t ∈ S2, 0 ≤ t.2.1 ∧ t.2.1 ≤ 14 ∧ 0 ≤ t.2.2 ∧ t.2.2 ≤ 14) ∧ 1 ≤ sumE S2 ∧ sumE S2 ≤ 14 ∧ sumP S2 = sumP S ∧ S2.length ≤ S.length + 1 ∧ ∀ e, if__law_layer_sizes_3 [x', .v (.int most), .nd (.lst true) (S.map trip), .v (.int (sumE S)), .v (.int (sumP S)), a, b, c, e] = .nx [x', .v (.int most), .nd (.lst true) (S2.map trip), .v (.int (sumE S)), .v (.int (sumP S)), a, b, c, e] := by
      by_cases h : sumE S = 0
      · refine ⟨S ++ [(1, 1, 0)], fun t m => ?_, by rw [sumE_app]; simp [sumE]; omega, by rw [sumE_app]; simp [sumE]; omega, by rw [sumP_app]; simp [sumP], by simp, fun e => by simp [if__law_layer_sizes_3, h, hz, h3, trip]⟩
        rcases List.mem_append.mp m with m | m
        · exact hS.nn t m
        · rw [List.mem_singleton.mp m]; decide
      · have := hS.e0; have := hS.em
        exact ⟨S, hS.nn, by omega, by omega, rfl, by omega, fun e => by simp [if__law_layer_sizes_3, h]⟩
    obtain ⟨S2, n2, a2, b2, p2, l2, f2⟩ := hS2
    have hz2 : S2.length < sizeLine := by rw [sizeLine_eq]; omega
    have hS3 : ∃ S3, (∀ t ∈ S3, 0 ≤ t.2.1 ∧ t.2.1 ≤ 14 ∧ 0 ≤ t.2.2 ∧ t.2.2 ≤ 14) ∧ 1 ≤ sumE S3 ∧ sumE S3 ≤ 14 ∧ 1 ≤ sumP S3 ∧ sumP S3 ≤ 14 ∧ S3.length ≤ S2.length + 1 ∧ ∀ e, if__law_layer_sizes_4 [x', .v (.int most), .nd (.lst true) (S2.map trip), .v (.int (sumE S)), .v (.int (sumP S)), a, b, c, e] = .nx [x', .v (.int most), .nd (.lst true) (S3.map trip), .v (.int (sumE S)), .v (.int (sumP S)), a, b, c, e] := by
      by_cases h : sumP S = 0
      · refine ⟨S2 ++ [(2, 0, 1)], fun t m => ?_, by rw [sumE_app]; simp [sumE]; omega, by rw [sumE_app]; simp [sumE]; omega, by rw [sumP_app]; simp [sumP]; omega, by rw [sumP_app]; simp [sumP]; omega, by simp, fun e => by simp [if__law_layer_sizes_4, h, hz2, h3, trip]⟩
        rcases List.mem_append.mp m with m | m
        · exact n2 t m
        · rw [List.mem_singleton.mp m]; decide
      · have := hS.p0; have := hS.pm
        exact ⟨S2, n2, a2, b2, by omega, by omega, by omega, fun e => by simp [if__law_layer_sizes_4, h]⟩
    obtain ⟨S3, n3, a3, b3, c3, d3, l3, f3⟩ := hS3
    refine ⟨S3, x', ?_, n3, a3, b3, c3, d3, by omega, hx'.le (by omega)⟩
    simp [D__law_layer_sizes, b__law_layer_sizes, ef, f2, f3]
  · rintro y r s ⟨x', S, a, b, c, d, rfl, hS, hl, j, hj, hx'⟩
    rw [List.length_cons] at hl hj
    obtain ⟨kd, x1, cc1, k0, k1, hx1⟩ := drawc (by omega) hx' (n := 3) (by decide) (by decide)
    obtain ⟨kd2, kk0, kk1, e1⟩ := if1_ok (x := x1) (m := .v (.int most)) (e := .v (.int (sumE S))) (p := .v (.int (sumP S))) (k := y) (a := c) (b := d) (S := S) k0 k1
    obtain ⟨d2, x2, cc2, d20, d21, hx2⟩ := drawc (by omega) hx1 (n := 2) (by decide) (by decide)
    obtain ⟨d3, x3, cc3, d30, d31, hx3⟩ := drawc (by omega) hx2 (n := 3) (by decide) (by decide)
    obtain ⟨d4, x4, cc4, d40, d41, hx4⟩ := drawc (by omega) hx3 (n := 2) (by decide) (by decide)
    obtain ⟨d5, x5, cc5, d50, d51, hx5⟩ := drawc (by omega) hx4 (n := 3) (by decide) (by decide)
    obtain ⟨e, g1, he⟩ := pick3 (a := 2 + d2) (b := 1 + d3) (c := 0) kk0 kk1
    obtain ⟨p, g2, hp⟩ := pick3 (a := 2 + d4) (b := 0) (c := 1 + d5) kk0 kk1
    obtain ⟨S', hS', hl', e2⟩ := if2_ok (x := x5) (k := y) (kind := kd2) (kd := .un) (e := e) (p := p) hS (by omega) (by omega) (by omega)
    have h3 : 3 ≤ sizeLine := by rw [sizeLine_eq]; decide
    refine ⟨_, _, rfl, .inl ?_, x5, S', y, .v (.int kd2), .v (.int e), .v (.int p), rfl, hS', by omega, j + 1, by omega, hx5.le (by omega)⟩
    simp [fb__law_layer_sizes_1, -u_dCall_1, -u_dCslot_1, -u_dCval_1, cc1, e1, cc2, cc3, cc4, cc5, g1, g2, e2, h3]
end Wk34
namespace Wk34
open PySem PySem.Spec PyProof.Rows L2 VS
theorem sl_ints {o : Bool} {cs : List Int} {lo hi : Option Int} : slD (.nd (.lst o) (cs.map D.int)) lo hi = some (.nd (.lst true) ((cutL cs lo hi).map D.int)) := by
  unfold slD
  simp only [has_ints, if_true]
  unfold cutL
  rw [List.map_take, List.map_drop, List.length_map]
theorem lcount_ints {o : Bool} {cs : List Int} {k : Int} : lcountD [.nd (.lst o) (cs.map D.int), .v (.int k)] = some (.v (.int (cs.count k : Nat))) := by
  unfold lcountD D.lstI
  simp [VS.ints_map]
theorem len_ints' {o : Bool} {cs : List Int} : lenD (.nd (.lst o) (cs.map D.int)) = some (.v (.int cs.length)) := len_ints
theorem get_ints {cs : List Int} {i : Nat} (h : i < cs.length) : (cs.map D.int)[i]? = some (.v (.int cs[i])) := by
  rw [List.getElem?_map, List.getElem?_eq_getElem h]; rfl
theorem range_drop {n k : Nat} {y : D} {r : List D} (h : y :: r = (rangeD n).drop k) : k < n ∧ y = .v (.int k) ∧ r = (rangeD n).drop (k + 1) := by
  have hl : k < (rangeD n).length := by
    have := congrArg List.length h
    rw [List.length_cons, List.length_drop] at this
    omega
  rw [List.drop_eq_getElem_cons hl] at h
  injection h with q1 q2
  rw [rangeD_len] at hl
  exact ⟨hl, by rw [q1]; simp [rangeD], q2⟩
theorem range_end {n k : Nat} (hk : k ≤ n) (h : [] = (rangeD n).drop k) : k = n := by
  have := congrArg List.length h
  rw [List.length_nil, List.length_drop, rangeD_len] at this
  omega
theorem rg1_nat {d : EA} {s s' : List D} {n : Nat} (h : d s = .ok ([.v (.int n)], s')) (h1 : n ≤ 1000000) : dRg1 d s = .ok ((.v .non, rangeD n), s') := by
  have := rg1_ok h (by omega) (by omega)
  rw [Int.toNat_natCast] at this
  exact this
theorem ranks_for {o : Bool} {cs rs : List Int} {a : D} (hc : cs.length ≤ 1000) (e : forL (gdN 2) fb__law_ranks_in_1 (rangeD cs.length) [.nd (.lst o) (cs.map D.int), .nd (.lst true) [], .un] = .nx [.nd (.lst o) (cs.map D.int), .nd (.lst true) (rs.map D.int), a]) : fo__law_ranks_in_1 [.nd (.lst o) (cs.map D.int), .nd (.lst true) [], .un] = .nx [.nd (.lst o) (cs.map D.int), .nd (.lst true) (rs.map D.int), a] := by
  have h : (dAcons .tmp [] (dOp (u1 lenD) (dAcons (.vw [0]) [] (dn 0) dAnil)) dAnil) [.nd (.lst o) (cs.map D.int), .nd (.lst true) [], .un] = .ok ([.v (.int cs.length)], [.nd (.lst o) (cs.map D.int), .nd (.lst true) [], .un]) := by
    simp [len_ints', has_ints]
  unfold fo__law_ranks_in_1
  rw [for_rg (n := cs.length) (s1 := [.nd (.lst o) (cs.map D.int), .nd (.lst true) [], .un]) (rg1_nat h (by omega)), e]
/-- ranks_in -/
theorem ranks_in {o : Bool} {cs : List Int} (hc : cs.length ≤ 1000) : ∃ rs : List Int, D__law_ranks_in [.nd (.lst o) (cs.map D.int)] = .ok (.nd (.lst true) (rs.map D.int), []) ∧ rs.length = cs.length := by
  have inv := forL_inv (g := gdN 2) (body := fb__law_ranks_in_1)
    (fun ys s => ∃ (rs : List Int) (a : D) (k : Nat), s = [.nd (.lst o) (cs.map D.int), .nd (.lst true) (rs.map D.int), a] ∧ rs.length = k ∧ k ≤ cs.length ∧ ys = (rangeD cs.length).drop k) ?_
    (rangeD cs.length) [.nd (.lst o) (cs.map D.int), .nd (.lst true) [], .un] ⟨[], .un, 0, rfl, rfl, Nat.zero_le _, rfl⟩
  · obtain ⟨s', e, rs, a, k, rfl, e2, e3, e4⟩ := inv
    have := range_end e3 e4
    refine ⟨rs, ?_, by omega⟩
    have ef := ranks_for (o := o) (cs := cs) hc e
    simp [D__law_ranks_in, b__law_ranks_in, ef, has_ints]
  · rintro y r s ⟨rs, a, k, rfl, h2, h3, h4⟩
    obtain ⟨hk, rfl, rfl⟩ := range_drop h4
    have hz : rs.length < sizeLine := by rw [sizeLine_eq]; omega
    refine ⟨_, [.nd (.lst o) (cs.map D.int), .nd (.lst true) ((rs ++ [((cutL cs none (some (k : Int))).count cs[k] : Int)]).map D.int), .v (.int k)], rfl, .inl ?_, _, _, k + 1, rfl, by simp; omega, hk, rfl⟩
    have b1 : (0 : Int) ≤ k := by omega
    have kt : (k : Int).toNat = k := by omega
    simp [fb__law_ranks_in_1, fS01, has_ints, sl_ints, lcount_ints, ix_lst b1, kt, get_ints hk, hz, -List.getElem?_map]
/-! ### layered rows -/
def tripF (t : Int × Int × Int) : D := .nd (.lst false) [.v (.int t.1), .v (.int t.2.1), .v (.int t.2.2)]
theorem fz_trips : ∀ S : List (Int × Int × Int), D.fzs (S.map trip) = S.map tripF
  | [] => rfl
  | t :: r => by rw [List.map_cons, D.fzs, fz_trips r]; rfl
theorem tripsF_has : ∀ S : List (Int × Int × Int), D.hass NK.isOwn (S.map tripF) = false
  | [] => rfl
  | t :: r => by rw [List.map_cons, D.hass, tripsF_has r]; rfl
theorem rep_ints {k e : Int} (h0 : 0 ≤ e) (h1 : e ≤ 1000) : oMul (.nd (.lst true) [.v (.int k)]) (.v (.int e)) = some (.nd (.lst true) ((List.replicate e.toNat k).map D.int)) := by
  unfold oMul
  have hz : 1 * e.toNat ≤ sizeLine := by rw [sizeLine_eq]; omega
  have hc : (decide (e.natAbs < 4000000000000000000 ∧ [D.v (V.int k)].length * e.toNat ≤ sizeLine) && !D.hass NK.isOwn [D.v (V.int k)]) = true := by
    have h2 : e.natAbs < 4000000000000000000 := by omega
    have h4 : [D.v (V.int k)].length * e.toNat ≤ sizeLine := by rw [sizeLine_eq, List.length_singleton]; omega
    rw [decide_eq_true ⟨h2, h4⟩]; rfl
  simp only [hc, if_true]
  congr 2
  generalize e.toNat = n
  induction n with
  | zero => rfl
  | succ n ih => rw [List.replicate_succ, List.flatten_cons, ih, List.replicate_succ, List.map_cons]; rfl
theorem ext_ints {a b : List Int} (h : a.length + b.length ≤ 1000) : mExtend (a.map D.int) [.nd (.lst true) (b.map D.int)] = some ((a ++ b).map D.int, .v .non) := by
  unfold mExtend
  have hz : a.length + b.length ≤ sizeLine := by rw [sizeLine_eq]; omega
  simp [has_ints, hz]
end Wk34
namespace Wk34
open PySem PySem.Spec PyProof.Rows L2 VS
theorem sum_take_E : ∀ (S : List (Int × Int × Int)) (k : Nat) (h : k < S.length), sumE (S.take (k + 1)) = sumE (S.take k) + S[k].2.1
  | t :: r, 0, _ => by simp [sumE]
  | t :: r, k + 1, h => by
    have := sum_take_E r k (by simpa using h)
    simp only [List.take_succ_cons, sumE, List.getElem_cons_succ]; omega
theorem sum_take_P : ∀ (S : List (Int × Int × Int)) (k : Nat) (h : k < S.length), sumP (S.take (k + 1)) = sumP (S.take k) + S[k].2.2
  | t :: r, 0, _ => by simp [sumP]
  | t :: r, k + 1, h => by
    have := sum_take_P r k (by simpa using h)
    simp only [List.take_succ_cons, sumP, List.getElem_cons_succ]; omega
theorem sumE_le : ∀ (S : List (Int × Int × Int)) (k : Nat), (∀ t ∈ S, 0 ≤ t.2.1) → sumE (S.take k) ≤ sumE S
  | [], k, _ => by simp
  | t :: r, 0, h => by
    have a := sumE_le r 0 fun t m => h t (List.mem_cons_of_mem _ m)
    have b := h t List.mem_cons_self
    simp only [List.take_zero, sumE] at *; omega
  | t :: r, k + 1, h => by
    have := sumE_le r k fun t m => h t (List.mem_cons_of_mem _ m)
    simp only [List.take_succ_cons, sumE]; omega
theorem sumP_le : ∀ (S : List (Int × Int × Int)) (k : Nat), (∀ t ∈ S, 0 ≤ t.2.2) → sumP (S.take k) ≤ sumP S
  | [], k, _ => by simp
  | t :: r, 0, h => by
    have a := sumP_le r 0 fun t m => h t (List.mem_cons_of_mem _ m)
    have b := h t List.mem_cons_self
    simp only [List.take_zero, sumP] at *; omega
  | t :: r, k + 1, h => by
    have := sumP_le r k fun t m => h t (List.mem_cons_of_mem _ m)
    simp only [List.take_succ_cons, sumP]; omega
/-- the first loop of layered_rows -/
theorem lay_for {x u5 u6 u7 u8 u9 u10 u11 : D} {S : List (Int × Int × Int)} (hS : ∀ t ∈ S, 0 ≤ t.2.1 ∧ t.2.1 ≤ 14 ∧ 0 ≤ t.2.2 ∧ t.2.2 ≤ 14) (hl : S.length ≤ 10) (hE : sumE S ≤ 14) (hP : sumP S ≤ 14) :
    ∃ (es ps : List Int) (k : D), fo__law_layered_rows_1 [x, .nd (.lst false) (S.map tripF), .nd (.lst true) [], .nd (.lst true) [], .un, u5, u6, u7, u8, u9, u10, u11] = .nx [x, .nd (.lst false) (S.map tripF), .nd (.lst true) (es.map D.int), .nd (.lst true) (ps.map D.int), k, u5, u6, u7, u8, u9, u10, u11] ∧ (es.length : Int) = sumE S ∧ (ps.length : Int) = sumP S := by
  have inv := forL_inv (g := gdN 4) (body := fb__law_layered_rows_1)
    (fun ys s => ∃ (es ps : List Int) (a : D) (k : Nat), s = [x, .nd (.lst false) (S.map tripF), .nd (.lst true) (es.map D.int), .nd (.lst true) (ps.map D.int), a, u5, u6, u7, u8, u9, u10, u11] ∧ (es.length : Int) = sumE (S.take k) ∧ (ps.length : Int) = sumP (S.take k) ∧ k ≤ S.length ∧ ys = (rangeD S.length).drop k) ?_
    (rangeD S.length) [x, .nd (.lst false) (S.map tripF), .nd (.lst true) [], .nd (.lst true) [], .un, u5, u6, u7, u8, u9, u10, u11] ⟨[], [], .un, 0, rfl, by simp [sumE], by simp [sumP], Nat.zero_le _, rfl⟩
  · obtain ⟨s', e, es, ps, a, k, rfl, e1, e2, e3, e4⟩ := inv
    have hk := range_end e3 e4
    subst hk
    rw [List.take_length] at e1 e2
    refine ⟨es, ps, a, ?_, e1, e2⟩
    have h : (dAcons .tmp [] (dOp (u1 lenD) (dAcons (.vw [1]) [] (dn 1) dAnil)) dAnil) [x, .nd (.lst false) (S.map tripF), .nd (.lst true) [], .nd (.lst true) [], .un, u5, u6, u7, u8, u9, u10, u11] = .ok ([.v (.int S.length)], [x, .nd (.lst false) (S.map tripF), .nd (.lst true) [], .nd (.lst true) [], .un, u5, u6, u7, u8, u9, u10, u11]) := by
      simp [lenD, tripsF_has]
    unfold fo__law_layered_rows_1
    rw [for_rg (n := S.length) (rg1_nat h (by omega)), e]
  · rintro y r s ⟨es, ps, a, k, rfl, h2, h3, h4, h5⟩
    obtain ⟨hk, rfl, rfl⟩ := range_drop h5
    have m := List.getElem_mem hk
    obtain ⟨q1, q2, q3, q4⟩ := hS _ m
    have a1 := sum_take_E S k hk
    have a2 := sum_take_P S k hk
    have a3 := sumE_le S (k + 1) fun t m => (hS t m).1
    have a4 := sumP_le S (k + 1) fun t m => (hS t m).2.2.1
    have b1 : (0 : Int) ≤ k := by omega
    have kt : (k : Int).toNat = k := by omega
    have g0 : (S.map tripF)[k]? = some (tripF S[k]) := by rw [List.getElem?_map, List.getElem?_eq_getElem hk]; rfl
    have g1 : ixD (tripF S[k]) (.v (.int 1)) = some (.v (.int S[k].2.1)) := by unfold tripF; rw [ix_lst (by decide)]; rfl
    have g2 : ixD (tripF S[k]) (.v (.int 2)) = some (.v (.int S[k].2.2)) := by unfold tripF; rw [ix_lst (by decide)]; rfl
    generalize S[k].2.1 = e at *
    generalize S[k].2.2 = p at *
    have r1 := rep_ints (k := (k : Int)) q1 (by omega)
    have r2 := rep_ints (k := (k : Int)) q3 (by omega)
    have x1 := ext_ints (a := es) (b := List.replicate e.toNat (k : Int)) (by rw [List.length_replicate]; omega)
    have x2 := ext_ints (a := ps) (b := List.replicate p.toNat (k : Int)) (by rw [List.length_replicate]; omega)
    have o1 : 1 ≤ sizeLine := by rw [sizeLine_eq]; decide
    refine ⟨_, [x, .nd (.lst false) (S.map tripF), .nd (.lst true) ((es ++ List.replicate e.toNat (k : Int)).map D.int), .nd (.lst true) ((ps ++ List.replicate p.toNat (k : Int)).map D.int), .v (.int k), u5, u6, u7, u8, u9, u10, u11], rfl, .inl ?_, _, _, _, k + 1, rfl, ?_, ?_, hk, rfl⟩
    · simp [fb__law_layered_rows_1, ix_lst b1, kt, g0, g1, g2, r1, r2, x1, x2, o1, has_ints, tripsF_has, -List.map_append, -List.getElem?_map, -List.map_replicate]
    · rw [List.length_append, List.length_replicate]; omega
    · rw [List.length_append, List.length_replicate]; omega
end Wk34
namespace Wk34
open PySem PySem.Spec PyProof.Rows L2 VS
/-- a comprehension over places: the items of a list of ints at them -/
theorem pick_lc {n : Nat} {cs : List Int} (hn : cs.length = n) {e : E} {mk : D → List D} (he : ∀ k : Int, 0 ≤ k → k < n → e (mk (.v (.int k))) = .ok (.v (.int (cs.getD k.toNat 0)), mk (.v (.int k)))) (hg : ∀ y z, gdN 11 z (mk y) = some (mk z)) (hw : ∀ y, wipeD [11] (mk y) = mk .un) {m : Md} :
    ∀ xs : List D, (∀ y ∈ xs, ∃ k : Int, y = .v (.int k) ∧ 0 ≤ k ∧ k < n) → ∃ rs : List Int, lcL [11] (gdN 11) bYes m e xs (mk .un) = .ok (rs.map D.int, mk .un) ∧ rs.length = xs.length
  | [], _ => ⟨[], by rw [lcL]; rfl, rfl⟩
  | y :: r, h => by
    obtain ⟨k, rfl, k0, k1⟩ := h y List.mem_cons_self
    obtain ⟨rs, e1, e2⟩ := pick_lc hn he hg hw (m := m) r fun y m => h y (List.mem_cons_of_mem _ m)
    refine ⟨cs.getD k.toNat 0 :: rs, ?_, by rw [List.length_cons, e2, List.length_cons]⟩
    rw [lcL, hg]
    simp only [bYes, nox, R.bind, if_true, he k k0 k1, hw]
    rw [if_pos (by simp), e1]
    rfl
theorem lay_lc1 {N : Nat} {x u1' u3 u4 u5 u6 u7 u8 u9 u10 : D} {cs : List Int} (hc : cs.length ≤ 1000) (hN : N + cs.length < BIG) (hx : St N x) :
    ∃ (rs : List Int) (x' : D), co__law_layered_rows_1 [x, u1', .nd (.lst true) (cs.map D.int), u3, u4, u5, u6, u7, u8, u9, u10, .un] = .ok (.nd (.lst true) (rs.map D.int), [x', u1', .nd (.lst true) (cs.map D.int), u3, u4, u5, u6, u7, u8, u9, u10, .un]) ∧ rs.length = cs.length ∧ St (N + cs.length) x' := by
  obtain ⟨xs, x', e, ix, hx'⟩ := shuffled (n := (cs.length : Int)) (by omega) (by omega) (by rw [Int.toNat_natCast]; exact hN) hx
  rw [Int.toNat_natCast] at ix hx'
  obtain ⟨rs, e1, e2⟩ := pick_lc (n := cs.length) (cs := cs) rfl (e := ce__law_layered_rows_1) (mk := fun y => [x', u1', .nd (.lst true) (cs.map D.int), u3, u4, u5, u6, u7, u8, u9, u10, y]) (fun k k0 k1 => by
    have hk : k.toNat < cs.length := by omega
    have g := get_ints hk
    simp [ce__law_layered_rows_1, ix_lst k0, g, List.getElem?_eq_getElem hk, -List.getElem?_map]) (fun y z => rfl) (fun y => rfl) (m := .vw [2]) xs ix.2
  have hz : xs.length ≤ sizeLine := by rw [ix.1, sizeLine_eq]; omega
  have c1 := call0 (F := D__law_shuffled) (ks := [.val .tmp]) (dr := dCval .tmp [] (dOp (u1 lenD) (dAcons (.vw [2]) [] (dn 2) dAnil)) dCnil) (s := [u1', .nd (.lst true) (cs.map D.int), u3, u4, u5, u6, u7, u8, u9, u10, .un]) (s1 := [u1', .nd (.lst true) (cs.map D.int), u3, u4, u5, u6, u7, u8, u9, u10, .un]) (os := [some (.v (.int cs.length))]) (as := [.v (.int cs.length)]) hx.isUn (by simp [len_ints', has_ints]) hx.isUn (by simp) (by simp) (by simp) rfl (fun os' s' => by cases os' <;> rfl) e (by
    show (NK.isShr (.lst true) || D.hass NK.isShr xs) = false
    rw [ix.has]; rfl) hx'.shr
  refine ⟨rs, x', ?_, by rw [e2, ix.1], hx'⟩
  unfold co__law_layered_rows_1 dLc dIt
  rw [c1]
  simp only [R.bind, D.items]
  rw [if_pos (by simp [ix.has, hz])]
  show R.bind (lcL [11] _ _ _ _ xs [x', u1', .nd (.lst true) (cs.map D.int), u3, u4, u5, u6, u7, u8, u9, u10, .un]) _ = _
  rw [e1]; rfl
theorem lay_lc2 {N : Nat} {x u1' u2 u4 u5 u6 u7 u8 u9 u10 : D} {cs : List Int} (hc : cs.length ≤ 1000) (hN : N + cs.length < BIG) (hx : St N x) :
    ∃ (rs : List Int) (x' : D), co__law_layered_rows_2 [x, u1', u2, .nd (.lst true) (cs.map D.int), u4, u5, u6, u7, u8, u9, u10, .un] = .ok (.nd (.lst true) (rs.map D.int), [x', u1', u2, .nd (.lst true) (cs.map D.int), u4, u5, u6, u7, u8, u9, u10, .un]) ∧ rs.length = cs.length ∧ St (N + cs.length) x' := by
  obtain ⟨xs, x', e, ix, hx'⟩ := shuffled (n := (cs.length : Int)) (by omega) (by omega) (by rw [Int.toNat_natCast]; exact hN) hx
  rw [Int.toNat_natCast] at ix hx'
  obtain ⟨rs, e1, e2⟩ := pick_lc (n := cs.length) (cs := cs) rfl (e := ce__law_layered_rows_2) (mk := fun y => [x', u1', u2, .nd (.lst true) (cs.map D.int), u4, u5, u6, u7, u8, u9, u10, y]) (fun k k0 k1 => by
    have hk : k.toNat < cs.length := by omega
    have g := get_ints hk
    simp [ce__law_layered_rows_2, ix_lst k0, g, List.getElem?_eq_getElem hk, -List.getElem?_map]) (fun y z => rfl) (fun y => rfl) (m := .vw [3]) xs ix.2
  have hz : xs.length ≤ sizeLine := by rw [ix.1, sizeLine_eq]; omega
  have c1 := call0 (F := D__law_shuffled) (ks := [.val .tmp]) (dr := dCval .tmp [] (dOp (u1 lenD) (dAcons (.vw [3]) [] (dn 3) dAnil)) dCnil) (s := [u1', u2, .nd (.lst true) (cs.map D.int), u4, u5, u6, u7, u8, u9, u10, .un]) (s1 := [u1', u2, .nd (.lst true) (cs.map D.int), u4, u5, u6, u7, u8, u9, u10, .un]) (os := [some (.v (.int cs.length))]) (as := [.v (.int cs.length)]) hx.isUn (by simp [len_ints', has_ints]) hx.isUn (by simp) (by simp) (by simp) rfl (fun os' s' => by cases os' <;> rfl) e (by
    show (NK.isShr (.lst true) || D.hass NK.isShr xs) = false
    rw [ix.has]; rfl) hx'.shr
  refine ⟨rs, x', ?_, by rw [e2, ix.1], hx'⟩
  unfold co__law_layered_rows_2 dLc dIt
  rw [c1]
  simp only [R.bind, D.items]
  rw [if_pos (by simp [ix.has, hz])]
  show R.bind (lcL [11] _ _ _ _ xs [x', u1', u2, .nd (.lst true) (cs.map D.int), u4, u5, u6, u7, u8, u9, u10, .un]) _ = _
  rw [e1]; rfl
theorem mod2 (a : Int) : 0 ≤ a % 2 ∧ a % 2 < 2 := ⟨Int.emod_nonneg _ (by decide), Int.emod_lt_of_pos _ (by decide)⟩
/-- one sign of a layered row -/
theorem lay_sign {x u1' u4 u7 : D} {es ps er pr : List Int} {i j : Nat} {row : Str} (hi : i < ps.length) (hj : j < es.length) (hr : er.length = es.length) (hp : pr.length = ps.length) (hl : row.length ≤ 1000) {u11 : D} : ∃ b : Bool,
    if__law_layered_rows_1 [x, u1', .nd (.lst true) (es.map D.int), .nd (.lst true) (ps.map D.int), u4, .nd (.lst true) (er.map D.int), .nd (.lst true) (pr.map D.int), u7, .v (.int i), .v (.str row), .v (.int j), u11] =
      .nx [x, u1', .nd (.lst true) (es.map D.int), .nd (.lst true) (ps.map D.int), u4, .nd (.lst true) (er.map D.int), .nd (.lst true) (pr.map D.int), u7, .v (.int i), .v (.str (row ++ bit b)), .v (.int j), u11] := by
  have bi : (0 : Int) ≤ i := by omega
  have bj : (0 : Int) ≤ j := by omega
  have ti : (i : Int).toNat = i := by omega
  have tj : (j : Int).toNat = j := by omega
  have ge := get_ints hj
  have gp := get_ints hi
  have gr := get_ints (cs := er) (i := j) (by omega)
  have gq := get_ints (cs := pr) (i := i) (by omega)
  generalize es[j] = ej at *
  generalize ps[i] = pi at *
  generalize er[j]'(by omega) = rj at *
  generalize pr[i]'(by omega) = qi at *
  have hz : ∀ b : Bool, row.length + (bit b).length ≤ sizeLine := fun b => by rw [bit_len, sizeLine_eq]; omega
  by_cases h : ej = pi
  · obtain ⟨m0, m1⟩ := mod2 (rj + qi)
    refine ⟨decide ((rj + qi) % 2 = 1), ?_⟩
    have hx := ix01 m0 m1
    simp [if__law_layered_rows_1, ix_lst bi, ix_lst bj, ti, tj, ge, gp, gr, gq, h, hx, hz, -List.getElem?_map]
  · by_cases h2 : ej < pi
    · refine ⟨true, ?_⟩
      have hx : ixD (.v (.str "01")) (.v (.int 1)) = some (.v (.str (bit true))) := ix01 (by decide) (by decide)
      simp [if__law_layered_rows_1, ix_lst bi, ix_lst bj, ti, tj, ge, gp, h, h2, hx, hz, -List.getElem?_map]
    · refine ⟨false, ?_⟩
      have hx : ixD (.v (.str "01")) (.v (.int 0)) = some (.v (.str (bit false))) := ix01 (by decide) (by decide)
      simp [if__law_layered_rows_1, ix_lst bi, ix_lst bj, ti, tj, ge, gp, h, h2, hx, hz, -List.getElem?_map]
end Wk34
namespace Wk34
open PySem PySem.Spec PyProof.Rows L2 VS
theorem sE_len : ("" : Str).length = 0 := by rw [sE]; rfl
theorem sE_bits : Bits "" := by rw [sE]; intro c hc; cases hc
theorem str_len_app (a b : Str) : (a ++ b).length = a.length + b.length := by rw [← cs_len, cs_append, List.length_append, cs_len, cs_len]
/-- one layered row -/
theorem lay_row {x u1' u4 u7 u10 u11 : D} {es ps er pr : List Int} {i : Nat} (hi : i < ps.length) (he : es.length ≤ 900) (hr : er.length = es.length) (hp : pr.length = ps.length) : ∃ (row : Str) (j : D), row.length = es.length ∧ Bits row ∧
    fo__law_layered_rows_2 [x, u1', .nd (.lst true) (es.map D.int), .nd (.lst true) (ps.map D.int), u4, .nd (.lst true) (er.map D.int), .nd (.lst true) (pr.map D.int), u7, .v (.int i), .v (.str ""), u10, u11] =
      .nx [x, u1', .nd (.lst true) (es.map D.int), .nd (.lst true) (ps.map D.int), u4, .nd (.lst true) (er.map D.int), .nd (.lst true) (pr.map D.int), u7, .v (.int i), .v (.str row), j, u11] := by
  have inv := forL_inv (g := gdN 10) (body := fb__law_layered_rows_2)
    (fun ys s => ∃ (row : Str) (a : D) (k : Nat), s = [x, u1', .nd (.lst true) (es.map D.int), .nd (.lst true) (ps.map D.int), u4, .nd (.lst true) (er.map D.int), .nd (.lst true) (pr.map D.int), u7, .v (.int i), .v (.str row), a, u11] ∧ row.length = k ∧ Bits row ∧ k ≤ es.length ∧ ys = (rangeD es.length).drop k) ?_
    (rangeD es.length) [x, u1', .nd (.lst true) (es.map D.int), .nd (.lst true) (ps.map D.int), u4, .nd (.lst true) (er.map D.int), .nd (.lst true) (pr.map D.int), u7, .v (.int i), .v (.str ""), u10, u11] ⟨"", u10, 0, rfl, sE_len, sE_bits, Nat.zero_le _, rfl⟩
  · obtain ⟨s', e, row, a, k, rfl, e1, e2, e3, e4⟩ := inv
    have hk := range_end e3 e4
    refine ⟨row, a, by omega, e2, ?_⟩
    have h : (dAcons .tmp [] (dOp (u1 lenD) (dAcons (.vw [2]) [] (dn 2) dAnil)) dAnil) [x, u1', .nd (.lst true) (es.map D.int), .nd (.lst true) (ps.map D.int), u4, .nd (.lst true) (er.map D.int), .nd (.lst true) (pr.map D.int), u7, .v (.int i), .v (.str ""), u10, u11] = .ok ([.v (.int es.length)], [x, u1', .nd (.lst true) (es.map D.int), .nd (.lst true) (ps.map D.int), u4, .nd (.lst true) (er.map D.int), .nd (.lst true) (pr.map D.int), u7, .v (.int i), .v (.str ""), u10, u11]) := by
      simp [len_ints', has_ints]
    unfold fo__law_layered_rows_2
    rw [for_rg (n := es.length) (rg1_nat h (by omega)), e]
  · rintro y r s ⟨row, a, k, rfl, h2, h3, h4, h5⟩
    obtain ⟨hk, rfl, rfl⟩ := range_drop h5
    obtain ⟨b, eb⟩ := lay_sign (x := x) (u1' := u1') (u4 := u4) (u7 := u7) (u11 := u11) (row := row) hi hk hr hp (by omega)
    exact ⟨_, _, rfl, .inl eb, row ++ bit b, .v (.int k), k + 1, rfl, by rw [str_len_app, bit_len]; omega, bits_append h3 (bit_bits b), hk, rfl⟩
/-- all layered rows -/
theorem lay_rows {x u1' u4 u8 u9 u10 u11 : D} {es ps er pr : List Int} (he : es.length ≤ 900) (hps : ps.length ≤ 900) (hr : er.length = es.length) (hp : pr.length = ps.length) : ∃ (rows : List Str) (a b c : D), rows.length = ps.length ∧ (∀ z ∈ rows, z.length = es.length ∧ Bits z) ∧
    fo__law_layered_rows_3 [x, u1', .nd (.lst true) (es.map D.int), .nd (.lst true) (ps.map D.int), u4, .nd (.lst true) (er.map D.int), .nd (.lst true) (pr.map D.int), .nd (.lst true) [], u8, u9, u10, u11] =
      .nx [x, u1', .nd (.lst true) (es.map D.int), .nd (.lst true) (ps.map D.int), u4, .nd (.lst true) (er.map D.int), .nd (.lst true) (pr.map D.int), .nd (.lst true) (rows.map D.str), a, b, c, u11] := by
  have inv := forL_inv (g := gdN 8) (body := fb__law_layered_rows_3)
    (fun ys s => ∃ (rows : List Str) (a b c : D) (k : Nat), s = [x, u1', .nd (.lst true) (es.map D.int), .nd (.lst true) (ps.map D.int), u4, .nd (.lst true) (er.map D.int), .nd (.lst true) (pr.map D.int), .nd (.lst true) (rows.map D.str), a, b, c, u11] ∧ rows.length = k ∧ (∀ z ∈ rows, z.length = es.length ∧ Bits z) ∧ k ≤ ps.length ∧ ys = (rangeD ps.length).drop k) ?_
    (rangeD ps.length) [x, u1', .nd (.lst true) (es.map D.int), .nd (.lst true) (ps.map D.int), u4, .nd (.lst true) (er.map D.int), .nd (.lst true) (pr.map D.int), .nd (.lst true) [], u8, u9, u10, u11] ⟨[], u8, u9, u10, 0, rfl, rfl, fun _ m => (nomatch m), Nat.zero_le _, rfl⟩
  · obtain ⟨s', e, rows, a, b, c, k, rfl, e1, e2, e3, e4⟩ := inv
    have hk := range_end e3 e4
    refine ⟨rows, a, b, c, by omega, e2, ?_⟩
    have h : (dAcons .tmp [] (dOp (u1 lenD) (dAcons (.vw [3]) [] (dn 3) dAnil)) dAnil) [x, u1', .nd (.lst true) (es.map D.int), .nd (.lst true) (ps.map D.int), u4, .nd (.lst true) (er.map D.int), .nd (.lst true) (pr.map D.int), .nd (.lst true) [], u8, u9, u10, u11] = .ok ([.v (.int ps.length)], [x, u1', .nd (.lst true) (es.map D.int), .nd (.lst true) (ps.map D.int), u4, .nd (.lst true) (er.map D.int), .nd (.lst true) (pr.map D.int), .nd (.lst true) [], u8, u9, u10, u11]) := by
      simp [len_ints', has_ints]
    unfold fo__law_layered_rows_3
    rw [for_rg (n := ps.length) (rg1_nat h (by omega)), e]
  · rintro y r s ⟨rows, a, b, c, k, rfl, h2, h3, h4, h5⟩
    obtain ⟨hk, rfl, rfl⟩ := range_drop h5
    obtain ⟨row, j, e1, e2, e3⟩ := lay_row (x := x) (u1' := u1') (u4 := u4) (u7 := .nd (.lst true) (rows.map D.str)) (u10 := c) (u11 := u11) (i := k) hk he hr hp
    have hz : rows.length < sizeLine := by rw [sizeLine_eq]; omega
    refine ⟨_, [x, u1', .nd (.lst true) (es.map D.int), .nd (.lst true) (ps.map D.int), u4, .nd (.lst true) (er.map D.int), .nd (.lst true) (pr.map D.int), .nd (.lst true) ((rows ++ [row]).map D.str), .v (.int k), .v (.str row), j, u11], rfl, .inl ?_, rows ++ [row], _, _, _, k + 1, rfl, by simp; omega, fun z m => ?_, hk, rfl⟩
    · simp [fb__law_layered_rows_3, e3, hz]
    · rcases List.mem_append.mp m with m | m
      · exact h3 z m
      · rw [List.mem_singleton.mp m]; exact ⟨e1, e2⟩
end Wk34
namespace Wk34
open PySem PySem.Spec PyProof.Rows L2 VS
theorem ranks_call {mr : List Nat} {i : Nat} {s : List D} {cs : List Int} (hc : cs.length ≤ 1000) (hs : s[i]? = some (.nd (.lst true) (cs.map D.int))) : ∃ rs : List Int, dCall D__law_ranks_in [.val (.vw [i])] (dCval (.vw [i]) [] (dn i) dCnil) s = .ok (.nd (.lst true) (rs.map D.int), s) ∧ rs.length = cs.length := by
  obtain ⟨rs, e, l⟩ := ranks_in (o := false) hc
  refine ⟨rs, ?_, l⟩
  have e0 : dn i s = .ok (.nd (.lst true) (cs.map D.int), s) := dn_eq hs (fun z => nomatch z)
  simp [e0, fzs_ints, e, has_ints, -dn_s]
theorem layered_rows {N : Nat} {x : D} {S : List (Int × Int × Int)} (hN : N + 100 < BIG) (hx : St N x) (hS : ∀ t ∈ S, 0 ≤ t.2.1 ∧ t.2.1 ≤ 14 ∧ 0 ≤ t.2.2 ∧ t.2.2 ≤ 14) (hl : S.length ≤ 10) (hE : sumE S ≤ 14) (hP : sumP S ≤ 14) :
    ∃ (rows : List Str) (x' : D), D__law_layered_rows [x, .nd (.lst false) (S.map tripF)] = .ok (.nd (.lst true) (rows.map D.str), [x']) ∧ (rows.length : Int) = sumP S ∧ (∀ z ∈ rows, (z.length : Int) = sumE S ∧ Bits z) ∧ St (N + 100) x' := by
  obtain ⟨es, ps, k, e1, l1, l2⟩ := lay_for (x := x) (u5 := .un) (u6 := .un) (u7 := .un) (u8 := .un) (u9 := .un) (u10 := .un) (u11 := .un) hS hl hE hP
  obtain ⟨es2, x2, e2, l3, hx2⟩ := lay_lc1 (u1' := .nd (.lst false) (S.map tripF)) (u3 := .nd (.lst true) (ps.map D.int)) (u4 := k) (u5 := .un) (u6 := .un) (u7 := .un) (u8 := .un) (u9 := .un) (u10 := .un) (cs := es) (by omega) (by omega) hx
  obtain ⟨ps2, x3, e3, l4, hx3⟩ := lay_lc2 (u1' := .nd (.lst false) (S.map tripF)) (u2 := .nd (.lst true) (es2.map D.int)) (u4 := k) (u5 := .un) (u6 := .un) (u7 := .un) (u8 := .un) (u9 := .un) (u10 := .un) (cs := ps) (by omega) (by omega) hx2
  obtain ⟨er, f1, m1⟩ := ranks_call (mr := []) (i := 2) (s := [x3, .nd (.lst false) (S.map tripF), .nd (.lst true) (es2.map D.int), .nd (.lst true) (ps2.map D.int), k, .un, .un, .un, .un, .un, .un, .un]) (cs := es2) (by omega) rfl
  obtain ⟨pr, f2, m2⟩ := ranks_call (mr := []) (i := 3) (s := [x3, .nd (.lst false) (S.map tripF), .nd (.lst true) (es2.map D.int), .nd (.lst true) (ps2.map D.int), k, .nd (.lst true) (er.map D.int), .un, .un, .un, .un, .un, .un]) (cs := ps2) (by omega) rfl
  obtain ⟨rows, a, b, c, n1, n2, g⟩ := lay_rows (x := x3) (u1' := .nd (.lst false) (S.map tripF)) (u4 := k) (u8 := .un) (u9 := .un) (u10 := .un) (u11 := .un) (es := es2) (ps := ps2) (er := er) (pr := pr) (by omega) (by omega) (by omega) (by omega)
  refine ⟨rows, x3, ?_, by omega, fun z m => ⟨by have := (n2 z m).1; omega, (n2 z m).2⟩, hx3.le (by omega)⟩
  simp [D__law_layered_rows, b__law_layered_rows, e1, e2, e3, f1, f2, g, -u_dCall_1, -u_dCval_1]
end Wk34
namespace Wk34
open PySem PySem.Spec PyProof.Rows L2 VS
theorem cutS_cs (z : Str) (lo hi : Option Int) : Str.cs (cutS z lo hi) = (Str.cs z |>.drop (HT.sIx z.length 0 lo)).take (HT.sIx z.length z.length hi - HT.sIx z.length 0 lo) := by
  unfold cutS Str.cs; simp
theorem cutS_bits {z : Str} {lo hi : Option Int} (h : Bits z) : Bits (cutS z lo hi) := by
  intro c hc
  rw [cutS_cs] at hc
  exact h c (List.mem_of_mem_drop (List.mem_of_mem_take hc))
theorem cutS_lo {z : Str} {j : Nat} (h : j ≤ z.length) : (cutS z none (some (j : Int))).length = j := by
  rw [← cs_len, cutS_cs, List.length_take, List.length_drop, cs_len, HT.sIx_nat, show HT.sIx z.length 0 none = 0 from rfl]
  omega
theorem cutS_hi {z : Str} {j : Nat} (h : j ≤ z.length) : (cutS z (some (j : Int)) none).length = z.length - j := by
  rw [← cs_len, cutS_cs, List.length_take, List.length_drop, cs_len, HT.sIx_nat, show HT.sIx z.length z.length none = z.length from rfl]
  omega
theorem get_strs {rows : List Str} {i : Nat} (h : i < rows.length) : (rows.map D.str)[i]? = some (.v (.str rows[i])) := by
  rw [List.getElem?_map, List.getElem?_eq_getElem h]; rfl
theorem ix_bit {z : Str} {j : Nat} (hz : z.length ≤ 1000) (hj : j < z.length) (hb : Bits z) : ∃ b, ixD (.v (.str z)) (.v (.int j)) = some (.v (.str (bit b))) := by
  rw [ix_s (by omega)]
  have hl : j < (Str.cs z).length := by rw [cs_len]; exact hj
  have e : atI z.cps.toList (j : Int) = some (Str.cs z)[j] := by
    unfold atI
    rw [ixN_pos (by omega) (by show (j : Int) < ((Str.cs z).length : Nat); omega)]
    show (Str.cs z)[(j : Int).toNat]? = _
    rw [Int.toNat_natCast, List.getElem?_eq_getElem hl]
  rw [e]
  rcases hb _ (List.getElem_mem hl) with q | q
  · exact ⟨false, by rw [q]; rfl⟩
  · exact ⟨true, by rw [q]; rfl⟩
/-- one sign exchanged -/
theorem exchange {rows : List Str} {h w i j : Nat} (hr : rows.length = h) (hw : ∀ z ∈ rows, z.length = w ∧ Bits z) (hi : i < h) (hj : j < w) (h1 : h ≤ 1000) (w1 : w ≤ 1000) :
    ∃ rows' : List Str, D__law_exchange [.nd (.lst false) (rows.map D.str), .v (.int i), .v (.int j)] = .ok (.nd (.lst true) (rows'.map D.str), []) ∧ rows'.length = h ∧ ∀ z ∈ rows', z.length = w ∧ Bits z := by
  have hi2 : i < rows.length := by omega
  have bi : (0 : Int) ≤ i := by omega
  have ti : (i : Int).toNat = i := by omega
  have g := get_strs hi2
  obtain ⟨q1, q2⟩ := hw _ (List.getElem_mem hi2)
  have hN : ixN rows.length (i : Int) = some i := by rw [ixN_pos bi (by omega), ti]
  generalize hz : rows[i] = z at *
  obtain ⟨b, eb⟩ := ix_bit (by omega) (by omega) q2 (j := j)
  have hzl : z.length ≤ sizeLine := by rw [sizeLine_eq]; omega
  have k1 : (cutS z none (some (j : Int))).length + (bit (!b)).length ≤ sizeLine := by rw [cutS_lo (by omega), bit_len, sizeLine_eq]; omega
  have k2 : (cutS z none (some (j : Int)) ++ bit (!b)).length + (cutS z (some ((j : Int) + 1)) none).length ≤ sizeLine := by
    rw [str_len_app, cutS_lo (by omega), bit_len, show ((j : Int) + 1) = ((j + 1 : Nat) : Int) from rfl, cutS_hi (by omega), sizeLine_eq]; omega
  have e10 : ixD (.v (.str "10")) (.v (.int (if bit b = "1" then 1 else 0))) = some (.v (.str (bit (!b)))) := by
    rw [s1]
    cases b
    · exact ix10 (d := 0) (by decide) (by decide)
    · exact ix10 (d := 1) (by decide) (by decide)
  refine ⟨rows.set i (cutS z none (some (j : Int)) ++ bit (!b) ++ cutS z (some ((j : Int) + 1)) none), ?_, by rw [List.length_set]; exact hr, fun y m => ?_⟩
  · simp [D__law_exchange, b__law_exchange, listD, has_strs, ix_lst bi, ti, g, eb, e10, fS01, fS10, slD, hzl, k1, k2, hN, -List.getElem?_map]
  · rcases List.mem_or_eq_of_mem_set m with m | rfl
    · exact hw y m
    · refine ⟨?_, bits_append (bits_append (cutS_bits q2) (bit_bits _)) (cutS_bits q2)⟩
      rw [str_len_app, str_len_app, cutS_lo (by omega), bit_len, show ((j : Int) + 1) = ((j + 1 : Nat) : Int) from rfl, cutS_hi (by omega)]; omega
end Wk34
namespace Wk34
open PySem PySem.Spec PyProof.Rows L2 VS
structure Rows (rows : List Str) : Prop where
  h0 : 1 ≤ rows.length
  h1 : rows.length ≤ 60
  w : ∃ w, 1 ≤ w ∧ w ≤ 60 ∧ ∀ z ∈ rows, z.length = w ∧ Bits z
theorem strs_shr (rows : List Str) : (D.nd (.lst true) (rows.map D.str)).has NK.isShr = false := by
  show (NK.isShr (.lst true) || D.hass NK.isShr (rows.map D.str)) = false
  rw [has_strs]; rfl
theorem some_rows {N : Nat} {x : D} {most : Int} (hN : N + 2000000 < BIG) (hx : St N x) (m0 : 1 ≤ most) (m1 : most ≤ 60) :
    ∃ (rows : List Str) (x' : D), D__law_some_rows [x, .v (.int most)] = .ok (.nd (.lst true) (rows.map D.str), [x']) ∧ Rows rows ∧ St (N + 2000000) x' := by
  obtain ⟨kd, x1, c1, k0, k1, hx1⟩ := drawc (by omega) hx (n := 4) (by decide) (by decide)
  by_cases hk : kd < 2
  · obtain ⟨h, x2, e2, h0, h1, hx2⟩ := side (by omega) hx1 m0 (by omega)
    obtain ⟨w, x3, e3, w0, w1, hx3⟩ := side (by omega) hx2 m0 (by omega)
    obtain ⟨rows, x4, e4, r1, r2, hx4⟩ := free_rows (h := h) (w := w) (by omega) (by omega) (by omega) (by omega) (by omega) hx3
    have c2 : dCall D__law_side [.io 0, .val (.vw [1])] (dCslot 0 (dCval (.vw [1]) [] (dn 1) dCnil)) [x1, .v (.int most), .v (.int kd), .un, .un, .un] = .ok (.v (.int h), [x2, .v (.int most), .v (.int kd), .un, .un, .un]) := call_st hx1 rfl e2 hx2.shr
    have c3 : dCall D__law_side [.io 0, .val (.vw [1])] (dCslot 0 (dCval (.vw [1]) [] (dn 1) dCnil)) [x2, .v (.int most), .v (.int kd), .un, .v (.int h), .un] = .ok (.v (.int w), [x3, .v (.int most), .v (.int kd), .un, .v (.int h), .un]) := call_st hx2 rfl e3 hx3.shr
    have c4 := call0 (F := D__law_free_rows) (ks := [.val (.vw [4]), .val .tmp]) (dr := dCval (.vw [4]) [0] (dn 4) (dCval .tmp [] (dCall D__law_side [.io 0, .val (.vw [1])] (dCslot 0 (dCval (.vw [1]) [] (dn 1) dCnil))) dCnil)) (s := [.v (.int most), .v (.int kd), .un, .v (.int h), .un]) (s1 := [.v (.int most), .v (.int kd), .un, .v (.int h), .un]) (os := [some (.v (.int h)), some (.v (.int w))]) (as := [.v (.int h), .v (.int w)]) hx2.isUn (by simp [-u_dCall_1, -u_dCslot_1, c3]) hx3.isUn (by simp) (by simp) (by simp) rfl (fun os' s' => by rcases os' with _ | ⟨_, _ | ⟨_, _⟩⟩ <;> rfl) e4 (strs_shr rows) hx4.shr
    refine ⟨rows, x4, ?_, ⟨by omega, by omega, w.toNat, by omega, by omega, fun z m => ⟨by have := (r2 z m).1; omega, (r2 z m).2⟩⟩, hx4.le (by omega)⟩
    simp [D__law_some_rows, b__law_some_rows, if__law_some_rows_1, -u_dCall_1, -u_dCslot_1, -u_dCval_1, c1, hk, c2, c4]
  · have hmn : 1 ≤ minI most 14 ∧ minI most 14 ≤ 14 := by
      show 1 ≤ (if (14 : Int) < most then 14 else most) ∧ (if (14 : Int) < most then 14 else most) ≤ 14
      split <;> omega
    obtain ⟨S, x2, e2, s1, s2, s3, s4, s5, s6, hx2⟩ := layer_sizes (by omega) hx1 hmn.1 hmn.2
    obtain ⟨rows, x3, e3, r1, r2, hx3⟩ := layered_rows (by omega) hx2 s1 s6 s3 s5
    have c2 := call0 (F := D__law_layer_sizes) (ks := [.val .tmp]) (dr := dCval .tmp [] (dOp (i2D minI) (dAcons (.vw [1]) [] (dn 1) (dAcons .tmp [] (dc (.int 14)) dAnil))) dCnil) (s := [.v (.int most), .v (.int kd), .un, .un, .un]) (s1 := [.v (.int most), .v (.int kd), .un, .un, .un]) (os := [some (.v (.int (minI most 14)))]) (as := [.v (.int (minI most 14))]) hx1.isUn (by simp) hx1.isUn (by simp) (by simp) (by simp) rfl (fun os' s' => by cases os' <;> rfl) e2 (by
      show (NK.isShr (.lst true) || D.hass NK.isShr (S.map trip)) = false
      rw [trips_has]; rfl) hx2.shr
    have c3 := call0 (F := D__law_layered_rows) (ks := [.val .tmp]) (dr := dCval .tmp [] (dCall D__law_layer_sizes [.io 0, .val .tmp] (dCslot 0 (dCval .tmp [] (dOp (i2D minI) (dAcons (.vw [1]) [] (dn 1) (dAcons .tmp [] (dc (.int 14)) dAnil))) dCnil))) dCnil) (s := [.v (.int most), .v (.int kd), .un, .un, .un]) (s1 := [.v (.int most), .v (.int kd), .un, .un, .un]) (os := [some (.nd (.lst true) (S.map trip))]) (as := [.nd (.lst false) (S.map tripF)]) hx1.isUn (by simp [-u_dCall_1, -u_dCslot_1, c2]) hx2.isUn (by simp [fz_trips]) (by simp) (by simp) rfl (fun os' s' => by cases os' <;> rfl) e3 (strs_shr rows) hx3.shr
    have hR : Rows rows := ⟨by omega, by omega, (sumE S).toNat, by omega, by omega, fun z m => ⟨by have := (r2 z m).1; omega, (r2 z m).2⟩⟩
    by_cases hk3 : kd = 3
    · subst hk3
      have hl : lenD (.nd (.lst true) (rows.map D.str)) = some (.v (.int rows.length)) := by simp [lenD]
      obtain ⟨i, x4, e4, i0, i1, hx4⟩ := draw (by omega) hx3 (span := (rows.length : Int)) (by omega) (by omega)
      have hr0 : 0 < rows.length := by omega
      obtain ⟨z0, z1⟩ := r2 _ (List.getElem_mem hr0)
      have hl2 : lenD (.v (.str rows[0])) = some (.v (.int rows[0].length)) := by
        show (if rows[0].length ≤ sizeLine then _ else _) = _
        rw [if_pos (by rw [sizeLine_eq]; omega)]
      have g0 : (rows.map D.str)[0]? = some (.v (.str rows[0])) := get_strs hr0
      obtain ⟨j, x5, e5, j0, j1, hx5⟩ := draw (by omega) hx4 (span := (rows[0].length : Int)) (by omega) (by omega)
      obtain ⟨rows', e6, q1, q2⟩ := exchange (rows := rows) (h := rows.length) (w := (sumE S).toNat) (i := i.toNat) (j := j.toNat) rfl (fun z m => ⟨by have := (r2 z m).1; omega, (r2 z m).2⟩) (by omega) (by omega) (by omega) (by omega)
      rw [show ((i.toNat : Nat) : Int) = i by omega, show ((j.toNat : Nat) : Int) = j by omega] at e6
      generalize rows[0] = r0 at *
      have c4 : dCall D__law_draw [.io 0, .val .tmp] (dCslot 0 (dCval .tmp [] (dOp (u1 lenD) (dAcons (.vw [3]) [] (dn 3) dAnil)) dCnil)) [x3, .v (.int most), .v (.int 3), .nd (.lst true) (rows.map D.str), .un, .un] = .ok (.v (.int i), [x4, .v (.int most), .v (.int 3), .nd (.lst true) (rows.map D.str), .un, .un]) := call_st hx3 (by simp [hl, has_strs]) e4 hx4.shr
      have c5 : dCall D__law_draw [.io 0, .val .tmp] (dCslot 0 (dCval .tmp [] (dOp (u1 lenD) (dAcons (.vw [3]) [] (dIx (.vw [3]) [] (dn 3) (dc (.int 0))) dAnil)) dCnil)) [x4, .v (.int most), .v (.int 3), .nd (.lst true) (rows.map D.str), .un, .v (.int i)] = .ok (.v (.int j), [x5, .v (.int most), .v (.int 3), .nd (.lst true) (rows.map D.str), .un, .v (.int i)]) := call_st hx4 (by simp [hl2, has_strs, ix_lst, g0, -List.getElem?_map]) e5 hx5.shr
      have c6 : dCall D__law_exchange [.val (.vw [3]), .val (.vw [5]), .val .tmp] (dCval (.vw [3]) [0] (dn 3) (dCval (.vw [5]) [0] (dn 5) (dCval .tmp [] (dCall D__law_draw [.io 0, .val .tmp] (dCslot 0 (dCval .tmp [] (dOp (u1 lenD) (dAcons (.vw [3]) [] (dIx (.vw [3]) [] (dn 3) (dc (.int 0))) dAnil)) dCnil))) dCnil))) [x4, .v (.int most), .v (.int 3), .nd (.lst true) (rows.map D.str), .un, .v (.int i)] = .ok (.nd (.lst true) (rows'.map D.str), [x5, .v (.int most), .v (.int 3), .nd (.lst true) (rows.map D.str), .un, .v (.int i)]) := by
        generalize hd : dCall D__law_draw [.io 0, .val .tmp] (dCslot 0 (dCval .tmp [] (dOp (u1 lenD) (dAcons (.vw [3]) [] (dIx (.vw [3]) [] (dn 3) (dc (.int 0))) dAnil)) dCnil)) = dd at *
        simp [c5, fzs_strs, e6, has_strs]
      refine ⟨rows', x5, ?_, ⟨by omega, by omega, (sumE S).toNat, by omega, by omega, q2⟩, hx5.le (by omega)⟩
      simp [D__law_some_rows, b__law_some_rows, if__law_some_rows_1, if__law_some_rows_2, -u_dCall_1, -u_dCslot_1, -u_dCval_1, c1, hk, c3, c4, c6]
    · refine ⟨rows, x3, ?_, hR, hx3.le (by omega)⟩
      simp [D__law_some_rows, b__law_some_rows, if__law_some_rows_1, if__law_some_rows_2, -u_dCall_1, -u_dCslot_1, -u_dCval_1, c1, hk, c3, hk3]
end Wk34
namespace Wk34
open PySem PySem.Spec PyProof.Rows L2 VS
theorem in_range {n l h : Int} : D_in_range [.v (.int n), .v (.int l), .v (.int h)] = .ok (.v (.bl (decide (l ≤ n) && decide (n ≤ h))), []) := by
  by_cases a : l ≤ n
  · simp [D_in_range, b_in_range, dChn, a]
  · simp [D_in_range, b_in_range, dChn, a]
abbrev stN (L : List D) : D := .nd (.lst true) L
theorem St.nd {N : Nat} {x : D} (h : St N x) : ∃ L, x = stN L ∧ D.hass NK.isShr L = false := by
  obtain ⟨cs, p, r, sd, k, rfl, o⟩ := h
  exact ⟨_, rfl, by simp [has_ints]⟩
theorem drawL {N : Nat} (hN : N < BIG) {L : List D} (h : St N (stN L)) {n : Int} (h0 : 0 < n) (h1 : n ≤ 10000000000) :
    ∃ d L', D__law_draw [stN L, .v (.int n)] = .ok (.v (.int d), [stN L']) ∧ 0 ≤ d ∧ d < n ∧ St (N + 1) (stN L') ∧ D.hass NK.isShr L' = false := by
  obtain ⟨d, x2, e, d0, d1, h2⟩ := draw hN h h0 h1
  obtain ⟨L', rfl, hL⟩ := h2.nd
  exact ⟨d, L', e, d0, d1, h2, hL⟩
abbrev oddF : Nat → Nat → Bool := fun i j => (i + j) % 2 == 1
theorem pick01 {k : Nat} : ixD (.v (.str "01")) (.v (.int ((k : Int) % 2))) = some (.v (.str (bit (k % 2 == 1)))) := by
  rw [ix01 (by omega) (by omega)]
  by_cases h : k % 2 = 1
  · have : (k : Int) % 2 = 1 := by omega
    simp [h, this]
  · have : (k : Int) % 2 = 0 := by omega
    have h2 : k % 2 = 0 := by omega
    simp [h2, this]
theorem map_strs {α : Type} (l : List α) (f : α → Str) : (l.map fun a => D.str (f a)) = (l.map f).map D.str := by rw [List.map_map]; rfl
theorem join_range {o : Bool} {n : Nat} {f : Nat → Bool} (hn : n ≤ 1000) : joinD [.v (.str ""), .nd (.lst o) ((List.range n).map fun j => D.str (bit (f j)))] = some (.v (.str (mkRow n f))) := by
  rw [map_strs, join_d (fun z m => by obtain ⟨j, _, rfl⟩ := List.mem_map.mp m; exact bit_len _) (by simpa using hn), join_mkRow]
theorem isi_b {C : Addr} {x : D} {a t : String} {r : Bool} (h : x.ty = some (.b a)) (hr : isaB a t = some r) : isiD (isaT C) [C] [x, .v (.ty t)] = some (.v (.bl r)) := by
  unfold isiD
  simp only [h]
  show (if tkIn [C] (.b a) = true then Option.map D.bl (isaB a t) else none) = _
  rw [hr]; rfl
theorem isi_str {C : Addr} {z : Str} : isiD (isaT C) [C] [.v (.str z), .v (.ty "str")] = some (.v (.bl true)) := isi_b rfl (by decide +kernel)
theorem isi_int {C : Addr} {z : Int} : isiD (isaT C) [C] [.v (.int z), .v (.ty "int")] = some (.v (.bl true)) := isi_b rfl (by decide +kernel)
theorem isi_intb {C : Addr} {z : Int} : isiD (isaT C) [C] [.v (.int z), .v (.ty "bool")] = some (.v (.bl false)) := isi_b rfl (by decide +kernel)
theorem isi_bb {C : Addr} {z : Bool} : isiD (isaT C) [C] [.v (.bl z), .v (.ty "bool")] = some (.v (.bl true)) := isi_b rfl (by decide +kernel)
theorem isi_tup {C : Addr} {xs : List D} : isiD (isaT C) [C] [.nd .tup xs, .v (.ty "tuple")] = some (.v (.bl true)) := isi_b rfl (by decide +kernel)
theorem isi_seqT {C : Addr} {xs : List D} : isiD (isaT C) [C] [.nd .tup xs, .nd .tup [.v (.ty "list"), .v (.ty "tuple")]] = some (.v (.bl true)) := by
  rfl
theorem isi_seqL {C : Addr} {o : Bool} {xs : List D} : isiD (isaT C) [C] [.nd (.lst o) xs, .nd .tup [.v (.ty "list"), .v (.ty "tuple")]] = some (.v (.bl true)) := by
  rfl
theorem isi_own {C : Addr} {fs : List Str} {xs : List D} : isiD (isaT C) [C] [.nd (.ins C fs) xs, .v (.ref C)] = some (.v (.bl true)) := by
  simp [isiD, D.ty, V.tk, tkIn, isaD, isaT]
theorem sz60 : 60 ≤ sizeLine := by rw [sizeLine_eq]; decide
theorem signs_co {C : Addr} {w : Nat} {f : Nat → Bool} {a b c : D} (hw : w ≤ 60) : co_rows_fit_1 C [a, .v (.str "01"), b, .v (.str (mkRow w f)), c] = .ok (.nd (.lst true) [.v (.int (Txt.count (mkRow w f) (bit false))), .v (.int (Txt.count (mkRow w f) (bit true)))], [a, .v (.str "01"), b, .v (.str (mkRow w f)), .un]) := by
  have hi : dIt (dn 1) [a, .v (.str "01"), b, .v (.str (mkRow w f)), c] = .ok ((.v (.str "01"), [false, true].map fun x => D.str (bit x)), [a, .v (.str "01"), b, .v (.str (mkRow w f)), c]) := by
    simp [dIt, D.items, s01, bit]
  unfold co_rows_fit_1
  refine lc_it (F := fun x => D.int (Txt.count (mkRow w f) (bit x))) hi (by rfl) (by rfl) (by decide) rfl (fun k _ => ⟨[a, .v (.str "01"), b, .v (.str (mkRow w f)), .v (.str (bit k))], [a, .v (.str "01"), b, .v (.str (mkRow w f)), .v (.str (bit k))], rfl, rfl, ?_, rfl, rfl⟩)
  simp [ce_rows_fit_1, scountD]
theorem rows_fit {C : Addr} {k : NK} {h w : Nat} {f : Nat → Nat → Bool} (hk : k = .tup ∨ k = .lst false) (h0 : 1 ≤ h) (h1 : h ≤ 60) (w0 : 1 ≤ w) (w1 : w ≤ 60) :
    D_rows_fit C [.nd k (rowsD h w f), .v (.str "01"), .v (.int 60)] = .ok (.v (.bl true), []) := by
  have inv := forL_inv (g := gdN 3) (body := fb_rows_fit_1 C)
    (fun ys s => ∃ a b, s = [.nd k (rowsD h w f), .v (.str "01"), .v (.int 60), a, b] ∧ ∀ y ∈ ys, ∃ i, y = .v (.str (mkRow w (f i)))) ?_
    (rowsD h w f) [.nd k (rowsD h w f), .v (.str "01"), .v (.int 60), .un, .un] ⟨.un, .un, rfl, fun y m => by
      simp only [rowsD_map, List.mem_map, List.mem_range] at m
      obtain ⟨i, _, rfl⟩ := m; exact ⟨i, rfl⟩⟩
  · obtain ⟨s', e, a, b, rfl, _⟩ := inv
    have hO : D.hass NK.isOwn (rowsD h w f) = false := rowsHas
    have hlen : lenD (.nd k (rowsD h w f)) = some (.v (.int h)) := by rcases hk with rfl | rfl; exact len_rowsT; exact len_rows
    have hisi : isiD (isaT C) [C] [.nd k (rowsD h w f), .nd .tup [.v (.ty "list"), .v (.ty "tuple")]] = some (.v (.bl true)) := by
      rcases hk with rfl | rfl; exact isi_seqT; exact isi_seqL
    have hit : (D.nd k (rowsD h w f)).items = some (rowsD h w f) := by rcases hk with rfl | rfl <;> rfl
    have hko : k.isOwn = false := by rcases hk with rfl | rfl <;> rfl
    have ef : fo_rows_fit_1 C [.nd k (rowsD h w f), .v (.str "01"), .v (.int 60), .un, .un] = .nx [.nd k (rowsD h w f), .v (.str "01"), .v (.int 60), a, b] := by
      unfold fo_rows_fit_1 sFor
      simp [dIt, hit, hO, hko, e]
    have h0' : (1 : Int) ≤ h := by omega
    have h1' : (h : Int) ≤ 60 := by omega
    have z2 : 2 ≤ sizeLine := by rw [sizeLine_eq]; decide
    simp [D_rows_fit, b_rows_fit, if_rows_fit_1, ef, hisi, hlen, in_range, h0', h1', hko, hO, z2]
  · rintro y r s ⟨a, b, rfl, h2⟩
    obtain ⟨i, rfl⟩ := h2 y List.mem_cons_self
    have hlen := len_row (w := w) (f := f i) (by omega)
    have w0' : (1 : Int) ≤ w := by omega
    have w1' : (w : Int) ≤ 60 := by omega
    refine ⟨_, [.nd k (rowsD h w f), .v (.str "01"), .v (.int 60), .v (.str (mkRow w (f i))), .un], rfl, .inl ?_, _, _, rfl, fun y m => h2 y (List.mem_cons_of_mem _ m)⟩
    have g0 : ixD (.nd k (rowsD h w f)) (.v (.int 0)) = some (.v (.str (mkRow w (f 0)))) := by
      rcases hk with rfl | rfl
      · rw [VS.ix_tup (by decide)]; exact rowsD_get h0
      · rw [ix_lst (by decide)]; exact rowsD_get h0
    have hlen0 := len_row (w := w) (f := f 0) (by omega)
    have cs := count_sum (mkRow_bits w (f i))
    rw [mkRow_len] at cs
    have sm : sumD (.nd (.lst true) [.v (.int (Txt.count (mkRow w (f i)) (bit false))), .v (.int (Txt.count (mkRow w (f i)) (bit true)))]) = some (.v (.int w)) := by
      have : [D.v (.int (Txt.count (mkRow w (f i)) (bit false))), D.v (.int (Txt.count (mkRow w (f i)) (bit true)))] = [Txt.count (mkRow w (f i)) (bit false), Txt.count (mkRow w (f i)) (bit true)].map D.int := rfl
      simp only [sumD, D.lstI, this, VS.ints_map]
      simp [cs]
    have hko : k.isOwn = false := by rcases hk with rfl | rfl <;> rfl
    have hO : D.hass NK.isOwn (rowsD h w f) = false := rowsHas
    simp [fb_rows_fit_1, if_rows_fit_2, if_rows_fit_3, isi_str, hlen, in_range, w0', w1', g0, hlen0, signs_co w1, -u_sumD_1, sm, hko, hO]
@[simp] theorem nm_rows_picks : (Str.ofString "rows" = Str.ofString "picks") = False := by decide +kernel
@[simp] theorem nm_rows_ends : (Str.ofString "rows" = Str.ofString "ends") = False := by decide +kernel
@[simp] theorem nm_picks_rows : (Str.ofString "picks" = Str.ofString "rows") = False := by decide +kernel
@[simp] theorem nm_picks_ends : (Str.ofString "picks" = Str.ofString "ends") = False := by decide +kernel
@[simp] theorem nm_ends_rows : (Str.ofString "ends" = Str.ofString "rows") = False := by decide +kernel
@[simp] theorem nm_ends_picks : (Str.ofString "ends" = Str.ofString "picks") = False := by decide +kernel
/-- a cloth -/
abbrev clothD (C : Addr) (h w : Nat) (f : Nat → Nat → Bool) : D := .nd (.ins C ["rows", "picks", "ends"]) [.nd .tup (rowsD h w f), .v (.int h), .v (.int w)]
theorem clothHas {q : NK → Bool} {C : Addr} {h w : Nat} {f : Nat → Nat → Bool} (h1 : q (.ins C ["rows", "picks", "ends"]) = false) (h2 : q .tup = false) : (clothD C h w f).has q = false := by
  simp [rowsHas, h1, h2]
structure Dim (h w : Nat) : Prop where
  h0 : 1 ≤ h
  h1 : h ≤ 60
  w0 : 1 ≤ w
  w1 : w ≤ 60
theorem init {C : Addr} {k : NK} {h w : Nat} {f : Nat → Nat → Bool} (hk : k = .tup ∨ k = .lst false) (d : Dim h w) :
    D_Cloth___init__ C [.nd (.obj true C []) [], .nd k (rowsD h w f)] = .ok (.v .non, [.nd (.obj true C ["rows", "picks", "ends"]) [.nd .tup (rowsD h w f), .v (.int h), .v (.int w)]]) := by
  obtain ⟨h0, h1, w0, w1⟩ := d
  have rf := rows_fit (C := C) (f := f) hk h0 h1 w0 w1
  have tp : tupD (.nd k (rowsD h w f)) = some (.nd .tup (rowsD h w f)) := by rcases hk with rfl | rfl <;> simp [tupD, rowsHas]
  have hko : k.isOwn = false := by rcases hk with rfl | rfl <;> rfl
  have hkf : k.fz = k := by rcases hk with rfl | rfl <;> rfl
  have lt := len_rowsT (h := h) (w := w) (f := f)
  have lr := len_row (w := w) (f := f 0) (by omega)
  have g0 : ixD (.nd .tup (rowsD h w f)) (.v (.int 0)) = some (.v (.str (mkRow w (f 0)))) := by rw [VS.ix_tup (by decide)]; exact rowsD_get h0
  have O := rowsHas (q := NK.isOwn) (h := h) (w := w) (f := f)
  have F := rowsFz (h := h) (w := w) (f := f)
  rcases hk with rfl | rfl <;> simp [D_Cloth___init__, b_Cloth___init__, if_Cloth___init___1, rf, hko, O, F, hkf, sFldD, tp, objAt, putFD, dFld, fldD, D.inst, fIx, lt, g0, lr]
theorem make {C : Addr} {k : NK} {h w : Nat} {f : Nat → Nat → Bool} {m : Md} {de : E} {s s' : List D} (hk : k = .tup ∨ k = .lst false) (d : Dim h w) (e : de s = .ok (.nd k (rowsD h w f), s')) :
    dMake true C (D_Cloth___init__ C) [.val m] (dCval m [] de dCnil) s = .ok (clothD C h w f, s') := by
  have hko : k.isOwn = false := by rcases hk with rfl | rfl <;> rfl
  have hks : k.isShr = false ∨ k.isShr = true := by cases k.isShr <;> simp
  have hkf : k.fz = k := by rcases hk with rfl | rfl <;> rfl
  have O := rowsHas (q := NK.isOwn) (h := h) (w := w) (f := f)
  have Sh := rowsHas (q := NK.isShr) (h := h) (w := w) (f := f)
  have F := rowsFz (h := h) (w := w) (f := f)
  have i := init (C := C) (f := f) hk d
  rcases hk with rfl | rfl <;> cases m <;> simp [dMake, e, O, F, i, convD, valFree, Sh]
theorem makeO {C : Addr} {m : Md} {h w : Nat} {f : Nat → Nat → Bool} {de : E} {s s' : List D} (d : Dim h w) (e : de s = .ok (.nd (.lst true) (rowsD h w f), s')) :
    dMake true C (D_Cloth___init__ C) [.val m] (dCval m [] de dCnil) s = .ok (clothD C h w f, s') := by
  have i := init (C := C) (f := f) (.inr rfl) d
  cases m <;> simp [dMake, e, i, convD, valFree]
theorem emod_rng {i : Int} {n : Nat} (h : 1 ≤ n) : 0 ≤ i % (n : Int) ∧ i % (n : Int) < n := ⟨Int.emod_nonneg _ (by omega), Int.emod_lt_of_pos _ (by omega)⟩
theorem bit_eq1 (b : Bool) : decide (bit b = "1") = b := by rw [s1]; cases b <;> decide
theorem start {ns : List Int} (hn : ns.length ≤ 63) : ∃ L, D__law_start [.nd .scr (ns.map D.int)] = .ok (stN L, []) ∧ St 0 (stN L) ∧ D.hass NK.isShr L = false := by
  have sl : slD (.nd .scr (ns.map D.int)) none (some 63) = some (.nd (.lst true) (ns.map D.int)) := by
    unfold slD
    simp only [has_ints, if_true]
    rw [show (63 : Int) = ((63 : Nat) : Int) from rfl, cutL_to, List.take_of_length_le (by simpa using hn)]
  have inv := forL_inv (g := gdN 2) (body := fb__law_start_1)
    (fun ys s => ∃ (sd : Int) (a : D), s = [.nd .scr (ns.map D.int), .v (.int sd), a] ∧ 0 ≤ sd ∧ sd < 2147483647 ∧ ∀ y ∈ ys, ∃ k : Int, y = .v (.int k)) ?_
    (ns.map D.int) [.nd .scr (ns.map D.int), .v (.int 7), .un] ⟨7, .un, rfl, by decide, by decide, fun y m => by obtain ⟨k, _, rfl⟩ := List.mem_map.mp m; exact ⟨k, rfl⟩⟩
  · obtain ⟨s', e, sd, a, rfl, s0, s1, _⟩ := inv
    have ef : fo__law_start_1 [.nd .scr (ns.map D.int), .v (.int 7), .un] = .nx [.nd .scr (ns.map D.int), .v (.int sd), a] := by
      unfold fo__law_start_1
      rw [for_it (x := .nd (.lst true) (ns.map D.int)) (xs := ns.map D.int) (s1 := [.nd .scr (ns.map D.int), .v (.int 7), .un]) (by simp [dIt, fS01, sl, D.items]) rfl (has_ints _ _), e]
    have z5 : 5 ≤ sizeLine := by rw [sizeLine_eq]; decide
    refine ⟨_, ?_, ⟨ns, 0, 1, sd, 0, rfl, ⟨by decide, by decide, by decide, s0, s1⟩⟩, by simp [has_ints]⟩
    simp [D__law_start, b__law_start, ef, fS01, sl, listD, has_ints, chkT, z5]
  · rintro y r s ⟨sd, a, rfl, s0, s1, h2⟩
    obtain ⟨k, rfl⟩ := h2 y List.mem_cons_self
    have m1 := oMul_s (i := sd) (j := 31) (by omega) (by omega) (by omega) (by omega)
    have q1 := oMod_s (i := k) (j := 1000003) (by decide)
    have q2 := oMod_s (i := sd * 31 + k % 1000003 + 5) (j := 2147483647) (by decide)
    refine ⟨_, [.nd .scr (ns.map D.int), .v (.int ((sd * 31 + k % 1000003 + 5) % 2147483647)), .v (.int k)], rfl, .inl ?_, _, _, rfl, Int.emod_nonneg _ (by decide), Int.emod_lt_of_pos _ (by decide), fun y m => h2 y (List.mem_cons_of_mem _ m)⟩
    unfold fb__law_start_1
    generalize oMul = OM at *
    generalize oMod = OO at *
    simp [m1, q1, q2]
structure Cl where
  h : Nat
  w : Nat
  f : Nat → Nat → Bool
  d : Dim h w
def dueD (o : Bool) (c : Cl) : D := .nd (.lst o) (rowsD c.h c.w c.f)
def cloD (C : Addr) (c : Cl) : D := clothD C c.h c.w c.f
theorem dues_has {q : NK → Bool} (hq : q (.lst true) = false) : ∀ l : List Cl, D.hass q (l.map (dueD true)) = false
  | [] => rfl
  | c :: r => by rw [List.map_cons, D.hass, dues_has hq r]; simp [dueD, hq]
theorem clos_has {q : NK → Bool} {C : Addr} (h1 : q (.ins C ["rows", "picks", "ends"]) = false) (h2 : q .tup = false) : ∀ l : List Cl, D.hass q (l.map (cloD C)) = false
  | [] => rfl
  | c :: r => by rw [List.map_cons, D.hass, clos_has h1 h2 r]; unfold cloD; rw [clothHas h1 h2]; rfl
theorem get_map {α : Type} {f : α → D} {l : List α} {k : Nat} {a : α} (h : l[k]? = some a) : (l.map f)[k]? = some (f a) := by rw [List.getElem?_map, h]; rfl
theorem someR {N : Nat} {L : List D} {most : Int} (hN : N + 2000000 < BIG) (hx : St N (stN L)) (m0 : 1 ≤ most) (m1 : most ≤ 60) :
    ∃ (c : Cl) (L' : List D), D__law_some_rows [stN L, .v (.int most)] = .ok (dueD true c, [stN L']) ∧ St (N + 2000000) (stN L') ∧ D.hass NK.isShr L' = false := by
  obtain ⟨rows, x', e, R, hx'⟩ := some_rows hN hx m0 m1
  obtain ⟨L', rfl, hL⟩ := hx'.nd
  obtain ⟨h0, h1, w, w0, w1, a⟩ := R
  obtain ⟨f, ef⟩ := rowsD_eq a
  exact ⟨⟨rows.length, w, f, ⟨h0, h1, w0, w1⟩⟩, L', by rw [e, ef]; rfl, hx', hL⟩
theorem sideR {N : Nat} {L : List D} {most : Int} (hN : N + 2 < BIG) (hx : St N (stN L)) (m0 : 1 ≤ most) (m1 : most ≤ 60) :
    ∃ (d : Nat) (L' : List D), D__law_side [stN L, .v (.int most)] = .ok (.v (.int d), [stN L']) ∧ 1 ≤ d ∧ d ≤ 60 ∧ St (N + 2) (stN L') ∧ D.hass NK.isShr L' = false := by
  obtain ⟨d, x', e, d0, d1, hx'⟩ := side hN hx m0 (by omega)
  obtain ⟨L', rfl, hL⟩ := hx'.nd
  exact ⟨d.toNat, L', by rw [e, show ((d.toNat : Nat) : Int) = d by omega], by omega, by omega, hx', hL⟩
theorem due_shr {c : Cl} : (dueD true c).has NK.isShr = false := by simp [dueD]
end Wk34
namespace Wk34
open PySem PySem.Spec PyProof.Rows L2 VS
/-! ### periods -/
def Rr (h w : Nat) (f : Nat → Nat → Bool) (n : Nat) : Prop := ∀ i j, i < h → j < w → f ((n + i) % h) j = f i j
def Ar (h w : Nat) (f : Nat → Nat → Bool) (d : Nat) : Prop := d ∣ h ∧ ∀ i j, i < h → j < w → f (i % d) j = f i j
noncomputable instance (h w : Nat) (f : Nat → Nat → Bool) (n : Nat) : Decidable (Rr h w f n) := Classical.propDecidable _
noncomputable instance (h w : Nat) (f : Nat → Nat → Bool) (n : Nat) : Decidable (Ar h w f n) := Classical.propDecidable _
theorem mk_eq_iff {h w : Nat} {f g : Nat → Nat → Bool} : mk h w f = mk h w g ↔ ∀ i j, i < h → j < w → f i j = g i j := ⟨mk_inj, mk_congr⟩
theorem Rr.all {h w : Nat} {f : Nat → Nat → Bool} (hh : 1 ≤ h) : Rr h w f h := fun i j hi hj => by rw [Nat.add_mod_left, Nat.mod_eq_of_lt hi]
theorem Rr.add {h w : Nat} {f : Nat → Nat → Bool} {a b : Nat} (hh : 1 ≤ h) (ha : Rr h w f a) (hb : Rr h w f b) : Rr h w f (a + b) := fun i j hi hj => by
  have := ha ((b + i) % h) j (Nat.mod_lt _ hh) hj
  rw [Nat.add_mod_mod] at this
  rw [Nat.add_assoc, this, hb i j hi hj]
theorem Rr.mul {h w : Nat} {f : Nat → Nat → Bool} {a : Nat} (hh : 1 ≤ h) (ha : Rr h w f a) : ∀ k, Rr h w f (k * a)
  | 0 => fun i j hi hj => by rw [Nat.zero_mul, Nat.zero_add, Nat.mod_eq_of_lt hi]
  | k + 1 => by rw [Nat.add_mul, Nat.one_mul]; exact Rr.add hh (Rr.mul hh ha k) ha
theorem Rr.sub {h w : Nat} {f : Nat → Nat → Bool} {a b : Nat} (hh : 1 ≤ h) (hab : Rr h w f (a + b)) (ha : Rr h w f a) : Rr h w f b := fun i j hi hj => by
  have e1 := ha ((b + i) % h) j (Nat.mod_lt _ hh) hj
  rw [Nat.add_mod_mod, ← Nat.add_assoc] at e1
  rw [← e1, hab i j hi hj]
theorem Ar.rr {h w d : Nat} {f : Nat → Nat → Bool} (hh : 1 ≤ h) (a : Ar h w f d) : Rr h w f d := fun i j hi hj => by
  obtain ⟨q, rfl⟩ := a.1
  rw [← a.2 _ j (Nat.mod_lt _ hh) hj, Nat.mod_mul_right_mod, Nat.add_mod_left]
  exact a.2 i j hi hj
/-- the least -/
structure Per (h w : Nat) (f : Nat → Nat → Bool) (n : Nat) : Prop where
  n0 : 1 ≤ n
  n1 : n ≤ h
  r : Rr h w f n
  least : ∀ m, 1 ≤ m → m < n → ¬ Rr h w f m
theorem Per.ar {h w n : Nat} {f : Nat → Nat → Bool} (hh : 1 ≤ h) (p : Per h w f n) : Ar h w f n := by
  have hd : n ∣ h := by
    by_cases h0 : h % n = 0
    · exact Nat.dvd_of_mod_eq_zero h0
    · exfalso
      refine p.least (h % n) (by omega) (Nat.mod_lt _ p.n0) ?_
      refine Rr.sub (a := h / n * n) hh ?_ (Rr.mul hh p.r _)
      rw [Nat.div_add_mod']
      exact Rr.all hh
  refine ⟨hd, fun i j hi hj => ?_⟩
  have := Rr.mul hh p.r (i / n) (i % n) j (Nat.lt_of_le_of_lt (Nat.mod_le _ _) hi) hj
  rw [Nat.div_add_mod', Nat.mod_eq_of_lt hi] at this
  exact this.symm
theorem Per.uniq {h w n m : Nat} {f : Nat → Nat → Bool} (p : Per h w f n) (q : Per h w f m) : n = m := by
  by_cases h1 : n < m
  · exact absurd p.r (q.least n p.n0 h1)
  · by_cases h2 : m < n
    · exact absurd q.r (p.least m q.n0 h2)
    · omega
theorem Per.of_ar {h w d : Nat} {f : Nat → Nat → Bool} (hh : 1 ≤ h) (d0 : 1 ≤ d) (d1 : d ≤ h) (a : Ar h w f d) (l : ∀ m, 1 ≤ m → m < d → ¬ Ar h w f m) : Per h w f d := by
  have ex : ∃ n, Per h w f n := by
    have : ∀ k n, n + k = h → (∀ m, 1 ≤ m → m < n → ¬ Rr h w f m) → 1 ≤ n → ∃ n, Per h w f n := by
      intro k
      induction k with
      | zero => intro n e hl h1; exact ⟨n, h1, by omega, by rw [show n = h by omega]; exact Rr.all hh, hl⟩
      | succ k ih =>
        intro n e hl h1
        by_cases hr : Rr h w f n
        · exact ⟨n, h1, by omega, hr, hl⟩
        · refine ih (n + 1) (by omega) (fun m m0 m1 => ?_) (by omega)
          by_cases q : m = n
          · rw [q]; exact hr
          · exact hl m m0 (by omega)
    exact this (h - 1) 1 (by omega) (fun m m0 m1 => by omega) (Nat.le_refl _)
  obtain ⟨n, p⟩ := ex
  have : n = d := by
    by_cases h1 : n < d
    · exact absurd (p.ar hh) (l n p.n0 h1)
    · by_cases h2 : d < n
      · exact absurd (a.rr hh) (p.least d d0 h2)
      · omega
  rw [← this]; exact p
theorem pre_range {n : Nat} {pre post : List Nat} {a : Nat} (h : List.range n = pre ++ a :: post) : a = pre.length ∧ pre = List.range a ∧ a < n := by
  have hl : pre.length < n := by
    have := congrArg List.length h
    rw [List.length_range, List.length_append, List.length_cons] at this
    omega
  have ha : a = pre.length := by
    have : (List.range n)[pre.length]? = some a := by rw [h, List.getElem?_append_right (Nat.le_refl _), Nat.sub_self]; rfl
    rw [List.getElem?_range hl] at this
    exact (Option.some.inj this).symm
  refine ⟨ha, ?_, by omega⟩
  have := congrArg (List.take pre.length) h
  rw [List.take_left, List.take_range] at this
  rw [Nat.min_eq_left (by omega)] at this
  rw [ha, this]
/-- the program's period -/
theorem period {k : NK} {h w : Nat} {f : Nat → Nat → Bool} (hk : k = .tup ∨ k = .lst false) (h0 : 1 ≤ h) (h1 : h ≤ 1000) : ∃ n, D_period [.nd k (rowsD h w f)] = .ok (.v (.int (n : Nat)), []) ∧ Per h w f n := by
  have hlen : lenD (.nd k (rowsD h w f)) = some (.v (.int h)) := by rcases hk with rfl | rfl; exact len_rowsT; exact len_rows
  have hsl1 : ∀ n : Nat, slD (.nd k (rowsD h w f)) (some (n : Int)) none = some (.nd (if k = .tup then .tup else .lst true) ((rowsD h w f).drop n)) := fun n => by
    rcases hk with rfl | rfl <;> simp [slD, cutL_from]
  have hsl2 : ∀ n : Nat, slD (.nd k (rowsD h w f)) none (some (n : Int)) = some (.nd (if k = .tup then .tup else .lst true) ((rowsD h w f).take n)) := fun n => by
    rcases hk with rfl | rfl <;> simp [slD, cutL_to]
  have hko : k.isOwn = false := by rcases hk with rfl | rfl <;> rfl
  have cat : ∀ n, n ≤ h → oAdd (.nd (if k = .tup then .tup else .lst true) ((rowsD h w f).drop n)) (.nd (if k = .tup then .tup else .lst true) ((rowsD h w f).take n)) = some (.nd (if k = .tup then .tup else .lst true) (rowsD h w fun i => f ((n + i) % h))) := fun n hn => by
    have hz : (h - n) + n ≤ sizeLine := by rw [sizeLine_eq]; omega
    have e := rows_rot (w := w) (f := f) hn
    have o1 : D.hass NK.isOwn ((rowsD h w f).drop n) = false := by rw [rows_drop]; exact rowsHas
    have o2 : D.hass NK.isOwn ((rowsD h w f).take n) = false := by rw [rows_take hn]; exact rowsHas
    rcases hk with rfl | rfl <;> simp [e, o1, o2, Nat.min_eq_left hn, hz]
  have eqs : ∀ n, eqD (.nd (if k = .tup then .tup else .lst true) (rowsD h w fun i => f ((n + i) % h))) (.nd k (rowsD h w f)) = some (decide (Rr h w f n)) := fun n => by
    have : (mk h w (fun i => f ((n + i) % h)) = mk h w f) ↔ Rr h w f n := mk_eq_iff
    rcases hk with rfl | rfl
    · rw [if_pos rfl, eqD_rowsT]; congr 1; exact decide_eq_decide.mpr this
    · rw [if_neg (by decide), eqD_rows]; congr 1; exact decide_eq_decide.mpr this
  have hown : (if k = .tup then NK.tup else NK.lst true).isOwn = true ∨ (if k = .tup then NK.tup else NK.lst true).isOwn = false := by
    cases (if k = .tup then NK.tup else NK.lst true).isOwn <;> simp
  generalize hkk : (if k = .tup then NK.tup else NK.lst true) = kk at *
  have st : ∀ a ∈ List.range (h - 1), ∀ s, (∃ y, s = [.nd k (rowsD h w f), y]) → ∃ s1, gdN 1 (D.int (1 + (a : Int))) s = some s1 ∧
      ((decide (Rr h w f (1 + a)) = true ∧ ∃ s2, fb_period_1 s1 = .rt (D.int (1 + (a : Int))) s2 ∧ True) ∨ (decide (Rr h w f (1 + a)) = false ∧ ∃ s2, fb_period_1 s1 = .nx s2 ∧ ∃ y, s2 = [.nd k (rowsD h w f), y])) := by
    rintro a ma s ⟨y, rfl⟩
    have ha := List.mem_range.mp ma
    refine ⟨_, rfl, ?_⟩
    have c := cat (1 + a) (by omega)
    have q := eqs (1 + a)
    have s1 := hsl1 (1 + a)
    have s2 := hsl2 (1 + a)
    rw [show ((1 + a : Nat) : Int) = 1 + (a : Int) by omega] at s1 s2
    generalize (1 + a : Nat) = n at *
    generalize (1 + (a : Int)) = ni at *
    cases hr : decide (Rr h w f n)
    · refine .inr ⟨rfl, [.nd k (rowsD h w f), .v (.int ni)], ?_, _, rfl⟩
      rw [hr] at q
      unfold fb_period_1 if_period_1
      generalize oAdd = OA at *
      simp [fS10, fS01, s1, s2, hko, c, q]
    · refine .inl ⟨rfl, [.nd k (rowsD h w f), .v (.int ni)], ?_, trivial⟩
      rw [hr] at q
      unfold fb_period_1 if_period_1
      generalize oAdd = OA at *
      simp [fS10, fS01, s1, s2, hko, c, q]
  have rg : fo_period_1 [.nd k (rowsD h w f), .un] = forL (gdN 1) fb_period_1 ((List.range (h - 1)).map fun (k : Nat) => D.int (1 + (k : Int))) [.nd k (rowsD h w f), .un] := by
    unfold fo_period_1
    exact for_it (rg2_one (b := h) (by simp [hlen, hko]) (by omega)) rfl (by
      rw [D.hass_any]
      refine List.any_eq_false.mpr fun y m => ?_
      obtain ⟨k, _, rfl⟩ := List.mem_map.mp m
      simp)
  rcases forL_find (g := gdN 1) (body := fb_period_1) (enc := fun k : Nat => D.int (1 + (k : Int))) (fun a => decide (Rr h w f (1 + a))) (fun k : Nat => D.int (1 + (k : Int))) (fun s => ∃ y, s = [.nd k (rowsD h w f), y]) (fun _ _ => True) (List.range (h - 1)) [.nd k (rowsD h w f), .un] ⟨_, rfl⟩ st with
    ⟨pre, a, post, s2, q1, q2, q3, q4, _⟩ | ⟨q1, s2, q2, y, rfl⟩
  · obtain ⟨z1, z2, z3⟩ := pre_range q1
    refine ⟨1 + a, ?_, ⟨by omega, by omega, of_decide_eq_true q3, fun m m0 m1 => ?_⟩⟩
    · simp [D_period, b_period, rg, q4]
    · have := q2 (m - 1) (by rw [z2]; exact List.mem_range.mpr (by omega))
      rw [show 1 + (m - 1) = m by omega] at this
      exact of_decide_eq_false this
  · refine ⟨h, ?_, ⟨h0, Nat.le_refl _, Rr.all h0, fun m m0 m1 => ?_⟩⟩
    · simp [D_period, b_period, rg, q2, hlen, hko]
    · have := q1 (m - 1) (List.mem_range.mpr (by omega))
      rw [show 1 + (m - 1) = m by omega] at this
      exact of_decide_eq_false this
end Wk34
namespace Wk34
open PySem PySem.Spec PyProof.Rows L2 VS
/-- the signs of one end -/
theorem column {C : Addr} {h w : Nat} {f : Nat → Nat → Bool} (d : Dim h w) {j : Nat} (hj : j < w) : D_column C [clothD C h w f, .v (.int j)] = .ok (.v (.str (mkRow h fun i => f i j)), []) := by
  obtain ⟨h0, h1, w0, w1⟩ := d
  have co : co_column_1 C [clothD C h w f, .v (.int j), .un] = .ok (.nd (.lst true) ((List.range h).map fun i => D.str (bit (f i j))), [clothD C h w f, .v (.int j), .un]) := by
    unfold co_column_1
    refine lc_it (l := List.range h) (enc := fun i => D.str (mkRow w (f i))) (x := .nd .tup (rowsD h w f)) (s1 := [clothD C h w f, .v (.int j), .un]) (by simp [dIt, D.items, dFld, fldD, D.inst, fIx, rowsD_map]) rfl (by rw [← rowsD_map]; exact rowsHas) (by simp; omega) rfl fun i mi => ⟨[clothD C h w f, .v (.int j), .v (.str (mkRow w (f i)))], [clothD C h w f, .v (.int j), .v (.str (mkRow w (f i)))], rfl, rfl, ?_, rfl, rfl⟩
    have x := ix_row (w := w) (f := f i) (j := (j : Int)) (by omega) (by omega) (by omega)
    rw [Int.toNat_natCast] at x
    simp [ce_column_1, x]
  simp [D_column, b_column, co, join_range (show h ≤ 1000 by omega)]
theorem least_repeat {C : Addr} {h w : Nat} {f : Nat → Nat → Bool} (d : Dim h w) : ∃ a b, Per h w f a ∧ Per w h (fun j i => f i j) b ∧ D_least_repeat C [clothD C h w f] = .ok (clothD C a b f, []) := by
  obtain ⟨h0, h1, w0, w1⟩ := id d
  obtain ⟨a, ea, pa⟩ := period (k := .tup) (f := f) (w := w) (.inl rfl) h0 (by omega)
  obtain ⟨b, eb, pb⟩ := period (k := .lst false) (f := fun j i => f i j) (w := h) (.inr rfl) w0 (by omega)
  refine ⟨a, b, pa, pb, ?_⟩
  have c1 : ∀ y, co_least_repeat_1 C [clothD C h w f, .v (.int a), .un, .un, y] = .ok (.nd (.lst true) (rowsD w h fun j i => f i j), [clothD C h w f, .v (.int a), .un, .un, y]) := fun y => by
    unfold co_least_repeat_1
    rw [rowsD_map w h]
    refine lc_range (n := w) (s1 := [clothD C h w f, .v (.int a), .un, .un, y]) (rg1_nat (by simp [dFld, fldD, D.inst, fIx]) (by omega)) (by omega) rfl fun j hj => ⟨[clothD C h w f, .v (.int a), .un, .v (.int j), y], [clothD C h w f, .v (.int a), .un, .v (.int j), y], rfl, rfl, ?_, rfl, rfl⟩
    have := column (C := C) (f := f) d hj
    simp [ce_least_repeat_1, this]
  have sl : slD (.nd .tup (rowsD h w f)) none (some (a : Int)) = some (.nd .tup (rowsD a w f)) := by
    simp only [slD, rowsHas, if_true, cutL_to]
    rw [rows_take pa.n1]
  have c2 : ∀ y, co_least_repeat_2 C [clothD C h w f, .v (.int a), .v (.int b), y, .un] = .ok (.nd (.lst true) (rowsD a b f), [clothD C h w f, .v (.int a), .v (.int b), y, .un]) := fun y => by
    unfold co_least_repeat_2
    rw [rowsD_map a b]
    refine lc_it (l := List.range a) (enc := fun i => D.str (mkRow w (f i))) (x := .nd .tup (rowsD a w f)) (s1 := [clothD C h w f, .v (.int a), .v (.int b), y, .un]) (by simp [dIt, D.items, dFld, fldD, D.inst, fIx, fS01, sl, rowsD_map a w]) rfl (by rw [← rowsD_map]; exact rowsHas) (by simp; have := pa.n1; omega) rfl fun i mi => ⟨[clothD C h w f, .v (.int a), .v (.int b), y, .v (.str (mkRow w (f i)))], [clothD C h w f, .v (.int a), .v (.int b), y, .v (.str (mkRow w (f i)))], rfl, rfl, ?_, rfl, rfl⟩
    have := row_take (f := f i) pb.n1
    have hz : (mkRow w (f i)).length ≤ sizeLine := by rw [mkRow_len, sizeLine_eq]; omega
    simp [ce_least_repeat_2, fS01, slD, hz, this]
  have mk := makeO (C := C) (m := .tmp) (f := f) (h := a) (w := b) ⟨pa.n0, by have := pa.n1; omega, pb.n0, by have := pb.n1; omega⟩ (c2 .un)
  simp [D_least_repeat, b_least_repeat, dFld, fldD, D.inst, fIx, ea, c1, eb, mk]
end Wk34
namespace Wk34
/-! ### cyclic sequences and their mirrors -/
section
variable {α : Type} {x : Int → α} {p : Nat}
structure Cyc (x : Int → α) (p : Nat) : Prop where
  p0 : 1 ≤ p
  per : ∀ i, x (i + p) = x i
  min : ∀ q : Nat, 1 ≤ q → q < p → ¬ ∀ i, x (i + q) = x i
def Mir (x : Int → α) (m : Int) : Prop := ∀ d, x (m - d) = x (m + d)
theorem per_nat {q : Int} (h : ∀ i, x (i + q) = x i) (i : Int) : ∀ k : Nat, x (i + k * q) = x i
  | 0 => by rw [show ((0 : Nat) : Int) * q = 0 by simp, Int.add_zero]
  | k + 1 => by
    rw [show i + ((k + 1 : Nat) : Int) * q = (i + k * q) + q by rw [show ((k + 1 : Nat) : Int) = (k : Int) + 1 from rfl, Int.add_mul]; omega, h, per_nat h i k]
theorem per_mul {q : Int} (h : ∀ i, x (i + q) = x i) (k i : Int) : x (i + k * q) = x i := by
  rcases Int.le_total 0 k with hk | hk
  · have := per_nat h i k.toNat
    rwa [Int.toNat_of_nonneg hk] at this
  · have := per_nat h (i + k * q) (-k).toNat
    rw [Int.toNat_of_nonneg (by omega), Int.neg_mul, show i + k * q + -(k * q) = i by omega] at this
    exact this.symm
theorem per_dvd {q : Int} (h : ∀ i, x (i + q) = x i) {i j : Int} (e : q ∣ i - j) : x i = x j := by
  obtain ⟨k, hk⟩ := e
  have := per_mul h k j
  rw [Int.mul_comm, ← hk, show j + (i - j) = i by omega] at this
  exact this
theorem Cyc.emod (c : Cyc x p) (i : Int) : x (i % p) = x i :=
  per_dvd c.per ⟨-(i / p), by have := Int.mul_ediv_add_emod i p; rw [Int.mul_neg]; omega⟩
theorem Cyc.dvd (c : Cyc x p) {q : Nat} (h : ∀ i, x (i + q) = x i) : p ∣ q := by
  have p0 := c.p0
  rcases Nat.eq_zero_or_pos (q % p) with z | z
  · exact Nat.dvd_of_mod_eq_zero z
  · refine absurd (fun i => ?_) (c.min (q % p) z (Nat.mod_lt _ (by omega)))
    rw [← h i]
    refine per_dvd c.per ⟨-((q / p : Nat) : Int), ?_⟩
    have e := Nat.div_add_mod q p
    have e2 : ((p * (q / p) : Nat) : Int) + ((q % p : Nat) : Int) = (q : Int) := by omega
    rw [Int.natCast_mul] at e2
    rw [Int.mul_neg]; omega
def lagZ (n : Nat) (y : Int) : Int := if n = 1 then 0 else min (y % (2 * n - 2)) (2 * n - 2 - y % (2 * n - 2))
def Sh (x : Int → α) (n : Nat) (s : Int) : Prop := ∀ t t' : Int, lagZ n (s + t) = lagZ n (s + t') → x t = x t'
theorem lag_iff {P y y' : Int} (hP : 0 < P) : min (y % P) (P - y % P) = min (y' % P) (P - y' % P) ↔ y % P = y' % P ∨ (y + y') % P = 0 := by
  have a0 := Int.emod_nonneg y (show P ≠ 0 by omega)
  have a1 := Int.emod_lt_of_pos y hP
  have b0 := Int.emod_nonneg y' (show P ≠ 0 by omega)
  have b1 := Int.emod_lt_of_pos y' hP
  have e : (y + y') % P = (y % P + y' % P) % P := Int.add_emod y y' P
  have e2 : (y % P + y' % P) % P = if y % P + y' % P < P then y % P + y' % P else y % P + y' % P - P := by
    by_cases h : y % P + y' % P < P
    · rw [if_pos h, Int.emod_eq_of_lt (by omega) h]
    · rw [if_neg h, ← Int.sub_emod_right, Int.emod_eq_of_lt (by omega) (by omega)]
  rw [e, e2]
  generalize y % P = r at *
  generalize y' % P = r' at *
  omega
theorem sh1 {s : Int} : Sh x 1 s ↔ ∀ t t', x t = x t' := ⟨fun h t t' => h t t' (by simp [lagZ]), fun h t t' _ => h t t'⟩
theorem Cyc.one (c : Cyc x p) : (∀ t t', x t = x t') ↔ p = 1 := by
  constructor
  · intro h
    have p0 := c.p0
    rcases Nat.lt_or_ge 1 p with q | q
    · exact absurd (fun i => h _ _) (c.min 1 (Nat.le_refl _) q)
    · omega
  · intro e t t'
    subst e
    rw [← c.emod t, ← c.emod t']
    simp
theorem Cyc.sh (c : Cyc x p) {n : Nat} (hn : 2 ≤ n) : (∃ s : Nat, s < 2 * n - 2 ∧ Sh x n s) ↔ (p ∣ 2 * n - 2 ∧ ∃ m, Mir x m) := by
  have hP : (0 : Int) < 2 * n - 2 := by omega
  have hc : ((2 * n - 2 : Nat) : Int) = 2 * (n : Int) - 2 := by omega
  have n1 : ¬ n = 1 := by omega
  constructor
  · rintro ⟨s, _, h⟩
    refine ⟨c.dvd fun i => h _ _ ?_, -s, fun d => h _ _ ?_⟩
    · unfold lagZ
      rw [if_neg n1, if_neg n1, lag_iff hP, hc]
      left
      rw [← Int.add_assoc, Int.add_emod_right]
    · unfold lagZ
      rw [if_neg n1, if_neg n1, lag_iff hP]
      right
      rw [show (s : Int) + (-s - d) + (s + (-s + d)) = 0 by omega]; simp
  · rintro ⟨⟨k, hk⟩, m, hm⟩
    have pd : ∀ {a b : Int}, (2 * (n : Int) - 2) ∣ a - b → x a = x b := fun {a b} e => per_dvd c.per (Int.dvd_trans ⟨(k : Int), by rw [← hc, hk, Int.natCast_mul]⟩ e)
    have s0 := Int.emod_nonneg (-m) (show (2 * (n : Int) - 2) ≠ 0 by omega)
    have s1 := Int.emod_lt_of_pos (-m) hP
    have sd := Int.mul_ediv_add_emod (-m) (2 * (n : Int) - 2)
    refine ⟨((-m) % (2 * (n : Int) - 2)).toNat, by omega, fun t t' e => ?_⟩
    rw [Int.toNat_of_nonneg s0] at e
    unfold lagZ at e
    rw [if_neg n1, if_neg n1, lag_iff hP] at e
    rcases e with e | e
    · refine pd ?_
      have := Int.dvd_of_emod_eq_zero (Int.emod_eq_emod_iff_emod_sub_eq_zero.mp e)
      rwa [show (-m % (2 * (n : Int) - 2) + t) - (-m % (2 * (n : Int) - 2) + t') = t - t' by omega] at this
    · have d := Int.dvd_of_emod_eq_zero e
      have e1 : x t' = x (2 * m - t) := by
        refine pd ?_
        obtain ⟨q, hq⟩ := d
        refine ⟨q + 2 * (-m / (2 * (n : Int) - 2)), ?_⟩
        rw [Int.mul_add, ← hq, ← Int.mul_assoc, Int.mul_comm (2 * (n : Int) - 2) 2, Int.mul_assoc]
        omega
      rw [e1]
      have := hm (m - t)
      rw [show m - (m - t) = t by omega, show m + (m - t) = 2 * m - t by omega] at this
      exact this
theorem Cyc.mir_fin (c : Cyc x p) (m : Int) : Mir x m ↔ ∀ d : Nat, 1 ≤ d → d < p → x (m - d) = x (m + d) := by
  constructor
  · exact fun h d _ _ => h d
  · intro h d
    have p0 := c.p0
    have r0 := Int.emod_nonneg d (show (p : Int) ≠ 0 by omega)
    have r1 := Int.emod_lt_of_pos d (show (0 : Int) < p by omega)
    have e := Int.mul_ediv_add_emod d p
    have e1 : x (m - d) = x (m - d % p) := per_dvd c.per ⟨-(d / p), by rw [Int.mul_neg]; omega⟩
    have e2 : x (m + d) = x (m + d % p) := per_dvd c.per ⟨d / p, by omega⟩
    rw [e1, e2]
    by_cases z : d % (p : Int) = 0
    · rw [z, Int.sub_zero, Int.add_zero]
    · have := h (d % (p : Int)).toNat (by omega) (by omega)
      rwa [Int.toNat_of_nonneg r0] at this
theorem Cyc.mir_lt (c : Cyc x p) : (∃ m, Mir x m) ↔ ∃ m : Nat, m < p ∧ Mir x m := by
  constructor
  · rintro ⟨m, h⟩
    have p0 := c.p0
    have r0 := Int.emod_nonneg m (show (p : Int) ≠ 0 by omega)
    have r1 := Int.emod_lt_of_pos m (show (0 : Int) < p by omega)
    have e := Int.mul_ediv_add_emod m p
    refine ⟨(m % p).toNat, by omega, fun d => ?_⟩
    rw [Int.toNat_of_nonneg r0]
    rw [show x (m % p - d) = x (m - d) from per_dvd c.per ⟨-(m / p), by rw [Int.mul_neg]; omega⟩, show x (m % p + d) = x (m + d) from per_dvd c.per ⟨-(m / p), by rw [Int.mul_neg]; omega⟩]
    exact h d
  · rintro ⟨m, _, h⟩; exact ⟨m, h⟩
/-- what a point draft asks -/
def plD (p : Nat) (b : Bool) : Option Nat := if b = false then none else if p = 1 then some 1 else if p % 2 = 0 then some (p / 2 + 1) else some (p + 1)
theorem pl_even {p n : Nat} (p0 : 1 ≤ p) (he : p % 2 = 0) (hn : 2 ≤ n) (h : p ∣ 2 * n - 2) : p / 2 + 1 ≤ n := by
  have := Nat.le_of_dvd (by omega) h
  omega
theorem pl_odd {p n : Nat} (ho : p % 2 = 1) (hn : 2 ≤ n) (h : p ∣ 2 * n - 2) : p + 1 ≤ n := by
  have e : 2 * n - 2 = 2 * (n - 1) := by omega
  rw [e] at h
  have co : Nat.Coprime p 2 := by
    rw [Nat.Coprime, Nat.gcd_comm, Nat.gcd_rec, ho]; rfl
  have := Nat.le_of_dvd (by omega) (co.dvd_of_dvd_mul_left h)
  omega
end
end Wk34
namespace Wk34
open PySem PySem.Spec PyProof.Rows L2 VS
/-- the endless sequence of rows -/
def xs (p w : Nat) (g : Nat → Nat → Bool) : Int → Str := fun i => mkRow w (g (i % p).toNat)
theorem ix_cycT {p w : Nat} {g : Nat → Nat → Bool} (p0 : 1 ≤ p) (i : Int) : ixD (.nd .tup (rowsD p w g)) (.v (.int (i % p))) = some (.v (.str (xs p w g i))) := by
  have r := emod_rng (i := i) p0
  rw [VS.ix_tup r.1]
  exact rowsD_get (by omega)
theorem ix_cycL {o : Bool} {p w : Nat} {g : Nat → Nat → Bool} (p0 : 1 ≤ p) (i : Int) : ixD (.nd (.lst o) (rowsD p w g)) (.v (.int (i % p))) = some (.v (.str (xs p w g i))) := by
  have r := emod_rng (i := i) p0
  rw [VS.ix_lst r.1]
  exact rowsD_get (by omega)
theorem is_mir {p w m : Nat} {g : Nat → Nat → Bool} (c : Cyc (xs p w g) p) (hp : p ≤ 1000) (hm : m < p) :
    ∃ b, D_is_mirrored [.nd .tup (rowsD p w g), .v (.int m)] = .ok (.v (.bl b), []) ∧ (b = true ↔ Mir (xs p w g) m) := by
  have p0 := c.p0
  have hlen := len_rowsT (h := p) (w := w) (f := g)
  have st : ∀ k ∈ List.range (p - 1), ∀ s, (∃ a, s = [.nd .tup (rowsD p w g), .v (.int m), .v (.int p), a]) → ∃ s1, gdN 3 (D.int (1 + (k : Int))) s = some s1 ∧
      ((decide (xs p w g ((m : Int) - (1 + k)) ≠ xs p w g ((m : Int) + (1 + k))) = true ∧ ∃ s2, fb_is_mirrored_1 s1 = .rt (.v (.bl false)) s2 ∧ True) ∨ (decide (xs p w g ((m : Int) - (1 + k)) ≠ xs p w g ((m : Int) + (1 + k))) = false ∧ ∃ s2, fb_is_mirrored_1 s1 = .nx s2 ∧ ∃ a, s2 = [.nd .tup (rowsD p w g), .v (.int m), .v (.int p), a])) := by
    rintro k _ s ⟨a, rfl⟩
    refine ⟨_, rfl, ?_⟩
    have q1 := oMod_s (i := (m : Int) - (1 + k)) (j := (p : Int)) (by omega)
    have q2 := oMod_s (i := (m : Int) + (1 + k)) (j := (p : Int)) (by omega)
    have x1 := ix_cycT (w := w) (g := g) p0 ((m : Int) - (1 + k))
    have x2 := ix_cycT (w := w) (g := g) p0 ((m : Int) + (1 + k))
    unfold fb_is_mirrored_1 if_is_mirrored_1
    generalize oMod = OO at *
    by_cases e : xs p w g ((m : Int) - (1 + k)) = xs p w g ((m : Int) + (1 + k))
    · refine .inr ⟨by simp [e], ?_⟩
      simp [q1, q2, x1, x2, e]
    · refine .inl ⟨by simp [e], ?_⟩
      simp [q1, q2, x1, x2, e]
  have hr : dRg2 (dAcons .tmp [] (dc (.int 1)) (dAcons (.vw [2]) [] (dn 2) dAnil)) [.nd .tup (rowsD p w g), .v (.int m), .v (.int p), .un] = .ok ((.v .non, (List.range (p - 1)).map fun (k : Nat) => D.int (1 + (k : Int))), [.nd .tup (rowsD p w g), .v (.int m), .v (.int p), .un]) := rg2_one (by simp) (by omega)
  have hO : D.hass NK.isOwn ((List.range (p - 1)).map fun (k : Nat) => D.int (1 + (k : Int))) = false := by
    have := has_ints NK.isOwn ((List.range (p - 1)).map fun (k : Nat) => 1 + (k : Int))
    rwa [List.map_map] at this
  rcases forL_find (g := gdN 3) (body := fb_is_mirrored_1) (enc := fun (k : Nat) => D.int (1 + (k : Int))) (fun k => decide (xs p w g ((m : Int) - (1 + k)) ≠ xs p w g ((m : Int) + (1 + k)))) (fun _ => D.v (.bl false)) (fun s => ∃ a, s = [.nd .tup (rowsD p w g), .v (.int m), .v (.int p), a]) (fun _ _ => True) (List.range (p - 1))
      [.nd .tup (rowsD p w g), .v (.int m), .v (.int p), .un] ⟨_, rfl⟩ st with ⟨pre, k, post, s2, e1, _, e2, e3, _⟩ | ⟨e1, s2, e3, a, rfl⟩
  · refine ⟨false, ?_, by
      have : k ∈ List.range (p - 1) := by rw [e1]; simp
      have hk := List.mem_range.mp this
      constructor
      · intro z; cases z
      · intro z
        have := z (1 + (k : Int))
        simp [this] at e2⟩
    have ef : fo_is_mirrored_1 [.nd .tup (rowsD p w g), .v (.int m), .v (.int p), .un] = .rt (.v (.bl false)) s2 := by
      unfold fo_is_mirrored_1
      rw [for_it hr (by rfl) hO, e3]
    simp [D_is_mirrored, b_is_mirrored, hlen, ef]
  · refine ⟨true, ?_, by
      simp only [true_iff]
      rw [c.mir_fin]
      intro d d1 d2
      have := e1 (d - 1) (List.mem_range.mpr (by omega))
      have e : (1 : Int) + ((d - 1 : Nat) : Int) = d := by omega
      rw [e] at this
      simpa using this⟩
    have ef : fo_is_mirrored_1 [.nd .tup (rowsD p w g), .v (.int m), .v (.int p), .un] = .nx [.nd .tup (rowsD p w g), .v (.int m), .v (.int p), a] := by
      unfold fo_is_mirrored_1
      rw [for_it hr (by rfl) hO, e3]
    simp [D_is_mirrored, b_is_mirrored, hlen, ef]
end Wk34
namespace Wk34
open PySem PySem.Spec PyProof.Rows L2 VS
theorem lc_rangeF {vs mb : List Nat} {it : I} {c : B} {g : Gd} {m : Md} {e : E} {s s1 s2 : List D} {n : Nat} {F : Nat → D} {p : Nat → Bool} (h : it s = .ok ((.v .non, rangeD n), s1)) (hn : n ≤ 1000000) (hs : wipeD vs s1 = s2)
    (he : ∀ a ∈ List.range n, ∃ s1, g (.int (a : Int)) s2 = some s1 ∧ ((p a = true ∧ ∃ s3 s4, c s1 = .ok (true, s3) ∧ e s3 = .ok (F a, s4) ∧ (m.isTmp || !(F a).hasOwn) = true ∧ wipeD vs s4 = s2) ∨ (p a = false ∧ ∃ s3, c s1 = .ok (false, s3) ∧ wipeD vs s3 = s2))) :
    dLc .tmp mb vs it g c m e s = .ok (.nd (.lst true) (((List.range n).filter p).map F), s2) := by
  rw [lc_rg h hn, hs, rangeD_map, lcL_filter (F := F) (p := p) (List.range n) he]
  rfl
noncomputable def mirB (x : Int → Str) (m : Int) : Bool := @decide (Mir x m) (Classical.propDecidable _)
theorem mirB_iff {x : Int → Str} {m : Int} : mirB x m = true ↔ Mir x m := by unfold mirB; exact @decide_eq_true_iff _ (Classical.propDecidable _)
noncomputable def anyM (x : Int → Str) : Bool := @decide (∃ m, Mir x m) (Classical.propDecidable _)
theorem anyM_iff {x : Int → Str} : anyM x = true ↔ ∃ m, Mir x m := by unfold anyM; exact @decide_eq_true_iff _ (Classical.propDecidable _)
def optD : Option Nat → D
  | none => .v .non
  | some n => .v (.int n)
theorem mir_list {x : Int → Str} {p : Nat} (c : Cyc x p) : (((List.range p).filter fun m => mirB x (m : Nat)).length = 0) ↔ anyM x = false := by
  rw [List.length_eq_zero_iff, List.filter_eq_nil_iff]
  constructor
  · intro h
    rw [Bool.eq_false_iff]
    intro z
    obtain ⟨m, hm, h2⟩ := c.mir_lt.mp (anyM_iff.mp z)
    exact h m (List.mem_range.mpr hm) (mirB_iff.mpr h2)
  · intro h m hm z
    rw [Bool.eq_false_iff] at h
    exact h (anyM_iff.mpr ⟨_, mirB_iff.mp z⟩)
theorem ints_filter {l : List Nat} {q : NK → Bool} : D.hass q (l.map fun (k : Nat) => D.int (k : Int)) = false := by
  have := has_ints q (l.map fun (k : Nat) => (k : Int))
  rwa [List.map_map] at this
theorem point_lags {p w : Nat} {g : Nat → Nat → Bool} (c : Cyc (xs p w g) p) (hp : p ≤ 1000) :
    D_point_lags [.nd .tup (rowsD p w g)] = .ok (optD (plD p (anyM (xs p w g))), []) := by
  have p0 := c.p0
  have hlen := len_rowsT (h := p) (w := w) (f := g)
  have O := fun q => rowsHas (q := q) (h := p) (w := w) (f := g)
  have F := rowsFz (h := p) (w := w) (f := g)
  have co : co_point_lags_1 [.nd .tup (rowsD p w g), .v (.int p), .un, .un] = .ok (.nd (.lst true) (((List.range p).filter fun m => mirB (xs p w g) (m : Nat)).map fun (k : Nat) => D.int (k : Int)), [.nd .tup (rowsD p w g), .v (.int p), .un, .un]) := by
    unfold co_point_lags_1
    refine lc_rangeF (rg1_nat (n := p) (s' := [.nd .tup (rowsD p w g), .v (.int p), .un, .un]) (by simp) (by omega)) (by omega) rfl (fun k hk => ⟨[.nd .tup (rowsD p w g), .v (.int p), .un, .v (.int k)], rfl, ?_⟩)
    obtain ⟨b, e, hb⟩ := is_mir (w := w) (g := g) c hp (List.mem_range.mp hk)
    cases b with
    | true =>
      refine .inl ⟨mirB_iff.mpr (hb.mp rfl), [.nd .tup (rowsD p w g), .v (.int p), .un, .v (.int k)], [.nd .tup (rowsD p w g), .v (.int p), .un, .v (.int k)], ?_, ?_, rfl, rfl⟩
      · simp [e, F, O]
      · simp [ce_point_lags_1]
    | false =>
      refine .inr ⟨(by rw [Bool.eq_false_iff]; intro z; have := hb.mpr (mirB_iff.mp z); cases this), [.nd .tup (rowsD p w g), .v (.int p), .un, .v (.int k)], ?_, rfl⟩
      simp [e, F, O]
  have ml := mir_list c
  generalize hl : (List.range p).filter (fun m => mirB (xs p w g) (m : Nat)) = l at *
  have len : lenD (.nd (.lst true) (l.map fun (k : Nat) => D.int (k : Int))) = some (.v (.int l.length)) := by simp [lenD]
  have hO := fun q => ints_filter (l := l) (q := q)
  have q2 := oMod_s (i := (p : Int)) (j := 2) (by decide)
  have v2 := oDiv_s (i := (p : Int)) (j := 2) (by decide) (by decide)
  unfold D_point_lags b_point_lags if_point_lags_1 if_point_lags_2 if_point_lags_3
  generalize oMod = OO at *
  generalize oDiv = OV at *
  cases hm : anyM (xs p w g) with
  | false =>
    have z : (l.length : Int) = 0 := by have := ml.mpr hm; omega
    have : plD p false = none := rfl
    rw [this]
    rw [z] at len
    simp [hlen, co, len, hO, optD]
  | true =>
    have z : ¬ (l.length : Int) = 0 := fun e => by
      have := ml.mp (by omega)
      rw [hm] at this; cases this
    have zl : ¬ l = [] := fun e => z (by rw [e]; rfl)
    by_cases h1 : p = 1
    · have e1 : plD p true = some 1 := by simp [plD, h1]
      have h1i : (p : Int) = 1 := by omega
      rw [e1]
      rw [h1i] at hlen q2 v2 co
      simp [hlen, co, len, hO, optD, z, zl]
    · have h1i : ¬ (p : Int) = 1 := by omega
      by_cases h2 : p % 2 = 0
      · have e1 : plD p true = some (p / 2 + 1) := by simp [plD, h1, h2]
        have h2i : (p : Int) % 2 = 0 := by omega
        have e3 : (p : Int) / 2 + 1 = ((p / 2 + 1 : Nat) : Int) := by omega
        rw [e1]
        rw [h2i] at q2
        simp [hlen, co, len, hO, optD, z, zl, h1i, q2, v2]
      · have e1 : plD p true = some (p + 1) := by simp [plD, h1, h2]
        have h2i : (p : Int) % 2 = 1 := by omega
        rw [e1]
        rw [h2i] at q2
        simp [hlen, co, len, hO, optD, z, zl, h1i, q2, v2]
end Wk34
namespace Wk34
open PySem PySem.Spec PyProof.Rows L2 VS
/-- what is equal in the one is equal in the other, moved by s -/
def Like (x y : Int → Str) (s : Int) : Prop := ∀ i j, x i = x j ↔ y (i + s) = y (j + s)
theorem Like.cyc {x y : Int → Str} {s : Int} {p : Nat} (l : Like x y s) (c : Cyc y p) : Cyc x p := by
  refine ⟨c.p0, fun i => ?_, fun q q0 q1 h => c.min q q0 q1 fun i => ?_⟩
  · rw [l, show i + (p : Int) + s = i + s + p by omega]; exact c.per _
  · have := (l _ _).mp (h (i - s))
    rwa [show i - s + (q : Int) + s = i + q by omega, show i - s + s = i by omega] at this
theorem Like.any {x y : Int → Str} {s : Int} (l : Like x y s) : anyM x = anyM y := by
  have : (∃ m, Mir x m) ↔ ∃ m, Mir y m := by
    constructor
    · rintro ⟨m, h⟩
      refine ⟨m + s, fun d => ?_⟩
      have := (l _ _).mp (h d)
      rwa [show m - d + s = m + s - d by omega, show m + d + s = m + s + d by omega] at this
    · rintro ⟨m, h⟩
      refine ⟨m - s, fun d => (l _ _).mpr ?_⟩
      have := h d
      rwa [show m - s - d + s = m - d by omega, show m - s + d + s = m + d by omega]
  cases e : anyM x with
  | true => exact (anyM_iff.mpr (this.mp (anyM_iff.mp e))).symm
  | false =>
    cases e2 : anyM y with
    | false => rfl
    | true => rw [anyM_iff.mpr (this.mpr (anyM_iff.mp e2))] at e; cases e
theorem Cyc.uniq {x : Int → Str} {p q : Nat} (c : Cyc x p) (d : Cyc x q) : p = q := by
  rcases Nat.lt_trichotomy p q with h | h | h
  · exact absurd c.per (d.min p c.p0 h)
  · exact h
  · exact absurd d.per (c.min q d.p0 h)
theorem xs_eq {p w : Nat} {g : Nat → Nat → Bool} {i j : Int} : xs p w g i = xs p w g j ↔ ∀ c, c < w → g (i % p).toNat c = g (j % p).toNat c := ⟨fun h => mkRow_inj h, fun h => mkRow_congr h⟩
theorem toN_mod (i : Int) (h a : Nat) (h0 : 1 ≤ h) (d : a ∣ h) : (i % h).toNat % a = (i % a).toNat := by
  have r0 := emod_rng (i := i) h0
  have a0 : 1 ≤ a := Nat.pos_of_dvd_of_pos d (by omega)
  have r1 := emod_rng (i := i) a0
  have e : i % h % a = i % a := Int.emod_emod_of_dvd i (by exact Int.ofNat_dvd.mpr d)
  have : (((i % h).toNat % a : Nat) : Int) = ((i % a).toNat : Nat) := by
    rw [Int.natCast_emod, Int.toNat_of_nonneg r0.1, Int.toNat_of_nonneg r1.1, e]
  omega
theorem xs_dvd {h w a : Nat} {f : Nat → Nat → Bool} (h0 : 1 ≤ h) (p : Per h w f a) (i : Int) : xs h w f i = xs a w f i := by
  have ar := p.ar h0
  refine mkRow_congr fun c hc => ?_
  have r0 := emod_rng (i := i) h0
  rw [← toN_mod i h a h0 ar.1]
  exact (ar.2 _ _ (by omega) hc).symm
theorem per_cyc {h w a : Nat} {f : Nat → Nat → Bool} (h0 : 1 ≤ h) (p : Per h w f a) : Cyc (xs h w f) a := by
  refine ⟨p.n0, fun i => ?_, fun q q0 q1 e => p.least q q0 q1 fun i j hi hj => ?_⟩
  · rw [xs_dvd h0 p, xs_dvd h0 p]
    unfold xs
    rw [Int.add_emod_right]
  · have := xs_eq.mp (e i) j hj
    have e1 : (((i : Int) + q) % h).toNat = (q + i) % h := by
      rw [show (i : Int) + q = ((q + i : Nat) : Int) by omega, ← Int.natCast_emod, Int.toNat_natCast]
    have e2 : ((i : Int) % h).toNat = i := by rw [← Int.natCast_emod, Int.toNat_natCast, Nat.mod_eq_of_lt hi]
    rwa [e1, e2] at this
theorem cut_like {h w a b : Nat} {f : Nat → Nat → Bool} (h0 : 1 ≤ h) (w0 : 1 ≤ w) (p : Per h w f a) (q : Per w h (fun j i => f i j) b) : Like (xs a b f) (xs h w f) 0 := by
  intro i j
  have ar := q.ar w0
  rw [Int.add_zero, Int.add_zero, xs_dvd h0 p, xs_dvd h0 p, xs_eq, xs_eq]
  have ri := emod_rng (i := i) p.n0
  have rj := emod_rng (i := j) p.n0
  have b0 := q.n0
  have b1 : b ≤ w := q.n1
  have a1 : a ≤ h := p.n1
  constructor
  · intro e c hc
    have := e (c % b) (Nat.mod_lt _ (by omega))
    have k1 := ar.2 c (i % a).toNat hc (by omega)
    have k2 := ar.2 c (j % a).toNat hc (by omega)
    simp only at k1 k2
    rw [← k1, ← k2]; exact this
  · exact fun e c hc => e c (by omega)
theorem drum {C : Addr} {h w : Nat} {f : Nat → Nat → Bool} (d : Dim h w) : ∃ a, Per h w f a ∧ D_drum C [clothD C h w f] = .ok (.nd .tup [.v (.int (a : Nat)), optD (plD a (anyM (xs h w f)))], []) := by
  obtain ⟨h0, h1, w0, w1⟩ := id d
  obtain ⟨a, b, p, q, e⟩ := least_repeat (C := C) (f := f) d
  have l := cut_like h0 w0 p q
  have c := l.cyc (per_cyc h0 p)
  have pl := point_lags (p := a) (w := b) (g := f) c (by have := p.n1; omega)
  rw [l.any] at pl
  have lt := len_rowsT (h := a) (w := b) (f := f)
  have O := fun q => rowsHas (q := q) (h := h) (w := w) (f := f)
  have F := rowsFz (h := h) (w := w) (f := f)
  have O2 := fun q => rowsHas (q := q) (h := a) (w := b) (f := f)
  have F2 := rowsFz (h := a) (w := b) (f := f)
  have z2 : 2 ≤ sizeLine := by rw [sizeLine_eq]; decide
  refine ⟨a, p, ?_⟩
  have hod : (optD (plD a (anyM (xs h w f)))).hasOwn = false := by cases plD a (anyM (xs h w f)) <;> rfl
  have hos : (optD (plD a (anyM (xs h w f)))).hasShr = false := by cases plD a (anyM (xs h w f)) <;> rfl
  generalize optD (plD a (anyM (xs h w f))) = od at *
  simp [D_drum, b_drum, e, pl, lt, O, F, O2, F2, dFld, fldD, D.inst, fIx, chkT, z2, hod, hos]
end Wk34
namespace Wk34
open PySem PySem.Spec PyProof.Rows L2 VS
abbrev shF (h w s t : Nat) (f : Nat → Nat → Bool) : Nat → Nat → Bool := fun i j => f ((s + i) % h) ((t + j) % w)
theorem shifted {C : Addr} {h w : Nat} {f : Nat → Nat → Bool} (d : Dim h w) (u v : Int) : D_shifted C [clothD C h w f, .v (.int u), .v (.int v)] = .ok (clothD C h w (shF h w (u % h).toNat (v % w).toNat f), []) := by
  obtain ⟨h0, h1, w0, w1⟩ := id d
  have ru := emod_rng (i := u) h0
  have rv := emod_rng (i := v) w0
  have q1 := oMod_s (i := u) (j := (h : Int)) (by omega)
  have q2 := oMod_s (i := v) (j := (w : Int)) (by omega)
  obtain ⟨s, hs⟩ : ∃ s : Nat, u % h = s := ⟨(u % h).toNat, by omega⟩
  obtain ⟨t, ht⟩ : ∃ t : Nat, v % w = t := ⟨(v % w).toNat, by omega⟩
  rw [hs] at q1 ru ⊢
  rw [ht] at q2 rv ⊢
  rw [Int.toNat_natCast, Int.toNat_natCast]
  have sl1 : slD (.nd .tup (rowsD h w f)) (some (s : Int)) none = some (.nd .tup ((rowsD h w f).drop s)) := by simp [slD, cutL_from]
  have sl2 : slD (.nd .tup (rowsD h w f)) none (some (s : Int)) = some (.nd .tup ((rowsD h w f).take s)) := by simp [slD, cutL_to]
  have cat : oAdd (.nd .tup ((rowsD h w f).drop s)) (.nd .tup ((rowsD h w f).take s)) = some (.nd .tup (rowsD h w fun i => f ((s + i) % h))) := by
    have hz : (h - s) + s ≤ sizeLine := by rw [sizeLine_eq]; omega
    have e := rows_rot (w := w) (f := f) (n := s) (h := h) (by omega)
    have o1 : D.hass NK.isOwn ((rowsD h w f).drop s) = false := by rw [rows_drop]; exact rowsHas
    have o2 : D.hass NK.isOwn ((rowsD h w f).take s) = false := by rw [rows_take (by omega)]; exact rowsHas
    simp [e, o1, o2, Nat.min_eq_left (show s ≤ h by omega), hz]
  have co : co_shifted_1 C [clothD C h w f, .v (.int u), .v (.int v), .v (.int s), .v (.int t), .nd .tup (rowsD h w fun i => f ((s + i) % h)), .un] = .ok (.nd (.lst true) (rowsD h w (shF h w s t f)), [clothD C h w f, .v (.int u), .v (.int v), .v (.int s), .v (.int t), .nd .tup (rowsD h w fun i => f ((s + i) % h)), .un]) := by
    unfold co_shifted_1
    rw [rowsD_map h w (shF h w s t f)]
    refine lc_it (l := List.range h) (enc := fun i => D.str (mkRow w (f ((s + i) % h)))) (F := fun i => D.str (mkRow w (shF h w s t f i))) (x := .nd .tup (rowsD h w fun i => f ((s + i) % h))) (s1 := [clothD C h w f, .v (.int u), .v (.int v), .v (.int s), .v (.int t), .nd .tup (rowsD h w fun i => f ((s + i) % h)), .un]) (by simp [dIt, D.items, rowsD_map]) rfl (by
      have := rowsHas (q := NK.isOwn) (h := h) (w := w) (f := fun i => f ((s + i) % h))
      rwa [rowsD_map] at this) (by simp; omega) rfl fun i mi => ⟨[clothD C h w f, .v (.int u), .v (.int v), .v (.int s), .v (.int t), .nd .tup (rowsD h w fun i => f ((s + i) % h)), .v (.str (mkRow w (f ((s + i) % h))))], [clothD C h w f, .v (.int u), .v (.int v), .v (.int s), .v (.int t), .nd .tup (rowsD h w fun i => f ((s + i) % h)), .v (.str (mkRow w (f ((s + i) % h))))], rfl, rfl, ?_, rfl, rfl⟩
    have rr := row_rot (w := w) (f := f ((s + i) % h)) (n := t) (by omega)
    have hz : (mkRow w (f ((s + i) % h))).length ≤ sizeLine := by rw [mkRow_len, sizeLine_eq]; omega
    have l1 : (cutS (mkRow w (f ((s + i) % h))) (some (t : Int)) none).length + (cutS (mkRow w (f ((s + i) % h))) none (some (t : Int))).length ≤ sizeLine := by
      rw [row_drop, row_take (by omega), mkRow_len, mkRow_len, sizeLine_eq]; omega
    simp [ce_shifted_1, fS01, fS10, slD, hz, l1, rr]
  have mk := makeO (C := C) (m := .tmp) (f := shF h w s t f) d co
  unfold D_shifted b_shifted
  generalize oMod = OO at *
  generalize oAdd = OA at *
  simp [dFld, fldD, D.inst, fIx, q1, q2, fS10, fS01, sl1, sl2, cat, mk]
theorem shift_like {h w s t : Nat} {f : Nat → Nat → Bool} (h0 : 1 ≤ h) (w0 : 1 ≤ w) (ht : t < w) : Like (xs h w (shF h w s t f)) (xs h w f) s := by
  intro i j
  rw [xs_eq, xs_eq]
  have key : ∀ i : Int, (s + (i % h).toNat) % h = ((i + s) % h).toNat := fun i => by
    have ri := emod_rng (i := i) h0
    have r2 := emod_rng (i := i + s) h0
    have : (((s + (i % h).toNat) % h : Nat) : Int) = (((i + s) % h).toNat : Nat) := by
      rw [Int.natCast_emod, Int.natCast_add, Int.toNat_of_nonneg ri.1, Int.toNat_of_nonneg r2.1, Int.add_comm, Int.emod_add_emod]
    omega
  constructor
  · intro e c hc
    have := e ((c + (w - t)) % w) (Nat.mod_lt _ (by omega))
    simp only [shF, key] at this
    have k : (t + (c + (w - t)) % w) % w = c := by
      rw [Nat.add_mod_mod, show t + (c + (w - t)) = c + w by omega, Nat.add_mod_right, Nat.mod_eq_of_lt hc]
    rwa [k] at this
  · intro e c hc
    simp only [shF, key]
    exact e _ (Nat.mod_lt _ (by omega))
theorem drum_shifted {C : Addr} {h w a : Nat} {f : Nat → Nat → Bool} (d : Dim h w) (p : Per h w f a) (u v : Int) :
    D_drum C [clothD C h w (shF h w (u % h).toNat (v % w).toNat f)] = .ok (.nd .tup [.v (.int (a : Nat)), optD (plD a (anyM (xs h w f)))], []) := by
  have rv := emod_rng (i := v) d.w0
  have l := shift_like (s := (u % h).toNat) (t := (v % w).toNat) (f := f) d.h0 d.w0 (by omega)
  obtain ⟨a', p', e⟩ := drum (C := C) (f := shF h w (u % h).toNat (v % w).toNat f) d
  have : a' = a := (per_cyc d.h0 p').uniq (l.cyc (per_cyc d.h0 p))
  rw [e, this, l.any]
end Wk34
namespace Wk34
open PySem PySem.Spec PyProof.Rows L2 VS
theorem lc_itF {α : Type} {l : List α} {enc F : α → D} {m0 : Md} {vs mb : List Nat} {it : I} {c : B} {g : Gd} {m : Md} {e : E} {s s1 s2 : List D} {x : D} {pr : α → Bool} (h : it s = .ok ((x, l.map enc), s1)) (hc : (clr m0 mb || !x.hasOwn) = true)
    (ho : D.hass NK.isOwn (l.map enc) = false) (hl : l.length ≤ 10000) (hs : wipeD vs s1 = s2)
    (he : ∀ a ∈ l, ∃ s1, g (enc a) s2 = some s1 ∧ ((pr a = true ∧ ∃ s3 s4, c s1 = .ok (true, s3) ∧ e s3 = .ok (F a, s4) ∧ (m.isTmp || !(F a).hasOwn) = true ∧ wipeD vs s4 = s2) ∨ (pr a = false ∧ ∃ s3, c s1 = .ok (false, s3) ∧ wipeD vs s3 = s2))) : dLc m0 mb vs it g c m e s = .ok (.nd (.lst true) ((l.filter pr).map F), s2) := by
  unfold dLc
  rw [h]
  have hz : l.length ≤ sizeLine := by rw [sizeLine_eq]; omega
  simp only [R.bind]
  rw [if_pos (by rw [hc, ho, List.length_map, decide_eq_true hz]; rfl), hs, lcL_filter (F := F) (p := pr) l he]
theorem first_of {n : Nat} {P : Nat → Bool} (h : ∃ i, i < n ∧ P i = true) : ∃ i rest, (List.range n).filter P = i :: rest ∧ i < n ∧ P i = true ∧ ∀ j, j < i → P j = false := by
  have e : ((List.range n).filter P).head? = (List.range n).find? P := List.head?_filter
  cases q : (List.range n).filter P with
  | nil =>
    obtain ⟨i, hi, hp⟩ := h
    have : i ∈ (List.range n).filter P := List.mem_filter.mpr ⟨List.mem_range.mpr hi, hp⟩
    rw [q] at this; cases this
  | cons i rest =>
    rw [q] at e
    have e2 := List.find?_range_eq_some.mp e.symm
    obtain ⟨h1, h2, h3⟩ := e2
    exact ⟨i, rest, rfl, List.mem_range.mp h2, h1, fun j hj => by simpa using h3 j hj⟩
theorem ring_lags {h w : Nat} {f : Nat → Nat → Bool} (h0 : 1 ≤ h) (h1 : h ≤ 1000) : ∃ n, D__law_ring_lags [.nd (.lst false) (rowsD h w f)] = .ok (.v (.int (n : Nat)), []) ∧ Per h w f n := by
  have hlen : lenD (.nd (.lst false) (rowsD h w f)) = some (.v (.int h)) := len_rows
  have co : co__law_ring_lags_1 [.nd (.lst false) (rowsD h w f), .v (.int h), .un] = .ok (.nd (.lst true) (((List.range h).filter fun a => decide (Ar h w f (1 + a))).map fun (a : Nat) => D.int (1 + (a : Int))), [.nd (.lst false) (rowsD h w f), .v (.int h), .un]) := by
    unfold co__law_ring_lags_1
    have hr : dRg2 (dAcons .tmp [] (dc (.int 1)) (dAcons .tmp [] (dTwo (.vw [1]) [] oAdd (dn 1) (dc (.int 1))) dAnil)) [.nd (.lst false) (rowsD h w f), .v (.int h), .un] = .ok ((.v .non, (List.range h).map fun (k : Nat) => D.int (1 + (k : Int))), [.nd (.lst false) (rowsD h w f), .v (.int h), .un]) := by
      have := rg2_one (d := dAcons .tmp [] (dc (.int 1)) (dAcons .tmp [] (dTwo (.vw [1]) [] oAdd (dn 1) (dc (.int 1))) dAnil)) (s := [.nd (.lst false) (rowsD h w f), .v (.int h), .un]) (s' := [.nd (.lst false) (rowsD h w f), .v (.int h), .un]) (b := h + 1) (by simp) (by omega)
      rwa [Nat.add_sub_cancel] at this
    have hO : D.hass NK.isOwn ((List.range h).map fun (k : Nat) => D.int (1 + (k : Int))) = false := by
      have := has_ints NK.isOwn ((List.range h).map fun (k : Nat) => 1 + (k : Int))
      rwa [List.map_map] at this
    refine lc_itF (enc := fun (k : Nat) => D.int (1 + (k : Int))) (F := fun (k : Nat) => D.int (1 + (k : Int))) hr (by rfl) hO (by simp; omega) rfl (fun a ma => ?_)
    have ha := List.mem_range.mp ma
    refine ⟨[.nd (.lst false) (rowsD h w f), .v (.int h), .v (.int (1 + (a : Int)))], rfl, ?_⟩
    have m1 := oMod_s (i := (h : Int)) (j := 1 + (a : Int)) (by omega)
    by_cases hd : (1 + a) ∣ h
    · have e0 : (h : Int) % (1 + (a : Int)) = 0 := by
        have : h % (1 + a) = 0 := Nat.mod_eq_zero_of_dvd hd
        have e : (h : Int) % ((1 + a : Nat) : Int) = ((h % (1 + a) : Nat) : Int) := rfl
        rw [this] at e
        rw [show (1 + (a : Int)) = ((1 + a : Nat) : Int) by omega, e]; rfl
      have d1 := oDiv_s (i := (h : Int)) (j := 1 + (a : Int)) (by omega) (by omega)
      have ed : (h : Int) / (1 + (a : Int)) = ((h / (1 + a) : Nat) : Int) := by rw [Int.natCast_ediv]; rfl
      rw [ed] at d1
      have sl : slD (.nd (.lst false) (rowsD h w f)) none (some (1 + (a : Int))) = some (.nd (.lst true) (rowsD (1 + a) w f)) := by
        rw [show (1 + (a : Int)) = ((1 + a : Nat) : Int) by omega]
        simp only [slD, rowsHas, if_true, cutL_to]
        rw [rows_take (by omega)]
      have hm : h / (1 + a) * (1 + a) = h := Nat.div_mul_cancel hd
      have mu : oMul (.nd (.lst true) (rowsD (1 + a) w f)) (.v (.int ((h / (1 + a) : Nat) : Int))) = some (.nd (.lst true) (rowsD h w fun i => f (i % (1 + a)))) := by
        have hz : (1 + a) * (h / (1 + a)) ≤ sizeLine := by rw [sizeLine_eq, Nat.mul_comm]; omega
        have hz2 : h / (1 + a) < 4000000000000000000 := Nat.lt_of_le_of_lt (Nat.div_le_self _ _) (by omega)
        have e := rows_rep (k := h / (1 + a)) (d := 1 + a) (w := w) (f := f)
        rw [hm] at e
        unfold oMul
        simp only [rowsHas, rowsD_len, Int.toNat_natCast, Int.natAbs_natCast]
        rw [if_pos (by simp [hz, hz2]), e]
      have q : eqD (.nd (.lst true) (rowsD h w fun i => f (i % (1 + a)))) (.nd (.lst false) (rowsD h w f)) = some (decide (Ar h w f (1 + a))) := by
        rw [eqD_rows]; congr 1
        refine decide_eq_decide.mpr ⟨fun e => ⟨hd, mk_inj e⟩, fun e => mk_congr e.2⟩
      unfold ce__law_ring_lags_1
      generalize oMul = OM at *
      generalize oMod = OO at *
      generalize oDiv = OD at *
      generalize h / (1 + a) = qq at *
      generalize (1 + (a : Int)) = ni at *
      cases hr : decide (Ar h w f (1 + a))
      · refine .inr ⟨rfl, [.nd (.lst false) (rowsD h w f), .v (.int h), .v (.int ni)], ?_, rfl⟩
        rw [hr] at q
        simp [hlen, m1, e0, fS01, sl, d1, mu, q]
      · refine .inl ⟨rfl, [.nd (.lst false) (rowsD h w f), .v (.int h), .v (.int ni)], [.nd (.lst false) (rowsD h w f), .v (.int h), .v (.int ni)], ?_, by simp, rfl, rfl⟩
        rw [hr] at q
        simp [hlen, m1, e0, fS01, sl, d1, mu, q]
    · have hf : decide (Ar h w f (1 + a)) = false := decide_eq_false fun q => hd q.1
      have e0 : ¬ (h : Int) % (1 + (a : Int)) = 0 := fun z => hd (Nat.dvd_of_mod_eq_zero (by
        have e : (h : Int) % ((1 + a : Nat) : Int) = ((h % (1 + a) : Nat) : Int) := rfl
        rw [show (1 + (a : Int)) = ((1 + a : Nat) : Int) by omega, e] at z
        omega))
      unfold ce__law_ring_lags_1
      generalize oMod = OO at *
      generalize (1 + (a : Int)) = ni at *
      refine .inr ⟨hf, [.nd (.lst false) (rowsD h w f), .v (.int h), .v (.int ni)], ?_, rfl⟩
      simp [hlen, m1, e0]
  obtain ⟨i, rest, e, hi, hp, hl⟩ := first_of (n := h) (P := fun a => decide (Ar h w f (1 + a))) ⟨h - 1, by omega, decide_eq_true (by
    rw [show 1 + (h - 1) = h by omega]
    exact ⟨Nat.dvd_refl _, fun i j hi hj => by rw [Nat.mod_eq_of_lt hi]⟩)⟩
  rw [e] at co
  refine ⟨1 + i, ?_, Per.of_ar h0 (by omega) (by omega) (of_decide_eq_true hp) fun m m0 m1 => ?_⟩
  · have ix : ixD (.nd (.lst true) ((i :: rest).map fun (a : Nat) => D.int (1 + (a : Int)))) (.v (.int 0)) = some (.v (.int (1 + (i : Int)))) := by rw [VS.ix_lst (by decide)]; rfl
    simp [D__law_ring_lags, b__law_ring_lags, hlen, co, -List.map_cons, ix]
  · have := hl (m - 1) (by omega)
    rw [show 1 + (m - 1) = m by omega] at this
    exact of_decide_eq_false this
end Wk34
namespace Wk34
open PySem PySem.Spec PyProof.Rows L2 VS
theorem nn {b : Bool} : isNoneD b (.v .non) (.v .non) = some (!b) := by cases b <;> rfl
theorem ns {b : Bool} {z : Str} : isNoneD b (.v (.str z)) (.v .non) = some b := by cases b <;> rfl
theorem law_lag {n : Nat} (n1 : 1 ≤ n) (n2 : n ≤ 1000) (y : Int) : D__law_lag [.v (.int n), .v (.int y)] = .ok (.v (.int (lagZ n y)), []) := by
  by_cases h : n = 1
  · subst h
    simp [D__law_lag, b__law_lag, if__law_lag_1, lagZ]
  · have hi : ¬ (n : Int) = 1 := by omega
    have hP : (0 : Int) < 2 * n - 2 := by omega
    have m1 := oMul_s (i := 2) (j := (n : Int)) (by decide) (by decide) (by omega) (by omega)
    have q1 := oMod_s (i := y) (j := 2 * (n : Int) - 2) hP
    have e : lagZ n y = min (y % (2 * n - 2)) (2 * n - 2 - y % (2 * n - 2)) := by unfold lagZ; rw [if_neg h]
    rw [e]
    unfold D__law_lag b__law_lag if__law_lag_1
    generalize oMul = OM at *
    generalize oMod = OO at *
    simp [hi, m1, q1]
    unfold minI
    split <;> omega
theorem lag_rng {n : Nat} (n1 : 1 ≤ n) (y : Int) : 0 ≤ lagZ n y ∧ lagZ n y < n := by
  unfold lagZ
  by_cases h : n = 1
  · rw [if_pos h]; omega
  · rw [if_neg h]
    have hP : (0 : Int) < 2 * n - 2 := by omega
    have r0 := Int.emod_nonneg y (show (2 * (n : Int) - 2) ≠ 0 by omega)
    have r1 := Int.emod_lt_of_pos y hP
    omega
theorem for_exit {g : Gd} {body : S} {n : Nat} (I : Nat → List D → Prop) (R : D → Prop)
    (step : ∀ k s, k < n → I k s → ∃ s1, g (.int (k : Int)) s = some s1 ∧ ((∃ s2, body s1 = .nx s2 ∧ I (k + 1) s2) ∨ ∃ v s2, body s1 = .rt v s2 ∧ R v)) : ∀ m k s, k + m = n → I k s →
    (∃ s', forL g body ((List.range' k m).map fun (i : Nat) => D.int (i : Int)) s = .nx s' ∧ I n s') ∨ ∃ v s', forL g body ((List.range' k m).map fun (i : Nat) => D.int (i : Int)) s = .rt v s' ∧ R v
  | 0, k, s, e, h => .inl ⟨s, by simp [forL], by rw [← e]; exact h⟩
  | m + 1, k, s, e, h => by
    obtain ⟨s1, e1, h1⟩ := step k s (by omega) h
    rw [List.range'_succ, List.map_cons, forL, e1]
    rcases h1 with ⟨s2, e2, h2⟩ | ⟨v, s2, e2, h2⟩
    · simp only [e2]
      exact for_exit I R step m (k + 1) s2 (by omega) h2
    · simp only [e2]
      exact .inr ⟨v, s2, rfl, h2⟩
/-- what the lags hold behind k shots -/
structure Lags (x : Int → Str) (n : Nat) (s : Int) (k : Nat) (L : List D) : Prop where
  len : L.length = n
  at_ : ∀ l, l < n → (L[l]? = some (.v .non) ∧ ∀ t : Nat, t < k → (lagZ n (s + t)).toNat ≠ l) ∨ ∃ z, L[l]? = some (.v (.str z)) ∧ (∃ t : Nat, t < k ∧ (lagZ n (s + t)).toNat = l) ∧ ∀ t : Nat, t < k → (lagZ n (s + t)).toNat = l → x t = z
def turnsN (n : Nat) : Nat := max 1 (2 * n - 2)
theorem sh_of {x : Int → Str} {p n : Nat} {s : Int} {L : List D} (c : Cyc x p) (n1 : 1 ≤ n) (h : Lags x n s (turnsN n * p) L) : Sh x n s := by
  have p0 := c.p0
  have N0 : 0 < turnsN n * p := Nat.mul_pos (by unfold turnsN; omega) p0
  have key : ∀ t : Int, ∃ t0 : Nat, t0 < turnsN n * p ∧ x t = x t0 ∧ lagZ n (s + t) = lagZ n (s + t0) := fun t => by
    have r := emod_rng (i := t) (n := turnsN n * p) N0
    have e := Int.mul_ediv_add_emod t ((turnsN n * p : Nat) : Int)
    refine ⟨(t % ((turnsN n * p : Nat) : Int)).toNat, by omega, ?_, ?_⟩
    · rw [Int.toNat_of_nonneg r.1]
      refine per_dvd c.per ⟨turnsN n * (t / ((turnsN n * p : Nat) : Int)), ?_⟩
      have : (p : Int) * (turnsN n * (t / ((turnsN n * p : Nat) : Int))) = ((turnsN n * p : Nat) : Int) * (t / ((turnsN n * p : Nat) : Int)) := by
        rw [Int.natCast_mul, ← Int.mul_assoc, Int.mul_comm (p : Int)]
      rw [this]; omega
    · rw [Int.toNat_of_nonneg r.1]
      unfold lagZ
      by_cases hn : n = 1
      · rw [if_pos hn, if_pos hn]
      · rw [if_neg hn, if_neg hn]
        have tn : (turnsN n : Int) = 2 * n - 2 := by unfold turnsN; omega
        have : (s + t) % (2 * (n : Int) - 2) = (s + t % ((turnsN n * p : Nat) : Int)) % (2 * (n : Int) - 2) := by
          rw [Int.emod_eq_emod_iff_emod_sub_eq_zero]
          refine Int.emod_eq_zero_of_dvd ⟨p * (t / ((turnsN n * p : Nat) : Int)), ?_⟩
          rw [← Int.mul_assoc, ← tn, ← Int.natCast_mul]; omega
        rw [this]
  intro t t' e
  obtain ⟨a, a1, a2, a3⟩ := key t
  obtain ⟨b, b1, b2, b3⟩ := key t'
  rw [a2, b2]
  rw [a3, b3] at e
  have r := lag_rng n1 (s + a)
  rcases h.at_ (lagZ n (s + a)).toNat (by omega) with ⟨_, q⟩ | ⟨z, _, _, q⟩
  · exact absurd rfl (q a a1)
  · rw [q a a1 rfl, q b b1 (by rw [← e])]
theorem shows_row {p w n k : Nat} {g : Nat → Nat → Bool} {s : Nat} {L : List D} {t u v : D} (c : Cyc (xs p w g) p) (n1 : 1 ≤ n) (n2 : n ≤ 1000) (hk : k ≤ 1000000) (h : Lags (xs p w g) n s k L) :
    ∃ s1, gdN 4 (.int (k : Int)) [.nd (.lst false) (rowsD p w g), .v (.int n), .v (.int s), .nd (.lst true) L, t, u, v] = some s1 ∧
      ((∃ s2, fb__law_shows_1 s1 = .nx s2 ∧ ∃ L' t' u' v', s2 = [.nd (.lst false) (rowsD p w g), .v (.int n), .v (.int s), .nd (.lst true) L', t', u', v'] ∧ Lags (xs p w g) n s (k + 1) L') ∨ ∃ d s2, fb__law_shows_1 s1 = .rt d s2 ∧ d = .v (.bl false) ∧ ¬ Sh (xs p w g) n s) := by
  have p0 := c.p0
  refine ⟨_, rfl, ?_⟩
  have hlen := len_rows (o := false) (h := p) (w := w) (f := g)
  have m1 := oMod_s (i := (k : Int)) (j := (p : Int)) (by omega)
  have x1 := ix_cycL (o := false) (w := w) (g := g) p0 (k : Int)
  have lg := law_lag n1 n2 ((s : Int) + k)
  have r := lag_rng n1 ((s : Int) + k)
  generalize hx : xs p w g = x at *
  obtain ⟨l, hl⟩ : ∃ l : Nat, lagZ n ((s : Int) + k) = l := ⟨(lagZ n ((s : Int) + k)).toNat, by omega⟩
  rw [hl] at lg r
  have hl2 : (lagZ n ((s : Int) + k)).toNat = l := by omega
  have li : (0 : Int) ≤ l := by omega
  have hLn : ixN L.length (l : Int) = some l := by rw [ixN_pos li (by rw [h.len]; omega), Int.toNat_natCast]
  have O1 := fun q => rowsHas (q := q) (h := p) (w := w) (f := g)
  rcases h.at_ l (by omega) with ⟨e, q⟩ | ⟨z, e, ⟨t0, q0, q1⟩, q⟩
  · have ix0 : ixD (.nd (.lst true) L) (.v (.int l)) = some (.v .non) := by rw [VS.ix_lst li, Int.toNat_natCast]; exact e
    have ix1 : ixD (.nd (.lst true) (L.set l (.v (.str (x k))))) (.v (.int l)) = some (.v (.str (x k))) := by
      rw [VS.ix_lst li, Int.toNat_natCast, List.getElem?_set_self (by rw [h.len]; omega)]
    refine .inl ⟨[.nd (.lst false) (rowsD p w g), .v (.int n), .v (.int s), .nd (.lst true) (L.set l (.v (.str (x k)))), .v (.int k), .v (.str (x k)), .v (.int l)], ?_, _, _, _, _, rfl, ⟨by rw [List.length_set]; exact h.len, fun m hm => ?_⟩⟩
    · unfold fb__law_shows_1 if__law_shows_1 if__law_shows_2
      generalize oMod = OO at *
      simp [nn, ns, hlen, m1, x1, lg, ix0, ix1, hLn]
    · by_cases hml : m = l
      · subst hml
        refine .inr ⟨x k, by rw [List.getElem?_set_self (by rw [h.len]; omega)], ⟨k, by omega, hl2⟩, fun t ht et => ?_⟩
        rcases Nat.lt_or_ge t k with a | a
        · exact absurd et (q t a)
        · have : t = k := by omega
          rw [this]
      · rw [List.getElem?_set_ne (fun z => hml z.symm)]
        rcases h.at_ m hm with ⟨e2, q2⟩ | ⟨z, e2, ⟨t0, a0, a1⟩, q2⟩
        · refine .inl ⟨e2, fun t ht et => ?_⟩
          rcases Nat.lt_or_ge t k with a | a
          · exact q2 t a et
          · have : t = k := by omega
            rw [this] at et
            exact hml (by omega)
        · refine .inr ⟨z, e2, ⟨t0, by omega, a1⟩, fun t ht et => ?_⟩
          rcases Nat.lt_or_ge t k with a | a
          · exact q2 t a et
          · have : t = k := by omega
            rw [this] at et
            exact absurd (by omega) hml
  · have ix0 : ixD (.nd (.lst true) L) (.v (.int l)) = some (.v (.str z)) := by rw [VS.ix_lst li, Int.toNat_natCast]; exact e
    by_cases ez : z = x k
    · refine .inl ⟨[.nd (.lst false) (rowsD p w g), .v (.int n), .v (.int s), .nd (.lst true) L, .v (.int k), .v (.str (x k)), .v (.int l)], ?_, _, _, _, _, rfl, ⟨h.len, fun m hm => ?_⟩⟩
      · unfold fb__law_shows_1 if__law_shows_1 if__law_shows_2
        generalize oMod = OO at *
        simp [nn, ns, hlen, m1, x1, lg, ix0, ez]
      · by_cases hml : m = l
        · subst hml
          refine .inr ⟨z, e, ⟨t0, by omega, q1⟩, fun t ht et => ?_⟩
          rcases Nat.lt_or_ge t k with a | a
          · exact q t a et
          · have : t = k := by omega
            rw [this, ez]
        · rcases h.at_ m hm with ⟨e2, q2⟩ | ⟨z2, e2, ⟨t2, a0, a1⟩, q2⟩
          · refine .inl ⟨e2, fun t ht et => ?_⟩
            rcases Nat.lt_or_ge t k with a | a
            · exact q2 t a et
            · have : t = k := by omega
              rw [this] at et
              exact hml (by omega)
          · refine .inr ⟨z2, e2, ⟨t2, by omega, a1⟩, fun t ht et => ?_⟩
            rcases Nat.lt_or_ge t k with a | a
            · exact q2 t a et
            · have : t = k := by omega
              rw [this] at et
              exact absurd (by omega) hml
    · refine .inr ⟨_, [.nd (.lst false) (rowsD p w g), .v (.int n), .v (.int s), .nd (.lst true) L, .v (.int k), .v (.str (x k)), .v (.int l)], ?_, rfl, fun sh => ez ?_⟩
      · unfold fb__law_shows_1 if__law_shows_1 if__law_shows_2
        generalize oMod = OO at *
        simp [nn, ns, hlen, m1, x1, lg, ix0, ez]
      · rw [← q t0 q0 q1]
        refine sh t0 k ?_
        have r2 := lag_rng n1 ((s : Int) + t0)
        omega
end Wk34
namespace Wk34
open PySem PySem.Spec PyProof.Rows L2 VS
theorem repl_flat : ∀ n : Nat, (List.replicate n [D.v .non]).flatten = List.replicate n (D.v .non)
  | 0 => rfl
  | n + 1 => by rw [List.replicate_succ, List.replicate_succ, List.flatten_cons, repl_flat n]; rfl
theorem repl_has (q : NK → Bool) : ∀ n : Nat, D.hass q (List.replicate n (D.v .non)) = false
  | 0 => rfl
  | n + 1 => by rw [List.replicate_succ]; simp [repl_has q n]
theorem law_shows {p w n s : Nat} {g : Nat → Nat → Bool} (c : Cyc (xs p w g) p) (hp : p ≤ 1000) (n1 : 1 ≤ n) (n2 : n ≤ 10) :
    ∃ b, D__law_shows [.nd (.lst false) (rowsD p w g), .v (.int n), .v (.int s)] = .ok (.v (.bl b), []) ∧ (b = true ↔ Sh (xs p w g) n s) := by
  have p0 := c.p0
  have hlen := len_rows (o := false) (h := p) (w := w) (f := g)
  have tn : turnsN n ≤ 20 := by unfold turnsN; omega
  have tN : turnsN n * p ≤ 20000 := Nat.le_trans (Nat.mul_le_mul tn hp) (by omega)
  have L0 : Lags (xs p w g) n s 0 (List.replicate n (.v .non)) := ⟨List.length_replicate, fun l hl => .inl ⟨by rw [List.getElem?_replicate, if_pos hl], fun t ht => absurd ht (Nat.not_lt_zero t)⟩⟩
  have fe := for_exit (g := gdN 4) (body := fb__law_shows_1) (n := turnsN n * p) (fun k s' => ∃ L t u v, s' = [.nd (.lst false) (rowsD p w g), .v (.int n), .v (.int s), .nd (.lst true) L, t, u, v] ∧ Lags (xs p w g) n s k L) (fun d => d = .v (.bl false) ∧ ¬ Sh (xs p w g) n s)
    (fun k s' hk ⟨L, t, u, v, e, h⟩ => by
      subst e
      obtain ⟨s1, e1, h1⟩ := shows_row (t := t) (u := u) (v := v) c n1 (by omega) (show k ≤ 1000000 by omega) h
      refine ⟨s1, e1, ?_⟩
      rcases h1 with ⟨s2, e2, h2⟩ | ⟨d, s2, e2, h2⟩
      · exact .inl ⟨s2, e2, h2⟩
      · exact .inr ⟨d, s2, e2, h2⟩)
    (turnsN n * p) 0 [.nd (.lst false) (rowsD p w g), .v (.int n), .v (.int s), .nd (.lst true) (List.replicate n (.v .non)), .un, .un, .un] (by omega) ⟨_, _, _, _, rfl, L0⟩
  rw [← List.range_eq_range'] at fe
  have m1 := oMul_s (i := 2) (j := (n : Int)) (by decide) (by decide) (by omega) (by omega)
  have mx : maxI 1 (2 * (n : Int) - 2) = (turnsN n : Int) := by unfold maxI turnsN; split <;> omega
  have m2 := oMul_s (i := (turnsN n : Int)) (j := (p : Int)) (by omega) (by omega) (by omega) (by omega)
  have rg : dRg1 (dAcons .tmp [] (dTwo .tmp [] oMul (dOp (i2D maxI) (dAcons .tmp [] (dc (.int 1)) (dAcons .tmp [] (dTwo .tmp [] oSub (dTwo .tmp [] oMul (dc (.int 2)) (dn 1)) (dc (.int 2))) dAnil))) (dOp (u1 lenD) (dAcons (.vw [0]) [] (dn 0) dAnil))) dAnil) [.nd (.lst false) (rowsD p w g), .v (.int n), .v (.int s), .nd (.lst true) (List.replicate n (.v .non)), .un, .un, .un] = .ok ((.v .non, rangeD (turnsN n * p)), [.nd (.lst false) (rowsD p w g), .v (.int n), .v (.int s), .nd (.lst true) (List.replicate n (.v .non)), .un, .un, .un]) := by
    refine rg1_nat ?_ (by omega)
    generalize oMul = OM at *
    simp [m1, mx, m2, hlen, i2D]
  have m3 : oMul (.nd (.lst true) [.v .non]) (.v (.int (n : Int))) = some (.nd (.lst true) (List.replicate n (.v .non))) := by
    unfold oMul
    simp only [List.length_singleton, Int.toNat_natCast, Int.natAbs_natCast, Nat.one_mul]
    rw [if_pos (by
      have : n ≤ sizeLine := by rw [sizeLine_eq]; omega
      simp [this]; omega)]
    rw [repl_flat]
  have z1 : 1 ≤ sizeLine := by rw [sizeLine_eq]; decide
  have hrn := fun q => repl_has q n
  rcases fe with ⟨s', e, L, t, u, v, rfl, h⟩ | ⟨d, s', e, rfl, h⟩
  · have ef : fo__law_shows_1 [.nd (.lst false) (rowsD p w g), .v (.int n), .v (.int s), .nd (.lst true) (List.replicate n (.v .non)), .un, .un, .un] = .nx [.nd (.lst false) (rowsD p w g), .v (.int n), .v (.int s), .nd (.lst true) L, t, u, v] := by
      unfold fo__law_shows_1
      rw [for_rg rg]
      exact e
    refine ⟨true, ?_, ⟨fun _ => sh_of c n1 h, fun _ => rfl⟩⟩
    unfold D__law_shows b__law_shows
    generalize oMul = OM at *
    simp [m3, ef, chkT, z1, hrn]
  · have ef : fo__law_shows_1 [.nd (.lst false) (rowsD p w g), .v (.int n), .v (.int s), .nd (.lst true) (List.replicate n (.v .non)), .un, .un, .un] = .rt (.v (.bl false)) s' := by
      unfold fo__law_shows_1
      rw [for_rg rg]
      exact e
    refine ⟨false, ?_, ⟨fun z => (nomatch z), fun z => absurd z h⟩⟩
    unfold D__law_shows b__law_shows
    generalize oMul = OM at *
    simp [m3, ef, chkT, z1, hrn]
end Wk34
namespace Wk34
open PySem PySem.Spec PyProof.Rows L2 VS
/-- n lags are enough -/
def GoodN (x : Int → Str) (n : Nat) : Prop := ∃ s : Nat, s < turnsN n ∧ Sh x n s
theorem good_one {x : Int → Str} {a : Nat} (c : Cyc x a) : GoodN x 1 ↔ a = 1 := by
  rw [← c.one]
  constructor
  · rintro ⟨s, _, h⟩; exact sh1.mp h
  · intro h; exact ⟨0, by decide, sh1.mpr h⟩
theorem good_more {x : Int → Str} {a n : Nat} (c : Cyc x a) (hn : 2 ≤ n) : GoodN x n ↔ a ∣ 2 * n - 2 ∧ anyM x = true := by
  have : turnsN n = 2 * n - 2 := by unfold turnsN; omega
  unfold GoodN
  rw [this, c.sh hn, anyM_iff]
theorem pl_found {x : Int → Str} {a k : Nat} (c : Cyc x a) (h : GoodN x (1 + k)) (l : ∀ j, j < k → ¬ GoodN x (1 + j)) : plD a (anyM x) = some (1 + k) := by
  have a0 := c.p0
  rcases Nat.eq_zero_or_pos k with rfl | hk
  · have a1 := (good_one c).mp h
    have : anyM x = true := anyM_iff.mpr ⟨0, (c.mir_fin 0).mpr fun d d1 d2 => by omega⟩
    simp [plD, this, a1]
  · have a1 : ¬ a = 1 := fun e => l 0 hk ((good_one c).mpr e)
    obtain ⟨hd, ha⟩ := (good_more c (by omega)).mp h
    have nl : ∀ n, 2 ≤ n → n < 1 + k → ¬ a ∣ 2 * n - 2 := fun n n2 nk z => l (n - 1) (by omega) (by
      rw [show 1 + (n - 1) = n by omega]
      exact (good_more c n2).mpr ⟨z, ha⟩)
    unfold plD
    rw [ha]
    simp only [Bool.true_eq_false, if_false, a1]
    by_cases he : a % 2 = 0
    · rw [if_pos he]
      have e1 := pl_even a0 he (by omega) hd
      have : ¬ a / 2 + 1 < 1 + k := fun z => nl (a / 2 + 1) (by omega) z ⟨1, by omega⟩
      rw [show a / 2 + 1 = 1 + k by omega]
    · rw [if_neg he]
      have e1 := pl_odd (by omega) (by omega) hd
      have : ¬ a + 1 < 1 + k := fun z => nl (a + 1) (by omega) z ⟨2, by omega⟩
      rw [show a + 1 = 1 + k by omega]
noncomputable def shB (x : Int → Str) (n : Nat) (s : Int) : Bool := @decide (Sh x n s) (Classical.propDecidable _)
theorem shB_iff {x : Int → Str} {n : Nat} {s : Int} : shB x n s = true ↔ Sh x n s := by unfold shB; exact @decide_eq_true_iff _ (Classical.propDecidable _)
noncomputable def goodB (x : Int → Str) (n : Nat) : Bool := @decide (GoodN x n) (Classical.propDecidable _)
theorem goodB_iff {x : Int → Str} {n : Nat} : goodB x n = true ↔ GoodN x n := by unfold goodB; exact @decide_eq_true_iff _ (Classical.propDecidable _)
theorem try_n {a w n : Nat} {g : Nat → Nat → Bool} {A B : D} {u4 u5 u6 : D} (c : Cyc (xs a w g) a) (ha : a ≤ 1000) (n1 : 1 ≤ n) (n2 : n ≤ 10) :
    (goodB (xs a w g) n = true ∧ ∃ s2, fb__law_point_lags_2 [A, B, .nd (.lst true) (rowsD a w g), .v (.int n), u4, u5, u6] = .rt (.v (.int n)) s2) ∨ (goodB (xs a w g) n = false ∧ ∃ u5', fb__law_point_lags_2 [A, B, .nd (.lst true) (rowsD a w g), .v (.int n), u4, u5, u6] = .nx [A, B, .nd (.lst true) (rowsD a w g), .v (.int n), u4, u5', u6]) := by
  have O := fun q => rowsHas (q := q) (h := a) (w := w) (f := g)
  have F := rowsFz (h := a) (w := w) (f := g)
  have m1 := oMul_s (i := 2) (j := (n : Int)) (by decide) (by decide) (by omega) (by omega)
  have mx : maxI 1 (2 * (n : Int) - 2) = (turnsN n : Int) := by unfold maxI turnsN; split <;> omega
  have tn : turnsN n ≤ 20 := by unfold turnsN; omega
  have rg : dRg1 (dAcons .tmp [] (dOp (i2D maxI) (dAcons .tmp [] (dc (.int 1)) (dAcons .tmp [] (dTwo .tmp [] oSub (dTwo .tmp [] oMul (dc (.int 2)) (dn 3)) (dc (.int 2))) dAnil))) dAnil) [A, B, .nd (.lst true) (rowsD a w g), .v (.int n), u4, u5, u6] = .ok ((.v .non, rangeD (turnsN n)), [A, B, .nd (.lst true) (rowsD a w g), .v (.int n), u4, u5, u6]) := by
    refine rg1_nat ?_ (by omega)
    generalize oMul = OM at *
    simp [m1, mx, i2D]
  have st : ∀ k ∈ List.range (turnsN n), ∀ s, (∃ u, s = [A, B, .nd (.lst true) (rowsD a w g), .v (.int n), u4, u, u6]) → ∃ s1, gdN 5 (D.int (k : Int)) s = some s1 ∧
      ((shB (xs a w g) n (k : Nat) = true ∧ ∃ s2, fb__law_point_lags_1 s1 = .rt (.v (.int n)) s2 ∧ True) ∨ (shB (xs a w g) n (k : Nat) = false ∧ ∃ s2, fb__law_point_lags_1 s1 = .nx s2 ∧ ∃ u, s2 = [A, B, .nd (.lst true) (rowsD a w g), .v (.int n), u4, u, u6])) := by
    rintro k _ s ⟨u, rfl⟩
    refine ⟨_, rfl, ?_⟩
    obtain ⟨b, e, hb⟩ := law_shows (s := k) c ha n1 n2
    cases b with
    | true =>
      refine .inl ⟨shB_iff.mpr (hb.mp rfl), ?_⟩
      simp [fb__law_point_lags_1, if__law_point_lags_1, O, F, e]
    | false =>
      refine .inr ⟨(by rw [Bool.eq_false_iff]; intro z; have := hb.mpr (shB_iff.mp z); cases this), ?_⟩
      simp [fb__law_point_lags_1, if__law_point_lags_1, O, F, e]
  rcases forL_find (g := gdN 5) (body := fb__law_point_lags_1) (enc := fun (k : Nat) => D.int (k : Int)) (fun k => shB (xs a w g) n (k : Nat)) (fun _ => D.v (.int n)) (fun s => ∃ u, s = [A, B, .nd (.lst true) (rowsD a w g), .v (.int n), u4, u, u6]) (fun _ _ => True) (List.range (turnsN n))
      [A, B, .nd (.lst true) (rowsD a w g), .v (.int n), u4, u5, u6] ⟨_, rfl⟩ st with ⟨pre, k, post, s2, e1, _, e2, e3, _⟩ | ⟨e1, s2, e3, u, rfl⟩
  · refine .inl ⟨goodB_iff.mpr ⟨k, List.mem_range.mp (by rw [e1]; simp), shB_iff.mp e2⟩, s2, ?_⟩
    unfold fb__law_point_lags_2 fo__law_point_lags_1
    rw [for_rg rg]
    exact e3
  · refine .inr ⟨(by
      rw [Bool.eq_false_iff]
      intro z
      obtain ⟨s, hs, h2⟩ := goodB_iff.mp z
      have := e1 s (List.mem_range.mpr hs)
      rw [shB_iff.mpr h2] at this; cases this), u, ?_⟩
    unfold fb__law_point_lags_2 fo__law_point_lags_1
    rw [for_rg rg]
    exact e3
end Wk34
namespace Wk34
open PySem PySem.Spec PyProof.Rows L2 VS
theorem mir_rows {a w m : Nat} {g : Nat → Nat → Bool} (c : Cyc (xs a w g) a) (hm : m < a) :
    (mk (a - 1) w (fun i => g ((m + (1 + i)) % a)) = mk (a - 1) w fun i => g ((m + (1 + (a - 1 - 1 - i))) % a)) ↔ Mir (xs a w g) m := by
  have a0 := c.p0
  rw [c.mir_fin]
  have ex : ∀ k : Nat, xs a w g (k : Int) = mkRow w (g (k % a)) := fun k => by
    unfold xs
    rw [← Int.natCast_emod, Int.toNat_natCast]
  have e1 : ∀ d : Nat, 1 ≤ d → d < a → xs a w g ((m : Int) - d) = mkRow w (g ((m + (1 + (a - 1 - 1 - (d - 1)))) % a)) := fun d d1 d2 => by
    rw [← ex]
    refine per_dvd c.per ⟨-1, ?_⟩
    omega
  have e2 : ∀ d : Nat, 1 ≤ d → d < a → xs a w g ((m : Int) + d) = mkRow w (g ((m + (1 + (d - 1))) % a)) := fun d d1 d2 => by
    rw [← ex]
    congr 1
    omega
  constructor
  · intro e d d1 d2
    rw [e1 d d1 d2, e2 d d1 d2]
    exact mkRow_congr fun j hj => (mk_inj e (d - 1) j (by omega) hj).symm
  · intro h
    refine mk_congr fun i j hi hj => ?_
    have := h (i + 1) (by omega) (by omega)
    rw [e1 _ (by omega) (by omega), e2 _ (by omega) (by omega), Nat.add_sub_cancel] at this
    exact (mkRow_inj this j hj).symm
theorem law_mirrors {a w h : Nat} {g f : Nat → Nat → Bool} {u3 u5 : D} (c : Cyc (xs a w g) a) (ha : a ≤ 1000) :
    co__law_point_lags_1 [.nd (.lst false) (rowsD h w f), .v (.int a), .nd (.lst true) (rowsD a w g), u3, .un, u5, .un] = .ok (.nd (.lst true) (((List.range a).filter fun m => mirB (xs a w g) (m : Nat)).map fun (k : Nat) => D.int (k : Int)), [.nd (.lst false) (rowsD h w f), .v (.int a), .nd (.lst true) (rowsD a w g), u3, .un, u5, .un]) := by
  unfold co__law_point_lags_1
  refine lc_rangeF (rg1_nat (n := a) (s' := [.nd (.lst false) (rowsD h w f), .v (.int a), .nd (.lst true) (rowsD a w g), u3, .un, u5, .un]) (by simp) (by omega)) (by omega) rfl (fun m hm => ⟨[.nd (.lst false) (rowsD h w f), .v (.int a), .nd (.lst true) (rowsD a w g), u3, .un, u5, .v (.int m)], rfl, ?_⟩)
  have hm := List.mem_range.mp hm
  have sl1 : slD (.nd (.lst true) (rowsD a w g)) (some (m : Int)) none = some (.nd (.lst true) ((rowsD a w g).drop m)) := by simp [slD, cutL_from]
  have sl2 : slD (.nd (.lst true) (rowsD a w g)) none (some (m : Int)) = some (.nd (.lst true) ((rowsD a w g).take m)) := by simp [slD, cutL_to]
  have cat : oAdd (.nd (.lst true) ((rowsD a w g).drop m)) (.nd (.lst true) ((rowsD a w g).take m)) = some (.nd (.lst true) (rowsD a w fun i => g ((m + i) % a))) := by
    have hz : (a - m) + m ≤ sizeLine := by rw [sizeLine_eq]; omega
    have e := rows_rot (w := w) (f := g) (n := m) (h := a) (by omega)
    have o1 : D.hass NK.isOwn ((rowsD a w g).drop m) = false := by rw [rows_drop]; exact rowsHas
    have o2 : D.hass NK.isOwn ((rowsD a w g).take m) = false := by rw [rows_take (by omega)]; exact rowsHas
    simp [e, o1, o2, Nat.min_eq_left (show m ≤ a by omega), hz]
  have sl3 : slD (.nd (.lst true) (rowsD a w fun i => g ((m + i) % a))) (some (1 : Int)) none = some (.nd (.lst true) (rowsD (a - 1) w fun i => g ((m + (1 + i)) % a))) := by
    rw [show (1 : Int) = ((1 : Nat) : Int) from rfl]
    simp only [slD, rowsHas, if_true, cutL_from]
    rw [rows_drop]
  have rv : revD (.nd (.lst true) (rowsD (a - 1) w fun i => g ((m + (1 + i)) % a))) = some (.nd (.lst true) (rowsD (a - 1) w fun i => g ((m + (1 + (a - 1 - 1 - i))) % a))) := by
    simp [revD, rowsHas, rows_rev]
  have q := eqD_rows (a := true) (b := true) (h := a - 1) (w := w) (h' := a - 1) (w' := w) (f := fun i => g ((m + (1 + i)) % a)) (g := fun i => g ((m + (1 + (a - 1 - 1 - i))) % a))
  have mr := mir_rows c hm
  generalize oAdd = OA at *
  cases hr : decide (mk (a - 1) w (fun i => g ((m + (1 + i)) % a)) = mk (a - 1) w fun i => g ((m + (1 + (a - 1 - 1 - i))) % a)) with
  | true =>
    rw [hr] at q
    refine .inl ⟨mirB_iff.mpr (mr.mp (of_decide_eq_true hr)), [.nd (.lst false) (rowsD h w f), .v (.int a), .nd (.lst true) (rowsD a w g), u3, .un, u5, .v (.int m)], [.nd (.lst false) (rowsD h w f), .v (.int a), .nd (.lst true) (rowsD a w g), u3, .un, u5, .v (.int m)], ?_, ?_, rfl, rfl⟩
    · simp [fS01, fS10, sl1, sl2, sl3, cat, rv, q]
    · simp [ce__law_point_lags_1]
  | false =>
    rw [hr] at q
    refine .inr ⟨(by rw [Bool.eq_false_iff]; intro z; exact of_decide_eq_false hr (mr.mpr (mirB_iff.mp z))), [.nd (.lst false) (rowsD h w f), .v (.int a), .nd (.lst true) (rowsD a w g), u3, .un, u5, .v (.int m)], ?_, rfl⟩
    simp [fS01, fS10, sl1, sl2, sl3, cat, rv, q]
end Wk34
namespace Wk34
open PySem PySem.Spec PyProof.Rows L2 VS
theorem law_point_lags {h w a : Nat} {f : Nat → Nat → Bool} (h0 : 1 ≤ h) (h1 : h ≤ 1000) (p : Per h w f a) :
    D__law_point_lags [.nd (.lst false) (rowsD h w f), .v (.int a)] = .ok (optD (plD a (anyM (xs h w f))), []) := by
  have a1 : a ≤ h := p.n1
  have xe : xs a w f = xs h w f := (funext fun i => xs_dvd h0 p i).symm
  have c : Cyc (xs a w f) a := by rw [xe]; exact per_cyc h0 p
  rw [← xe]
  have a0 := c.p0
  have sl : slD (.nd (.lst false) (rowsD h w f)) none (some (a : Int)) = some (.nd (.lst true) (rowsD a w f)) := by
    simp only [slD, rowsHas, if_true, cutL_to]
    rw [rows_take a1]
  have st : ∀ k ∈ List.range 8, ∀ s, (∃ u3 u5, s = [.nd (.lst false) (rowsD h w f), .v (.int a), .nd (.lst true) (rowsD a w f), u3, .un, u5, .un]) → ∃ s1, gdN 3 (D.int (1 + (k : Int))) s = some s1 ∧
      ((goodB (xs a w f) (1 + k) = true ∧ ∃ s2, fb__law_point_lags_2 s1 = .rt (.v (.int (1 + (k : Int)))) s2 ∧ True) ∨ (goodB (xs a w f) (1 + k) = false ∧ ∃ s2, fb__law_point_lags_2 s1 = .nx s2 ∧ ∃ u3 u5, s2 = [.nd (.lst false) (rowsD h w f), .v (.int a), .nd (.lst true) (rowsD a w f), u3, .un, u5, .un])) := by
    rintro k hk s ⟨u3, u5, rfl⟩
    have hk := List.mem_range.mp hk
    refine ⟨_, rfl, ?_⟩
    have e : (1 + (k : Int)) = ((1 + k : Nat) : Int) := by omega
    rw [e]
    rcases try_n (n := 1 + k) (A := .nd (.lst false) (rowsD h w f)) (B := .v (.int a)) (u4 := .un) (u5 := u5) (u6 := .un) c (by omega) (by omega) (by omega) with ⟨q1, s2, q2⟩ | ⟨q1, u5', q2⟩
    · exact .inl ⟨q1, s2, q2, trivial⟩
    · exact .inr ⟨q1, _, q2, _, _, rfl⟩
  have rg : dRg2 (dAcons .tmp [] (dc (.int 1)) (dAcons .tmp [] (dc (.int 9)) dAnil)) [.nd (.lst false) (rowsD h w f), .v (.int a), .nd (.lst true) (rowsD a w f), .un, .un, .un, .un] = .ok ((.v .non, (List.range 8).map fun (k : Nat) => D.int (1 + (k : Int))), [.nd (.lst false) (rowsD h w f), .v (.int a), .nd (.lst true) (rowsD a w f), .un, .un, .un, .un]) := rg2_one (b := 9) (by simp) (by decide)
  have hO : D.hass NK.isOwn ((List.range 8).map fun (k : Nat) => D.int (1 + (k : Int))) = false := by
    have := has_ints NK.isOwn ((List.range 8).map fun (k : Nat) => 1 + (k : Int))
    rwa [List.map_map] at this
  have O := fun q => rowsHas (q := q) (h := h) (w := w) (f := f)
  have O2 := fun q => rowsHas (q := q) (h := a) (w := w) (f := f)
  rcases forL_find (g := gdN 3) (body := fb__law_point_lags_2) (enc := fun (k : Nat) => D.int (1 + (k : Int))) (fun k => goodB (xs a w f) (1 + k)) (fun (k : Nat) => D.int (1 + (k : Int))) (fun s => ∃ u3 u5, s = [.nd (.lst false) (rowsD h w f), .v (.int a), .nd (.lst true) (rowsD a w f), u3, .un, u5, .un]) (fun _ _ => True) (List.range 8)
      [.nd (.lst false) (rowsD h w f), .v (.int a), .nd (.lst true) (rowsD a w f), .un, .un, .un, .un] ⟨_, _, rfl⟩ st with ⟨pre, k, post, s2, e1, e0, e2, e3, _⟩ | ⟨e1, s2, e3, u3, u5, rfl⟩
  · have ef : fo__law_point_lags_2 [.nd (.lst false) (rowsD h w f), .v (.int a), .nd (.lst true) (rowsD a w f), .un, .un, .un, .un] = .rt (D.int (1 + (k : Int))) s2 := by
      unfold fo__law_point_lags_2
      rw [for_it rg (by rfl) hO, e3]
    obtain ⟨z1, z2, z3⟩ := pre_range e1
    have pl := pl_found c (goodB_iff.mp e2) fun j hj z => by
      have := e0 j (by rw [z2]; exact List.mem_range.mpr hj)
      rw [goodB_iff.mpr z] at this; cases this
    rw [pl]
    have e : optD (some (1 + k)) = D.int (1 + (k : Int)) := by
      show D.int ((1 + k : Nat) : Int) = _
      rw [show ((1 + k : Nat) : Int) = 1 + (k : Int) by omega]
    rw [e]
    simp [D__law_point_lags, b__law_point_lags, fS01, sl, ef]
  · have ef : fo__law_point_lags_2 [.nd (.lst false) (rowsD h w f), .v (.int a), .nd (.lst true) (rowsD a w f), .un, .un, .un, .un] = .nx [.nd (.lst false) (rowsD h w f), .v (.int a), .nd (.lst true) (rowsD a w f), u3, .un, u5, .un] := by
      unfold fo__law_point_lags_2
      rw [for_it rg (by rfl) hO, e3]
    have na : ¬ a = 1 := fun z => by
      have := e1 0 (by decide)
      rw [goodB_iff.mpr ((good_one c).mpr z)] at this; cases this
    have co := law_mirrors (h := h) (f := f) (u3 := u3) (u5 := u5) c (by omega)
    have ml := mir_list c
    generalize hl : (List.range a).filter (fun m => mirB (xs a w f) (m : Nat)) = l at *
    have len : lenD (.nd (.lst true) (l.map fun (k : Nat) => D.int (k : Int))) = some (.v (.int l.length)) := by simp [lenD]
    have hO2 := fun q => ints_filter (l := l) (q := q)
    have q2 := oMod_s (i := (a : Int)) (j := 2) (by decide)
    have v2 := oDiv_s (i := (a : Int)) (j := 2) (by decide) (by decide)
    unfold D__law_point_lags b__law_point_lags if__law_point_lags_2 if__law_point_lags_3
    generalize oMod = OO at *
    generalize oDiv = OV at *
    cases hm : anyM (xs a w f) with
    | false =>
      have z : (l.length : Int) = 0 := by have := ml.mpr hm; omega
      have : plD a false = none := rfl
      rw [this]
      rw [z] at len
      simp [fS01, sl, ef, co, len, hO2, optD]
    | true =>
      have z : ¬ (l.length : Int) = 0 := fun e => by
        have := ml.mp (by omega)
        rw [hm] at this; cases this
      have zl : ¬ l = [] := fun e => z (by rw [e]; rfl)
      by_cases h2 : a % 2 = 0
      · have e1 : plD a true = some (a / 2 + 1) := by simp [plD, na, h2]
        have h2i : (a : Int) % 2 = 0 := by omega
        rw [e1]
        rw [h2i] at q2
        simp [fS01, sl, ef, co, len, hO2, optD, z, zl, q2, v2]
      · have e1 : plD a true = some (a + 1) := by simp [plD, na, h2]
        have h2i : (a : Int) % 2 = 1 := by omega
        rw [e1]
        rw [h2i] at q2
        simp [fS01, sl, ef, co, len, hO2, optD, z, zl, q2, v2]
end Wk34
namespace Wk34
open PySem PySem.Spec PyProof.Rows L2 VS
section
variable {C : Addr}
theorem is_tb {xs : List D} : isiD (isaT C) [C] [.nd .tup xs, .v (.ty "bool")] = some (.v (.bl false)) := isi_b rfl (by decide +kernel)
theorem is_ti {xs : List D} : isiD (isaT C) [C] [.nd .tup xs, .v (.ty "int")] = some (.v (.bl false)) := isi_b rfl (by decide +kernel)
theorem is_ts {xs : List D} : isiD (isaT C) [C] [.nd .tup xs, .v (.ty "str")] = some (.v (.bl false)) := isi_b rfl (by decide +kernel)
theorem is_sb {z : Str} : isiD (isaT C) [C] [.v (.str z), .v (.ty "bool")] = some (.v (.bl false)) := isi_b rfl (by decide +kernel)
theorem is_si {z : Str} : isiD (isaT C) [C] [.v (.str z), .v (.ty "int")] = some (.v (.bl false)) := isi_b rfl (by decide +kernel)
theorem nt {b : Bool} {xs : List D} : isNoneD b (.nd .tup xs) (.v .non) = some b := by cases b <;> rfl
theorem ni {b : Bool} {i : Int} : isNoneD b (.v (.int i)) (.v .non) = some b := by cases b <;> rfl
theorem same_int {k : Nat} {i : Int} : D__law_same C (k + 1) [.v (.int i), .v (.int i)] = .ok (.v (.bl true), []) := by
  rw [D__law_same]
  simp [b__law_same, if__law_same_1, if__law_same_2, if__law_same_3, ni, isi_int, isi_intb]
theorem same_non {k : Nat} : D__law_same C (k + 1) [.v .non, .v .non] = .ok (.v (.bl true), []) := by
  rw [D__law_same]
  simp [b__law_same, if__law_same_1, nn]
theorem same_str {k : Nat} {z : Str} : D__law_same C (k + 1) [.v (.str z), .v (.str z)] = .ok (.v (.bl true), []) := by
  rw [D__law_same]
  simp [b__law_same, if__law_same_1, if__law_same_2, if__law_same_3, if__law_same_4, ns, isi_str, is_sb, is_si]
theorem same_opt {k : Nat} {o : Option Nat} : D__law_same C (k + 1) [optD o, optD o] = .ok (.v (.bl true), []) := by
  cases o
  · exact same_non
  · exact same_int
theorem same_tup {k : Nat} {xs : List D} (hl : xs.length ≤ 1000) (hO : D.hass NK.isOwn xs = false) (hx : ∀ x ∈ xs, x.fz = x ∧ x.isUn = false ∧ x.hasOwn = false ∧ D__law_same C k [x, x] = .ok (.v (.bl true), [])) :
    D__law_same C (k + 1) [.nd .tup xs, .nd .tup xs] = .ok (.v (.bl true), []) := by
  have hlen : lenD (.nd .tup xs) = some (.v (.int xs.length)) := by simp [lenD]
  rw [D__law_same]
  obtain ⟨s', e, y, rfl⟩ := for_range (g := gdN 2) (body := fb__law_same_1 C (D__law_same C k)) (n := xs.length) (s := [.nd .tup xs, .nd .tup xs, .un])
    (fun i s => ∃ y, s = [.nd .tup xs, .nd .tup xs, y]) ⟨.un, rfl⟩ (by
      rintro i s hi ⟨y, rfl⟩
      refine ⟨_, [.nd .tup xs, .nd .tup xs, .v (.int i)], rfl, .inl ?_, _, rfl⟩
      have ix : ixD (.nd .tup xs) (.v (.int i)) = some xs[i] := by rw [VS.ix_tup (by omega), Int.toNat_natCast, List.getElem?_eq_getElem hi]
      obtain ⟨h1, h2, h3, h4⟩ := hx _ (List.getElem_mem hi)
      generalize xs[i] = x at *
      simp [fb__law_same_1, if__law_same_6, ix, h1, h2, h3, h4, hO])
  have ef : fo__law_same_1 C (D__law_same C k) [.nd .tup xs, .nd .tup xs, .un] = .nx [.nd .tup xs, .nd .tup xs, y] := by
    unfold fo__law_same_1
    rw [for_rg (rg1_nat (n := xs.length) (s' := [.nd .tup xs, .nd .tup xs, .un]) (by simp [hlen]) (by omega)), e]
  simp [b__law_same, if__law_same_1, if__law_same_2, if__law_same_3, if__law_same_4, if__law_same_5, nt, is_tb, is_ti, is_ts, isi_tup, hlen, ef]
theorem same_due {a : Nat} {o : Option Nat} : D__law_same C 3 [.nd .tup [.v (.int a), optD o], .nd .tup [.v (.int a), optD o]] = .ok (.v (.bl true), []) := by
  refine same_tup (by simp) (by cases o <;> rfl) fun x m => ?_
  rcases List.mem_cons.mp m with rfl | m
  · exact ⟨rfl, rfl, rfl, same_int⟩
  · rw [List.mem_singleton.mp m]
    exact ⟨by cases o <;> rfl, by cases o <;> rfl, by cases o <;> rfl, same_opt⟩
theorem same_cloth {h w : Nat} {f : Nat → Nat → Bool} (h1 : h ≤ 1000) : D__law_same C 3 [.nd .tup [.nd .tup (rowsD h w f), .v (.int h), .v (.int w)], .nd .tup [.nd .tup (rowsD h w f), .v (.int h), .v (.int w)]] = .ok (.v (.bl true), []) := by
  have O := fun q => rowsHas (q := q) (h := h) (w := w) (f := f)
  have F := rowsFz (h := h) (w := w) (f := f)
  refine same_tup (by simp) (by simp [O]) fun x m => ?_
  rcases List.mem_cons.mp m with rfl | m
  · refine ⟨by simp [F], rfl, by simp [O], same_tup (by simp; exact h1) (O _) fun x m => ?_⟩
    rw [rowsD_map] at m
    obtain ⟨i, _, rfl⟩ := List.mem_map.mp m
    exact ⟨rfl, rfl, rfl, same_str⟩
  · rcases List.mem_cons.mp m with rfl | m
    · exact ⟨rfl, rfl, rfl, same_int⟩
    · rw [List.mem_singleton.mp m]
      exact ⟨rfl, rfl, rfl, same_int⟩
end
end Wk34
namespace Wk34
open PySem PySem.Spec PyProof.Rows L2 VS
theorem drum_told {C : Addr} {h w : Nat} {f : Nat → Nat → Bool} (d : Dim h w) (t : Int) : D__law_drum_told C [.nd (.lst false) (rowsD h w f), .v (.int t)] = .ok (.v (.bl true), []) := by
  obtain ⟨h0, h1, w0, w1⟩ := id d
  obtain ⟨a, er, p⟩ := ring_lags (h := h) (w := w) (f := f) h0 (by omega)
  have ep := law_point_lags h0 (by omega) p
  obtain ⟨a', p', ed⟩ := drum (C := C) (f := f) d
  have : a' = a := p'.uniq p
  subst this
  have es := shifted (C := C) (f := f) d (t + 1) (t - 2)
  have eds := drum_shifted (C := C) d p (t + 1) (t - 2)
  generalize hg : shF h w ((t + 1) % h).toNat ((t - 2) % w).toNat f = g at *
  generalize ho : plD a' (anyM (xs h w f)) = o at *
  have sd := same_due (C := C) (a := a') (o := o)
  have sc := same_cloth (C := C) (h := h) (w := w) (f := f) (by omega)
  have O := fun q => rowsHas (q := q) (h := h) (w := w) (f := f)
  have F := rowsFz (h := h) (w := w) (f := f)
  have Og := fun q => rowsHas (q := q) (h := h) (w := w) (f := g)
  have Fg := rowsFz (h := h) (w := w) (f := g)
  have hlen := len_rows (o := false) (h := h) (w := w) (f := f)
  have lr := len_row (w := w) (f := f 0) (by omega)
  have x0 : ixD (.nd (.lst false) (rowsD h w f)) (.v (.int 0)) = some (.v (.str (mkRow w (f 0)))) := by rw [VS.ix_lst (by decide)]; exact rowsD_get h0
  have z2 : 2 ≤ sizeLine := by rw [sizeLine_eq]; decide
  have z3 : 3 ≤ sizeLine := by rw [sizeLine_eq]; decide
  have hz : h < sizeLine := by rw [sizeLine_eq]; omega
  have q2 := oMod_s (i := t) (j := 2) (by decide)
  have lL : listD (.nd (.lst false) (rowsD h w f)) = some (.nd (.lst true) (rowsD h w f)) := by simp [listD, O]
  have lT : tupD (.nd (.lst false) (rowsD h w f)) = some (.nd .tup (rowsD h w f)) := by simp [tupD, O]
  have hod : (optD o).hasOwn = false := by cases o <;> rfl
  have hos : (optD o).hasShr = false := by cases o <;> rfl
  have hof : (optD o).fz = optD o := by cases o <;> rfl
  have hou : (optD o).isUn = false := by cases o <;> rfl
  generalize hoo : optD o = od at *
  have mk : dMake true C (D_Cloth___init__ C) [.val .tmp] (dCval .tmp [] (dIx .tmp [] (dDis (.lst true) [.tmp, .tmp] (dAcons .tmp [] (dOp (u1 listD) (dAcons (.vw [0]) [] (dn 0) dAnil)) (dAcons .tmp [] (dOp (u1 tupD) (dAcons (.vw [0]) [] (dn 0) dAnil)) dAnil))) (dTwo .tmp [] oMod (dOp (u1 intD) (dAcons (.vw [1]) [] (dn 1) dAnil)) (dc (.int 2)))) dCnil) [.nd (.lst false) (rowsD h w f), .v (.int t), .v (.int a'), .nd .tup [.v (.int a'), od], .un] = .ok (clothD C h w f, [.nd (.lst false) (rowsD h w f), .v (.int t), .v (.int a'), .nd .tup [.v (.int a'), od], .un]) := by
    have r0 := Int.emod_nonneg t (show (2 : Int) ≠ 0 by decide)
    have r1 := Int.emod_lt_of_pos t (show (0 : Int) < 2 by decide)
    by_cases ht : t % 2 = 0
    · refine makeO d ?_
      rw [ht] at q2
      have ix : ixD (.nd (.lst true) [.nd (.lst true) (rowsD h w f), .nd .tup (rowsD h w f)]) (.v (.int 0)) = some (.nd (.lst true) (rowsD h w f)) := by rw [VS.ix_lst (by decide)]; rfl
      generalize oMod = OO at *
      simp [lL, lT, chkT, z2, q2, ix, O]
    · have ht : t % 2 = 1 := by omega
      refine make (.inl rfl) d ?_
      rw [ht] at q2
      have ix : ixD (.nd (.lst true) [.nd (.lst true) (rowsD h w f), .nd .tup (rowsD h w f)]) (.v (.int 1)) = some (.nd .tup (rowsD h w f)) := by rw [VS.ix_lst (by decide)]; rfl
      generalize oMod = OO at *
      simp [lL, lT, chkT, z2, q2, ix, O]
  have i1 : if__law_drum_told_1 C [.nd (.lst false) (rowsD h w f), .v (.int t), .v (.int a'), .nd .tup [.v (.int a'), od], clothD C h w f] = .nx [.nd (.lst false) (rowsD h w f), .v (.int t), .v (.int a'), .nd .tup [.v (.int a'), od], clothD C h w f] := by
    simp [if__law_drum_told_1, ed, sd, es, eds, O, F, Og, Fg, hod, hos, hof, hou]
  have i2 : if__law_drum_told_2 C [.nd (.lst false) (rowsD h w f), .v (.int t), .v (.int a'), .nd .tup [.v (.int a'), od], clothD C h w f] = .nx [.nd (.lst false) (rowsD h w f), .v (.int t), .v (.int a'), .nd .tup [.v (.int a'), od], clothD C h w f] := by
    simp [if__law_drum_told_2, ed, sd, O, F, hod, hos, hof, hou, listD, ownD, orD, dFld, fldD, D.inst, fIx, hz, neD_rows]
  simp [D__law_drum_told, b__law_drum_told, er, ep, mk, i1, i2, sc, O, F, chkT, z2, z3, hod, hos, hof, hou, dFld, fldD, D.inst, fIx, lT, hlen, lr, x0]
end Wk34
namespace Wk34
open PySem PySem.Spec PyProof.Rows L2 VS
theorem exchR {h w : Nat} {f : Nat → Nat → Bool} (d : Dim h w) {i j : Nat} (hi : i < h) (hj : j < w) : ∃ g, D__law_exchange [.nd (.lst false) (rowsD h w f), .v (.int i), .v (.int j)] = .ok (.nd (.lst true) (rowsD h w g), []) := by
  obtain ⟨h0, h1, w0, w1⟩ := d
  obtain ⟨rows, e, l, a⟩ := exchange (rows := mk h w f) (mk_len _ _ _) (fun z m => mk_mem m) hi hj (by omega) (by omega)
  obtain ⟨g, eg⟩ := rowsD_eq a
  exact ⟨g, by unfold rowsD; unfold rowsD at eg; rw [l] at eg; rw [e, eg]⟩
end Wk34
namespace Wk34
open PySem PySem.Spec PyProof.Rows L2 VS
theorem laid_and_turned {N : Nat} {L : List D} {h w : Nat} {f : Nat → Nat → Bool} (d : Dim h w) (hN : N + 10 < BIG) (hx : St N (stN L)) :
    ∃ (h' : Nat) (g : Nat → Nat → Bool) (L' : List D), D__law_laid_and_turned [stN L, .nd (.lst false) (rowsD h w f)] = .ok (.nd (.lst true) (rowsD h' w g), [stN L']) ∧ Dim h' w ∧ St (N + 10) (stN L') ∧ D.hass NK.isShr L' = false := by
  obtain ⟨h0, h1, w0, w1⟩ := id d
  have hlen := len_rows (o := false) (h := h) (w := w) (f := f)
  have O := fun q => rowsHas (q := q) (h := h) (w := w) (f := f)
  have F := rowsFz (h := h) (w := w) (f := f)
  obtain ⟨dn0, L1, e1, d0, d1, x1, q1⟩ := drawL (by omega) hx (n := (h : Int)) (by omega) (by omega)
  obtain ⟨s, rfl⟩ : ∃ s : Nat, dn0 = s := ⟨dn0.toNat, by omega⟩
  have sl1 : slD (.nd (.lst false) (rowsD h w f)) (some (s : Int)) none = some (.nd (.lst true) ((rowsD h w f).drop s)) := by simp [slD, cutL_from]
  have sl2 : slD (.nd (.lst false) (rowsD h w f)) none (some (s : Int)) = some (.nd (.lst true) ((rowsD h w f).take s)) := by simp [slD, cutL_to]
  have cat : oAdd (.nd (.lst true) ((rowsD h w f).drop s)) (.nd (.lst true) ((rowsD h w f).take s)) = some (.nd (.lst true) (rowsD h w fun i => f ((s + i) % h))) := by
    have hz : (h - s) + s ≤ sizeLine := by rw [sizeLine_eq]; omega
    have e := rows_rot (w := w) (f := f) (n := s) (h := h) (by omega)
    have o1 : D.hass NK.isOwn ((rowsD h w f).drop s) = false := by rw [rows_drop]; exact rowsHas
    have o2 : D.hass NK.isOwn ((rowsD h w f).take s) = false := by rw [rows_take (by omega)]; exact rowsHas
    simp [e, o1, o2, Nat.min_eq_left (show s ≤ h by omega), hz]
  generalize hg0 : (fun i => f ((s + i) % h)) = g0 at *
  have v1 := oDiv_s (i := 60) (j := (h : Int)) (by omega) (by omega)
  have dv : (60 : Int) / (h : Int) = ((60 / h : Nat) : Int) := by rw [Int.natCast_ediv]; rfl
  have dv1 : 1 ≤ 60 / h := (Nat.le_div_iff_mul_le (by omega)).mpr (by omega)
  have mn : minI 3 ((60 : Int) / h) = ((min 3 (60 / h) : Nat) : Int) := by rw [dv]; unfold minI; split <;> omega
  obtain ⟨k0, L2, e2, k0a, k0b, x2, q2⟩ := drawL (by omega) x1 (n := ((min 3 (60 / h) : Nat) : Int)) (by omega) (by omega)
  obtain ⟨k, rfl⟩ : ∃ k : Nat, k0 = k := ⟨k0.toNat, by omega⟩
  have kh : (1 + k) * h ≤ 60 := Nat.le_trans (Nat.mul_le_mul_right h (show 1 + k ≤ 60 / h by omega)) (Nat.div_mul_le_self 60 h)
  have k1h : 1 ≤ (1 + k) * h := Nat.mul_pos (by omega) h0
  have mu : oMul (.nd (.lst true) (rowsD h w g0)) (.v (.int (1 + (k : Int)))) = some (.nd (.lst true) (rowsD ((1 + k) * h) w fun i => g0 (i % h))) := by
    rw [show (1 + (k : Int)) = ((1 + k : Nat) : Int) by omega]
    have hz : h * (1 + k) ≤ sizeLine := by rw [sizeLine_eq, Nat.mul_comm]; omega
    have hz2 : 1 + k < 4000000000000000000 := by omega
    have e := rows_rep (k := 1 + k) (d := h) (w := w) (f := g0)
    unfold oMul
    simp only [rowsHas, rowsD_len, Int.toNat_natCast, Int.natAbs_natCast]
    rw [if_pos (by simp [hz, hz2]), e]
  have d2 : Dim ((1 + k) * h) w := ⟨k1h, kh, w0, w1⟩
  generalize hh : (1 + k) * h = h2 at *
  generalize hg1 : (fun i => g0 (i % h)) = g1 at *
  have hlen2 := len_rows (o := true) (h := h2) (w := w) (f := g1)
  have O0 := fun q => rowsHas (q := q) (h := h) (w := w) (f := g0)
  have O2 := fun q => rowsHas (q := q) (h := h2) (w := w) (f := g1)
  have F2 := rowsFz (h := h2) (w := w) (f := g1)
  have x0 : ixD (.nd (.lst true) (rowsD h2 w g1)) (.v (.int 0)) = some (.v (.str (mkRow w (g1 0)))) := by rw [VS.ix_lst (by decide)]; exact rowsD_get d2.h0
  have lr := len_row (w := w) (f := g1 0) (by omega)
  obtain ⟨c, L3, e3, c0, c1, x3, q3⟩ := drawL (by omega) x2 (n := 4) (by decide) (by decide)
  by_cases hc : c = 0
  · obtain ⟨i0, L4, e4, i0a, i0b, x4, q4⟩ := drawL (by omega) x3 (n := (h2 : Int)) (by have := d2.h0; omega) (by have := d2.h1; omega)
    obtain ⟨j0, L5, e5, j0a, j0b, x5, q5⟩ := drawL (by omega) x4 (n := (w : Int)) (by omega) (by omega)
    obtain ⟨i, rfl⟩ : ∃ i : Nat, i0 = i := ⟨i0.toNat, by omega⟩
    obtain ⟨j, rfl⟩ : ∃ j : Nat, j0 = j := ⟨j0.toNat, by omega⟩
    obtain ⟨g, eg⟩ := exchR (f := g1) d2 (show i < h2 by omega) (show j < w by omega)
    refine ⟨h2, g, L5, ?_, d2, x5.le (by omega), q5⟩
    subst hc
    unfold D__law_laid_and_turned b__law_laid_and_turned if__law_laid_and_turned_1
    generalize oMul = OM at *
    generalize oDiv = OV at *
    simp [hlen, O, F, e1, q1, fS01, fS10, sl1, sl2, cat, v1, i2D, mn, e2, q2, mu, e3, q3, e4, q4, e5, q5, eg, hlen2, x0, lr, O0, O2, F2]
  · refine ⟨h2, g1, L3, ?_, d2, x3.le (by omega), q3⟩
    unfold D__law_laid_and_turned b__law_laid_and_turned if__law_laid_and_turned_1
    generalize oMul = OM at *
    generalize oDiv = OV at *
    simp [hlen, O, F, e1, q1, fS01, fS10, sl1, sl2, cat, v1, i2D, mn, e2, q2, mu, e3, q3, hc, hlen2, O0, O2]
end Wk34
namespace Wk34
open PySem PySem.Spec PyProof.Rows L2 VS
theorem sl_strs {o : Bool} {cs : List Str} {lo hi : Option Int} : slD (.nd (.lst o) (cs.map D.str)) lo hi = some (.nd (.lst true) ((cutL cs lo hi).map D.str)) := by
  unfold slD
  simp only [has_strs, if_true]
  unfold cutL
  rw [List.map_take, List.map_drop, List.length_map]
theorem rev_strs {o : Bool} {cs : List Str} : revD (.nd (.lst o) (cs.map D.str)) = some (.nd (.lst true) (cs.reverse.map D.str)) := by
  simp [revD, has_strs]
theorem add_strs {a b : List Str} (h : a.length + b.length ≤ 1000) : oAdd (.nd (.lst true) (a.map D.str)) (.nd (.lst true) (b.map D.str)) = some (.nd (.lst true) ((a ++ b).map D.str)) := by
  have hz : a.length + b.length ≤ sizeLine := by rw [sizeLine_eq]; omega
  simp [has_strs, hz]
theorem cut_mem {l : List Str} {lo hi : Option Int} {z : Str} (h : z ∈ cutL l lo hi) : z ∈ l := List.mem_of_mem_drop (List.mem_of_mem_take h)
theorem cut_le {l : List Str} {lo hi : Option Int} : (cutL l lo hi).length ≤ l.length := by
  unfold cutL
  rw [List.length_take, List.length_drop]; omega
/-- rows drawn from a pool -/
theorem pick_co {N n w : Nat} {L : List D} {pool : List Str} {s1 s4 s5 : D} (hn : n ≤ 60) (hN : N + n < BIG) (hx : St N (stN L)) (hL : D.hass NK.isShr L = false) (p0 : 1 ≤ pool.length) (p1 : pool.length ≤ 100) (hp : ∀ z ∈ pool, z.length = w ∧ Bits z) :
    ∃ (zs : List Str) (L' : List D), co__law_lag_rows_1 [stN L, s1, .nd (.lst true) (pool.map D.str), .v (.int n), s4, s5] = .ok (.nd (.lst true) (zs.map D.str), [stN L', s1, .nd (.lst true) (pool.map D.str), .v (.int n), s4, .un]) ∧ zs.length = n ∧ (∀ z ∈ zs, z.length = w ∧ Bits z) ∧ St (N + n) (stN L') ∧ D.hass NK.isShr L' = false := by
  have hlen : lenD (.nd (.lst true) (pool.map D.str)) = some (.v (.int pool.length)) := by simp [lenD]
  have inv := lcL_inv (vs := [5]) (g := gdN 5) (c := bYes) (m := .vw [2]) (e := ce__law_lag_rows_1)
    (fun xs s acc => ∃ (L' : List D) (zs : List Str), s = [stN L', s1, .nd (.lst true) (pool.map D.str), .v (.int n), s4, .un] ∧ acc = zs.map D.str ∧ (∀ z ∈ zs, z.length = w ∧ Bits z) ∧ zs.length + xs.length = n ∧ St (N + zs.length) (stN L') ∧ D.hass NK.isShr L' = false) ?_
    (rangeD n) [stN L, s1, .nd (.lst true) (pool.map D.str), .v (.int n), s4, .un] [] ⟨L, [], rfl, rfl, fun _ m => (nomatch m), by rw [rangeD_len]; simp, hx, hL⟩
  · obtain ⟨z, e, L', zs, e1, e2, e3, e4, e5, e6⟩ := inv
    rw [List.nil_append] at e2
    simp at e4
    refine ⟨zs, L', ?_, e4, e3, by rw [e4] at e5; exact e5, e6⟩
    unfold co__law_lag_rows_1
    rw [lc_rg (rg1_nat (n := n) (s' := [stN L, s1, .nd (.lst true) (pool.map D.str), .v (.int n), s4, s5]) (by simp) (by omega)) (by omega)]
    show R.bind (lcL [5] _ _ _ _ _ [stN L, s1, .nd (.lst true) (pool.map D.str), .v (.int n), s4, .un]) _ = _
    rw [e]
    simp [e1, e2]
  · rintro y r s acc ⟨L', zs, rfl, rfl, h1, h2, h3, h4⟩
    rw [List.length_cons] at h2
    obtain ⟨d, L2, ed, d0, d1, hx2, q2⟩ := drawL (by omega) h3 (n := (pool.length : Int)) (by omega) (by omega)
    obtain ⟨i, rfl⟩ : ∃ i : Nat, d = i := ⟨d.toNat, by omega⟩
    have hi : i < pool.length := by omega
    have ix : ixD (.nd (.lst true) (pool.map D.str)) (.v (.int i)) = some (.v (.str pool[i])) := by rw [VS.ix_lst (by omega), Int.toNat_natCast]; exact get_strs hi
    have pz := hp _ (List.getElem_mem hi)
    generalize pool[i] = z at *
    refine ⟨_, rfl, .inl ⟨_, rfl, (.v (.str z), [stN L2, s1, .nd (.lst true) (pool.map D.str), .v (.int n), s4, y]), ?_, rfl, L2, zs ++ [z], rfl, by simp, fun v m => ?_, by simp; omega, by rw [List.length_append]; exact hx2, q2⟩⟩
    · simp [ce__law_lag_rows_1, hlen, ed, q2, ix, has_strs]
    · rcases List.mem_append.mp m with m | m
      · exact h1 v m
      · rw [List.mem_singleton.mp m]; exact pz
theorem to_cl {R : List Str} {w : Nat} (h0 : 1 ≤ R.length) (h1 : R.length ≤ 60) (w0 : 1 ≤ w) (w1 : w ≤ 60) (a : ∀ z ∈ R, z.length = w ∧ Bits z) : ∃ c : Cl, D.nd (.lst true) (R.map D.str) = dueD true c := by
  obtain ⟨f, ef⟩ := rowsD_eq a
  exact ⟨⟨R.length, w, f, ⟨h0, h1, w0, w1⟩⟩, by rw [ef]; rfl⟩
theorem lag_rows {N : Nat} {L : List D} (hN : N + 2000200 < BIG) (hx : St N (stN L)) :
    ∃ (c : Cl) (L' : List D), D__law_lag_rows [stN L] = .ok (dueD true c, [stN L']) ∧ St (N + 2000100) (stN L') ∧ D.hass NK.isShr L' = false := by
  obtain ⟨kd, L1, e1, k0, k1, x1, q1⟩ := drawL (by omega) hx (n := 8) (by decide) (by decide)
  by_cases hk : kd = 0
  · obtain ⟨c, L2, e2, x2, q2⟩ := someR (most := 60) (by omega) x1 (by decide) (by decide)
    refine ⟨c, L2, ?_, x2.le (by omega), q2⟩
    have sh := due_shr (c := c)
    subst hk
    generalize dueD true c = dd at *
    simp [D__law_lag_rows, b__law_lag_rows, if__law_lag_rows_1, e1, q1, e2, q2, sh]
  obtain ⟨d, L2, e2, d0, d1, x2, q2⟩ := drawL (by omega) x1 (n := 4) (by decide) (by decide)
  obtain ⟨w, L3, e3, w0, w1, x3, q3⟩ := sideR (most := 60) (by omega) x2 (by decide) (by decide)
  obtain ⟨pool, x', e4, pl, pw, x4⟩ := free_rows (h := 1 + d) (w := (w : Int)) (by omega) (by omega) (by omega) (by omega) (by omega) x3
  obtain ⟨L4, rfl, q4⟩ := x4.nd
  have pw' : ∀ z ∈ pool, z.length = w ∧ Bits z := fun z m => ⟨by have := (pw z m).1; omega, (pw z m).2⟩
  obtain ⟨c0, L5, e5, c0a, c0b, x5, q5⟩ := drawL (by omega) x4 (n := 8) (by decide) (by decide)
  obtain ⟨b, L6, e6, b0, b1, x6, q6⟩ := drawL (by omega) x5 (n := 16) (by decide) (by decide)
  have hc : ∃ (n : Nat) (L7 : List D), 1 ≤ n ∧ n ≤ 30 ∧ St (N + 1000010) (stN L7) ∧ D.hass NK.isShr L7 = false ∧ ∀ s1 s2 s4 s5, if__law_lag_rows_2 [stN L5, s1, s2, .v (.int (1 + c0)), s4, s5] = .nx [stN L7, s1, s2, .v (.int n), s4, s5] := by
    by_cases hb : b = 0
    · obtain ⟨v, L7, e7, v0, v1, x7, q7⟩ := drawL (by omega) x6 (n := 30) (by decide) (by decide)
      refine ⟨(1 + v).toNat, L7, by omega, by omega, x7.le (by omega), q7, fun s1 s2 s4 s5 => ?_⟩
      have : (((1 + v).toNat : Nat) : Int) = 1 + v := by omega
      subst hb
      simp only [this]
      simp [if__law_lag_rows_2, e6, e7, q6, q7]
    · refine ⟨(1 + c0).toNat, L6, by omega, by omega, x6.le (by omega), q6, fun s1 s2 s4 s5 => ?_⟩
      have : (((1 + c0).toNat : Nat) : Int) = 1 + c0 := by omega
      simp only [this]
      simp [if__law_lag_rows_2, e6, q6, hb]
  obtain ⟨n, L7, n0, n1, x7, q7, e7⟩ := hc
  obtain ⟨zs, L8, e8, zl, za, x8, q8⟩ := pick_co (s1 := .v (.int kd)) (s4 := .un) (s5 := .un) (n := n) (by omega) (by omega) x7 q7 (show 1 ≤ pool.length by omega) (by omega) pw'
  have hP := fun q => has_strs q pool
  have hZ := fun q => has_strs q zs
  by_cases k4 : kd < 4
  · obtain ⟨c, ec⟩ := to_cl (R := zs ++ (cutL zs (some 1) (some (-1))).reverse) (w := w) (by rw [List.length_append]; omega) (by
      have := cut_le (l := zs) (lo := some 1) (hi := some (-1))
      rw [List.length_append, List.length_reverse]; omega) w0 w1 (fun z m => by
        rcases List.mem_append.mp m with m | m
        · exact za z m
        · exact za z (cut_mem (List.mem_reverse.mp m)))
    refine ⟨c, L8, ?_, x8.le (by omega), q8⟩
    rw [← ec]
    have hz : zs.length + (cutL zs (some 1) (some (-1))).length ≤ sizeLine := by
      have := cut_le (l := zs) (lo := some 1) (hi := some (-1))
      rw [sizeLine_eq]; omega
    have ng : oNeg (.v (.int 1)) = some (.v (.int (-1))) := by rfl
    have s1 := sl_strs (o := true) (cs := zs) (lo := some 1) (hi := some (-1))
    have r1 := rev_strs (o := true) (cs := cutL zs (some 1) (some (-1)))
    have hC := fun q => has_strs q (cutL zs (some 1) (some (-1)))
    have hR := fun q => has_strs q (cutL zs (some 1) (some (-1))).reverse
    generalize (cutL zs (some 1) (some (-1))) = cc at *
    simp [D__law_lag_rows, b__law_lag_rows, if__law_lag_rows_1, if__law_lag_rows_3, e1, q1, hk, e2, q2, e3, q3, e4, q4, e5, q5, e7, e8, k4, fS11, s1, r1, ng, has_strs, hz, -List.map_reverse]
  by_cases k6 : kd < 6
  · obtain ⟨c, ec⟩ := to_cl (R := zs ++ (cutL zs (some 1) none).reverse) (w := w) (by rw [List.length_append]; omega) (by
      have := cut_le (l := zs) (lo := some 1) (hi := none)
      rw [List.length_append, List.length_reverse]; omega) w0 w1 (fun z m => by
        rcases List.mem_append.mp m with m | m
        · exact za z m
        · exact za z (cut_mem (List.mem_reverse.mp m)))
    refine ⟨c, L8, ?_, x8.le (by omega), q8⟩
    rw [← ec]
    have hz : zs.length + (cutL zs (some 1) none).length ≤ sizeLine := by
      have := cut_le (l := zs) (lo := some 1) (hi := none)
      rw [sizeLine_eq]; omega
    have s1 := sl_strs (o := true) (cs := zs) (lo := some 1) (hi := none)
    have r1 := rev_strs (o := true) (cs := cutL zs (some 1) none)
    generalize (cutL zs (some 1) none) = cc at *
    simp [D__law_lag_rows, b__law_lag_rows, if__law_lag_rows_1, if__law_lag_rows_3, if__law_lag_rows_4, e1, q1, hk, e2, q2, e3, q3, e4, q4, e5, q5, e7, e8, k4, k6, fS10, s1, r1, has_strs, hz, -List.map_reverse]
  by_cases k7 : kd = 6
  · obtain ⟨c, ec⟩ := to_cl (R := zs ++ zs.reverse) (w := w) (by rw [List.length_append]; omega) (by
      rw [List.length_append, List.length_reverse]; omega) w0 w1 (fun z m => by
        rcases List.mem_append.mp m with m | m
        · exact za z m
        · exact za z (List.mem_reverse.mp m))
    refine ⟨c, L8, ?_, x8.le (by omega), q8⟩
    rw [← ec]
    have hz : zs.length + zs.length ≤ sizeLine := by rw [sizeLine_eq]; omega
    have r1 := rev_strs (o := true) (cs := zs)
    subst k7
    simp [D__law_lag_rows, b__law_lag_rows, if__law_lag_rows_1, if__law_lag_rows_3, if__law_lag_rows_4, if__law_lag_rows_5, e1, q1, e2, q2, e3, q3, e4, q4, e5, q5, e7, e8, r1, has_strs, hz, -List.map_reverse]
  · obtain ⟨c, ec⟩ := to_cl (R := zs) (w := w) (by omega) (by omega) w0 w1 za
    refine ⟨c, L8, ?_, x8.le (by omega), q8⟩
    rw [← ec]
    simp [D__law_lag_rows, b__law_lag_rows, if__law_lag_rows_1, if__law_lag_rows_3, if__law_lag_rows_4, if__law_lag_rows_5, e1, q1, hk, e2, q2, e3, q3, e4, q4, e5, q5, e7, e8, k4, k6, k7, has_strs]
end Wk34
namespace Wk34
open PySem PySem.Spec PyProof.Rows L2 VS
theorem law_true (C : Addr) (ns : List Int) (hn : ns.length ≤ 63) : ∃ os, D_law C [.nd .scr (ns.map D.int)] = .ok (.v (.bl true), os) := by
  obtain ⟨L0, e0, x0, q0⟩ := start hn
  obtain ⟨c, L1, e1, x1, q1⟩ := lag_rows (by decide) x0
  obtain ⟨t1, L2, e2, _, _, x2, q2⟩ := drawL (by have : BIG = 1000000000000 := rfl; omega) x1 (n := 60) (by decide) (by decide)
  have dt := drum_told (C := C) c.d (f := c.f) t1
  obtain ⟨m0, L3, e3, m0a, m0b, x3, q3⟩ := drawL (by have : BIG = 1000000000000 := rfl; omega) x2 (n := 3) (by decide) (by decide)
  obtain ⟨m, hm⟩ : ∃ m : Nat, 1 + m0 = m := ⟨(1 + m0).toNat, by omega⟩
  obtain ⟨s', ef, L4, c4, b3, rfl, x4, q4⟩ := for_range (g := gdN 3) (body := fb_law_1 C) (n := m) (s := [.nd .scr (ns.map D.int), stN L3, dueD true c, .un])
    (fun k s => ∃ (L' : List D) (c' : Cl) (b3 : D), s = [.nd .scr (ns.map D.int), stN L', dueD true c', b3] ∧ St (2000200 + 20 * k) (stN L') ∧ D.hass NK.isShr L' = false)
    ⟨L3, c, .un, rfl, x3.le (by omega), q3⟩ (by
      rintro k s hk ⟨L', c', b3, rfl, hx, hq⟩
      obtain ⟨h', g, L5, e5, d5, x5, q5⟩ := laid_and_turned (f := c'.f) c'.d (by have : BIG = 1000000000000 := rfl; omega) hx
      obtain ⟨t6, L6, e6, _, _, x6, q6⟩ := drawL (by have : BIG = 1000000000000 := rfl; omega) x5 (n := 60) (by decide) (by decide)
      have dt6 := drum_told (C := C) d5 (f := g) t6
      have O := fun q => rowsHas (q := q) (h := c'.h) (w := c'.w) (f := c'.f)
      have F := rowsFz (h := c'.h) (w := c'.w) (f := c'.f)
      have O2 := fun q => rowsHas (q := q) (h := h') (w := c'.w) (f := g)
      have F2 := rowsFz (h := h') (w := c'.w) (f := g)
      refine ⟨_, [.nd .scr (ns.map D.int), stN L6, dueD true ⟨h', c'.w, g, d5⟩, .v (.int k)], rfl, .inl ?_, L6, ⟨h', c'.w, g, d5⟩, .v (.int k), rfl, x6.le (by omega), q6⟩
      simp [fb_law_1, if_law_2, dueD, e5, q5, e6, q6, dt6, O, F, O2, F2])
  have Oi := has_ints NK.isOwn ns
  have fzi := fzs_ints ns
  have O := fun q => rowsHas (q := q) (h := c.h) (w := c.w) (f := c.f)
  have F := rowsFz (h := c.h) (w := c.w) (f := c.f)
  have efo : fo_law_1 C [.nd .scr (ns.map D.int), stN L2, dueD true c, .un] = .nx [.nd .scr (ns.map D.int), stN L4, dueD true c4, b3] := by
    unfold fo_law_1
    rw [for_rg (rg1_nat (n := m) (s' := [.nd .scr (ns.map D.int), stN L3, dueD true c, .un]) (by simp [e3, q3, hm]) (by omega)), ef]
  obtain ⟨t5, L5, e5, _, _, x5, q5⟩ := drawL (by have : BIG = 1000000000000 := rfl; omega) x4 (n := 60) (by decide) (by decide)
  have dt5 := drum_told (C := C) c4.d (f := fun i => c4.f (c4.h - 1 - i)) t5
  have rv : revD (dueD true c4) = some (.nd (.lst true) (rowsD c4.h c4.w fun i => c4.f (c4.h - 1 - i))) := by
    simp [dueD, revD, rowsHas, rows_rev]
  have O4 := fun q => rowsHas (q := q) (h := c4.h) (w := c4.w) (f := c4.f)
  have O5 := fun q => rowsHas (q := q) (h := c4.h) (w := c4.w) (f := fun i => c4.f (c4.h - 1 - i))
  have F5 := rowsFz (h := c4.h) (w := c4.w) (f := fun i => c4.f (c4.h - 1 - i))
  have i1 : if_law_1 C [.nd .scr (ns.map D.int), stN L1, dueD true c, .un] = .nx [.nd .scr (ns.map D.int), stN L2, dueD true c, .un] := by
    simp [if_law_1, dueD, e2, q2, dt, O, F]
  have u1 : (dueD true c).isUn = false := rfl
  have u4 : (dueD true c4).isUn = false := rfl
  have s1 := due_shr (c := c)
  have s4 := due_shr (c := c4)
  generalize dueD true c = dc at *
  generalize dueD true c4 = dc4 at *
  exact ⟨[], by simp [D_law, b_law, fzi, Oi, e0, q0, e1, q1, s1, i1, efo, rv, e5, q5, dt5, O5, F5, u1, u4]⟩
end Wk34
open PySem PySem.W PyProof.Rows
set_option maxRecDepth 100000 in
set_option maxHeartbeats 0 in
theorem PySem.Challenge.cw_clothstead_k34_drum_holds : PySem.Challenge.rw_clothstead_k34_drum.Holds := by
  w_on; o_law; k_head; (case hw => w_witness2)
  k_fill
  refine VS.law_walk (l := PySem.Challenge.rw_clothstead_k34_drum) (kk := 8) (DL := Wk34.D_law) rfl rfl ⟨rfl, by decide, by decide⟩ (fun w h Y => PySem.W.kIn_of Y) ?D ?F
  case D => exact fun C ns h => Wk34.law_true C ns h
  case F =>
    intro w mg fa h KX G hmg
    refine' Wk34.all_mk KX G hmg ?l_in_range ?c_in_range ?k_in_range ?l_rows_fit ?c_rows_fit ?k_rows_fit ?l_Cloth___init__ ?c_Cloth___init__ ?k_Cloth___init__ ?l_Cloth___iter__ ?c_Cloth___iter__ ?k_Cloth___iter__ ?l_column ?c_column ?k_column ?l_period ?c_period ?k_period ?l_least_repeat ?c_least_repeat ?k_least_repeat ?l_shifted ?c_shifted ?k_shifted ?l_is_mirrored ?c_is_mirrored ?k_is_mirrored ?l_point_lags ?c_point_lags ?k_point_lags ?l_drum ?c_drum ?k_drum ?l__law_start ?c__law_start ?k__law_start ?l__law_draw ?c__law_draw ?k__law_draw ?l__law_side ?c__law_side ?k__law_side ?l__law_shuffled ?c__law_shuffled ?k__law_shuffled ?l__law_same ?c__law_same ?k__law_same ?l__law_free_rows ?c__law_free_rows ?k__law_free_rows ?l__law_layer_sizes ?c__law_layer_sizes ?k__law_layer_sizes ?l__law_ranks_in ?c__law_ranks_in ?k__law_ranks_in ?l__law_layered_rows ?c__law_layered_rows ?k__law_layered_rows ?l__law_exchange ?c__law_exchange ?k__law_exchange ?l__law_some_rows ?c__law_some_rows ?k__law_some_rows ?l__law_lag_rows ?c__law_lag_rows ?k__law_lag_rows ?l__law_laid_and_turned ?c__law_laid_and_turned ?k__law_laid_and_turned ?l__law_ring_lags ?c__law_ring_lags ?k__law_ring_lags ?l__law_lag ?c__law_lag ?k__law_lag ?l__law_shows ?c__law_shows ?k__law_shows ?l__law_point_lags ?c__law_point_lags ?k__law_point_lags ?l__law_drum_told ?c__law_drum_told ?k__law_drum_told ?l_law ?c_law ?k_law ?g_rows_fit ?c_SIGNS_ ?g_Cloth ?rd_Cloth ?ga_Cloth ?k_Cloth_MOST_ ?m_tuple ?pg_Cloth ?hd_Cloth ?po_Cloth ?sa_Cloth ?na_Cloth_rows ?m_len ?na_Cloth_picks ?na_Cloth_ends ?m_isinstance ?m_list ?g_in_range ?m_str ?m_sum ?m_range ?g_period ?g_column ?i_Cloth___init__ ?mk1_Cloth ?mk2_Cloth ?mk3_Cloth ?g_is_mirrored ?g_least_repeat ?g_point_lags ?m_int ?m_abs ?g__law_draw ?m_min ?m_bool ?g__law_same ?g__law_shuffled ?g__law_ranks_in ?g__law_side ?g__law_free_rows ?g__law_layered_rows ?g__law_layer_sizes ?g__law_exchange ?g__law_some_rows ?m_max ?g__law_lag ?g__law_shows ?g__law_ring_lags ?g__law_point_lags ?g_drum ?g_shifted ?i_Cloth___iter__ ?it1_Cloth ?it2_Cloth ?it3_Cloth ?g__law_start ?g__law_lag_rows ?g__law_drum_told ?g__law_laid_and_turned ?m_iter ?icl_Cloth ?tyc_Cloth ?is_0 ?is_1 ?is_2 ?is_3 ?is_4 ?is_5 ?in1_Cloth ?in2_Cloth ?in3 ?in4 ?glaw
    (case g_rows_fit => k_is)
    (case g_Cloth => k_is)
    (case g_in_range => k_is)
    (case g_period => k_is)
    (case g_column => k_is)
    (case g_is_mirrored => k_is)
    (case g_least_repeat => k_is)
    (case g_point_lags => k_is)
    (case g__law_draw => k_is)
    (case g__law_same => k_is)
    (case g__law_shuffled => k_is)
    (case g__law_ranks_in => k_is)
    (case g__law_side => k_is)
    (case g__law_free_rows => k_is)
    (case g__law_layered_rows => k_is)
    (case g__law_layer_sizes => k_is)
    (case g__law_exchange => k_is)
    (case g__law_some_rows => k_is)
    (case g__law_lag => k_is)
    (case g__law_shows => k_is)
    (case g__law_ring_lags => k_is)
    (case g__law_point_lags => k_is)
    (case g_drum => k_is)
    (case g_shifted => k_is)
    (case g__law_start => k_is)
    (case g__law_lag_rows => k_is)
    (case g__law_drum_told => k_is)
    (case g__law_laid_and_turned => k_is)
    (case glaw => k_is)
    (case mk2_Cloth => k_is)
    (case it1_Cloth => k_is)
    (case l_in_range => k_is)
    (case l_rows_fit => k_is)
    (case l_Cloth___init__ => k_is)
    (case l_Cloth___iter__ => k_is)
    (case l_column => k_is)
    (case l_period => k_is)
    (case l_least_repeat => k_is)
    (case l_shifted => k_is)
    (case l_is_mirrored => k_is)
    (case l_point_lags => k_is)
    (case l_drum => k_is)
    (case l__law_start => k_is)
    (case l__law_draw => k_is)
    (case l__law_side => k_is)
    (case l__law_shuffled => k_is)
    (case l__law_same => k_is)
    (case l__law_free_rows => k_is)
    (case l__law_layer_sizes => k_is)
    (case l__law_ranks_in => k_is)
    (case l__law_layered_rows => k_is)
    (case l__law_exchange => k_is)
    (case l__law_some_rows => k_is)
    (case l__law_lag_rows => k_is)
    (case l__law_laid_and_turned => k_is)
    (case l__law_ring_lags => k_is)
    (case l__law_lag => k_is)
    (case l__law_shows => k_is)
    (case l__law_point_lags => k_is)
    (case l__law_drum_told => k_is)
    (case l_law => k_is)
    (case c_in_range => k_is)
    (case k_in_range => k_is)
    (case c_rows_fit => k_is)
    (case k_rows_fit => k_is)
    (case c_Cloth___init__ => k_is)
    (case k_Cloth___init__ => k_is)
    (case c_Cloth___iter__ => k_is)
    (case k_Cloth___iter__ => k_is)
    (case c_column => k_is)
    (case k_column => k_is)
    (case c_period => k_is)
    (case k_period => k_is)
    (case c_least_repeat => k_is)
    (case k_least_repeat => k_is)
    (case c_shifted => k_is)
    (case k_shifted => k_is)
    (case c_is_mirrored => k_is)
    (case k_is_mirrored => k_is)
    (case c_point_lags => k_is)
    (case k_point_lags => k_is)
    (case c_drum => k_is)
    (case k_drum => k_is)
    (case c__law_start => k_is)
    (case k__law_start => k_is)
    (case c__law_draw => k_is)
    (case k__law_draw => k_is)
    (case c__law_side => k_is)
    (case k__law_side => k_is)
    (case c__law_shuffled => k_is)
    (case k__law_shuffled => k_is)
    (case c__law_same => k_is)
    (case k__law_same => k_is)
    (case c__law_free_rows => k_is)
    (case k__law_free_rows => k_is)
    (case c__law_layer_sizes => k_is)
    (case k__law_layer_sizes => k_is)
    (case c__law_ranks_in => k_is)
    (case k__law_ranks_in => k_is)
    (case c__law_layered_rows => k_is)
    (case k__law_layered_rows => k_is)
    (case c__law_exchange => k_is)
    (case k__law_exchange => k_is)
    (case c__law_some_rows => k_is)
    (case k__law_some_rows => k_is)
    (case c__law_lag_rows => k_is)
    (case k__law_lag_rows => k_is)
    (case c__law_laid_and_turned => k_is)
    (case k__law_laid_and_turned => k_is)
    (case c__law_ring_lags => k_is)
    (case k__law_ring_lags => k_is)
    (case c__law_lag => k_is)
    (case k__law_lag => k_is)
    (case c__law_shows => k_is)
    (case k__law_shows => k_is)
    (case c__law_point_lags => k_is)
    (case k__law_point_lags => k_is)
    (case c__law_drum_told => k_is)
    (case k__law_drum_told => k_is)
    (case c_law => k_is)
    (case k_law => k_is)
    (case c_SIGNS_ => k_is)
    (case rd_Cloth => k_is)
    (case ga_Cloth => k_is)
    (case k_Cloth_MOST_ => k_is)
    (case m_tuple => k_is)
    (case pg_Cloth => k_is)
    (case hd_Cloth => k_is)
    (case po_Cloth => k_is)
    (case sa_Cloth => k_is)
    (case na_Cloth_rows => k_is)
    (case m_len => k_is)
    (case na_Cloth_picks => k_is)
    (case na_Cloth_ends => k_is)
    (case m_isinstance => k_is)
    (case m_list => k_is)
    (case m_str => k_is)
    (case m_sum => k_is)
    (case m_range => k_is)
    (case i_Cloth___init__ => k_is)
    (case mk1_Cloth => k_is)
    (case mk3_Cloth => k_is)
    (case m_int => k_is)
    (case m_abs => k_is)
    (case m_min => k_is)
    (case m_bool => k_is)
    (case m_max => k_is)
    (case i_Cloth___iter__ => k_is)
    (case it2_Cloth => k_is)
    (case it3_Cloth => k_is)
    (case m_iter => k_is)
    (case icl_Cloth => k_is)
    (case tyc_Cloth => k_is)
    (case is_0 => k_is)
    (case is_1 => k_is)
    (case is_2 => k_is)
    (case is_3 => k_is)
    (case is_4 => k_is)
    (case is_5 => k_is)
    (case in1_Cloth => k_is)
    (case in2_Cloth => k_is)
    (case in3 => k_is)
    (case in4 => k_is)
