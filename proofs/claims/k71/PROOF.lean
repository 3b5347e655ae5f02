import PyProof.Rows.All
import HandS.ForMost
import KE.KDictKeyed
import HandS.SetKeys
import HandS.Zip
import HandS.Style
import HandS.TupAny
import HandS.IsInst
import HandS.Wide
import HandS.SortInts
import HandS.Strs
import HandS.More
import HandS.Conv
import HandS.Deep
import HandS.TupMul
import PyProof.StrOps2
import PyProof.ListStr
import PyProof.TupleOfStr
import PyProof.SliceStr2
import HandS.WordsDict
import HandS.DictComp
import KE.KDictZip
import HandS.Star
import PySem.Challenge.RW_seamsight_k71_marks_by_parts_anyhow
set_option Elab.async false
set_option linter.all false
set_option maxRecDepth 100000
set_option autoImplicit false
/-! DL1: plain data, owned trees, what represents them, the state of a frame. -/
namespace DL
open PySem PySem.Spec PyProof.Rows L2

/-- plain data (a dict's t: its keys are tuples; else ints and texts; scr: the script) -/
inductive D where
  | non | bl (b : Bool) | int (i : Int) | str (x : Str)
  | tup (xs : List D) | lst (xs : List D) | dic (t : Bool) (kvs : List (D × D))
  | scr (ns : List Int)
/-- what a slot holds: data that never changes any more, or a tree of lists and dicts that nobody else knows -/
inductive MV where
  | fz (d : D) | ol (xs : List MV) | od (t : Bool) (kvs : List (D × MV))
abbrev DEnv := List (Option MV)
abbrev ASet := Addr → Prop

mutual
def MV.toD : MV → D
  | .fz d => d
  | .ol xs => .lst (MV.toDs xs)
  | .od t kvs => .dic t (MV.toDk kvs)
def MV.toDs : List MV → List D
  | [] => []
  | x :: xs => x.toD :: MV.toDs xs
def MV.toDk : List (D × MV) → List (D × D)
  | [] => []
  | (k, x) :: xs => (k, x.toD) :: MV.toDk xs
end
theorem toDs_map : ∀ xs : List MV, MV.toDs xs = xs.map MV.toD
  | [] => rfl
  | x :: xs => by rw [MV.toDs, toDs_map xs]; rfl
theorem toDk_map : ∀ xs : List (D × MV), MV.toDk xs = xs.map fun p => (p.1, p.2.toD)
  | [] => rfl
  | (k, x) :: xs => by rw [MV.toDk, toDk_map xs]; rfl
theorem toDs_fz (ds : List D) : MV.toDs (ds.map .fz) = ds := by
  rw [toDs_map, List.map_map]
  exact List.map_id'' (fun _ => rfl) ds
theorem toD_ol_fz (ds : List D) : (MV.ol (ds.map .fz)).toD = .lst ds := by rw [MV.toD, toDs_fz]
def MV.isOwn : MV → Bool
  | .fz _ => false
  | _ => true

/-- the program, the world, the written part -/
structure DCx where
  P : Program
  w : World
  K : PySem.W.Frag

def keyD : Key → D
  | .inl i => .int i
  | .inr x => .str x
mutual
/-- what a datum is as a key of a dict -/
def D.nk : D → Option NestedKey
  | .non => some .none
  | .bl b => some (.num (if b = true then 1 else 0))
  | .int i => some (.num i)
  | .str x => some (.text x)
  | .tup xs => (D.nks xs).map .tup
  | .lst _ => none
  | .dic _ _ => none
  | .scr _ => none
def D.nks : List D → Option (List NestedKey)
  | [] => some []
  | x :: xs => match x.nk, D.nks xs with
    | some k, some ks => some (k :: ks)
    | _, _ => none
end
theorem Same.sqT {K : PySem.W.Frag} {H H' : Hp} {a : Addr} {xs : List V} (e : Same H H') (h : SqT K H a xs) : SqT K H' a xs := by
  rcases h with (h | ⟨o, h⟩) | h
  · exact .inl (.inl (e _ _ h))
  · exact .inl (.inr ⟨o, e _ _ h⟩)
  · exact .inr h
/-- data that can be a key, as it lies in the heap -/
inductive KD (K : DCx) (F : Hp) : V → D → Prop
  | non : KD K F .non .non
  | bl (b : Bool) : KD K F (.bl b) (.bl b)
  | int (i : Int) : KD K F (.int i) (.int i)
  | str (x : Str) : KD K F (.str x) (.str x)
  | tup {a : Addr} {vs : List V} {ds : List D} : SqT K.K F a vs → vs.length = ds.length → (∀ (k : Nat) (v : V) (d : D), vs[k]? = some v → ds[k]? = some d → KD K F v d) → KD K F (.ref a) (.tup ds)
theorem KD.mono {K : DCx} {F F' : Hp} (s : Same F F') {v : V} {d : D} (h : KD K F v d) : KD K F' v d := by
  induction h with
  | non => exact .non
  | bl b => exact .bl b
  | int i => exact .int i
  | str x => exact .str x
  | tup h1 h2 _ ih => exact .tup (Same.sqT s h1) h2 ih
/-- a dict whose keys are tuples: keys, where their tuples stand, values -/
def DN (K : DCx) (a : Addr) (ys : List (NestedKey × Addr × V)) : HO := .ext fun h => ∃ us : List (NestedKey × Addr × Value), Paired (fun y u => y.1 = u.1 ∧ y.2.1 = u.2.1 ∧ RelV y.2.2 u.2.2) ys us ∧
  (a == sysModules) = false ∧ ys.length ≤ sizeLine ∧ ∃ o es ep, h.get? a = some o ∧ o.ExactDict ∧ o.data = .dict es ep ∧ es.toList = us.map (entryOfKey (nestedKind K.P K.w)) ∧ (us.map (·.1)).Nodup
/-- the dict object o (at a) has these keys and values -/
def DicO (K : DCx) (F : Hp) (a : Addr) (t : Bool) (o : HO) (kvs : List (D × V)) : Prop :=
  (t = false ∧ ∃ ks : List (Key × V), o = .dK ks ∧ kvs = ks.map fun p => (keyD p.1, p.2)) ∨
  (t = true ∧ ∃ ys : List (NestedKey × Addr × V), o = DN K a ys ∧ Paired (fun (p : D × V) (y : NestedKey × Addr × V) => p.2 = y.2.2 ∧ p.1.nk = some y.1 ∧ y.1.depth ≤ 8 ∧ KD K F (.ref y.2.1) p.1) kvs ys)
theorem DicO.mono {K : DCx} {F F' : Hp} (s : Same F F') {a : Addr} {t : Bool} {o : HO} {kvs : List (D × V)} (h : DicO K F a t o kvs) : DicO K F' a t o kvs := by
  rcases h with h | ⟨et, ys, e, h⟩
  · exact .inl h
  · exact .inr ⟨et, ys, e, L2.Paired.mapP h fun p y z => ⟨z.1, z.2.1, z.2.2.1, z.2.2.2.mono s⟩⟩

/-- data as it lies in the part of the heap that never changes any more -/
inductive Fz (K : DCx) (F : Hp) : V → D → Prop
  | non : Fz K F .non .non
  | bl (b : Bool) : Fz K F (.bl b) (.bl b)
  | int (i : Int) : Fz K F (.int i) (.int i)
  | str (x : Str) : Fz K F (.str x) (.str x)
  | tup {a : Addr} {vs : List V} {ds : List D} : SqT K.K F a vs → vs.length = ds.length → (∀ (k : Nat) (v : V) (d : D), vs[k]? = some v → ds[k]? = some d → Fz K F v d) → Fz K F (.ref a) (.tup ds)
  | lst {a : Addr} {vs : List V} {ds : List D} : F a = some (.lst vs) → vs.length = ds.length → (∀ (k : Nat) (v : V) (d : D), vs[k]? = some v → ds[k]? = some d → Fz K F v d) → Fz K F (.ref a) (.lst ds)
  | scr {a : Addr} {ns : List Int} : SqL K.K F a (ns.map V.int) → Fz K F (.ref a) (.scr ns)
  | dic {a : Addr} {t : Bool} {o : HO} {kvs : List (D × V)} {ds : List (D × D)} : F a = some o → DicO K F a t o kvs → kvs.length = ds.length → (∀ (k : Nat) (p : D × V) (q : D × D), kvs[k]? = some p → ds[k]? = some q → p.1 = q.1) →
      (∀ (k : Nat) (p : D × V) (q : D × D), kvs[k]? = some p → ds[k]? = some q → Fz K F p.2 q.2) → Fz K F (.ref a) (.dic t ds)

theorem Fz.mono {K : DCx} {F F' : Hp} (s : Same F F') {v : V} {d : D} (h : Fz K F v d) : Fz K F' v d := by
  induction h with
  | non => exact .non
  | bl b => exact .bl b
  | int i => exact .int i
  | str x => exact .str x
  | tup h1 h2 _ ih => exact .tup (Same.sqT s h1) h2 ih
  | lst h1 h2 _ ih => exact .lst (s _ _ h1) h2 ih
  | scr h => exact .scr (s.seq h)
  | dic h1 h2 h3 h4 _ ih => exact .dic (s _ _ h1) (h2.mono s) h3 h4 ih

/-- the value v is the tree m, whose own objects are those of S -/
inductive RM (K : DCx) (F H : Hp) : V → MV → ASet → Prop
  | fz {v : V} {d : D} {S : ASet} : Fz K F v d → (∀ b, ¬ S b) → RM K F H v (.fz d) S
  | ol {a : Addr} {vs : List V} {xs : List MV} {S : ASet} (C : Nat → ASet) : H a = some (.lst vs) → vs.length = xs.length →
      (∀ (k : Nat) (v : V) (x : MV), vs[k]? = some v → xs[k]? = some x → RM K F H v x (C k)) → (∀ i j b, C i b → C j b → i = j) → (∀ i, ¬ C i a) →
      (∀ b, S b ↔ (b = a ∨ ∃ i, i < xs.length ∧ C i b)) → RM K F H (.ref a) (.ol xs) S
  | od {a : Addr} {t : Bool} {o : HO} {kvs : List (D × V)} {xs : List (D × MV)} {S : ASet} (C : Nat → ASet) : H a = some o → DicO K F a t o kvs → kvs.length = xs.length →
      (∀ (k : Nat) (p : D × V) (q : D × MV), kvs[k]? = some p → xs[k]? = some q → p.1 = q.1) →
      (∀ (k : Nat) (p : D × V) (q : D × MV), kvs[k]? = some p → xs[k]? = some q → RM K F H p.2 q.2 (C k)) → (∀ i j b, C i b → C j b → i = j) → (∀ i, ¬ C i a) →
      (∀ b, S b ↔ (b = a ∨ ∃ i, i < xs.length ∧ C i b)) → RM K F H (.ref a) (.od t xs) S

theorem RM.mono {K : DCx} {F F' H H' : Hp} (s : Same F F') {v : V} {m : MV} {S : ASet} (h : RM K F H v m S) : (∀ b o, S b → H b = some o → H' b = some o) → RM K F' H' v m S := by
  induction h with
  | fz h1 h2 => exact fun _ => .fz (h1.mono s) h2
  | ol C h1 h2 _ h4 h5 h6 ih =>
    intro k
    refine .ol C (k _ _ ((h6 _).mpr (.inl rfl)) h1) h2 (fun i v x e1 e2 => ih i v x e1 e2 fun b o hb => k b o ((h6 b).mpr (.inr ⟨i, ?_, hb⟩))) h4 h5 h6
    exact (List.getElem?_eq_some_iff.mp e2).1
  | od C h1 h2 h3 h3' _ h4 h5 h6 ih =>
    intro k
    refine .od C (k _ _ ((h6 _).mpr (.inl rfl)) h1) (h2.mono s) h3 h3' (fun i v x e1 e2 => ih i v x e1 e2 fun b o hb => k b o ((h6 b).mpr (.inr ⟨i, ?_, hb⟩))) h4 h5 h6
    exact (List.getElem?_eq_some_iff.mp e2).1
theorem RM.there {K : DCx} {F H : Hp} {v : V} {m : MV} {S : ASet} (h : RM K F H v m S) : ∀ b, S b → ∃ o, H b = some o := by
  induction h with
  | fz h1 h2 => exact fun b hb => absurd hb (h2 b)
  | ol C h1 h2 _ h4 h5 h6 ih =>
    intro b hb
    rcases (h6 b).mp hb with rfl | ⟨i, hi, hc⟩
    · exact ⟨_, h1⟩
    · exact ih i _ _ (List.getElem?_eq_getElem (by rw [h2]; exact hi)) (List.getElem?_eq_getElem hi) b hc
  | od C h1 h2 h3 h3' _ h4 h5 h6 ih =>
    intro b hb
    rcases (h6 b).mp hb with rfl | ⟨i, hi, hc⟩
    · exact ⟨_, h1⟩
    · exact ih i _ _ (List.getElem?_eq_getElem (by rw [h3]; exact hi)) (List.getElem?_eq_getElem hi) b hc
/-- from now on it never changes -/
theorem RM.freeze {K : DCx} {F F' H : Hp} (s : Same F F') {v : V} {m : MV} {S : ASet} (h : RM K F H v m S) : (∀ b o, S b → H b = some o → F' b = some o) → Fz K F' v m.toD := by
  induction h with
  | fz h1 h2 => exact fun _ => h1.mono s
  | @ol a vs xs S C h1 h2 _ h4 h5 h6 ih =>
    intro k
    rw [MV.toD, toDs_map]
    refine .lst (k _ _ ((h6 _).mpr (.inl rfl)) h1) (by rw [List.length_map]; exact h2) fun i v d e1 e2 => ?_
    rw [List.getElem?_map] at e2
    obtain ⟨x, e3, rfl⟩ := Option.map_eq_some_iff.mp e2
    exact ih i v x e1 e3 fun b o hb => k b o ((h6 b).mpr (.inr ⟨i, (List.getElem?_eq_some_iff.mp e3).1, hb⟩))
  | @od a t o kvs xs S C h1 h2 h3 h3' _ h4 h5 h6 ih =>
    intro k
    rw [MV.toD, toDk_map]
    refine .dic (k _ _ ((h6 _).mpr (.inl rfl)) h1) (h2.mono s) (by rw [List.length_map]; exact h3) (fun i p q e1 e2 => ?_) fun i p q e1 e2 => ?_
    · rw [List.getElem?_map] at e2
      obtain ⟨x, e3, rfl⟩ := Option.map_eq_some_iff.mp e2
      exact h3' i p x e1 e3
    · rw [List.getElem?_map] at e2
      obtain ⟨x, e3, rfl⟩ := Option.map_eq_some_iff.mp e2
      exact ih i p x e1 e3 fun b o hb => k b o ((h6 b).mpr (.inr ⟨i, (List.getElem?_eq_some_iff.mp e3).1, hb⟩))
theorem RM.fzv {K : DCx} {F H : Hp} {v : V} {d : D} {S : ASet} (h : RM K F H v (.fz d) S) : Fz K F v d ∧ ∀ b, ¬ S b := by
  cases h with
  | fz h1 h2 => exact ⟨h1, h2⟩
theorem RM.of {K : DCx} {F H : Hp} {v : V} {d : D} (h : Fz K F v d) : RM K F H v (.fz d) fun _ => False := .fz h fun _ z => z

/-- the slots, what they hold, what they own -/
structure Own (K : DCx) (F H : Hp) (σ : L2.St) (ρ : DEnv) (G : ASet) (S : Nat → ASet) : Prop where
  rep : ∀ i m, ρ[i]? = some (some m) → ∃ v, σ[i]? = some (some v) ∧ RM K F H v m (S i)
  emp : ∀ i, (∀ m, ρ[i]? ≠ some (some m)) → ∀ b, ¬ S i b
  dis : ∀ i j b, S i b → S j b → i = j
  out : ∀ i b, S i b → F b = none ∧ ¬ G b
/-- the state of a frame: F never changes any more, G belongs to others -/
structure Sta (K : DCx) (F H : Hp) (σ : L2.St) (ρ : DEnv) (G : ASet) : Prop where
  le : Same F H
  len : σ.length = ρ.length
  own : ∃ S, Own K F H σ ρ G S
  fr : ∀ b, G b → F b = none ∧ ∃ o, H b = some o

section
variable {K : DCx} {F F' H H' : Hp} {σ : L2.St} {ρ : DEnv} {G G' : ASet}
theorem Own.there {S : Nat → ASet} (o : Own K F H σ ρ G S) {i : Nat} {b : Addr} (h : S i b) : ∃ ob, H b = some ob := by
  by_cases hm : ∃ m, ρ[i]? = some (some m)
  · obtain ⟨m, e⟩ := hm
    obtain ⟨v, _, r⟩ := o.rep i m e
    exact r.there b h
  · exact absurd h (o.emp i (fun m e => hm ⟨m, e⟩) b)
/-- the heap grows; what never changes any more grows by new things alone -/
theorem Sta.grow (s : Sta K F H σ ρ G) (sf : Same F F') (sh : Same H H') (le : Same F' H') (new : ∀ b, F b = none → (∃ o, H b = some o) → F' b = none)
    (hG : ∀ b, G' b → ¬ G b → H b = none) (hG' : ∀ b, G' b → F' b = none ∧ ∃ o, H' b = some o) : Sta K F' H' σ ρ G' := by
  obtain ⟨S, o⟩ := s.own
  refine ⟨le, s.len, ⟨S, fun i m e => ?_, o.emp, o.dis, fun i b hb => ?_⟩, hG'⟩
  · obtain ⟨v, e1, r⟩ := o.rep i m e
    exact ⟨v, e1, r.mono sf fun b ob _ e => sh b ob e⟩
  · obtain ⟨ob, e⟩ := o.there hb
    refine ⟨new b (o.out i b hb).1 ⟨ob, e⟩, fun g => ?_⟩
    have := hG b g (o.out i b hb).2
    rw [e] at this
    cases this
/-- others own less -/
theorem Sta.less (s : Sta K F H σ ρ G) (h : ∀ b, G' b → G b) : Sta K F H σ ρ G' := by
  obtain ⟨S, o⟩ := s.own
  exact ⟨s.le, s.len, ⟨S, o.rep, o.emp, o.dis, fun i b hb => ⟨(o.out i b hb).1, fun g => (o.out i b hb).2 (h b g)⟩⟩, fun b g => s.fr b (h b g)⟩
/-- slot i forgets -/
theorem Sta.drop (s : Sta K F H σ ρ G) (i : Nat) (σ' : L2.St) (hl : σ'.length = σ.length) (hσ : ∀ j, j ≠ i → σ'[j]? = σ[j]?) : Sta K F H σ' (ρ.set i none) G := by
  obtain ⟨S, o⟩ := s.own
  refine ⟨s.le, by rw [hl, s.len, List.length_set], ⟨fun j => if j = i then fun _ => False else S j, fun j m e => ?_, fun j h b hb => ?_, fun j k b h1 h2 => ?_, fun j b hb => ?_⟩, s.fr⟩
  · have hj : j ≠ i := fun z => by
      subst z
      rw [List.getElem?_set_self'] at e
      cases q : ρ[j]? with
      | none => rw [q] at e; cases e
      | some x => rw [q] at e; simp at e
    rw [List.getElem?_set_ne (Ne.symm hj)] at e
    obtain ⟨v, e1, r⟩ := o.rep j m e
    refine ⟨v, by rw [hσ j hj]; exact e1, ?_⟩
    simp only [if_neg hj]
    exact r
  · by_cases hj : j = i
    · simp only [if_pos hj] at hb
    · simp only [if_neg hj] at hb
      exact o.emp j (fun m e => h m (by rw [List.getElem?_set_ne (Ne.symm hj)]; exact e)) b hb
  · by_cases hj : j = i
    · simp only [if_pos hj] at h1
    · by_cases hk : k = i
      · simp only [if_pos hk] at h2
      · simp only [if_neg hj] at h1
        simp only [if_neg hk] at h2
        exact o.dis j k b h1 h2
  · by_cases hj : j = i
    · simp only [if_pos hj] at hb
    · simp only [if_neg hj] at hb
      exact o.out j b hb
/-- slot i takes what lay beside -/
theorem Sta.put (s : Sta K F H σ ρ G) {i : Nat} (hi : i < ρ.length) {v : V} {m : MV} {T : ASet} (r : RM K F H v m T) (hT : ∀ b, T b → G b) (hG : ∀ b, G' b → G b ∧ ¬ T b) :
    Sta K F H (σ.set i (some v)) (ρ.set i (some m)) G' := by
  obtain ⟨S, o⟩ := s.own
  refine ⟨s.le, by rw [List.length_set, List.length_set, s.len], ⟨fun j => if j = i then T else S j, fun j m' e => ?_, fun j h b hb => ?_, fun j k b h1 h2 => ?_, fun j b hb => ?_⟩, fun b g => s.fr b (hG b g).1⟩
  · by_cases hj : j = i
    · subst hj
      rw [List.getElem?_set_self hi] at e
      cases e
      refine ⟨v, List.getElem?_set_self (by rw [s.len]; exact hi), ?_⟩
      simp only [if_true]
      exact r
    · rw [List.getElem?_set_ne (Ne.symm hj)] at e
      obtain ⟨v', e1, r'⟩ := o.rep j m' e
      refine ⟨v', by rw [List.getElem?_set_ne (Ne.symm hj)]; exact e1, ?_⟩
      simp only [if_neg hj]
      exact r'
  · by_cases hj : j = i
    · subst hj
      exact absurd (List.getElem?_set_self hi) (h m)
    · simp only [if_neg hj] at hb
      exact o.emp j (fun m' e => h m' (by rw [List.getElem?_set_ne (Ne.symm hj)]; exact e)) b hb
  · by_cases hj : j = i
    · by_cases hk : k = i
      · rw [hj, hk]
      · simp only [if_pos hj] at h1
        simp only [if_neg hk] at h2
        exact absurd (hT b h1) (o.out k b h2).2
    · by_cases hk : k = i
      · simp only [if_neg hj] at h1
        simp only [if_pos hk] at h2
        exact absurd (hT b h2) (o.out j b h1).2
      · simp only [if_neg hj] at h1
        simp only [if_neg hk] at h2
        exact o.dis j k b h1 h2
  · by_cases hj : j = i
    · simp only [if_pos hj] at hb
      exact ⟨(s.fr b (hT b hb)).1, fun g => (hG b g).2 hb⟩
    · simp only [if_neg hj] at hb
      exact ⟨(o.out j b hb).1, fun g => (o.out j b hb).2 (hG b g).1⟩
/-- slot i is lent: its own things lie beside -/
theorem Sta.take (s : Sta K F H σ ρ G) {i : Nat} {m : MV} (e : ρ[i]? = some (some m)) :
    ∃ v T, σ[i]? = some (some v) ∧ RM K F H v m T ∧ (∀ b, T b → ¬ G b) ∧ Sta K F H σ (ρ.set i none) (fun b => G b ∨ T b) := by
  obtain ⟨S, o⟩ := s.own
  obtain ⟨v, e1, r⟩ := o.rep i m e
  refine ⟨v, S i, e1, r, fun b hb => (o.out i b hb).2, s.le, by rw [s.len, List.length_set], ⟨fun j => if j = i then fun _ => False else S j, fun j m e => ?_, fun j h b hb => ?_, fun j k b h1 h2 => ?_, fun j b hb => ?_⟩, fun b g => ?_⟩
  · have hj : j ≠ i := fun z => by
      subst z
      rw [List.getElem?_set_self'] at e
      cases q : ρ[j]? with
      | none => rw [q] at e; cases e
      | some x => rw [q] at e; simp at e
    rw [List.getElem?_set_ne (Ne.symm hj)] at e
    obtain ⟨v, e1, r⟩ := o.rep j m e
    refine ⟨v, e1, ?_⟩
    simp only [if_neg hj]
    exact r
  · by_cases hj : j = i
    · simp only [if_pos hj] at hb
    · simp only [if_neg hj] at hb
      exact o.emp j (fun m e => h m (by rw [List.getElem?_set_ne (Ne.symm hj)]; exact e)) b hb
  · by_cases hj : j = i
    · simp only [if_pos hj] at h1
    · by_cases hk : k = i
      · simp only [if_pos hk] at h2
      · simp only [if_neg hj] at h1
        simp only [if_neg hk] at h2
        exact o.dis j k b h1 h2
  · by_cases hj : j = i
    · simp only [if_pos hj] at hb
    · simp only [if_neg hj] at hb
      refine ⟨(o.out j b hb).1, fun g => ?_⟩
      rcases g with g | g
      · exact (o.out j b hb).2 g
      · exact hj (o.dis j i b hb g)
  · rcases g with g | g
    · exact s.fr b g
    · exact ⟨(o.out i b g).1, r.there b g⟩
/-- what lies beside never changes any more -/
theorem Sta.freeze (s : Sta K F H σ ρ G) {v : V} {m : MV} {T : ASet} (r : RM K F H v m T) (hT : ∀ b, T b → G b) (hG : ∀ b, G' b → G b ∧ ¬ T b) :
    ∃ F', Same F F' ∧ Fz K F' v m.toD ∧ Sta K F' H σ ρ G' ∧ ∀ b, ¬ T b → F' b = F b := by
  classical
  have hF : ∀ b, T b → F b = none := fun b hb => (s.fr b (hT b hb)).1
  let F' : Hp := fun b => if T b then H b else F b
  have e1 : ∀ b, T b → F' b = H b := fun b hb => if_pos hb
  have e2 : ∀ b, ¬ T b → F' b = F b := fun b hb => if_neg hb
  have sf : Same F F' := fun b o e => by
    have : ¬ T b := fun hb => by rw [hF b hb] at e; cases e
    rw [e2 b this]
    exact e
  refine ⟨F', sf, r.freeze sf fun b o hb e => by rw [e1 b hb]; exact e, ⟨fun b o e => ?_, s.len, ?_, fun b g => ?_⟩, e2⟩
  · by_cases hb : T b
    · rw [e1 b hb] at e
      exact e
    · rw [e2 b hb] at e
      exact s.le b o e
  · obtain ⟨S, o⟩ := s.own
    refine ⟨S, fun i m e => ?_, o.emp, o.dis, fun i b hb => ?_⟩
    · obtain ⟨v, q, r⟩ := o.rep i m e
      exact ⟨v, q, r.mono sf fun b ob _ e => e⟩
    · have : ¬ T b := fun z => (o.out i b hb).2 (hT b z)
      rw [e2 b this]
      exact ⟨(o.out i b hb).1, fun g => (o.out i b hb).2 (hG b g).1⟩
  · rw [e2 b (hG b g).2]
    exact s.fr b (hG b g).1
end
end DL

/-! DL2: readings over plain data; the judgements; what is common to all expressions. -/
namespace DL
open PySem PySem.Spec PyProof.Rows L2

abbrev WE := DEnv → (MV → DEnv → Prop) → Prop
abbrev WA := DEnv → (List MV → DEnv → Prop) → Prop
abbrev WT := DEnv → (Bool → DEnv → Prop) → Prop

theorem PE.imp {X : Cx} {e : Expr} {t t' : TE} (h : PE X e t) (i : ∀ σ H Q, t' σ H Q → t σ H Q) : PE X e t' := ⟨fun p s σ H Q I w => h.run p s σ H Q I (i _ _ _ w)⟩
theorem PT.imp {X : Cx} {e : Expr} {t t' : TT} (h : PT X e t) (i : ∀ σ H Q, t' σ H Q → t σ H Q) : PT X e t' := ⟨fun p s σ H Q I w => h.run p s σ H Q I (i _ _ _ w)⟩
theorem PW.imp {X : Cx} {e : Expr} {t t' : TT} (h : PW X e t) (i : ∀ σ H Q, t' σ H Q → t σ H Q) : PW X e t' := ⟨fun wh p s σ H Q I w => h.run wh p s σ H Q I (i _ _ _ w)⟩
theorem PA.imp {X : Cx} {es : List Expr} {t t' : TA} (h : PA X es t) (i : ∀ σ H Q, t' σ H Q → t σ H Q) : PA X es t' := ⟨fun pos p s σ H Q I w => h.run pos p s σ H Q I (i _ _ _ w)⟩
theorem PS.imp {X : Cx} {e : Stmt} {t t' : TS} (h : PS X e t) (i : ∀ D σ H, t' D σ H → t D σ H) : PS X e t' := ⟨fun p s σ H D I w => h.run p s σ H D I (i _ _ _ w)⟩
theorem PSs.imp {X : Cx} {e : List Stmt} {t t' : TS} (h : PSs X e t) (i : ∀ D σ H, t' D σ H → t D σ H) : PSs X e t' := ⟨fun p s σ H D I w => h.run p s σ H D I (i _ _ _ w)⟩

/-- behind an expression: pl: it may be a view of what a slot owns; mt: it may have changed what slots own -/
structure PostE (K : DCx) (pl mt : Bool) (σ : L2.St) (F H : Hp) (G : ASet) (F' H' : Hp) (ρ' : DEnv) (v : V) (m : MV) (S : ASet) : Prop where
  sf : Same F F'
  at_ : ∀ b, G b → H' b = H b
  qt : mt = false → Same H H'
  rm : RM K F' H' v m S
  st : Sta K F' H' σ ρ' (fun b => G b ∨ (pl = false ∧ S b))
  ng : pl = false → ∀ b, S b → ¬ G b
structure PostA (K : DCx) (mt : Bool) (σ : L2.St) (F H : Hp) (G : ASet) (F' H' : Hp) (ρ' : DEnv) (vs : List V) (ms : List MV) (S : Nat → ASet) : Prop where
  sf : Same F F'
  at_ : ∀ b, G b → H' b = H b
  qt : mt = false → Same H H'
  len : vs.length = ms.length
  rm : ∀ (k : Nat) (v : V) (m : MV), vs[k]? = some v → ms[k]? = some m → RM K F' H' v m (S k)
  st : Sta K F' H' σ ρ' G
structure PostT (K : DCx) (mt : Bool) (σ : L2.St) (F H : Hp) (G : ASet) (F' H' : Hp) (ρ' : DEnv) : Prop where
  sf : Same F F'
  at_ : ∀ b, G b → H' b = H b
  qt : mt = false → Same H H'
  st : Sta K F' H' σ ρ' G

def TD (K : DCx) (f : WE) (pl mt : Bool) : TE := fun σ H Q => ∃ (F : Hp) (ρ : DEnv) (G : ASet) (Q' : MV → DEnv → Prop), Sta K F H σ ρ G ∧ f ρ Q' ∧
  ∀ F' H' ρ' v m S, PostE K pl mt σ F H G F' H' ρ' v m S → Q' m ρ' → Q v H'
def TDA (K : DCx) (f : WA) (mt : Bool) : TA := fun σ H Q => ∃ (F : Hp) (ρ : DEnv) (G : ASet) (Q' : List MV → DEnv → Prop), Sta K F H σ ρ G ∧ f ρ Q' ∧
  ∀ F' H' ρ' vs ms S, PostA K mt σ F H G F' H' ρ' vs ms S → Q' ms ρ' → Q vs H'
def TDT (K : DCx) (f : WT) (mt : Bool) : TT := fun σ H Q => ∃ (F : Hp) (ρ : DEnv) (G : ASet) (Q' : Bool → DEnv → Prop), Sta K F H σ ρ G ∧ f ρ Q' ∧
  ∀ F' H' ρ' b, PostT K mt σ F H G F' H' ρ' → Q' b ρ' → Q b H'

section
variable {K : DCx} {F F' H H' : Hp} {σ : L2.St} {ρ : DEnv} {G G' : ASet}

/-- constants -/
def wC (d : D) : WE := fun ρ Q => Q (.fz d) ρ
theorem td_const {d : D} {v : V} (r : ∀ F, Fz K F v d) : ∀ σ H Q, TD K (wC d) false false σ H Q → tC v σ H Q := fun σ H Q ⟨F, ρ, G, Q', st, h, k⟩ =>
  k F H ρ v (.fz d) (fun _ => False) ⟨Same.refl F, fun _ _ => rfl, fun _ => Same.refl H, .of (r F), st.less fun b g => g.elim id fun z => z.2.elim, fun _ _ z => z.elim⟩ h

/-- a name: a view of its slot -/
def wVar (i : Nat) : WE := fun ρ Q => ∃ m, ρ[i]? = some (some m) ∧ Q m ρ
theorem td_var {i : Nat} : ∀ σ H Q, TD K (wVar i) true false σ H Q → tVar i σ H Q := fun σ H Q ⟨F, ρ, G, Q', st, ⟨m, e, h⟩, k⟩ => by
  obtain ⟨S, o⟩ := st.own
  obtain ⟨v, e1, r⟩ := o.rep i m e
  exact ⟨v, e1, k F H ρ v m (S i) ⟨Same.refl F, fun _ _ => rfl, fun _ => Same.refl H, r, st.less fun b g => g.elim id fun z => (by cases z.1), fun z => (by cases z)⟩ h⟩

/-- argument lists: views may not be old when they are used -/
def wNil : WA := fun ρ Q => Q [] ρ
def wCons (f : WE) (pl mts : Bool) (fs : WA) : WA := fun ρ Q => f ρ fun m ρ1 => fs ρ1 fun ms ρ2 => (pl && mts && m.isOwn) = false ∧ Q (m :: ms) ρ2
theorem tda_nil : ∀ σ H Q, TDA K wNil false σ H Q → tNil σ H Q := fun σ H Q ⟨F, ρ, G, Q', st, h, k⟩ =>
  k F H ρ [] [] (fun _ _ => False) ⟨Same.refl F, fun _ _ => rfl, fun _ => Same.refl H, rfl, fun _ _ _ e => (by simp at e), st⟩ h
theorem RM.own_no {v : V} {m : MV} {S : ASet} (r : RM K F H v m S) (h : m.isOwn = false) : ∀ b, ¬ S b := by
  cases r with
  | fz _ h => exact h
  | ol => cases h
  | od => cases h
theorem tda_cons {f : WE} {fs : WA} {pl mt mts : Bool} : ∀ σ H Q, TDA K (wCons f pl mts fs) (mt || mts) σ H Q → tCons (TD K f pl mt) (TDA K fs mts) σ H Q := fun σ H Q ⟨F, ρ, G, Q', st, h, k⟩ => by
  refine ⟨F, ρ, G, _, st, h, fun F1 H1 ρ1 v m S p h1 => ?_⟩
  refine ⟨F1, ρ1, _, _, p.st, h1, fun F2 H2 ρ2 vs ms T q ⟨h2, h3⟩ => ?_⟩
  refine k F2 H2 ρ2 (v :: vs) (m :: ms) (fun j => match j with | 0 => S | j + 1 => T j) ⟨p.sf.trans q.sf, fun b g => (q.at_ b (.inl g)).trans (p.at_ b g), fun e => ?_, by simp only [List.length_cons, q.len], fun j u n e1 e2 => ?_, q.st.less fun b g => .inl g⟩ h3
  · cases mt <;> cases mts <;> first | exact (p.qt rfl).trans (q.qt rfl) | cases e
  · cases j with
    | succ j => exact q.rm j u n (by simpa using e1) (by simpa using e2)
    | zero =>
      simp only [List.getElem?_cons_zero, Option.some.injEq] at e1 e2
      subst e1 e2
      refine p.rm.mono q.sf fun b o hb e => ?_
      cases hp : pl with
      | false => rw [q.at_ b (.inr ⟨hp, hb⟩)]; exact e
      | true =>
        cases hm : mts with
        | false => exact q.qt hm b o e
        | true =>
          have ho : m.isOwn = false := by simpa [hp, hm] using h2
          exact absurd hb (p.rm.own_no ho b)
theorem tCons.imp {ta : TE} {t t' : TA} (i : ∀ σ H Q, t' σ H Q → t σ H Q) (m : ∀ σ H Q Q', (∀ v H', Q v H' → Q' v H') → ta σ H Q → ta σ H Q') : ∀ σ H Q, tCons ta t' σ H Q → tCons ta t σ H Q :=
  fun σ H Q h => m σ H _ _ (fun v H' q => i _ _ _ q) h
theorem td_weak {f : WE} {pl mt : Bool} : ∀ (σ : L2.St) (H : Hp) (Q Q' : VK), (∀ v H', Q v H' → Q' v H') → TD K f pl mt σ H Q → TD K f pl mt σ H Q' :=
  fun σ H Q Q' i ⟨F, ρ, G, R, st, h, k⟩ => ⟨F, ρ, G, R, st, h, fun F' H' ρ' v m S p q => i _ _ (k F' H' ρ' v m S p q)⟩
theorem tda_weak {f : WA} {mt : Bool} : ∀ (σ : L2.St) (H : Hp) (Q Q' : List V → Hp → Prop), (∀ v H', Q v H' → Q' v H') → TDA K f mt σ H Q → TDA K f mt σ H Q' :=
  fun σ H Q Q' i ⟨F, ρ, G, R, st, h, k⟩ => ⟨F, ρ, G, R, st, h, fun F' H' ρ' v m S p q => i _ _ (k F' H' ρ' v m S p q)⟩

/-- an operation on values, that makes new things at most: g tells its outcome -/
def OpS (K : DCx) (r : List V → Hp → VK → Prop) (g : List MV → Option MV) : Prop :=
  ∀ (F H : Hp) (vs : List V) (ms : List MV) (S : Nat → ASet) (m : MV) (Q : VK), Same F H → vs.length = ms.length → (∀ (k : Nat) (v : V) (m : MV), vs[k]? = some v → ms[k]? = some m → RM K F H v m (S k)) → g ms = some m →
    (∀ (F' H' : Hp) (v : V) (T : ASet), Same F F' → Same H H' → Same F' H' → (∀ b, F b = none → (∃ o, H b = some o) → F' b = none) → RM K F' H' v m T → (∀ b, T b → H b = none ∧ F' b = none) → Q v H') → r vs H Q
def wOp (g : List MV → Option MV) (fs : WA) : WE := fun ρ Q => fs ρ fun ms ρ1 => ∃ m, g ms = some m ∧ Q m ρ1
/-- arguments first, then the operation -/
theorem td_op {r : List V → Hp → VK → Prop} {g : List MV → Option MV} {fs : WA} {mt : Bool} (ho : OpS K r g) : ∀ σ H Q, TD K (wOp g fs) false mt σ H Q → TDA K fs mt σ H fun vs H1 => r vs H1 Q :=
  fun σ H Q ⟨F, ρ, G, Q', st, h, k⟩ => by
    refine ⟨F, ρ, G, _, st, h, fun F1 H1 ρ1 vs ms S p ⟨m, hg, hq⟩ => ?_⟩
    refine ho F1 H1 vs ms S m Q p.st.le p.len p.rm hg fun F2 H2 v T sf sh le new rm tn => ?_
    refine k F2 H2 ρ1 v m T ⟨p.sf.trans sf, fun b g => ?_, fun e => (p.qt e).trans sh, rm, p.st.grow sf sh le new (fun b g ng => ?_) fun b g => ?_, fun _ b t g => ?_⟩ hq
    · obtain ⟨o, e⟩ := (p.st.fr b g).2
      rw [sh b o e, ← e, p.at_ b g]
    · rcases g with g | g
      · exact absurd g ng
      · exact (tn b g.2).1
    · rcases g with g | g
      · obtain ⟨f0, o, e⟩ := p.st.fr b g
        exact ⟨new b f0 ⟨o, e⟩, o, sh b o e⟩
      · exact ⟨(tn b g.2).2, rm.there b g.2⟩
    · obtain ⟨_, o, e⟩ := p.st.fr b g
      rw [(tn b t).1] at e
      cases e

/-- what is stored, handed on, returned: what is still a slot's own is from now on never changed -/
def wEsc (i : Option Nat) (pl : Bool) (f : WE) : WE := fun ρ Q => f ρ fun m ρ1 =>
  if m.isOwn && pl then (match i with | some i => ρ1[i]? = some (some m) ∧ Q (.fz m.toD) (ρ1.set i (some (.fz m.toD))) | none => False) else Q m ρ1
theorem td_esc_tmp {f : WE} {mt : Bool} : ∀ σ H Q, TD K (wEsc none false f) false mt σ H Q → TD K f false mt σ H Q := fun σ H Q ⟨F, ρ, G, Q', st, h, k⟩ => by
  refine ⟨F, ρ, G, _, st, h, fun F1 H1 ρ1 v m S p q => ?_⟩
  rw [Bool.and_false, if_neg Bool.false_ne_true] at q
  exact k F1 H1 ρ1 v m S p q
theorem td_esc_view {f : WE} {mt : Bool} : ∀ σ H Q, TD K (wEsc none true f) false mt σ H Q → TD K f true mt σ H Q := fun σ H Q ⟨F, ρ, G, Q', st, h, k⟩ => by
  refine ⟨F, ρ, G, _, st, h, fun F1 H1 ρ1 v m S p q => ?_⟩
  cases ho : m.isOwn with
  | true => rw [ho] at q; exact q.elim
  | false =>
    rw [ho] at q
    have no := p.rm.own_no ho
    exact k F1 H1 ρ1 v m S ⟨p.sf, p.at_, p.qt, p.rm, p.st.less fun b g => g.elim .inl fun z => absurd z.2 (no b), fun _ b s => absurd s (no b)⟩ q
theorem td_esc_var {i : Nat} : ∀ σ H Q, TD K (wEsc (some i) true (wVar i)) false false σ H Q → tVar i σ H Q := fun σ H Q ⟨F, ρ, G, Q', st, h, k⟩ => by
  obtain ⟨m, e, q⟩ := h
  cases ho : m.isOwn with
  | false =>
    obtain ⟨S, o⟩ := st.own
    obtain ⟨v, e1, r⟩ := o.rep i m e
    rw [ho] at q
    have no := r.own_no ho
    exact ⟨v, e1, k F H ρ v m (S i) ⟨Same.refl F, fun _ _ => rfl, fun _ => Same.refl H, r, st.less fun b g => g.elim id fun z => absurd z.2 (no b), fun _ b s => absurd s (no b)⟩ q⟩
  | true =>
    rw [ho] at q
    obtain ⟨_, q⟩ := q
    obtain ⟨v, T, e1, r, ng, st1⟩ := st.take e
    obtain ⟨F1, sf, fz, st2, hF⟩ := st1.freeze (G' := G) r (fun b t => .inr t) fun b g => ⟨.inl g, fun t => ng b t g⟩
    have hi : i < ρ.length := (List.getElem?_eq_some_iff.mp e).1
    have st3 := st2.put (i := i) (G' := G) (by rw [List.length_set]; exact hi) (.of fz) (fun b z => z.elim) fun b g => ⟨g, fun z => z⟩
    rw [List.set_set] at st3
    have hσ : σ.set i (some v) = σ := by
      have hl := (List.getElem?_eq_some_iff.mp e1)
      apply List.ext_getElem?
      intro j
      by_cases hj : i = j
      · subst hj
        rw [List.getElem?_set_self hl.1, e1]
      · rw [List.getElem?_set_ne hj]
    rw [hσ] at st3
    exact ⟨v, e1, k F1 H (ρ.set i (some (.fz m.toD))) v (.fz m.toD) (fun _ => False) ⟨sf, fun _ _ => rfl, fun _ => Same.refl H, .of fz, st3.less fun b g => g.elim id fun z => z.2.elim, fun _ _ z => z.elim⟩ q⟩

/-- tests -/
def MV.truth : MV → Option Bool
  | .fz .non => some false
  | .fz (.bl b) => some b
  | .fz (.int i) => some (i != 0)
  | .fz (.str x) => if x.length ≤ 16777216 then some (x.length != 0) else none
  | .fz (.tup xs) => some (!xs.isEmpty)
  | .fz (.lst xs) => some (!xs.isEmpty)
  | .ol xs => some (!xs.isEmpty)
  | _ => none
def wTest (f : WE) : WT := fun ρ Q => f ρ fun m ρ1 => ∃ b, m.truth = some b ∧ Q b ρ1
def wBool (f : WE) : WT := fun ρ Q => f ρ fun m ρ1 => ∃ b, m = .fz (.bl b) ∧ Q b ρ1
def wNotT (f : WT) : WT := fun ρ Q => f ρ fun b ρ1 => Q (!b) ρ1
def wAndT (f g : WT) : WT := fun ρ Q => f ρ fun b ρ1 => if b = true then g ρ1 Q else Q false ρ1
def wOrT (f g : WT) : WT := fun ρ Q => f ρ fun b ρ1 => if b = true then Q true ρ1 else g ρ1 Q
theorem post_tmp {pl mt : Bool} {F' H' : Hp} {ρ' : DEnv} {v : V} {m : MV} {S : ASet} (p : PostE K pl mt σ F H G F' H' ρ' v m S) : PostT K mt σ F H G F' H' ρ' := ⟨p.sf, p.at_, p.qt, p.st.less fun b g => .inl g⟩
theorem PostT.trans {m1 m2 : Bool} {F1 H1 F2 H2 : Hp} {ρ1 ρ2 : DEnv} (p : PostT K m1 σ F H G F1 H1 ρ1) (q : PostT K m2 σ F1 H1 G F2 H2 ρ2) : PostT K (m1 || m2) σ F H G F2 H2 ρ2 :=
  ⟨p.sf.trans q.sf, fun b g => (q.at_ b g).trans (p.at_ b g), fun e => (by cases m1 <;> cases m2 <;> first | exact (p.qt rfl).trans (q.qt rfl) | cases e), q.st⟩
theorem PostT.orL {m1 : Bool} (m2 : Bool) {F1 H1 : Hp} {ρ1 : DEnv} (p : PostT K m1 σ F H G F1 H1 ρ1) : PostT K (m1 || m2) σ F H G F1 H1 ρ1 :=
  ⟨p.sf, p.at_, fun e => (by cases m1 <;> first | exact p.qt rfl | cases e), p.st⟩
theorem PostE.after {m1 pl m2 : Bool} {F1 H1 F2 H2 : Hp} {ρ1 ρ2 : DEnv} {v : V} {m : MV} {S : ASet} (p : PostT K m1 σ F H G F1 H1 ρ1) (q : PostE K pl m2 σ F1 H1 G F2 H2 ρ2 v m S) : PostE K pl (m1 || m2) σ F H G F2 H2 ρ2 v m S :=
  ⟨p.sf.trans q.sf, fun b g => (q.at_ b g).trans (p.at_ b g), fun e => (by cases m1 <;> cases m2 <;> first | exact (p.qt rfl).trans (q.qt rfl) | cases e), q.rm, q.st, q.ng⟩
theorem PostE.mt_le {pl m1 m2 : Bool} (h : m2 = false → m1 = false) {F1 H1 : Hp} {ρ1 : DEnv} {v : V} {m : MV} {S : ASet} (q : PostE K pl m1 σ F H G F1 H1 ρ1 v m S) : PostE K pl m2 σ F H G F1 H1 ρ1 v m S :=
  ⟨q.sf, q.at_, fun e => q.qt (h e), q.rm, q.st, q.ng⟩
theorem PostT.mt_le {m1 m2 : Bool} (h : m2 = false → m1 = false) {F1 H1 : Hp} {ρ1 : DEnv} (q : PostT K m1 σ F H G F1 H1 ρ1) : PostT K m2 σ F H G F1 H1 ρ1 :=
  ⟨q.sf, q.at_, fun e => q.qt (h e), q.st⟩
theorem tdt_bool {f : WE} {pl mt : Bool} : ∀ σ H Q, TDT K (wBool f) mt σ H Q → tB (TD K f pl mt) σ H Q := fun σ H Q ⟨F, ρ, G, Q', st, h, k⟩ => by
  refine ⟨F, ρ, G, _, st, h, fun F1 H1 ρ1 v m S p ⟨b, e, q⟩ => ?_⟩
  subst e
  obtain ⟨fz, _⟩ := p.rm.fzv
  cases fz
  exact ⟨b, rfl, k F1 H1 ρ1 b (post_tmp p) q⟩
theorem tdt_not {f : WT} {mt : Bool} : ∀ σ H Q, TDT K (wNotT f) mt σ H Q → tNot (TDT K f mt) σ H Q := fun σ H Q ⟨F, ρ, G, Q', st, h, k⟩ =>
  ⟨F, ρ, G, _, st, h, fun F1 H1 ρ1 b p q => k F1 H1 ρ1 (!b) p q⟩
theorem tdt_and {f g : WT} {mt mt' : Bool} : ∀ σ H Q, TDT K (wAndT f g) (mt || mt') σ H Q → tAnd (TDT K f mt) (TDT K g mt') σ H Q := fun σ H Q ⟨F, ρ, G, Q', st, h, k⟩ => by
  refine ⟨F, ρ, G, _, st, h, fun F1 H1 ρ1 b p q => ?_⟩
  cases b with
  | true =>
    rw [if_pos rfl] at q ⊢
    exact ⟨F1, ρ1, G, _, p.st, q, fun F2 H2 ρ2 b p2 q2 => k F2 H2 ρ2 b (p.trans p2) q2⟩
  | false =>
    rw [if_neg Bool.false_ne_true] at q ⊢
    exact k F1 H1 ρ1 false (p.orL _) q
theorem tdt_or {f g : WT} {mt mt' : Bool} : ∀ σ H Q, TDT K (wOrT f g) (mt || mt') σ H Q → tOr (TDT K f mt) (TDT K g mt') σ H Q := fun σ H Q ⟨F, ρ, G, Q', st, h, k⟩ => by
  refine ⟨F, ρ, G, _, st, h, fun F1 H1 ρ1 b p q => ?_⟩
  cases b with
  | false =>
    rw [if_neg Bool.false_ne_true] at q ⊢
    exact ⟨F1, ρ1, G, _, p.st, q, fun F2 H2 ρ2 b p2 q2 => k F2 H2 ρ2 b (p.trans p2) q2⟩
  | true =>
    rw [if_pos rfl] at q ⊢
    exact k F1 H1 ρ1 true (p.orL _) q
/-- a if c else b: both moved -/
def wIf (c : WT) (f g : WE) : WE := fun ρ Q => c ρ fun b ρ1 => if b = true then f ρ1 Q else g ρ1 Q
theorem td_if {c : WT} {f g : WE} {mt m1 m2 : Bool} : ∀ σ H Q, TD K (wIf c f g) false (mt || (m1 || m2)) σ H Q → tIf (TDT K c mt) (TD K f false m1) (TD K g false m2) σ H Q := fun σ H Q ⟨F, ρ, G, Q', st, h, k⟩ => by
  refine ⟨F, ρ, G, _, st, h, fun F1 H1 ρ1 b p q => ?_⟩
  cases b with
  | true =>
    rw [if_pos rfl] at q ⊢
    exact ⟨F1, ρ1, G, _, p.st, q, fun F2 H2 ρ2 v m S p2 q2 => k F2 H2 ρ2 v m S ((PostE.after p p2).mt_le fun e => by cases mt <;> cases m1 <;> first | rfl | (simp at e)) q2⟩
  | false =>
    rw [if_neg Bool.false_ne_true] at q ⊢
    exact ⟨F1, ρ1, G, _, p.st, q, fun F2 H2 ρ2 v m S p2 q2 => k F2 H2 ρ2 v m S ((PostE.after p p2).mt_le fun e => by cases mt <;> cases m1 <;> cases m2 <;> first | rfl | (simp at e)) q2⟩
/-- and, or as values: all but the last True or False, the last moved -/
def wAndV (f g : WE) : WE := fun ρ Q => f ρ fun m ρ1 => ∃ b, m = .fz (.bl b) ∧ if b = true then g ρ1 Q else Q (.fz (.bl false)) ρ1
def wOrV (f g : WE) : WE := fun ρ Q => f ρ fun m ρ1 => ∃ b, m = .fz (.bl b) ∧ if b = true then Q (.fz (.bl true)) ρ1 else g ρ1 Q
def wNotV (f : WE) : WE := fun ρ Q => f ρ fun m ρ1 => ∃ b, m = .fz (.bl b) ∧ Q (.fz (.bl (!b))) ρ1
theorem flat_post {mt : Bool} {F' H' : Hp} {ρ' : DEnv} {v : V} {d : D} (p : PostT K mt σ F H G F' H' ρ') (r : Fz K F' v d) : PostE K false mt σ F H G F' H' ρ' v (.fz d) fun _ => False :=
  ⟨p.sf, p.at_, p.qt, .of r, p.st.less fun b g => g.elim id fun z => z.2.elim, fun _ _ z => z.elim⟩
theorem td_andV {f g : WE} {pl mt mt' : Bool} : ∀ σ H Q, TD K (wAndV f g) false (mt || mt') σ H Q → tAndV (TD K f pl mt) (TD K g false mt') σ H Q := fun σ H Q ⟨F, ρ, G, Q', st, h, k⟩ => by
  refine ⟨F, ρ, G, _, st, h, fun F1 H1 ρ1 v m S p ⟨b, e, q⟩ => ?_⟩
  subst e
  obtain ⟨fz, _⟩ := p.rm.fzv
  cases fz
  refine ⟨b, rfl, ?_⟩
  cases b with
  | true =>
    rw [if_pos rfl] at q ⊢
    exact ⟨F1, ρ1, G, _, (post_tmp p).st, q, fun F2 H2 ρ2 v m S p2 q2 => k F2 H2 ρ2 v m S (PostE.after (post_tmp p) p2) q2⟩
  | false =>
    rw [if_neg Bool.false_ne_true] at q ⊢
    exact k F1 H1 ρ1 _ _ _ (flat_post ((post_tmp p).orL _) (.bl false)) q
theorem td_orV {f g : WE} {pl mt mt' : Bool} : ∀ σ H Q, TD K (wOrV f g) false (mt || mt') σ H Q → tOrV (TD K f pl mt) (TD K g false mt') σ H Q := fun σ H Q ⟨F, ρ, G, Q', st, h, k⟩ => by
  refine ⟨F, ρ, G, _, st, h, fun F1 H1 ρ1 v m S p ⟨b, e, q⟩ => ?_⟩
  subst e
  obtain ⟨fz, _⟩ := p.rm.fzv
  cases fz
  refine ⟨b, rfl, ?_⟩
  cases b with
  | false =>
    rw [if_neg Bool.false_ne_true] at q ⊢
    exact ⟨F1, ρ1, G, _, (post_tmp p).st, q, fun F2 H2 ρ2 v m S p2 q2 => k F2 H2 ρ2 v m S (PostE.after (post_tmp p) p2) q2⟩
  | true =>
    rw [if_pos rfl] at q ⊢
    exact k F1 H1 ρ1 _ _ _ (flat_post ((post_tmp p).orL _) (.bl true)) q
theorem td_notV {f : WE} {pl mt : Bool} : ∀ σ H Q, TD K (wNotV f) false mt σ H Q → tNotV (TD K f pl mt) σ H Q := fun σ H Q ⟨F, ρ, G, Q', st, h, k⟩ => by
  refine ⟨F, ρ, G, _, st, h, fun F1 H1 ρ1 v m S p ⟨b, e, q⟩ => ?_⟩
  subst e
  obtain ⟨fz, _⟩ := p.rm.fzv
  cases fz
  exact ⟨b, rfl, k F1 H1 ρ1 _ _ _ (flat_post (post_tmp p) (.bl (!b))) q⟩
end
end DL

/-! DL3: new objects, displays, subscripts. -/
namespace DL
open PySem PySem.Spec PyProof.Rows L2

abbrev lim : Nat := 16777216
theorem lim_le {n : Nat} (h : n ≤ lim) : n ≤ sizeLine := by rw [sizeLine_eq]; exact h
theorem lim_lt {n : Nat} (h : n < lim) : n < sizeLine := by rw [sizeLine_eq]; exact h

section
variable {K : DCx} {F F' H H' : Hp} {σ : L2.St} {ρ : DEnv} {G G' : ASet}
theorem same_upd {H : Hp} {p : Addr} {o : HO} (h : H p = none) : Same H (upd H p o) := fun b x e => by
  rw [upd_ne (ne_of_none e h)]
  exact e
theorem Same.none {F H : Hp} (s : Same F H) {p : Addr} (h : H p = none) : F p = none := by
  cases e : F p with
  | none => rfl
  | some o => rw [s p o e] at h; cases h
theorem same_upd2 {F H : Hp} (s : Same F H) {p : Addr} {o : HO} : Same (upd F p o) (upd H p o) := fun b x e => by
  by_cases hb : b = p
  · subst hb
    rw [upd_same] at e ⊢
    exact e
  · rw [upd_ne hb] at e ⊢
    exact s b x e
theorem same_updR {F H : Hp} (s : Same F H) {p : Addr} {o : HO} (h : F p = none) : Same F (upd H p o) := fun b x e => by
  rw [upd_ne (ne_of_none e h)]
  exact s b x e
/-- a new object of one's own -/
theorem Sta.new (s : Sta K F H σ ρ G) {p : Addr} {o : HO} (h : H p = none) : Sta K F (upd H p o) σ ρ (fun b => G b ∨ b = p) :=
  s.grow (Same.refl F) (same_upd h) (same_updR s.le (Same.none s.le h)) (fun b e _ => e) (fun b g n => g.elim (fun z => absurd z n) fun z => z ▸ h) fun b g => by
    rcases g with g | rfl
    · obtain ⟨f0, q, e⟩ := s.fr b g
      exact ⟨f0, q, same_upd h b q e⟩
    · exact ⟨Same.none s.le h, o, upd_same⟩
/-- a new object that never changes -/
theorem Sta.newF (s : Sta K F H σ ρ G) {p : Addr} {o : HO} (h : H p = none) : Sta K (upd F p o) (upd H p o) σ ρ G :=
  s.grow (same_upd (Same.none s.le h)) (same_upd h) (same_upd2 s.le) (fun b e ⟨q, z⟩ => by rw [upd_ne (ne_of_none z h)]; exact e) (fun b g n => absurd g n) fun b g => by
    obtain ⟨f0, q, e⟩ := s.fr b g
    exact ⟨by rw [upd_ne (ne_of_none e h)]; exact f0, q, same_upd h b q e⟩
/-- what lies beside never changes any more -/
theorem Sta.freezeT (s : Sta K F H σ ρ G) {T : ASet} (hT : ∀ b, T b → G b) (hG : ∀ b, G' b → G b ∧ ¬ T b) :
    ∃ F', Same F F' ∧ (∀ b o, T b → H b = some o → F' b = some o) ∧ Sta K F' H σ ρ G' ∧ ∀ b, ¬ T b → F' b = F b := by
  classical
  have hF : ∀ b, T b → F b = none := fun b hb => (s.fr b (hT b hb)).1
  let F' : Hp := fun b => if T b then H b else F b
  have e1 : ∀ b, T b → F' b = H b := fun b hb => if_pos hb
  have e2 : ∀ b, ¬ T b → F' b = F b := fun b hb => if_neg hb
  have sf : Same F F' := fun b o e => by
    have : ¬ T b := fun hb => by rw [hF b hb] at e; cases e
    rw [e2 b this]
    exact e
  refine ⟨F', sf, fun b o hb e => by rw [e1 b hb]; exact e, ⟨fun b o e => ?_, s.len, ?_, fun b g => ?_⟩, e2⟩
  · by_cases hb : T b
    · rw [e1 b hb] at e
      exact e
    · rw [e2 b hb] at e
      exact s.le b o e
  · obtain ⟨S, o⟩ := s.own
    refine ⟨S, fun i m e => ?_, o.emp, o.dis, fun i b hb => ?_⟩
    · obtain ⟨v, q, r⟩ := o.rep i m e
      exact ⟨v, q, r.mono sf fun b ob _ e => e⟩
    · have : ¬ T b := fun z => (o.out i b hb).2 (hT b z)
      rw [e2 b this]
      exact ⟨(o.out i b hb).1, fun g => (o.out i b hb).2 (hG b g).1⟩
  · rw [e2 b (hG b g).2]
    exact s.fr b (hG b g).1

/-- behind arguments that are moved: ls tells which of them are lent by a slot -/
structure PostM (K : DCx) (mt : Bool) (ls : List (Option Nat)) (σ : L2.St) (F H : Hp) (G : ASet) (F' H' : Hp) (ρ' : DEnv) (vs : List V) (ms : List MV) (S : Nat → ASet) : Prop where
  sf : Same F F'
  at_ : ∀ b, G b → H' b = H b
  qt : mt = false → Same H H'
  len : vs.length = ms.length
  rm : ∀ (k : Nat) (v : V) (m : MV), vs[k]? = some v → ms[k]? = some m → RM K F' H' v m (S k)
  emp : ∀ k, ms.length ≤ k → ∀ b, ¬ S k b
  dis : ∀ j k b, S j b → S k b → j = k
  ng : ∀ k b, S k b → ¬ G b
  st : Sta K F' H' σ ρ' (fun b => G b ∨ ∃ k, S k b)
  ln : ls.length = ms.length
  lent : ∀ (k i : Nat) (v : V), ls[k]? = some (some i) → vs[k]? = some v → σ[i]? = some (some v)
def TDM (K : DCx) (f : WA) (mt : Bool) (ls : List (Option Nat)) : TA := fun σ H Q => ∃ (F : Hp) (ρ : DEnv) (G : ASet) (Q' : List MV → DEnv → Prop), Sta K F H σ ρ G ∧ f ρ Q' ∧
  ∀ F' H' ρ' vs ms S, PostM K mt ls σ F H G F' H' ρ' vs ms S → Q' ms ρ' → Q vs H'
def wConsM (f : WE) (fs : WA) : WA := fun ρ Q => f ρ fun m ρ1 => fs ρ1 fun ms ρ2 => Q (m :: ms) ρ2
theorem tdm_nil : ∀ σ H Q, TDM K wNil false [] σ H Q → tNil σ H Q := fun σ H Q ⟨F, ρ, G, Q', st, h, k⟩ =>
  k F H ρ [] [] (fun _ _ => False) ⟨Same.refl F, fun _ _ => rfl, fun _ => Same.refl H, rfl, fun _ _ _ e => (by simp at e), fun _ _ _ z => z, fun _ _ _ z => z.elim, fun _ _ z => z.elim, st.less fun b g => g.elim id fun ⟨_, z⟩ => z.elim, rfl, fun _ _ _ e => (by simp at e)⟩ h
theorem postM_cons {mt mts : Bool} {ls : List (Option Nat)} {l : Option Nat} {F1 H1 F2 H2 : Hp} {ρ1 ρ2 : DEnv} {v : V} {m : MV} {S : ASet} {vs : List V} {ms : List MV} {T : Nat → ASet}
    (p : PostE K false mt σ F H G F1 H1 ρ1 v m S) (q : PostM K mts ls σ F1 H1 (fun b => G b ∨ S b) F2 H2 ρ2 vs ms T) (hl : ∀ i, l = some i → σ[i]? = some (some v)) :
    PostM K (mt || mts) (l :: ls) σ F H G F2 H2 ρ2 (v :: vs) (m :: ms) (fun j => match j with | 0 => S | j + 1 => T j) := by
  refine ⟨p.sf.trans q.sf, fun b g => (q.at_ b (.inl g)).trans (p.at_ b g), fun e => ?_, by simp only [List.length_cons, q.len], fun j u n e1 e2 => ?_, fun j h b => ?_, fun j k b h1 h2 => ?_, fun j b h => ?_, q.st.less fun b g => ?_, by simp only [List.length_cons, q.ln], fun j i u e1 e2 => ?_⟩
  · cases mt <;> cases mts <;> first | exact (p.qt rfl).trans (q.qt rfl) | cases e
  · cases j with
    | succ j => exact q.rm j u n (by simpa using e1) (by simpa using e2)
    | zero =>
      simp only [List.getElem?_cons_zero, Option.some.injEq] at e1 e2
      subst e1 e2
      exact p.rm.mono q.sf fun b o hb e => by rw [q.at_ b (.inr hb)]; exact e
  · cases j with
    | zero => simp at h
    | succ j => exact q.emp j (by simpa using h) b
  · cases j with
    | zero =>
      cases k with
      | zero => rfl
      | succ k => exact absurd (Or.inr h1) (q.ng k b h2)
    | succ j =>
      cases k with
      | zero => exact absurd (Or.inr h2) (q.ng j b h1)
      | succ k => rw [q.dis j k b h1 h2]
  · cases j with
    | zero => exact p.ng rfl b h
    | succ j => exact fun g => q.ng j b h (.inl g)
  · rcases g with g | ⟨j, g⟩
    · exact .inl (.inl g)
    · cases j with
      | zero => exact .inl (.inr g)
      | succ j => exact .inr ⟨j, g⟩
  · cases j with
    | zero =>
      simp only [List.getElem?_cons_zero, Option.some.injEq] at e1 e2
      subst e2
      exact hl i e1
    | succ j => exact q.lent j i u (by simpa using e1) (by simpa using e2)
theorem Sta.iff (s : Sta K F H σ ρ G) (h : ∀ b, G b ↔ G' b) : Sta K F H σ ρ G' := s.less fun b g => (h b).mpr g
theorem tdm_cons {f : WE} {fs : WA} {mt mts : Bool} {ls : List (Option Nat)} : ∀ σ H Q, TDM K (wConsM f fs) (mt || mts) (none :: ls) σ H Q → tCons (TD K f false mt) (TDM K fs mts ls) σ H Q := fun σ H Q ⟨F, ρ, G, Q', st, h, k⟩ => by
  refine ⟨F, ρ, G, _, st, h, fun F1 H1 ρ1 v m S p h1 => ?_⟩
  refine ⟨F1, ρ1, fun b => G b ∨ S b, _, p.st.less fun b g => g.elim .inl fun z => .inr ⟨rfl, z⟩, h1, fun F2 H2 ρ2 vs ms T q h2 => ?_⟩
  exact k F2 H2 ρ2 (v :: vs) (m :: ms) _ (postM_cons (l := none) p q fun i e => by cases e) h2
/-- a name that is moved out, or lent -/
def wMov (i : Nat) : WE := fun ρ Q => ∃ m, ρ[i]? = some (some m) ∧ Q m (ρ.set i none)
theorem mov_post {i : Nat} {m : MV} (st : Sta K F H σ ρ G) (e : ρ[i]? = some (some m)) : ∃ v T, σ[i]? = some (some v) ∧ PostE K false false σ F H G F H (ρ.set i none) v m T := by
  obtain ⟨v, T, e1, r, ng, st1⟩ := st.take e
  exact ⟨v, T, e1, Same.refl F, fun _ _ => rfl, fun _ => Same.refl H, r, st1.less fun b g => g.elim .inl fun z => .inr z.2, fun _ => ng⟩
theorem td_mov {i : Nat} : ∀ σ H Q, TD K (wMov i) false false σ H Q → tVar i σ H Q := fun σ H Q ⟨F, ρ, G, Q', st, ⟨m, e, h⟩, k⟩ => by
  obtain ⟨v, T, e1, p⟩ := mov_post st e
  exact ⟨v, e1, k F H _ v m T p h⟩
theorem tdm_lend {i : Nat} {fs : WA} {mts : Bool} {ls : List (Option Nat)} : ∀ σ H Q, TDM K (wConsM (wMov i) fs) mts (some i :: ls) σ H Q → tCons (tVar i) (TDM K fs mts ls) σ H Q := fun σ H Q ⟨F, ρ, G, Q', st, ⟨m, e, h⟩, k⟩ => by
  obtain ⟨v, T, e1, p⟩ := mov_post st e
  refine ⟨v, e1, F, ρ.set i none, fun b => G b ∨ T b, _, p.st.less fun b g => g.elim .inl fun z => .inr ⟨rfl, z⟩, h, fun F2 H2 ρ2 vs ms T q h2 => ?_⟩
  exact k F2 H2 ρ2 (v :: vs) (m :: ms) _ (postM_cons (mt := false) (l := some i) p q fun j e => by cases e; exact e1) h2

/-- [a, b, ..] -/
def wLst (fs : WA) : WE := fun ρ Q => fs ρ fun ms ρ1 => ms.length ≤ lim ∧ Q (.ol ms) ρ1
theorem td_lst {fs : WA} {mt : Bool} {ls : List (Option Nat)} : ∀ σ H Q, TD K (wLst fs) false mt σ H Q → tLst (TDM K fs mt ls) σ H Q := fun σ H Q ⟨F, ρ, G, Q', st, h, k⟩ => by
  refine ⟨F, ρ, G, _, st, h, fun F1 H1 ρ1 vs ms S p ⟨hz, q⟩ => ⟨lim_le (by rw [p.len]; exact hz), fun a hp => ?_⟩⟩
  have st2 := p.st.new (o := .lst vs) hp
  have np : ∀ k, ¬ S k a := fun k z => by
    obtain ⟨_, o, e⟩ := p.st.fr a (.inr ⟨k, z⟩)
    rw [e] at hp
    cases hp
  refine k F1 _ ρ1 (.ref a) (.ol ms) (fun b => b = a ∨ ∃ i, i < ms.length ∧ S i b) ⟨p.sf, fun b g => ?_, fun e => (p.qt e).trans (same_upd hp), .ol S upd_same p.len (fun i v x e1 e2 => (p.rm i v x e1 e2).mono (Same.refl _) fun b o _ e => same_upd hp b o e) p.dis np fun b => .rfl, st2.less fun b g => ?_, fun _ b t g => ?_⟩ q
  · obtain ⟨_, o, e⟩ := p.st.fr b (.inl g)
    rw [upd_ne (ne_of_none e hp), p.at_ b g]
  · rcases g with g | ⟨_, g | ⟨i, _, g⟩⟩
    · exact .inl (.inl g)
    · exact .inr g
    · exact .inl (.inr ⟨i, g⟩)
  · rcases t with rfl | ⟨i, _, t⟩
    · obtain ⟨_, o, e⟩ := p.st.fr b (.inl g)
      rw [e] at hp
      cases hp
    · exact p.ng i b t g
/-- (a, b, ..) -/
def wTup (fs : WA) : WE := fun ρ Q => fs ρ fun ms ρ1 => ms.length ≤ lim ∧ Q (.fz (.tup (ms.map MV.toD))) ρ1
theorem td_tup {fs : WA} {mt : Bool} {ls : List (Option Nat)} : ∀ σ H Q, TD K (wTup fs) false mt σ H Q → tTup (TDM K fs mt ls) σ H Q := fun σ H Q ⟨F, ρ, G, Q', st, h, k⟩ => by
  refine ⟨F, ρ, G, _, st, h, fun F1 H1 ρ1 vs ms S p ⟨hz, q⟩ => ⟨lim_le (by rw [p.len]; exact hz), fun a hp => ?_⟩⟩
  obtain ⟨F2, sf2, ff, st2, fe⟩ := p.st.freezeT (T := fun b => ∃ k, S k b) (G' := G) (fun b t => .inr t) fun b g => ⟨.inl g, fun ⟨k, z⟩ => p.ng k b z g⟩
  have st3 := st2.newF (o := .tup vs) hp
  have sf3 : Same F2 (upd F2 a (.tup vs)) := same_upd (Same.none st2.le hp)
  refine k (upd F2 a (.tup vs)) _ ρ1 (.ref a) _ (fun _ => False) ⟨(p.sf.trans sf2).trans sf3, fun b g => ?_, fun e => (p.qt e).trans (same_upd hp), .of (.tup (.of upd_same) (by rw [List.length_map]; exact p.len) fun i v d e1 e2 => ?_), st3.less fun b g => g.elim id fun z => z.2.elim, fun _ _ z => z.elim⟩ q
  · obtain ⟨_, o, e⟩ := p.st.fr b (.inl g)
    rw [upd_ne (ne_of_none e hp), p.at_ b g]
  · rw [List.getElem?_map] at e2
    obtain ⟨m, e3, rfl⟩ := Option.map_eq_some_iff.mp e2
    exact ((p.rm i v m e1 e3).freeze sf2 fun b o hb e => ff b o ⟨i, hb⟩ e).mono sf3
end
end DL

/-! DL4: dicts of both kinds, at the library's level. -/
namespace DL
open PySem PySem.Spec PyProof.Rows L2

abbrev dcx (X : Cx) : DCx := ⟨X.prog, X.w, X.K⟩
def keyOk (t : Bool) (k : D) : Bool := match k with
  | .int _ => !t
  | .str _ => !t
  | .tup xs => t && (match D.nks xs with
    | some ks => decide ((NestedKey.tup ks).depth ≤ 8)
    | none => false)
  | _ => false
def sameK (a b : D) : Bool := decide (a.nk = b.nk)
def dlk {α : Type} (kvs : List (D × α)) (k : D) : Option α := (kvs.find? fun p => sameK p.1 k).map (·.2)
def dput {α : Type} (kvs : List (D × α)) (k : D) (v : α) : List (D × α) :=
  if (kvs.any fun p => sameK p.1 k) = true then kvs.map (fun p => if sameK p.1 k = true then (p.1, v) else p) else kvs ++ [(k, v)]
theorem dput_len {α : Type} (kvs : List (D × α)) (k : D) (v : α) : (dput kvs k v).length ≤ kvs.length + 1 := by
  unfold dput
  split
  · rw [List.length_map]; omega
  · rw [List.length_append]; simp
theorem sameK_keyD (a b : Key) : sameK (keyD a) (keyD b) = decide (a = b) := by
  unfold sameK
  cases a <;> cases b <;> simp [keyD, D.nk]

/-- both kinds: what a dict gives -/
theorem dlk_dK (ks : List (Key × V)) (k : Key) : dlk (ks.map fun p => (keyD p.1, p.2)) (keyD k) = valV ks k := by
  unfold dlk valV
  rw [List.find?_map]
  rw [show ((fun p : D × V => sameK p.1 (keyD k)) ∘ fun p : Key × V => (keyD p.1, p.2)) = fun kv : Key × V => decide (kv.1 = k) from funext fun p => sameK_keyD p.1 k]
  cases ks.find? (fun kv => decide (kv.1 = k)) <;> rfl
theorem dput_dK (ks : List (Key × V)) (k : Key) (v : V) : dput (ks.map fun p => (keyD p.1, p.2)) (keyD k) v = (putK ks k v).map fun p => (keyD p.1, p.2) := by
  unfold dput putK
  rw [List.any_map]
  rw [show ((fun p : D × V => sameK p.1 (keyD k)) ∘ fun p : Key × V => (keyD p.1, p.2)) = fun kv : Key × V => decide (kv.1 = k) from funext fun p => sameK_keyD p.1 k]
  split
  · rw [List.map_map, List.map_map]
    refine List.map_congr_left fun p _ => ?_
    simp only [Function.comp, sameK_keyD, decide_eq_true_eq]
    split <;> rfl
  · rw [List.map_append]; rfl
theorem KD.key {K : DCx} {F : Hp} {y : V} {k : D} (h : KD K F y k) (o : keyOk false k = true) : ∃ k', y = kV k' ∧ k = keyD k' := by
  cases h with
  | int i => exact ⟨.inl i, rfl, rfl⟩
  | str x => exact ⟨.inr x, rfl, rfl⟩
  | non => simp [keyOk] at o
  | bl b => simp [keyOk] at o
  | tup => simp [keyOk] at o
theorem KD.keyT {K : DCx} {F : Hp} {y : V} {k : D} (h : KD K F y k) (o : keyOk true k = true) : ∃ b n, y = .ref b ∧ k.nk = some n ∧ n.depth ≤ 8 := by
  cases h with
  | @tup a vs ds h1 h2 h3 =>
    simp only [keyOk, Bool.true_and] at o
    cases e : D.nks ds with
    | none => rw [e] at o; cases o
    | some ks =>
      rw [e] at o
      exact ⟨a, .tup ks, rfl, by rw [D.nk, e]; rfl, by simpa using o⟩
  | int i => simp [keyOk] at o
  | str x => simp [keyOk] at o
  | non => simp [keyOk] at o
  | bl b => simp [keyOk] at o

theorem nks_some : ∀ (ds : List D) (ks : List NestedKey), D.nks ds = some ks → ds.length = ks.length ∧ ∀ (i : Nat) (d : D) (k : NestedKey), ds[i]? = some d → ks[i]? = some k → d.nk = some k
  | [], ks, h => by
    rw [D.nks] at h
    cases h
    exact ⟨rfl, fun i d k e => by simp at e⟩
  | d :: ds, ks, h => by
    rw [D.nks] at h
    split at h
    · rename_i k ks' e1 e2
      cases h
      obtain ⟨h1, h2⟩ := nks_some ds ks' e2
      refine ⟨by simp [h1], fun i d' k' a b => ?_⟩
      cases i with
      | zero =>
        simp at a b
        rw [← a, ← b]
        exact e1
      | succ i => exact h2 i d' k' (by simpa using a) (by simpa using b)
    · cases h
theorem nestedAll_of {h : Heap} : ∀ (ks : List NestedKey) (us : List Value), ks.length = us.length → (∀ (i : Nat) (k : NestedKey) (u : Value), ks[i]? = some k → us[i]? = some u → NestedIs h k u) → NestedAll h ks us
  | [], [], _, _ => .nil
  | [], _ :: _, e, _ => by simp at e
  | _ :: _, [], e, _ => by simp at e
  | k :: ks, u :: us, e, f => .cons (f 0 k u rfl rfl) (nestedAll_of ks us (by simpa using e) fun i k' u' a b => f (i + 1) k' u' (by simpa using a) (by simpa using b))
section
variable {X : Cx} {pins : List (Addr × Obj)} {σ : L2.St} {F H : Hp} {s : Shared} {a : Addr}
theorem KD.is (I : Inv X pins σ H s) (le : Same F H) {v : V} {d : D} (h : KD (dcx X) F v d) : ∀ {n : NestedKey} {u : Value}, d.nk = some n → RelV v u → NestedIs s.heap n u := by
  induction h with
  | non => intro n u e r; cases e; cases r; exact .none
  | bl b => intro n u e r; cases e; cases r; exact .bool rfl
  | int i => intro n u e r; cases e; obtain ⟨t, rfl⟩ := r; exact .int i t
  | str x => intro n u e r; cases e; obtain ⟨t, rfl⟩ := r; exact .text x t
  | @tup a vs ds h1 h2 _ ih =>
    intro n u e r
    cases r
    rw [D.nk] at e
    obtain ⟨ks, ek, rfl⟩ := Option.map_eq_some_iff.mp e
    obtain ⟨its, rv, ⟨o, ho, hc, nn, hd⟩, _⟩ := I.tuple (DL.Same.sqT le h1)
    obtain ⟨hl, hk⟩ := nks_some ds ks ek
    refine .tup ho hc hd (nestedAll_of ks _ (by rw [← hl, ← h2, rv.length]) fun i k u e1 e2 => ?_)
    have hi : i < ds.length := by
      rw [hl]
      exact (List.getElem?_eq_some_iff.mp e1).1
    have e3 : ds[i]? = some ds[i] := List.getElem?_eq_getElem hi
    have e4 : vs[i]? = some (vs[i]'(by rw [h2]; exact hi)) := List.getElem?_eq_getElem _
    obtain ⟨u', e5, r5⟩ := rv.get e4
    have : u' = u := Option.some.inj (e5.symm.trans e2)
    subst this
    exact ih i _ _ e4 e3 (hk i _ _ e3 e1) r5

abbrev DNrel (K : DCx) (F : Hp) (kvs : List (D × V)) (ys : List (NestedKey × Addr × V)) : Prop := Paired (fun (p : D × V) (y : NestedKey × Addr × V) => p.2 = y.2.2 ∧ p.1.nk = some y.1 ∧ y.1.depth ≤ 8 ∧ KD K F (.ref y.2.1) p.1) kvs ys
abbrev DUrel (ys : List (NestedKey × Addr × V)) (us : List (NestedKey × Addr × Value)) : Prop := Paired (fun (y : NestedKey × Addr × V) (u : NestedKey × Addr × Value) => y.1 = u.1 ∧ y.2.1 = u.2.1 ∧ RelV y.2.2 u.2.2) ys us
theorem dn_open (I : Inv X pins σ H s) (le : Same F H) {ys : List (NestedKey × Addr × V)} {kvs : List (D × V)} (e : H a = some (DN (dcx X) a ys)) (pk : DNrel (dcx X) F kvs ys) :
    ∃ us, s.heap.DictOfH (nestedKind X.prog X.w) a us ∧ DUrel ys us ∧ (a == sysModules) = false ∧ us.length ≤ sizeLine := by
  obtain ⟨⟨us, pu, hd, hz, o, es, ep, h1, h2, h3, h4, h5⟩, e0, e00⟩ := I.hok a _ e
  refine ⟨us, ⟨o, es, ep, h1, h2, h3, h4, ?_, h5⟩, pu, hd, by rw [← Paired.length pu]; exact hz⟩
  clear h4 h5 e hz e0 e00
  induction pk generalizing us with
  | nil => cases pu; intro x hx; cases hx
  | @cons p y ps ys r t ih =>
    cases pu with
    | @cons _ u _ us ru tu =>
      intro x hx
      rcases List.mem_cons.mp hx with rfl | hx
      · obtain ⟨_, r2, r3, r4⟩ := r
        obtain ⟨q1, q2, _⟩ := ru
        rw [← q1, ← q2]
        exact ⟨r4.is I le r2 rfl, r3⟩
      · exact ih us tu x hx
theorem dn_at {K : DCx} {F : Hp} {kvs : List (D × V)} {ys : List (NestedKey × Addr × V)} {k : D} {n : NestedKey} (hk : k.nk = some n) (pk : DNrel K F kvs ys) : ∀ {us : List (NestedKey × Addr × Value)}, DUrel ys us →
    RelO (dlk kvs k) ((atKey us n).map (·.2)) := by
  induction pk with
  | nil => intro us pu; cases pu; exact True.intro
  | @cons p y ps ys r t ih =>
    intro us pu
    cases pu with
    | @cons _ u _ us ru tu =>
      obtain ⟨r1, r2, r3, r4⟩ := r
      obtain ⟨q1, q2, q3⟩ := ru
      have es : sameK p.1 k = decide (u.1 = n) := by
        unfold sameK
        rw [r2, hk, q1]
        exact decide_eq_decide.mpr ⟨fun z => Option.some.inj z, fun z => congrArg some z⟩
      unfold dlk atKey
      rw [List.find?_cons, List.find?_cons, es]
      by_cases h : u.1 = n
      · rw [decide_eq_true h]
        show RelV p.2 u.2.2
        rw [r1]
        exact q3
      · rw [decide_eq_false h]
        exact ih tu
/-- what a dict gives for a key -/
def DG (K : DCx) (F H : Hp) (a : Addr) (y : V) (o : Option V) : Prop := Same F H ∧ ∃ (t : Bool) (ob : HO) (kvs : List (D × V)) (k : D), H a = some ob ∧ DicO K F a t ob kvs ∧ KD K F y k ∧ keyOk t k = true ∧ o = dlk kvs k
theorem nroom {A : Around} (hu : A.units + 64 < cLine) (P : Program) (w : World) : (nestedKind P w).room A.in1 := by
  show A.units + 1 + 8 < cLine
  omega
theorem DG.cases {X : Cx} {H : Hp} {y : V} {o : Option V} (g : DG (dcx X) F H a y o) : DGet H a y o ∨ ∃ ys kvs k b n, Same F H ∧ H a = some (DN (dcx X) a ys) ∧ DNrel (dcx X) F kvs ys ∧ y = .ref b ∧ KD (dcx X) F (.ref b) k ∧ k.nk = some n ∧ n.depth ≤ 8 ∧ o = dlk kvs k := by
  obtain ⟨le, t, ob, kvs, k, e, dic, kd, ok, rfl⟩ := g
  rcases dic with ⟨rfl, ks, rfl, rfl⟩ | ⟨rfl, ys, rfl, pk⟩
  · obtain ⟨k', rfl, rfl⟩ := kd.key ok
    left
    rw [dlk_dK]
    exact .k e
  · obtain ⟨b, n, rfl, e1, e2⟩ := kd.keyT ok
    exact .inr ⟨ys, kvs, k, b, n, le, e, pk, rfl, kd, e1, e2, rfl⟩
theorem g_typeIs {y : V} {o : Option V} (I : Inv X pins σ H s) (g : DG (dcx X) F H a y o) : s.TypeIs (.ref a) "dict" ∧ (∀ b, Value.ref a = .ref b → ∃ ob, s.heap.get? b = some ob ∧ ob.dict = none) := by
  rcases g.cases with g | ⟨ys, kvs, k, b, n, le, e, pk, _⟩
  · exact ⟨dict_typeIs I g, dict_noDict I g⟩
  · obtain ⟨us, dd, _⟩ := dn_open I le e pk
    refine ⟨dd.typeIs, fun b e => ?_⟩
    cases e
    obtain ⟨ob, _, _, h1, h2, _⟩ := dd
    exact ⟨ob, h1, h2.2.1⟩
variable {A : Around} {E : Value → Shared → Prop}
theorem g_getItem {y v : V} {u : Value} {Q : Value → Shared → Prop} (hu : A.units + 64 < cLine) (I : Inv X pins σ H s) (g : DG (dcx X) F H a y (some v)) (ry : RelV y u) (h : ∀ w' s', Inv X pins σ H s' → RelV v w' → Q w' s') :
    wpAny (model X.prog X.w) A (getItem (.ref a) u) Q E s := by
  rcases g.cases with g | ⟨ys, kvs, k, b, n, le, e, pk, rfl, kd, hk, hd8, l⟩
  · exact d_getItem (by omega) I g ry h
  · cases (show u = Value.ref b from ry)
    obtain ⟨us, dd, pu, hd, hz⟩ := dn_open I le e pk
    have q := dn_at hk pk pu
    rw [← l] at q
    obtain ⟨w', hw, rw'⟩ := RelO.some_of q
    obtain ⟨p, hp, hp2⟩ := Option.map_eq_some_iff.mp hw
    refine wpAny_getItem_heap (nroom hu _ _) ⟨kd.is I le hk rfl, hd8⟩ dd hp ?_
    rw [hp2]
    exact h w' _ (I.tok _) rw'
theorem RelO.isSome_eq {o : Option V} {u : Option Value} (r : RelO o u) : o.isSome = u.isSome := by
  cases o <;> cases u <;> first | rfl | exact r.elim
theorem g_in {y : V} {o : Option V} {u : Value} {Q : Value → Shared → Prop} (hu : A.units + 64 < cLine) (I : Inv X pins σ H s) (g : DG (dcx X) F H a y o) (ry : RelV y u) (h : ∀ s', Inv X pins σ H s' → Q (.bool o.isSome) s') :
    wpAny (model X.prog X.w) A (compareOp .In u (.ref a)) Q E s := by
  rcases g.cases with g | ⟨ys, kvs, k, b, n, le, e, pk, rfl, kd, hk, hd8, l⟩
  · exact d_in (by omega) I g ry h
  · cases (show u = Value.ref b from ry)
    obtain ⟨us, dd, pu, hd, hz⟩ := dn_open I le e pk
    refine wpAny_in_heap (nroom hu _ _) ⟨kd.is I le hk rfl, hd8⟩ hd dd ?_
    have q := RelO.isSome_eq (dn_at hk pk pu)
    rw [Option.isSome_map] at q
    rw [← q, ← l]
    exact h _ (I.tok _)
theorem g_notIn {y : V} {o : Option V} {u : Value} {Q : Value → Shared → Prop} (hu : A.units + 64 < cLine) (I : Inv X pins σ H s) (g : DG (dcx X) F H a y o) (ry : RelV y u) (h : ∀ s', Inv X pins σ H s' → Q (.bool (!o.isSome)) s') :
    wpAny (model X.prog X.w) A (compareOp .NotIn u (.ref a)) Q E s := by
  rcases g.cases with g | ⟨ys, kvs, k, b, n, le, e, pk, rfl, kd, hk, hd8, l⟩
  · exact d_notIn (by omega) I g ry h
  · cases (show u = Value.ref b from ry)
    obtain ⟨us, dd, pu, hd, hz⟩ := dn_open I le e pk
    refine wpAny_notIn_heap (nroom hu _ _) ⟨kd.is I le hk rfl, hd8⟩ hd dd ?_
    have q := RelO.isSome_eq (dn_at hk pk pu)
    rw [Option.isSome_map] at q
    rw [← q, ← l]
    exact h _ (I.tok _)

/-! ### stores -/
def storeY (ys : List (NestedKey × Addr × V)) (n : NestedKey) (b : Addr) (v : V) : List (NestedKey × Addr × V) :=
  if (ys.any fun y => decide (y.1 = n)) = true then ys.map (fun y => if y.1 = n then (y.1, y.2.1, v) else y) else ys ++ [(n, b, v)]
theorem DUrel.any {ys : List (NestedKey × Addr × V)} {us : List (NestedKey × Addr × Value)} (pu : DUrel ys us) (n : NestedKey) : (ys.any fun y => decide (y.1 = n)) = (atKey us n).isSome := by
  unfold atKey
  rw [Option.isSome_map]
  induction pu with
  | nil => rfl
  | @cons y u ys us r t ih =>
    rw [List.any_cons, ih, r.1, List.find?_cons]
    cases h : decide (u.1 = n) <;> simp
theorem DUrel.store {ys : List (NestedKey × Addr × V)} {us : List (NestedKey × Addr × Value)} (pu : DUrel ys us) {n : NestedKey} {b : Addr} {v : V} {r : Value} (rv : RelV v r) : DUrel (storeY ys n b v) (storedH us n b r) := by
  unfold storeY storedH
  rw [DUrel.any pu n]
  split
  · rename_i h
    clear h
    induction pu with
    | nil => exact .nil
    | @cons y u ys us q t ih =>
      rw [List.map_cons, List.map_cons]
      refine .cons ?_ ih
      unfold putAt
      by_cases hn : u.1 = n
      · rw [if_pos (show y.1 = n from q.1.trans hn), if_pos hn]
        exact ⟨q.1, q.2.1, rv⟩
      · rw [if_neg (show ¬ y.1 = n from fun z => hn (q.1.symm.trans z)), if_neg hn]
        exact q
  · rename_i h
    clear h
    induction pu with
    | nil => exact .cons ⟨rfl, rfl, rv⟩ .nil
    | cons q t ih => exact .cons q ih
theorem DNrel.any {K : DCx} {F : Hp} {kvs : List (D × V)} {ys : List (NestedKey × Addr × V)} (pk : DNrel K F kvs ys) {k : D} {n : NestedKey} (hk : k.nk = some n) : (kvs.any fun p => sameK p.1 k) = ys.any fun y => decide (y.1 = n) := by
  induction pk with
  | nil => rfl
  | @cons p y ps ys r t ih =>
    rw [List.any_cons, List.any_cons, ih]
    congr 1
    unfold sameK
    rw [r.2.1, hk]
    exact decide_eq_decide.mpr ⟨fun z => Option.some.inj z, fun z => congrArg some z⟩
theorem DNrel.store {K : DCx} {F : Hp} {kvs : List (D × V)} {ys : List (NestedKey × Addr × V)} (pk : DNrel K F kvs ys) {k : D} {n : NestedKey} {b : Addr} {v : V} (hk : k.nk = some n) (h8 : n.depth ≤ 8) (kd : KD K F (.ref b) k) : DNrel K F (dput kvs k v) (storeY ys n b v) := by
  unfold dput storeY
  rw [DNrel.any pk hk]
  split
  · rename_i h
    clear h
    induction pk with
    | nil => exact .nil
    | @cons p y ps ys r t ih =>
      rw [List.map_cons, List.map_cons]
      refine .cons ?_ ih
      have es : sameK p.1 k = decide (y.1 = n) := by
        unfold sameK
        rw [r.2.1, hk]
        exact decide_eq_decide.mpr ⟨fun z => Option.some.inj z, fun z => congrArg some z⟩
      rw [es]
      by_cases hn : y.1 = n
      · rw [if_pos (decide_eq_true hn), if_pos hn]
        exact ⟨rfl, r.2.1, r.2.2.1, r.2.2.2⟩
      · rw [if_neg (by rw [decide_eq_false hn]; exact Bool.false_ne_true), if_neg hn]
        exact r
  · rename_i h
    clear h
    induction pk with
    | nil => exact .cons ⟨rfl, hk, h8, kd⟩ .nil
    | cons q t ih => exact .cons q ih
theorem dn_new {K : DCx} {H' : Hp} {h' : Heap} {ys : List (NestedKey × Addr × V)} {us : List (NestedKey × Addr × Value)} (pu : DUrel ys us) (hd : (a == sysModules) = false) (hz : ys.length ≤ sizeLine) (dd : h'.DictOfH (nestedKind K.P K.w) a us) :
    ObjOk K.P K.w H' h' a (DN K a ys) := by
  obtain ⟨o, es, ep, h1, h2, h3, h4, _, h5⟩ := dd
  refine ⟨⟨us, pu, hd, hz, o, es, ep, h1, h2, h3, h4, h5⟩, ⟨o, h1⟩, fun g1 g2 ⟨us, p1, p2, p3, o, es, ep, q1, q2⟩ k => ⟨us, p1, p2, p3, o, es, ep, k o q1, q2⟩⟩
/-- a[y] = v: what stands there then -/
def DP (K : DCx) (F H : Hp) (a : Addr) (y v : V) (o : Option V) (ob' : HO) : Prop := Same F H ∧ ∃ (t : Bool) (ob : HO) (kvs : List (D × V)) (k : D), H a = some ob ∧ DicO K F a t ob kvs ∧ KD K F y k ∧ keyOk t k = true ∧ kvs.length < lim ∧ o = dlk kvs k ∧
  ((t = false ∧ ∃ (ks : List (Key × V)) (k' : Key), ob = .dK ks ∧ y = kV k' ∧ ob' = .dK (putK ks k' v)) ∨ (t = true ∧ ∃ (ys : List (NestedKey × Addr × V)) (n : NestedKey) (b : Addr), ob = DN K a ys ∧ DNrel K F kvs ys ∧ y = .ref b ∧ k.nk = some n ∧ n.depth ≤ 8 ∧ ob' = DN K a (storeY ys n b v)))
theorem storeY_len (ys : List (NestedKey × Addr × V)) (n : NestedKey) (b : Addr) (v : V) : (storeY ys n b v).length ≤ ys.length + 1 := by
  unfold storeY
  split
  · rw [List.length_map]; omega
  · rw [List.length_append]; simp
theorem g_setItem {y v : V} {o : Option V} {u r : Value} {ob' : HO} {Q : Unit → Shared → Prop} (hu : A.units + 64 < cLine) (I : Inv X pins σ H s) (g : DP (dcx X) F H a y v o ob') (ry : RelV y u) (rv : RelV v r) (h : ∀ s', Inv X pins σ (upd H a ob') s' → Q () s') :
    wpAny (model X.prog X.w) A (setItem (.ref a) u r) Q E s := by
  obtain ⟨le, t, ob, kvs, k, e, dic, kd, ok, hl, ho, ⟨rfl, ks, k', rfl, rfl, rfl⟩ | ⟨rfl, ys, n, b, rfl, pk, rfl, hk, h8, rfl⟩⟩ := g
  · have hl' : ks.length < sizeLine := by
      rcases dic with ⟨_, ks', e1, e2⟩ | ⟨z, _⟩
      · cases e1
        rw [e2, List.length_map] at hl
        exact lim_lt hl
      · cases z
    exact d_setItem (by omega) I (.k e hl') ry rv h
  · cases (show u = Value.ref b from ry)
    obtain ⟨us, dd, pu, hd, hz⟩ := dn_open I le e pk
    have hl' : ys.length < sizeLine := by rw [← Paired.length pk]; exact lim_lt hl
    refine wpAny_setItem_heap (hsz := hz) (nroom hu _ _) ⟨kd.is I le hk rfl, h8⟩ dd fun h' dd' hs => h _ ?_
    have he : ∃ q, h'.get? a = some q := let ⟨q, _, _, hq, _⟩ := dd'; ⟨q, hq⟩
    exact d_write I (by rw [e]; exact True.intro) hs he (dn_new (K := dcx X) (DUrel.store pu rv) hd (by have := storeY_len ys n b v; omega) dd')
theorem g_setd {y v : V} {o : Option V} {u r : Value} {ob' : HO} {Q : Value → Shared → Prop} (hu : A.units + 64 < cLine) (I : Inv X pins σ H s) (g : DP (dcx X) F H a y v o ob') (ry : RelV y u) (rv : RelV v r)
    (h1 : ∀ z, o = some z → ∀ w' s', Inv X pins σ H s' → RelV z w' → Q w' s') (h2 : o = none → ∀ w' s', Inv X pins σ (upd H a ob') s' → RelV v w' → Q w' s') :
    wpAny (model X.prog X.w) A (call (.builtin "dict.setdefault") [.ref a, u, r]) Q E s := by
  obtain ⟨le, t, ob, kvs, k, e, dic, kd, ok, hl, ho, ⟨rfl, ks, k', rfl, rfl, rfl⟩ | ⟨rfl, ys, n, b, rfl, pk, rfl, hk, h8, rfl⟩⟩ := g
  · have hl' : ks.length < sizeLine := by
      rcases dic with ⟨_, ks', e1, e2⟩ | ⟨z, _⟩
      · cases e1
        rw [e2, List.length_map] at hl
        exact lim_lt hl
      · cases z
    have ho : o = valV ks k' := by
      rw [ho]
      rcases dic with ⟨_, ks3, e3, rfl⟩ | ⟨z, _⟩
      · cases e3
        obtain ⟨k3, e4, rfl⟩ := kd.key ok
        have : k3 = k' := by
          cases k3 <;> cases k' <;> simp [kV] at e4 <;> rw [e4]
        rw [this, dlk_dK]
      · cases z
    exact d_setd I e ry rv hl' (fun z hz w' s' I' r' => h1 z (ho.trans hz) w' s' I' r') fun hn w' s' I' r' => h2 (ho.trans hn) w' s' I' r'
  · cases (show u = Value.ref b from ry)
    obtain ⟨us, dd, pu, hd, hz⟩ := dn_open I le e pk
    have hl' : ys.length < sizeLine := by rw [← Paired.length pk]; exact lim_lt hl
    have q : RelO o ((atKey us n).map (·.2)) := by
      rw [ho]
      exact dn_at hk pk pu
    refine call_setdefault_heap (hsz := hz) (nroom hu _ _) ⟨kd.is I le hk rfl, h8⟩ hd dd (fun p hp => ?_) fun hn h' dd' hs => ?_
    · rw [hp] at q
      obtain ⟨z, hz', rz⟩ : ∃ z, o = some z ∧ RelV z p.2 := by
        cases o with
        | none => exact q.elim
        | some z => exact ⟨z, rfl, q⟩
      exact h1 z hz' _ _ (I.tok _) rz
    · rw [hn] at q
      have ho : o = none := by
        cases o with
        | none => rfl
        | some z => exact q.elim
      have he : ∃ q, h'.get? a = some q := let ⟨q, _, _, hq, _⟩ := dd'; ⟨q, hq⟩
      exact h2 ho _ _ (d_write I (by rw [e]; exact True.intro) hs he (dn_new (K := dcx X) (DUrel.store pu rv) hd (by have := storeY_len ys n b v; omega) dd')) rv
end
end DL

/-! DL5: what can be read of data; operations on values. -/
namespace DL
open PySem PySem.Spec PyProof.Rows L2

section
variable {K : DCx} {F F' H H' : Hp}
/-- the value v is now the datum d -/
def VD (K : DCx) (F H : Hp) (v : V) (d : D) : Prop := ∃ m S, RM K F H v m S ∧ m.toD = d
/-- .. and its items never change any more -/
def MV.shal : MV → Bool
  | .fz _ => true
  | .ol xs => xs.all fun x => !x.isOwn
  | .od _ kvs => kvs.all fun p => !p.2.isOwn
def SV (K : DCx) (F H : Hp) (v : V) (d : D) : Prop := ∃ m S, RM K F H v m S ∧ m.toD = d ∧ m.shal = true
theorem Fz.vd {v : V} {d : D} (h : Fz K F v d) : VD K F H v d := ⟨.fz d, fun _ => False, .of h, rfl⟩
theorem RM.vd {v : V} {m : MV} {S : ASet} (h : RM K F H v m S) : VD K F H v m.toD := ⟨m, S, h, rfl⟩
theorem VD.int {v : V} {i : Int} (h : VD K F H v (.int i)) : v = .int i := by
  obtain ⟨m, S, r, e⟩ := h
  cases r with
  | fz h _ => cases (show _ = D.int i from e); cases h; rfl
  | ol => cases e
  | od => cases e
theorem VD.str {v : V} {i : Str} (h : VD K F H v (.str i)) : v = .str i := by
  obtain ⟨m, S, r, e⟩ := h
  cases r with
  | fz h _ => cases (show _ = D.str i from e); cases h; rfl
  | ol => cases e
  | od => cases e
theorem VD.bl {v : V} {i : Bool} (h : VD K F H v (.bl i)) : v = .bl i := by
  obtain ⟨m, S, r, e⟩ := h
  cases r with
  | fz h _ => cases (show _ = D.bl i from e); cases h; rfl
  | ol => cases e
  | od => cases e
theorem VD.non {v : V} (h : VD K F H v .non) : v = .non := by
  obtain ⟨m, S, r, e⟩ := h
  cases r with
  | fz h _ => cases (show _ = D.non from e); cases h; rfl
  | ol => cases e
  | od => cases e
theorem VD.scr (le : Same F H) {v : V} {ns : List Int} (h : VD K F H v (.scr ns)) : ∃ a, v = .ref a ∧ SqL K.K H a (ns.map V.int) := by
  obtain ⟨m, S, r, e⟩ := h
  cases r with
  | fz h _ =>
    cases (show _ = D.scr ns from e)
    cases h with
    | scr h => exact ⟨_, rfl, le.seq h⟩
  | ol => cases e
  | od => cases e
theorem VD.lst (le : Same F H) {v : V} {ds : List D} (h : VD K F H v (.lst ds)) : ∃ a vs, v = .ref a ∧ H a = some (.lst vs) ∧ vs.length = ds.length ∧ ∀ (k : Nat) (w : V) (d : D), vs[k]? = some w → ds[k]? = some d → VD K F H w d := by
  obtain ⟨m, S, r, e⟩ := h
  cases r with
  | fz h _ =>
    cases (show _ = D.lst ds from e)
    cases h with
    | lst h1 h2 h3 => exact ⟨_, _, rfl, le _ _ h1, h2, fun k w d e1 e2 => (h3 k w d e1 e2).vd⟩
  | @ol a vs xs S C h1 h2 h3 =>
    rw [MV.toD, toDs_map] at e
    cases e
    refine ⟨a, vs, rfl, h1, by rw [List.length_map]; exact h2, fun k w d e1 e2 => ?_⟩
    rw [List.getElem?_map] at e2
    obtain ⟨x, e3, rfl⟩ := Option.map_eq_some_iff.mp e2
    exact (h3 k w x e1 e3).vd
  | od => cases e
theorem VD.tup (le : Same F H) {v : V} {ds : List D} (h : VD K F H v (.tup ds)) : ∃ a vs, v = .ref a ∧ SqT K.K H a vs ∧ SqT K.K F a vs ∧ vs.length = ds.length ∧ ∀ (k : Nat) (w : V) (d : D), vs[k]? = some w → ds[k]? = some d → Fz K F w d := by
  obtain ⟨m, S, r, e⟩ := h
  cases r with
  | fz h _ =>
    cases (show _ = D.tup ds from e)
    cases h with
    | tup h1 h2 h3 => exact ⟨_, _, rfl, DL.Same.sqT le h1, h1, h2, h3⟩
  | ol => cases e
  | od => cases e
theorem VD.dic (le : Same F H) {v : V} {t : Bool} {ds : List (D × D)} (h : VD K F H v (.dic t ds)) : ∃ a o kvs, v = .ref a ∧ H a = some o ∧ DicO K F a t o kvs ∧ kvs.length = ds.length ∧
    (∀ (k : Nat) (p : D × V) (q : D × D), kvs[k]? = some p → ds[k]? = some q → p.1 = q.1) ∧ ∀ (k : Nat) (p : D × V) (q : D × D), kvs[k]? = some p → ds[k]? = some q → VD K F H p.2 q.2 := by
  obtain ⟨m, S, r, e⟩ := h
  cases r with
  | fz h _ =>
    cases (show _ = D.dic t ds from e)
    cases h with
    | dic h1 h2 h3 h4 h5 => exact ⟨_, _, _, rfl, le _ _ h1, h2, h3, h4, fun k p q e1 e2 => (h5 k p q e1 e2).vd⟩
  | ol => cases e
  | @od a t' o kvs xs S C h1 h2 h3 h3' h4 =>
    rw [MV.toD, toDk_map] at e
    cases e
    refine ⟨a, o, kvs, rfl, h1, h2, by rw [List.length_map]; exact h3, fun k p q e1 e2 => ?_, fun k p q e1 e2 => ?_⟩
    · rw [List.getElem?_map] at e2
      obtain ⟨x, e3, rfl⟩ := Option.map_eq_some_iff.mp e2
      exact h3' k p x e1 e3
    · rw [List.getElem?_map] at e2
      obtain ⟨x, e3, rfl⟩ := Option.map_eq_some_iff.mp e2
      exact (h4 k p x e1 e3).vd
theorem RM.fz_of {v : V} {m : MV} {S : ASet} (h : RM K F H v m S) (o : m.isOwn = false) : Fz K F v m.toD := by
  cases h with
  | fz h _ => exact h
  | ol => cases o
  | od => cases o
theorem SV.vd {v : V} {d : D} (h : SV K F H v d) : VD K F H v d := let ⟨m, S, r, e, _⟩ := h; ⟨m, S, r, e⟩
theorem SV.lst (le : Same F H) {v : V} {ds : List D} (h : SV K F H v (.lst ds)) : ∃ a vs, v = .ref a ∧ H a = some (.lst vs) ∧ vs.length = ds.length ∧ ∀ (k : Nat) (w : V) (d : D), vs[k]? = some w → ds[k]? = some d → Fz K F w d := by
  obtain ⟨m, S, r, e, sh⟩ := h
  cases r with
  | fz h _ =>
    cases (show _ = D.lst ds from e)
    cases h with
    | lst h1 h2 h3 => exact ⟨_, _, rfl, le _ _ h1, h2, h3⟩
  | @ol a vs xs S C h1 h2 h3 =>
    rw [MV.toD, toDs_map] at e
    cases e
    refine ⟨a, vs, rfl, h1, by rw [List.length_map]; exact h2, fun k w d e1 e2 => ?_⟩
    rw [List.getElem?_map] at e2
    obtain ⟨x, e3, rfl⟩ := Option.map_eq_some_iff.mp e2
    have ho : x.isOwn = false := by simpa using List.all_eq_true.mp sh x (List.mem_of_getElem? e3)
    exact (h3 k w x e1 e3).fz_of ho
  | od => cases e
/-- all items alike: ints, texts, bools -/
theorem items_int {vs : List V} {ns : List Int} (hl : vs.length = (ns.map D.int).length) (h : ∀ (k : Nat) (w : V) (d : D), vs[k]? = some w → (ns.map D.int)[k]? = some d → VD K F H w d) : vs = ns.map V.int := by
  rw [List.length_map] at hl
  refine List.ext_getElem? fun k => ?_
  by_cases hk : k < vs.length
  · have e2 : (ns.map D.int)[k]? = some (.int (ns[k]'(by omega))) := by rw [List.getElem?_map, List.getElem?_eq_getElem (by omega)]; rfl
    have := VD.int (h k _ _ (List.getElem?_eq_getElem hk) e2)
    rw [List.getElem?_eq_getElem hk, this, List.getElem?_map, List.getElem?_eq_getElem (by omega)]
    rfl
  · rw [List.getElem?_eq_none (by omega), List.getElem?_eq_none (by rw [List.length_map]; omega)]
theorem items_str {vs : List V} {ns : List Str} (hl : vs.length = (ns.map D.str).length) (h : ∀ (k : Nat) (w : V) (d : D), vs[k]? = some w → (ns.map D.str)[k]? = some d → VD K F H w d) : vs = ns.map V.str := by
  rw [List.length_map] at hl
  refine List.ext_getElem? fun k => ?_
  by_cases hk : k < vs.length
  · have e2 : (ns.map D.str)[k]? = some (.str (ns[k]'(by omega))) := by rw [List.getElem?_map, List.getElem?_eq_getElem (by omega)]; rfl
    have := VD.str (h k _ _ (List.getElem?_eq_getElem hk) e2)
    rw [List.getElem?_eq_getElem hk, this, List.getElem?_map, List.getElem?_eq_getElem (by omega)]
    rfl
  · rw [List.getElem?_eq_none (by omega), List.getElem?_eq_none (by rw [List.length_map]; omega)]
theorem Fz.kd {v : V} {d : D} (h : Fz K F v d) : d.nk.isSome = true → KD K F v d := by
  induction h with
  | non => exact fun _ => .non
  | bl b => exact fun _ => .bl b
  | int i => exact fun _ => .int i
  | str x => exact fun _ => .str x
  | lst => intro z; cases z
  | scr => intro z; cases z
  | dic => intro z; cases z
  | @tup a vs ds h1 h2 _ ih =>
    intro z
    rw [D.nk, Option.isSome_map] at z
    obtain ⟨ks, ek⟩ := Option.isSome_iff_exists.mp z
    obtain ⟨hl, hk⟩ := nks_some ds ks ek
    refine .tup h1 h2 fun k v d e1 e2 => ih k v d e1 e2 ?_
    have hi : k < ks.length := by rw [← hl]; exact (List.getElem?_eq_some_iff.mp e2).1
    rw [hk k d _ e2 (List.getElem?_eq_getElem hi)]
    rfl
theorem keyOk_nk {t : Bool} {k : D} (h : keyOk t k = true) : k.nk.isSome = true := by
  cases k <;> simp [keyOk, D.nk] at h ⊢
  obtain ⟨_, h⟩ := h
  split at h
  · rename_i e
    rw [e]; rfl
  · cases h
theorem VD.kd (le : Same F H) {v : V} {d : D} (h : VD K F H v d) {t : Bool} (o : keyOk t d = true) : KD K F v d := by
  obtain ⟨m, S, r, e⟩ := h
  cases r with
  | fz h _ => cases (show _ = d from e); exact h.kd (keyOk_nk o)
  | ol => subst e; simp [keyOk, MV.toD] at o
  | od => subst e; simp [keyOk, MV.toD] at o

/-- what follows an operation on values whose outcome is m -/
def Cont (K : DCx) (F H : Hp) (m : MV) (Q : VK) : Prop :=
  ∀ (F' H' : Hp) (v : V) (T : ASet), Same F F' → Same H H' → Same F' H' → (∀ b, F b = none → (∃ o, H b = some o) → F' b = none) → RM K F' H' v m T → (∀ b, T b → H b = none ∧ F' b = none) → Q v H'
theorem Cont.flat {d : D} {Q : VK} (c : Cont K F H (.fz d) Q) (le : Same F H) {v : V} (h : Fz K F v d) : Q v H :=
  c F H v (fun _ => False) (Same.refl F) (Same.refl H) le (fun _ e _ => e) (.of h) fun _ z => z.elim
theorem Cont.newL {ds : List D} {Q : VK} (c : Cont K F H (.ol (ds.map .fz)) Q) (le : Same F H) {vs : List V} (hl : vs.length = ds.length) (h : ∀ (k : Nat) (w : V) (d : D), vs[k]? = some w → ds[k]? = some d → Fz K F w d) {p : Addr} (hp : H p = none) :
    Q (.ref p) (upd H p (.lst vs)) := by
  refine c F (upd H p (.lst vs)) (.ref p) (fun b => b = p) (Same.refl F) (same_upd hp) (same_updR le (Same.none le hp)) (fun _ e _ => e) (.ol (fun _ _ => False) upd_same (by rw [List.length_map]; exact hl) (fun k v x e1 e2 => ?_) (fun _ _ _ z => z.elim) (fun _ z => z) fun b => ⟨.inl, fun z => z.elim id fun ⟨_, _, z⟩ => z.elim⟩) fun b e => ⟨e ▸ hp, e ▸ Same.none le hp⟩
  rw [List.getElem?_map] at e2
  obtain ⟨d, e3, rfl⟩ := Option.map_eq_some_iff.mp e2
  exact .of (h k v d e1 e3)
theorem Cont.newT {ds : List D} {Q : VK} (c : Cont K F H (.fz (.tup ds)) Q) (le : Same F H) {vs : List V} (hl : vs.length = ds.length) (h : ∀ (k : Nat) (w : V) (d : D), vs[k]? = some w → ds[k]? = some d → Fz K F w d) {p : Addr} (hp : H p = none) :
    Q (.ref p) (upd H p (.tup vs)) := by
  have hf := Same.none le hp
  have sf : Same F (upd F p (.tup vs)) := same_upd hf
  refine c (upd F p (.tup vs)) (upd H p (.tup vs)) (.ref p) (fun _ => False) sf (same_upd hp) (same_upd2 le) (fun b e ⟨o, e2⟩ => ?_) (.of (.tup (.of upd_same) hl fun k v d e1 e2 => (h k v d e1 e2).mono sf)) fun _ z => z.elim
  rw [upd_ne (ne_of_none e2 hp)]
  exact e
theorem Cont.newD {ds : List (D × D)} {Q : VK} (c : Cont K F H (.od false (ds.map fun p => (p.1, .fz p.2))) Q) (le : Same F H) {ks : List (Key × V)} (hl : ks.length = ds.length)
    (h1 : ∀ (k : Nat) (p : Key × V) (q : D × D), ks[k]? = some p → ds[k]? = some q → keyD p.1 = q.1) (h2 : ∀ (k : Nat) (p : Key × V) (q : D × D), ks[k]? = some p → ds[k]? = some q → Fz K F p.2 q.2) {p : Addr} (hp : H p = none) :
    Q (.ref p) (upd H p (.dK ks)) := by
  refine c F (upd H p (.dK ks)) (.ref p) (fun b => b = p) (Same.refl F) (same_upd hp) (same_updR le (Same.none le hp)) (fun _ e _ => e)
    (.od (kvs := ks.map fun p => (keyD p.1, p.2)) (fun _ _ => False) upd_same (.inl ⟨rfl, ks, rfl, rfl⟩) (by rw [List.length_map, List.length_map]; exact hl) (fun k v x e1 e2 => ?_) (fun k v x e1 e2 => ?_) (fun _ _ _ z => z.elim) (fun _ z => z) fun b => ⟨.inl, fun z => z.elim id fun ⟨_, _, z⟩ => z.elim⟩) fun b e => ⟨e ▸ hp, e ▸ Same.none le hp⟩
  all_goals
    rw [List.getElem?_map] at e1 e2
    obtain ⟨d, e3, rfl⟩ := Option.map_eq_some_iff.mp e1
    obtain ⟨d', e4, rfl⟩ := Option.map_eq_some_iff.mp e2
  · exact h1 k d d' e3 e4
  · exact .of (h2 k d d' e3 e4)

/-- lists of arguments as readings -/
def r1 (R : V → Hp → VK → Prop) : List V → Hp → VK → Prop := fun xs H Q => match xs with
  | [x] => R x H Q
  | _ => False
def r2 (R : R2) : List V → Hp → VK → Prop := fun xs H Q => match xs with
  | [x, y] => R x y H Q
  | _ => False
def g1 (al : Bool) (h : D → Option MV) : List MV → Option MV := fun ms => match ms with
  | [a] => if (al && !a.shal) = true then none else h a.toD
  | _ => none
def g2 (al : Bool) (h : D → D → Option MV) : List MV → Option MV := fun ms => match ms with
  | [a, b] => if (al && !(a.shal && b.shal)) = true then none else h a.toD b.toD
  | _ => none
theorem ops1 {R : List V → Hp → VK → Prop} {al : Bool} {h : D → Option MV} (hh : ∀ (F H : Hp) (x : V) (d : D) (m : MV) (Q : VK), Same F H → VD K F H x d → (al = true → SV K F H x d) → h d = some m → Cont K F H m Q → R [x] H Q) : OpS K R (g1 al h) := by
  intro F H vs ms S m Q le hl rm hg c
  match ms, hg with
  | [a], hg =>
    match vs, hl with
    | [x], hl =>
      unfold g1 at hg
      simp only at hg
      split at hg
      · cases hg
      · rename_i hs
        have r := rm 0 x a rfl rfl
        refine hh F H x _ m Q le r.vd (fun ha => ⟨a, _, r, rfl, ?_⟩) hg c
        subst ha
        simpa using hs
theorem ops2 {R : List V → Hp → VK → Prop} {al : Bool} {h : D → D → Option MV} (hh : ∀ (F H : Hp) (x y : V) (d e : D) (m : MV) (Q : VK), Same F H → VD K F H x d → VD K F H y e → (al = true → SV K F H x d ∧ SV K F H y e) → h d e = some m → Cont K F H m Q → R [x, y] H Q) : OpS K R (g2 al h) := by
  intro F H vs ms S m Q le hl rm hg c
  match ms, hg with
  | [a, b], hg =>
    match vs, hl with
    | [x, y], hl =>
      unfold g2 at hg
      simp only at hg
      split at hg
      · cases hg
      · rename_i hs
        have ra := rm 0 x a rfl rfl
        have rb := rm 1 y b rfl rfl
        refine hh F H x y _ _ m Q le ra.vd rb.vd (fun ha => ?_) hg c
        subst ha
        have : a.shal = true ∧ b.shal = true := by simpa using hs
        exact ⟨⟨a, _, ra, rfl, this.1⟩, ⟨b, _, rb, rfl, this.2⟩⟩
end
end DL

/-! DL6: a few operations that the hand layer lacks: text * int, tuple * int, list(text), tuple(text), text[::-1]. -/
namespace DL
open PySem PySem.Spec PyProof.Rows L2

def repS (z : Str) (k : Int) : Str := ⟨(List.replicate k.toNat z.cps.toList).flatten.toArray⟩
theorem foldl_cat : ∀ (n : Nat) (a : Array Nat) (acc : List Nat), (List.replicate n a).foldl (· ++ ·) acc.toArray = (acc ++ (List.replicate n a.toList).flatten).toArray
  | 0, a, acc => by simp
  | n + 1, a, acc => by
    rw [List.replicate_succ, List.foldl_cons, List.replicate_succ, List.flatten_cons, ← List.append_assoc]
    rw [show acc.toArray ++ a = (acc ++ a.toList).toArray by simp]
    exact foldl_cat n a (acc ++ a.toList)
section
variable {X : Cx}
theorem op_mulS : OpR X (binaryOp .Mult) (fun x y H Q => ∃ z k, x = .str z ∧ y = .int k ∧ -(2 ^ 63) ≤ k ∧ k < 2 ^ 63 ∧ z.length * k.toNat ≤ sizeLine ∧ Q (.str (repS z k)) H) := by
  intro pins s σ H x y v u Q I rx ry h
  obtain ⟨z, k, rfl, rfl, h1, h2, hz, q⟩ := h
  obtain ⟨t, rfl⟩ := rx
  obtain ⟨t', rfl⟩ := ry
  have hlen : ∀ n : Nat, z.length * n ≤ sizeLine → (z.length * n : Nat) ≤ 16777216 := fun n h => by rw [sizeLine_eq] at h; exact h
  refine PySem.P.mul_str ?_ (fun hk _ => ?_) (fun hk _ => ?_) ?_
  · rw [decide_eq_false (by omega), decide_eq_false (by omega)]; rfl
  · have h3 := hlen _ hz
    have hk0 : 0 < k := by omega
    rw [Int.not_lt]
    refine (Int.le_ediv_iff_mul_le hk0).mpr ?_
    have : ((z.length * k.toNat : Nat) : Int) ≤ 16777216 := Int.ofNat_le.mpr h3
    rw [Int.natCast_mul, Int.toNat_of_nonneg (by omega)] at this
    omega
  · have h3 := hlen _ hz
    unfold Builtin.Str.tooLong
    first
      | (rw [decide_eq_false]; omega)
      | (simp only [decide_eq_false_iff_not, Nat.not_lt, sizeLine_eq]; omega)
  · by_cases hk : k < 1
    · rw [if_pos hk]
      refine ⟨by decide, .str Str.empty, H, I.tok _, ⟨_, rfl⟩, ?_⟩
      have e : repS z k = Str.empty := by
        unfold repS
        rw [show k.toNat = 0 by omega]
        rfl
      rw [← e]
      exact q
    · rw [if_neg hk]
      by_cases hc : (k == 1 || z.length == 0) = true
      · rw [if_pos hc]
        refine ⟨.str z, H, I, ⟨_, rfl⟩, ?_⟩
        have e : repS z k = z := by
          unfold repS
          rcases Bool.or_eq_true_iff.mp hc with e | e
          · have : k = 1 := by simpa using e
            rw [this]
            show (⟨([z.cps.toList] : List (List Nat)).flatten.toArray⟩ : Str) = z
            simp
          · have h0 : z.cps.toList = [] := by
              have : z.cps.size = 0 := by simpa [Str.length] using e
              rw [Array.toList_eq_nil_iff]
              exact Array.eq_empty_of_size_eq_zero this
            have h0' : z.cps = #[] := by simpa using h0
            rw [h0, show (List.replicate k.toNat ([] : List Nat)).flatten = [] by simp]
            cases z with
            | mk c => simp at h0'; rw [h0']
        rw [← e]
        exact q
      · rw [if_neg hc]
        have e : (⟨(List.replicate k.toNat z.cps).foldl (· ++ ·) #[]⟩ : Str) = repS z k := by
          unfold repS
          rw [show (#[] : Array Nat) = ([] : List Nat).toArray from rfl, foldl_cat, List.nil_append]
        rw [e]
        refine ⟨?_, .str (repS z k), H, I.tok _, ⟨_, rfl⟩, q⟩
        unfold repS Str.length
        rw [List.size_toArray, PyProof.Rows.lm_len_rep_flat, Nat.mul_comm, Array.length_toList]
        exact hz
/-- tuple * int, any -/
def rRepTA (K : PySem.W.Frag) : R2 := fun x y H Q => ∃ l k xs, x = .ref l ∧ y = .int k ∧ SqT K H l xs ∧ -(2 ^ 63) ≤ k ∧ k < 2 ^ 63 ∧ xs.length * k.toNat ≤ sizeLine ∧
  ((xs = [] ∨ k = 1) → Q (.ref l) H) ∧ (¬ (xs = [] ∨ k = 1) → ∀ p, H p = none → Q (.ref p) (upd H p (.tup (List.replicate k.toNat xs).flatten)))
theorem tuple_mul1 (l : Addr) (items : Array Value) (n : Nat) (dd : Option Addr) (sl : Array (Option Value)) (x : Int) (u : Tok) (c0 : (decide (x < -(2 ^ 63)) || decide (x ≥ 2 ^ 63)) = false) (c1 : (items.isEmpty || x == 1) = true) :
    Meets (Builtin.«tuple.__mul__» ⟨[.ref l, .int x u], []⟩) (fun _ R s => s.heap.get? l = some { cls := .type "tuple", dict := dd, data := .seq items n, slots := sl } ∧ R (.ok (.ret (Value.ref l))) s) :=
  .of_wp fun prog w A R s h => by
    obtain ⟨hp, g, d, tk, os⟩ := s
    obtain ⟨hl, h⟩ := h
    have f1 := AutoSeq1.idx_int
    wp_walk using wpAny_loadPart' hl
    repeat (first
      | (refine wpAny_ite_false (decide_eq_false (by rw [c0]; exact Bool.false_ne_true)) ?_; wp_walk using wpAny_loadPart' hl)
      | (refine wpAny_ite_true (decide_eq_true c1) ?_; wp_walk using wpAny_loadPart' hl))
    exact ⟨_, rfl, h⟩
theorem tuple_mul0 (l : Addr) (items : Array Value) (n : Nat) (dd : Option Addr) (sl : Array (Option Value)) (x : Int) (u : Tok) (c0 : (decide (x < -(2 ^ 63)) || decide (x ≥ 2 ^ 63)) = false) (c1 : (items.isEmpty || x == 1) = false) (c2 : (decide (x ≤ 0) || items.isEmpty) = true) :
    Meets (Builtin.«tuple.__mul__» ⟨[.ref l, .int x u], []⟩) (fun _ R s => s.heap.get? l = some { cls := .type "tuple", dict := dd, data := .seq items n, slots := sl } ∧
      R (.ok (.ret (Value.ref s.heap.objs.size))) { s with heap := s.heap.push { cls := Value.type "tuple", data := Data.seq #[] }, toks := s.toks }) :=
  .of_wp fun prog w A R s h => by
    obtain ⟨hp, g, d, tk, os⟩ := s
    obtain ⟨hl, h⟩ := h
    have f1 := AutoSeq1.idx_int
    wp_walk using wpAny_loadPart' hl
    repeat (first
      | (refine wpAny_ite_false (decide_eq_false (by rw [c0]; exact Bool.false_ne_true)) ?_; wp_walk using wpAny_loadPart' hl)
      | (refine wpAny_ite_false (decide_eq_false (by rw [c1]; exact Bool.false_ne_true)) ?_; wp_walk using wpAny_loadPart' hl)
      | (refine wpAny_ite_true (decide_eq_true c2) ?_; wp_walk using wpAny_loadPart' hl))
    exact ⟨_, rfl, h⟩
theorem op_repTA : OpR X (binaryOp .Mult) (rRepTA X.K) := by
  intro pins s σ H x y v u Q I rx ry h
  obtain ⟨l, k, xs, rfl, rfl, hT, h1, h2, hz, q1, q2⟩ := h
  cases rx
  obtain ⟨t, rfl⟩ := ry
  obtain ⟨its, r, ⟨⟨cls, dd, data, sl⟩, ho, hc, n, hd⟩, hs⟩ := I.tuple hT
  simp only at hc hd
  subst hc hd
  have hle : its.length = xs.length := r.length.symm
  have hemp : its.toArray.isEmpty = decide (xs = []) := by
    cases its with
    | nil => cases xs with
      | nil => rfl
      | cons a b => cases r
    | cons a b => cases xs with
      | nil => cases r
      | cons a b => rfl
  have c0 : (decide (k < -(2 ^ 63)) || decide (k ≥ 2 ^ 63)) = false := by
    rw [decide_eq_false (by omega), decide_eq_false (by omega)] <;> rfl
  refine wpAny_binaryOp_repeat_ref (T := "tuple") (U := "int") (by decide) ⟨_, ho, rfl⟩ (fun s' => typeIs_int s' k t) noFill_tuple_mul F.fills_int_mul F.slot_int_rmul repeat_tuple F.slot_int_index.lookup
    (call_meets F.slot_int_rmul (typeIs_int s k t) F.entry_int_rmul (F.args_int_rmul_2 _ _) (int_rmul_tuple k t l its.toArray n dd sl)
      ⟨ho, rfl, ⟨_, ho, rfl⟩, ?_⟩)
  by_cases hb : xs = [] ∨ k = 1
  · have c1 : (its.toArray.isEmpty || k == 1) = true := by
      rw [hemp]
      rcases hb with e | e
      · rw [decide_eq_true e]; rfl
      · rw [e]; simp
    exact call_meets F.slot_tuple_mul ⟨_, ho, rfl⟩ F.entry_tuple_mul (F.args_tuple_mul_2 _ _) (tuple_mul1 l its.toArray n dd sl k t c0 c1) ⟨ho, .ref l, H, I, rfl, q1 hb⟩
  · have hx : xs ≠ [] := fun e => hb (.inl e)
    have hk : k ≠ 1 := fun e => hb (.inr e)
    have c1 : (its.toArray.isEmpty || k == 1) = false := by
      rw [hemp, decide_eq_false hx, Bool.false_or]
      exact beq_eq_false_iff_ne.mpr hk
    have q := q2 hb
    by_cases hk0 : k ≤ 0
    · have c2 : (decide (k ≤ 0) || its.toArray.isEmpty) = true := by rw [decide_eq_true hk0]; rfl
      refine call_meets F.slot_tuple_mul ⟨_, ho, rfl⟩ F.entry_tuple_mul (F.args_tuple_mul_2 _ _) (tuple_mul0 l its.toArray n dd sl k t c0 c1 c2) ⟨ho, ?_⟩
      rw [show k.toNat = 0 by omega] at q
      refine ⟨.ref s.heap.objs.size, _, I.laid (t' := s.toks) (o := .tup []) (fun b ob q => Heap.get?_push_of_some _ q) (Nat.le_refl _) ?_, rfl, q _ (I.hok.fresh (Nat.le_refl _))⟩
      exact ⟨Nat.zero_le _, [], .nil, IsTup.new _ _⟩
    · have c2 : (decide (k ≤ 0) || its.toArray.isEmpty) = false := by
        rw [decide_eq_false hk0, hemp, decide_eq_false hx] <;> rfl
      have hz' : (xs.length * k.toNat : Nat) ≤ 16777216 := by rw [sizeLine_eq] at hz; exact hz
      have hm : ((its.toArray.size : Nat) : Int) * k ≤ 16777216 := by
        have : ((xs.length * k.toNat : Nat) : Int) ≤ 16777216 := Int.ofNat_le.mpr hz'
        rw [Int.natCast_mul, Int.toNat_of_nonneg (by omega)] at this
        rw [List.size_toArray, hle]
        exact this
      have c4 : Builtin.Tuple.tupleTooMany (((its.toArray.size : Nat) : Int) * k) = false := by
        unfold Builtin.Tuple.tupleTooMany
        rw [sizeLine_eq]
        exact decide_eq_false (by omega)
      have flen : (List.replicate k.toNat its).flatten.length ≤ sizeLine := by
        rw [PyProof.Rows.lm_len_rep_flat, hle, Nat.mul_comm]
        exact hz
      refine call_meets F.slot_tuple_mul ⟨_, ho, rfl⟩ F.entry_tuple_mul (F.args_tuple_mul_2 _ _) (tuple_mulW l its.toArray n dd sl k t c0 c1 c2 (by omega) c4 (by rw [size_rep, List.size_toArray]; exact flen)) ⟨ho, ?_⟩
      rw [size_rep]
      refine ⟨.ref s.heap.objs.size, _, I.laid (t' := s.toks) (o := .tup (List.replicate k.toNat xs).flatten) (fun b ob q => Heap.get?_push_of_some _ q) (Nat.le_refl _) ?_, rfl, q _ (I.hok.fresh (Nat.le_refl _))⟩
      exact ⟨by rw [PyProof.Rows.lm_len_rep_flat, Nat.mul_comm]; exact hz, _, r.rep k.toNat, IsTup.new _ _⟩

/-- the signs of a text -/
def signs (z : Str) : List V := z.cps.toList.map fun c => .str ⟨#[c]⟩
theorem vals_signs {z : Str} {acc : Array Value} (h : ItemsOf (SignAt z) acc z.cps.size) : Vals (signs z) acc.toList := by
  obtain ⟨h1, h2⟩ := h
  have key : ∀ (l : List Nat) (us : List Value), us.length = l.length → (∀ (i : Nat) (u : Value), us[i]? = some u → ∃ c t, l[i]? = some c ∧ u = .str ⟨#[c]⟩ t) → Vals (l.map fun c => V.str ⟨#[c]⟩) us := by
    intro l
    induction l with
    | nil => intro us hl _; cases us with
      | nil => exact .nil
      | cons => simp at hl
    | cons c l ih =>
      intro us hl f
      cases us with
      | nil => simp at hl
      | cons u us =>
        obtain ⟨c', t, e1, e2⟩ := f 0 u rfl
        simp at e1
        subst e1
        exact .cons ⟨t, e2⟩ (ih us (by simpa using hl) fun i u' e => f (i + 1) u' (by simpa using e))
  refine key _ _ (by simp [h1]) fun i u e => ?_
  obtain ⟨c, t, e1, e2⟩ := h2 i u (by simpa using e)
  exact ⟨c, t, by simpa using e1, e2⟩
theorem call_listS (hc : X.calm = true) : CallR X (.type "list") (fun xs H Q => ∃ z, xs = [.str z] ∧ z.length ≤ sizeLine ∧ ∀ l, H l = none → Q (.ref l) (upd H l (.lst (signs z)))) := by
  intro pins s σ H xs us Q I r h
  obtain ⟨z, rfl, hz, q⟩ := h
  obtain ⟨u, rfl, t, rfl⟩ := vals1 r
  refine call_list_str (I.ok.hd hc) z t (fun h' tk acc c' hk hS hacc => ?_) hz
  refine ⟨.ref s.heap.objs.size, _, I.laid (t' := tk) (o := .lst (signs z)) hk (Nat.le_refl _) ?_, rfl, q _ (I.hok.fresh (Nat.le_refl _))⟩
  have v := vals_signs hacc
  exact ⟨by unfold signs; rw [List.length_map]; exact hz, acc.toList, c', v, by simpa using hS⟩
theorem call_tupleS (hc : X.calm = true) : CallR X (.type "tuple") (fun xs H Q => ∃ z, xs = [.str z] ∧ z.length ≤ sizeLine ∧ ∀ l, H l = none → Q (.ref l) (upd H l (.tup (signs z)))) := by
  intro pins s σ H xs us Q I r h
  obtain ⟨z, rfl, hz, q⟩ := h
  obtain ⟨u, rfl, t, rfl⟩ := vals1 r
  refine call_tuple_str (I.ok.hd hc) z t (fun h' tk acc hk hacc => ?_) hz
  have I1 : Inv X pins σ H { s with heap := h', toks := tk } := I.kept hk
  refine ⟨.ref h'.objs.size, _, I1.laid (t' := tk) (o := .tup (signs z)) (fun b ob q => Heap.get?_push_of_some _ q) (Nat.le_refl _) ?_, rfl, q _ (I1.hok.fresh (Nat.le_refl _))⟩
  exact ⟨by unfold signs; rw [List.length_map]; exact hz, acc.toList, vals_signs hacc, by
    have := IsTup.new h' acc.toList.toArray
    simpa using this⟩
/-- text[::-1] -/
def revS (z : Str) : Str := ⟨z.cps.toList.reverse.toArray⟩
def tRevS (te : TE) : TE := fun σ H Q => te σ H fun x H1 => ∃ z, x = .str z ∧ z.length ≤ sizeLine ∧ Q (.str (revS z)) H1
theorem pick_rev (z : Str) : (⟨((Builtin.Str.strSliceIndices none none (-1) z.length).filterMap (z.cps[·]?)).toArray⟩ : Str) = revS z := by
  unfold revS
  congr 2
  unfold Builtin.Str.strSliceIndices
  simp only [show ¬ ((-1 : Int) > 0) by decide, if_false]
  show (sliceRange ((z.length : Int) - 1) (-1) (-1)).filterMap (z.cps[·]?) = _
  rw [PySem.W.krv_sliceRange, PySem.W.krv_range, List.filterMap_reverse]
  congr 1
  exact PySem.W.krv_all z.cps
theorem pe_revS {e : Expr} {te : TE} {k : Nat} {p1 p2 p3 pos : Pos} (he : PE X e te) : PE X (.Subscript e (.Slice none none (some (.UnaryOp .USub (.Constant (.int 1) k p1) p2)) p3) pos) (tRevS te) := by
  refine ⟨fun pins s σ H Q I h => ?_⟩
  refine Subscript_ (thn (he.run pins s σ H _ I h) fun v s1 ⟨x, H1, I1, r1, q1⟩ => ?_)
  obtain ⟨z, ex, hz, q⟩ := q1
  subst ex
  obtain ⟨t, rfl⟩ := r1
  have hst : PO X (some (.UnaryOp .USub (.Constant (.int 1) k p1) p2)) (tPart (tUn (rU fun i => .int (-i)) (tC (.int 1)))) := po_some (pe_un un_neg pe_int)
  refine wpAny_Slice (thn (po_none.run pins s1 σ H1 (fun o H2 => o = none ∧ H2 = H1) I1 ⟨rfl, rfl⟩) fun vl s2 ⟨l, H2, I2, pl, el, e2⟩ => ?_)
  subst el e2
  refine thn (po_none.run pins s2 σ H2 (fun o H3 => o = none ∧ H3 = H2) I2 ⟨rfl, rfl⟩) fun vu s3 ⟨u, H3, I3, pu, eu, e3⟩ => ?_
  subst eu e3
  refine thn (hst.run pins s3 σ H3 (fun o H4 => o = some (-1) ∧ H4 = H3) I3 ⟨1, rfl, -1, rfl, rfl, rfl⟩) fun vs s4 ⟨o, H4, I4, ps, eo, e4⟩ => ?_
  subst eo e4
  have I5 : Inv X pins σ H4 { s4 with heap := s4.heap.push { cls := .type "slice", data := .fields #[vl, vu, vs] } } := I4.kept (t' := s4.toks) fun b ob q => Heap.get?_push_of_some _ q
  obtain ⟨l, rfl, hl⟩ := IsPart.raw pl
  obtain ⟨u, rfl, hu⟩ := IsPart.raw pu
  obtain ⟨st, rfl, hst'⟩ := IsPart.raw ps
  show wpAny (model X.prog X.w) X.A (subscriptTail e (.Slice none none (some (.UnaryOp .USub (.Constant (.int 1) k p1) p2)) p3) (.str z t) (.ref s4.heap.objs.size)) (EP X pins σ Q) X.xe _
  refine tail_any (ops := [.str z t, .ref s4.heap.objs.size]) (typeIs_str _ _ _) (PySem.F.slot_str_getitem.lookup) ?_ (by with_unfolding_all rfl)
  refine wpAny_getItem_str_slice (l := l) (u := u) (st := st) ⟨_, Heap.get?_push_size _ rfl, rfl, rfl⟩ ?_ ?_
  · rw [hst'] <;> rfl
  · have e1 : slicePicked z l u st = Builtin.Str.strSliceIndices none none (-1) z.length := by
      unfold slicePicked
      rw [hl, hu, hst']
      rfl
    unfold sliceMade
    rw [e1, hst', pick_rev]
    rw [show ((some (-1 : Int)).getD 1 == 1) = false from rfl, Bool.false_and, if_neg Bool.false_ne_true]
    refine ⟨?_, .str (revS z), H4, I5.tok _, ⟨_, rfl⟩, q⟩
    unfold revS Str.length
    rw [List.size_toArray, List.length_reverse, Array.length_toList]
    exact hz
end
end DL

/-! DL7: operators on data. -/
namespace DL
open PySem PySem.Spec PyProof.Rows L2

/-! ### glue: from values to data -/
section
variable {K : DCx} {σ : L2.St} {H : Hp}
theorem td_two {f g : WE} {p1 p2 m1 m2 : Bool} {P : List V → Hp → Prop} (h : TDA K (wCons f p1 m2 (wCons g p2 false wNil)) (m1 || (m2 || false)) σ H P) :
    TD K f p1 m1 σ H fun x H1 => TD K g p2 m2 σ H1 fun y H2 => P [x, y] H2 := by
  have h1 := tda_cons (pl := p1) (mt := m1) (mts := m2) σ H P (by
    have e : (m1 || (m2 || false)) = (m1 || m2) := by cases m2 <;> rfl
    rw [e] at h
    exact h)
  refine td_weak σ H _ _ (fun x H1 h2 => ?_) h1
  have h3 := tda_cons (pl := p2) (mt := m2) (mts := false) σ H1 (fun xs H2 => P (x :: xs) H2) (by
    have e : (m2 || false) = m2 := by cases m2 <;> rfl
    rw [e]
    exact h2)
  exact td_weak σ H1 _ _ (fun y H2 h4 => tda_nil σ H2 (fun xs H3 => P (x :: y :: xs) H3) h4) h3
theorem td_one {f : WE} {p1 m1 : Bool} {P : List V → Hp → Prop} (h : TDA K (wCons f p1 false wNil) (m1 || false) σ H P) : TD K f p1 m1 σ H fun x H1 => P [x] H1 :=
  td_weak σ H _ _ (fun x H1 h2 => tda_nil σ H1 (fun xs H2 => P (x :: xs) H2) h2) (tda_cons (pl := p1) (mt := m1) (mts := false) σ H P h)
end
def wOp2 (g : List MV → Option MV) (f : WE) (p1 : Bool) (h : WE) (p2 m2 : Bool) : WE := wOp g (wCons f p1 m2 (wCons h p2 false wNil))
def wOp1 (g : List MV → Option MV) (f : WE) (p1 : Bool) : WE := wOp g (wCons f p1 false wNil)
section
variable {X : Cx} {a b : Expr} {f h : WE} {p1 p2 m1 m2 : Bool} {pos : Pos}
theorem d_bin {op : Operator} {R : R2} {g : List MV → Option MV} (ho : OpR X (binaryOp op) R) (hs : OpS (dcx X) (r2 R) g) (ha : PE X a (TD (dcx X) f p1 m1)) (hb : PE X b (TD (dcx X) h p2 m2)) :
    PE X (.BinOp a op b pos) (TD (dcx X) (wOp2 g f p1 h p2 m2) false (m1 || (m2 || false))) :=
  PE.imp (pe_op ho ha hb) fun σ H Q q => td_two (td_op hs σ H Q q)
theorem d_cmp {op : CmpOp} {R : R2} {g : List MV → Option MV} (ho : OpR X (compareOp op) R) (hs : OpS (dcx X) (r2 R) g) (ha : PE X a (TD (dcx X) f p1 m1)) (hb : PE X b (TD (dcx X) h p2 m2)) (hm : behindInMarks op b = false) :
    PE X (.Compare a [op] [b] pos) (TD (dcx X) (wOp2 g f p1 h p2 m2) false (m1 || (m2 || false))) :=
  PE.imp (pe_cmpR ho ha hb hm) fun σ H Q q => td_two (td_op hs σ H Q q)
theorem d_un {op : UnaryOp} {R : V → Hp → VK → Prop} {g : List MV → Option MV} (ho : UnR X (unaryOp op) R) (hs : OpS (dcx X) (r1 R) g) (ha : PE X a (TD (dcx X) f p1 m1)) :
    PE X (.UnaryOp op a pos) (TD (dcx X) (wOp1 g f p1) false (m1 || false)) :=
  PE.imp (pe_un ho ha) fun σ H Q q => td_one (td_op hs σ H Q q)
end

/-! ### arithmetic -/
def dAdd : D → D → Option MV
  | .int i, .int j => some (.fz (.int (i + j)))
  | .str x, .str y => if x.length + y.length ≤ lim then some (.fz (.str (x ++ y))) else none
  | .lst xs, .lst ys => if xs.length + ys.length ≤ lim then some (.ol ((xs ++ ys).map .fz)) else none
  | .tup xs, .tup ys => if xs.length + ys.length ≤ lim then some (.fz (.tup (xs ++ ys))) else none
  | _, _ => none
def dSub : D → D → Option MV
  | .int i, .int j => some (.fz (.int (i - j)))
  | _, _ => none
def dMul : D → D → Option MV
  | .int i, .int j => if i.natAbs.log2 + j.natAbs.log2 < 1000000 then some (.fz (.int (i * j))) else none
  | .str x, .int k => if -(2 ^ 63) ≤ k ∧ k < 2 ^ 63 ∧ x.length * k.toNat ≤ lim then some (.fz (.str (repS x k))) else none
  | .lst xs, .int k => if -(2 ^ 63) ≤ k ∧ k < 2 ^ 63 ∧ xs.length * k.toNat ≤ lim then some (.ol ((List.replicate k.toNat xs).flatten.map .fz)) else none
  | .tup xs, .int k => if -(2 ^ 63) ≤ k ∧ k < 2 ^ 63 ∧ xs.length * k.toNat ≤ lim then some (.fz (.tup (List.replicate k.toNat xs).flatten)) else none
  | _, _ => none
def dFdiv : D → D → Option MV
  | .int i, .int j => if j ≠ 0 ∧ j.natAbs < 1073741824 then some (.fz (.int (i.fdiv j))) else none
  | _, _ => none
def dMod : D → D → Option MV
  | .int i, .int j => if j ≠ 0 then some (.fz (.int (i.fmod j))) else none
  | _, _ => none
def dShl : D → D → Option MV
  | .int i, .int j => if 0 ≤ j ∧ j ≤ 1000000 ∧ i.natAbs < 2 ^ 64 then some (.fz (.int (i * 2 ^ j.toNat))) else none
  | _, _ => none
def dPow : D → D → Option MV
  | .int i, .int j => if 0 ≤ j ∧ j ≤ 1000000 ∧ i.natAbs < 2 ^ 64 then some (.fz (.int (i ^ j.toNat))) else none
  | _, _ => none
def dNeg : D → Option MV
  | .int i => some (.fz (.int (-i)))
  | _ => none
def rAdd' (K : PySem.W.Frag) : R2 := fun x y H Q => ((rI0 fun i j => .int (i + j)) x y H Q ∨ (∃ i j, x = .str i ∧ y = .str j ∧ i.length + j.length ≤ sizeLine ∧ Q (.str (i ++ j)) H)) ∨ (rCat x y H Q ∨ rCatA K x y H Q)
def rMul' (K : PySem.W.Frag) : R2 := fun x y H Q => ((rI CMulW fun i j => .int (i * j)) x y H Q ∨ (∃ z k, x = .str z ∧ y = .int k ∧ -(2 ^ 63) ≤ k ∧ k < 2 ^ 63 ∧ z.length * k.toNat ≤ sizeLine ∧ Q (.str (repS z k)) H)) ∨ (rRep x y H Q ∨ rRepTA K x y H Q)
theorem getElem?_app {α : Type} (xs ys : List α) (k : Nat) : (xs ++ ys)[k]? = if k < xs.length then xs[k]? else ys[k - xs.length]? := by
  split
  · rename_i h; exact List.getElem?_append_left h
  · rename_i h; exact List.getElem?_append_right (by omega)
theorem items_app {K : DCx} {F : Hp} {vs ws : List V} {ds es : List D} (h1 : vs.length = ds.length) (h2 : ws.length = es.length) (f : ∀ (k : Nat) (w : V) (d : D), vs[k]? = some w → ds[k]? = some d → Fz K F w d) (g : ∀ (k : Nat) (w : V) (d : D), ws[k]? = some w → es[k]? = some d → Fz K F w d) :
    ∀ (k : Nat) (w : V) (d : D), (vs ++ ws)[k]? = some w → (ds ++ es)[k]? = some d → Fz K F w d := by
  intro k w d e1 e2
  rw [getElem?_app] at e1 e2
  rw [← h1] at e2
  split at e1
  · rename_i h; rw [if_pos h] at e2; exact f k w d e1 e2
  · rename_i h; rw [if_neg h] at e2; exact g _ w d e1 e2
theorem items_rep {K : DCx} {F : Hp} {vs : List V} {ds : List D} (h1 : vs.length = ds.length) (f : ∀ (k : Nat) (w : V) (d : D), vs[k]? = some w → ds[k]? = some d → Fz K F w d) : ∀ n : Nat,
    ((List.replicate n vs).flatten.length = (List.replicate n ds).flatten.length) ∧ ∀ (k : Nat) (w : V) (d : D), (List.replicate n vs).flatten[k]? = some w → (List.replicate n ds).flatten[k]? = some d → Fz K F w d
  | 0 => ⟨rfl, fun k w d e => by simp at e⟩
  | n + 1 => by
    obtain ⟨l, g⟩ := items_rep h1 f n
    rw [List.replicate_succ, List.replicate_succ, List.flatten_cons, List.flatten_cons]
    exact ⟨by rw [List.length_append, List.length_append, h1, l], items_app h1 l f g⟩
section
variable {X : Cx}
theorem os_add : OpS (dcx X) (r2 (rAdd' X.K)) (g2 true dAdd) := ops2 fun F H x y d e m Q le vx vy sv hh c => by
  show rAdd' X.K x y H Q
  obtain ⟨sx, sy⟩ := sv rfl
  unfold dAdd at hh
  split at hh
  · cases hh
    exact .inl (.inl ⟨_, _, vx.int, vy.int, c.flat le (.int _)⟩)
  · split at hh
    · rename_i hl
      cases hh
      exact .inl (.inr ⟨_, _, vx.str, vy.str, lim_le hl, c.flat le (.str _)⟩)
    · cases hh
  · split at hh
    · rename_i hl
      cases hh
      obtain ⟨a, vs, rfl, h1, h2, h3⟩ := sx.lst le
      obtain ⟨b, ws, rfl, k1, k2, k3⟩ := sy.lst le
      exact .inr (.inl ⟨a, b, vs, ws, rfl, rfl, h1, k1, lim_le (by rw [h2, k2]; exact hl), fun p hp => c.newL le (by rw [List.length_append, List.length_append, h2, k2]) (items_app h2 k2 h3 k3) hp⟩)
    · cases hh
  · rename_i ds es
    split at hh
    · rename_i hl
      cases hh
      obtain ⟨a, vs, rfl, h1, h1', h2, h3⟩ := vx.tup le
      obtain ⟨b, ws, rfl, k1, k1', k2, k3⟩ := vy.tup le
      refine .inr (.inr ⟨a, b, vs, ws, rfl, rfl, h1, k1, lim_le (by rw [h2, k2]; exact hl), fun e => ?_, fun _ e => ?_, fun _ _ p hp => c.newT le (by rw [List.length_append, List.length_append, h2, k2]) (items_app h2 k2 h3 k3) hp⟩)
      · obtain rfl : ds = [] := List.eq_nil_of_length_eq_zero (by rw [← h2, e]; rfl)
        exact c.flat le (.tup k1' k2 k3)
      · obtain rfl : es = [] := List.eq_nil_of_length_eq_zero (by rw [← k2, e]; rfl)
        rw [List.append_nil] at c
        exact c.flat le (.tup h1' h2 h3)
    · cases hh
  · cases hh
theorem op_add' : OpR X (binaryOp .Add) (rAdd' X.K) := (op_add.or op_add_str).or (op_cat.or op_catA)
theorem os_sub : OpS (dcx X) (r2 (rI0 fun i j => .int (i - j))) (g2 true dSub) := ops2 fun F H x y d e m Q le vx vy sv hh c => by
  unfold dSub at hh
  split at hh
  · cases hh
    exact ⟨_, _, vx.int, vy.int, c.flat le (.int _)⟩
  · cases hh
theorem op_mul' : OpR X (binaryOp .Mult) (rMul' X.K) := (op_mulW.or op_mulS).or (op_rep.or op_repTA)
theorem os_mul : OpS (dcx X) (r2 (rMul' X.K)) (g2 true dMul) := ops2 fun F H x y d e m Q le vx vy sv hh c => by
  show rMul' X.K x y H Q
  obtain ⟨sx, sy⟩ := sv rfl
  unfold dMul at hh
  split at hh
  · split at hh
    · rename_i hl
      cases hh
      exact .inl (.inl ⟨_, _, vx.int, vy.int, hl, c.flat le (.int _)⟩)
    · cases hh
  · split at hh
    · rename_i hl
      cases hh
      exact .inl (.inr ⟨_, _, vx.str, vy.int, hl.1, hl.2.1, lim_le hl.2.2, c.flat le (.str _)⟩)
    · cases hh
  · split at hh
    · rename_i hl
      cases hh
      obtain ⟨a, vs, rfl, h1, h2, h3⟩ := sx.lst le
      exact .inr (.inl ⟨a, _, vs, rfl, vy.int, h1, hl.1, hl.2.1, lim_le (by rw [h2]; exact hl.2.2), fun p hp => c.newL le (items_rep h2 h3 _).1 (items_rep h2 h3 _).2 hp⟩)
    · cases hh
  · rename_i ds k
    split at hh
    · rename_i hl
      cases hh
      obtain ⟨a, vs, rfl, h1, h1', h2, h3⟩ := vx.tup le
      refine .inr (.inr ⟨a, _, vs, rfl, vy.int, h1, hl.1, hl.2.1, lim_le (by rw [h2]; exact hl.2.2), fun e => ?_, fun _ p hp => c.newT le (items_rep h2 h3 _).1 (items_rep h2 h3 _).2 hp⟩)
      rcases e with e | e
      · obtain rfl : ds = [] := List.eq_nil_of_length_eq_zero (by rw [← h2, e]; rfl)
        rw [show (List.replicate k.toNat ([] : List D)).flatten = [] by simp] at c
        exact c.flat le (.tup h1' h2 h3)
      · subst e
        rw [show (List.replicate (1 : Int).toNat ds).flatten = ds from List.append_nil ds] at c
        exact c.flat le (.tup h1' h2 h3)
    · cases hh
  · cases hh
theorem os_fdiv : OpS (dcx X) (r2 (rI CDivN fun i j => .int (i.fdiv j))) (g2 true dFdiv) := ops2 fun F H x y d e m Q le vx vy sv hh c => by
  unfold dFdiv at hh
  split at hh
  · split at hh
    · rename_i hl
      cases hh
      exact ⟨_, _, vx.int, vy.int, hl, c.flat le (.int _)⟩
    · cases hh
  · cases hh
theorem os_mod : OpS (dcx X) (r2 (rI (fun _ j => j ≠ 0) fun i j => .int (i.fmod j))) (g2 true dMod) := ops2 fun F H x y d e m Q le vx vy sv hh c => by
  unfold dMod at hh
  split at hh
  · split at hh
    · rename_i hl
      cases hh
      exact ⟨_, _, vx.int, vy.int, hl, c.flat le (.int _)⟩
    · cases hh
  · cases hh
theorem os_shl : OpS (dcx X) (r2 (rI CPow fun i j => .int (i * 2 ^ j.toNat))) (g2 true dShl) := ops2 fun F H x y d e m Q le vx vy sv hh c => by
  unfold dShl at hh
  split at hh
  · split at hh
    · rename_i hl
      cases hh
      exact ⟨_, _, vx.int, vy.int, hl, c.flat le (.int _)⟩
    · cases hh
  · cases hh
theorem os_pow : OpS (dcx X) (r2 (rI CPow fun i j => .int (i ^ j.toNat))) (g2 true dPow) := ops2 fun F H x y d e m Q le vx vy sv hh c => by
  unfold dPow at hh
  split at hh
  · split at hh
    · rename_i hl
      cases hh
      exact ⟨_, _, vx.int, vy.int, hl, c.flat le (.int _)⟩
    · cases hh
  · cases hh
theorem os_neg : OpS (dcx X) (r1 (rU fun i => .int (-i))) (g1 true dNeg) := ops1 fun F H x d m Q le vx sv hh c => by
  unfold dNeg at hh
  split at hh
  · cases hh
    exact ⟨_, vx.int, c.flat le (.int _)⟩
  · cases hh
end

/-! ### comparisons -/
def dCmpI (p : Int → Int → Bool) : D → D → Option MV
  | .int i, .int j => some (.fz (.bl (p i j)))
  | _, _ => none
def dLt : D → D → Option MV
  | .int i, .int j => some (.fz (.bl (decide (i < j))))
  | .str i, .str j => some (.fz (.bl (decide (i.cps.toList < j.cps.toList))))
  | _, _ => none
/-- data that == tells apart at once -/
def D.scal : D → D → Bool
  | .non, .non => true | .non, .int _ => true | .int _, .non => true | .non, .bl _ => true | .bl _, .non => true | .non, .str _ => true | .str _, .non => true
  | .int _, .int _ => true | .bl _, .bl _ => true | .str _, .str _ => true
  | .int _, .str _ => true | .str _, .int _ => true | .bl _, .str _ => true | .str _, .bl _ => true
  | _, _ => false
def D.seq : D → D → Bool
  | .non, .non => true
  | .int i, .int j => decide (i = j)
  | .bl i, .bl j => decide (i = j)
  | .str i, .str j => decide (i = j)
  | _, _ => false
mutual
def D.py : D → Option PyData
  | .non => some .none
  | .bl b => some (.bool b)
  | .int i => some (.int i)
  | .str x => some (.str x)
  | .tup xs => (D.pys xs).map .tuple
  | .lst xs => (D.pys xs).map .list
  | .dic _ _ => none
  | .scr _ => none
def D.pys : List D → Option (List PyData)
  | [] => some []
  | x :: xs => match x.py, D.pys xs with
    | some k, some ks => some (k :: ks)
    | _, _ => none
end
def dEqB (x y : D) : Option Bool := if x.scal y = true then some (x.seq y) else match x.py, y.py with
  | some p, some q => if SeqAt.shaped p = true ∧ SeqAt.shaped q = true then some (PyData.eqv p q) else none
  | _, _ => none
def dEq (x y : D) : Option MV := (dEqB x y).map fun b => .fz (.bl b)
def dNe (x y : D) : Option MV := (dEqB x y).map fun b => .fz (.bl (!b))
theorem pys_some : ∀ (ds : List D) (ks : List PyData), D.pys ds = some ks → ds.length = ks.length ∧ ∀ (i : Nat) (d : D) (k : PyData), ds[i]? = some d → ks[i]? = some k → d.py = some k
  | [], ks, h => by
    rw [D.pys] at h
    cases h
    exact ⟨rfl, fun i d k e => by simp at e⟩
  | d :: ds, ks, h => by
    rw [D.pys] at h
    split at h
    · rename_i k ks' e1 e2
      cases h
      obtain ⟨h1, h2⟩ := pys_some ds ks' e2
      refine ⟨by simp [h1], fun i d' k' a b => ?_⟩
      cases i with
      | zero =>
        simp at a b
        rw [← a, ← b]
        exact e1
      | succ i => exact h2 i d' k' (by simpa using a) (by simpa using b)
    · cases h
theorem dpAll_of {K : PySem.W.Frag} {H : Hp} : ∀ (vs : List V) (ks : List PyData), vs.length = ks.length → (∀ (i : Nat) (v : V) (k : PyData), vs[i]? = some v → ks[i]? = some k → Dp K H v k) → DpAll K H vs ks
  | [], [], _, _ => .nil
  | [], _ :: _, e, _ => by simp at e
  | _ :: _, [], e, _ => by simp at e
  | v :: vs, k :: ks, e, f => .cons (f 0 v k rfl rfl) (dpAll_of vs ks (by simpa using e) fun i v' k' a b => f (i + 1) v' k' (by simpa using a) (by simpa using b))
section
variable {K : DCx} {F H : Hp}
theorem Fz.dp (le : Same F H) {v : V} {d : D} (h : Fz K F v d) : ∀ {p : PyData}, d.py = some p → Dp K.K H v p := by
  induction h with
  | non => intro p e; cases e; exact .non
  | bl b => intro p e; cases e; exact .bl b
  | int i => intro p e; cases e; exact .int i
  | str x => intro p e; cases e; exact .str x
  | scr => intro p e; cases e
  | dic => intro p e; cases e
  | @tup a vs ds h1 h2 _ ih =>
    intro p e
    rw [D.py] at e
    obtain ⟨ks, ek, rfl⟩ := Option.map_eq_some_iff.mp e
    obtain ⟨hl, hk⟩ := pys_some ds ks ek
    refine .tup (DL.Same.sqT le h1) (dpAll_of vs ks (h2.trans hl) fun i v k e1 e2 => ?_)
    have hi : i < ds.length := by rw [hl]; exact (List.getElem?_eq_some_iff.mp e2).1
    exact ih i v _ e1 (List.getElem?_eq_getElem hi) (hk i _ k (List.getElem?_eq_getElem hi) e2)
  | @lst a vs ds h1 h2 _ ih =>
    intro p e
    rw [D.py] at e
    obtain ⟨ks, ek, rfl⟩ := Option.map_eq_some_iff.mp e
    obtain ⟨hl, hk⟩ := pys_some ds ks ek
    refine .lst (.of (le _ _ h1)) (dpAll_of vs ks (h2.trans hl) fun i v k e1 e2 => ?_)
    have hi : i < ds.length := by rw [hl]; exact (List.getElem?_eq_some_iff.mp e2).1
    exact ih i v _ e1 (List.getElem?_eq_getElem hi) (hk i _ k (List.getElem?_eq_getElem hi) e2)
theorem RM.dp (le : Same F H) {v : V} {m : MV} {S : ASet} (h : RM K F H v m S) : ∀ {p : PyData}, m.toD.py = some p → Dp K.K H v p := by
  induction h with
  | fz h _ => exact fun e => h.dp le e
  | @ol a vs xs S C h1 h2 _ h4 h5 h6 ih =>
    intro p e
    rw [MV.toD, D.py, toDs_map] at e
    obtain ⟨ks, ek, rfl⟩ := Option.map_eq_some_iff.mp e
    obtain ⟨hl, hk⟩ := pys_some _ ks ek
    rw [List.length_map] at hl
    refine .lst (.of h1) (dpAll_of vs ks (h2.trans hl) fun i v k e1 e2 => ?_)
    have hi : i < xs.length := by rw [hl]; exact (List.getElem?_eq_some_iff.mp e2).1
    refine ih i v _ e1 (List.getElem?_eq_getElem hi) (hk i _ k ?_ e2)
    rw [List.getElem?_map, List.getElem?_eq_getElem hi]
    rfl
  | od => intro p e; rw [MV.toD, D.py] at e; cases e
theorem VD.dp (le : Same F H) {v : V} {d : D} (h : VD K F H v d) {p : PyData} (e : d.py = some p) : Dp K.K H v p := by
  obtain ⟨m, S, r, rfl⟩ := h
  exact r.dp le e
theorem VD.scal {x y : V} {d e : D} (hx : VD K F H x d) (hy : VD K F H y e) (h : d.scal e = true) : L2.scal x y = true ∧ decide (x = y) = d.seq e := by
  cases d <;> cases e <;> first
    | (simp [D.scal] at h; done)
    | (first | cases hx.int | cases hx.str | cases hx.bl | cases hx.non) <;> (first | cases hy.int | cases hy.str | cases hy.bl | cases hy.non) <;> exact ⟨rfl, by simp [D.seq]⟩
end
def rEqA (K : PySem.W.Frag) : R2 := fun x y H Q => rEq x y H Q ∨ rEqD K x y H Q
def rNeA (K : PySem.W.Frag) : R2 := fun x y H Q => rNe x y H Q ∨ rNeD K x y H Q
section
variable {X : Cx}
theorem os_eq : OpS (dcx X) (r2 (rEqA X.K)) (g2 false dEq) := ops2 fun F H x y d e m Q le vx vy sv hh c => by
  show rEqA X.K x y H Q
  obtain ⟨b, eb, rfl⟩ := Option.map_eq_some_iff.mp hh
  unfold dEqB at eb
  split at eb
  · rename_i hs
    obtain ⟨s1, s2⟩ := vx.scal vy hs
    cases eb
    refine .inl ⟨s1, ?_⟩
    rw [s2]
    exact c.flat le (.bl _)
  · split at eb
    · rename_i p q e1 e2
      split at eb
      · rename_i hs
        cases eb
        exact .inr ⟨p, q, vx.dp le e1, vy.dp le e2, hs.1, hs.2, c.flat le (.bl _)⟩
      · cases eb
    · cases eb
theorem os_ne : OpS (dcx X) (r2 (rNeA X.K)) (g2 false dNe) := ops2 fun F H x y d e m Q le vx vy sv hh c => by
  show rNeA X.K x y H Q
  obtain ⟨b, eb, rfl⟩ := Option.map_eq_some_iff.mp hh
  unfold dEqB at eb
  split at eb
  · rename_i hs
    obtain ⟨s1, s2⟩ := vx.scal vy hs
    cases eb
    refine .inl ⟨s1, ?_⟩
    rw [s2]
    exact c.flat le (.bl _)
  · split at eb
    · rename_i p q e1 e2
      split at eb
      · rename_i hs
        cases eb
        exact .inr ⟨p, q, vx.dp le e1, vy.dp le e2, hs.1, hs.2, c.flat le (.bl _)⟩
      · cases eb
    · cases eb
theorem op_eqA (hu : X.A.units + 64 < cLine) : OpR X (compareOp .Eq) (rEqA X.K) := op_eq.or (op_eqD hu)
theorem op_neA (hu : X.A.units + 64 < cLine) : OpR X (compareOp .NotEq) (rNeA X.K) := op_ne.or (op_neD hu)
theorem os_cmpI (p : Int → Int → Bool) : OpS (dcx X) (r2 (rI0 fun i j => .bl (p i j))) (g2 true (dCmpI p)) := ops2 fun F H x y d e m Q le vx vy sv hh c => by
  unfold dCmpI at hh
  split at hh
  · cases hh
    exact ⟨_, _, vx.int, vy.int, c.flat le (.bl _)⟩
  · cases hh
def rLt' : R2 := fun x y H Q => (rI0 fun i j => .bl (decide (i < j))) x y H Q ∨ ∃ i j, x = .str i ∧ y = .str j ∧ Q (.bl (decide (i.cps.toList < j.cps.toList))) H
theorem op_lt' : OpR X (compareOp .Lt) rLt' := op_lt.or op_lt_str
theorem os_lt : OpS (dcx X) (r2 rLt') (g2 true dLt) := ops2 fun F H x y d e m Q le vx vy sv hh c => by
  unfold dLt at hh
  split at hh
  · cases hh
    exact .inl ⟨_, _, vx.int, vy.int, c.flat le (.bl _)⟩
  · cases hh
    exact .inr ⟨_, _, vx.str, vy.str, c.flat le (.bl _)⟩
  · cases hh
end
/-- x is None, x is not None: a view will do -/
def MV.isNon : MV → Bool
  | .fz .non => true
  | _ => false
def gIsN : List MV → Option MV := fun ms => match ms with
  | [a, .fz .non] => some (.fz (.bl a.isNon))
  | _ => none
def gNotN : List MV → Option MV := fun ms => match ms with
  | [a, .fz .non] => some (.fz (.bl (!a.isNon)))
  | _ => none
theorem RM.isNon {K : DCx} {F H : Hp} {v : V} {m : MV} {S : ASet} (h : RM K F H v m S) : decide (v = .non) = m.isNon := by
  cases h with
  | fz h _ => cases h <;> rfl
  | ol => rfl
  | od => rfl
section
variable {X : Cx}
theorem os_isN : OpS (dcx X) (r2 fun x y H Q => y = .non ∧ Q (.bl (decide (x = .non))) H) gIsN := by
  intro F H vs ms S m Q le hl rm hg c
  unfold gIsN at hg
  split at hg
  · rename_i a
    cases hg
    match vs, hl with
    | [x, y], hl =>
      have ra := rm 0 x a rfl rfl
      have rb := (rm 1 y _ rfl rfl).fzv.1
      cases rb
      refine ⟨rfl, ?_⟩
      rw [ra.isNon]
      exact Cont.flat c le (.bl _)
  · cases hg
theorem os_notN : OpS (dcx X) (r2 fun x y H Q => y = .non ∧ Q (.bl (!decide (x = .non))) H) gNotN := by
  intro F H vs ms S m Q le hl rm hg c
  unfold gNotN at hg
  split at hg
  · rename_i a
    cases hg
    match vs, hl with
    | [x, y], hl =>
      have ra := rm 0 x a rfl rfl
      have rb := (rm 1 y _ rfl rfl).fzv.1
      cases rb
      refine ⟨rfl, ?_⟩
      rw [ra.isNon]
      exact Cont.flat c le (.bl _)
  · cases hg
end
end DL

/-! DL8: in, len, conversions, subscripts, slices, methods that change nothing. -/
namespace DL
open PySem PySem.Spec PyProof.Rows L2

/-! ### flat data -/
def D.flat : D → Bool
  | .non | .bl _ | .int _ | .str _ => true
  | _ => false
def D.toV : D → V
  | .non => .non
  | .bl b => .bl b
  | .int i => .int i
  | .str x => .str x
  | _ => .non
def D.eqF : D → D → Bool
  | .non, .non => true
  | .bl a, .bl b => a == b
  | .bl a, .int b => (if a then 1 else 0) == b
  | .int a, .bl b => a == (if b then 1 else 0)
  | .int a, .int b => a == b
  | .str a, .str b => a == b
  | _, _ => false
section
variable {K : DCx} {F F' H H' : Hp}
theorem VD.flat {v : V} {d : D} (h : VD K F H v d) (f : d.flat = true) : v = d.toV ∧ flatV v = true := by
  cases d with
  | non => exact ⟨h.non, by rw [h.non]; rfl⟩
  | bl b => exact ⟨h.bl, by rw [h.bl]; rfl⟩
  | int b => exact ⟨h.int, by rw [h.int]; rfl⟩
  | str b => exact ⟨h.str, by rw [h.str]; rfl⟩
  | _ => cases f
theorem eqF_toV {x y : D} (hx : x.flat = true) (hy : y.flat = true) : eqV x.toV y.toV = x.eqF y := by
  cases x <;> cases y <;> simp_all [D.flat, D.toV, D.eqF, eqV]
theorem items_flat {vs : List V} {ds : List D} (hl : vs.length = ds.length) (h : ∀ (k : Nat) (w : V) (d : D), vs[k]? = some w → ds[k]? = some d → VD K F H w d) (f : ds.all D.flat = true) : vs = ds.map D.toV ∧ vs.all flatV = true := by
  have e : vs = ds.map D.toV := by
    refine List.ext_getElem? fun k => ?_
    by_cases hk : k < vs.length
    · have hd : ds[k]? = some (ds[k]'(by omega)) := List.getElem?_eq_getElem _
      have ff : (ds[k]'(by omega)).flat = true := List.all_eq_true.mp f _ (List.getElem_mem _)
      rw [List.getElem?_eq_getElem hk, (VD.flat (h k _ _ (List.getElem?_eq_getElem hk) hd) ff).1, List.getElem?_map, hd]
      rfl
    · rw [List.getElem?_eq_none (by omega), List.getElem?_eq_none (by rw [List.length_map]; omega)]
  refine ⟨e, List.all_eq_true.mpr fun v hv => ?_⟩
  rw [e] at hv
  obtain ⟨d, hd, rfl⟩ := List.mem_map.mp hv
  have ff := List.all_eq_true.mp f d hd
  cases d <;> first | rfl | cases ff
/-- two lists of pairs with the same keys -/
theorem dlk_rel {α β : Type} (k : D) : ∀ (kvs : List (D × α)) (ds : List (D × β)), kvs.length = ds.length → (∀ (i : Nat) (p : D × α) (q : D × β), kvs[i]? = some p → ds[i]? = some q → p.1 = q.1) →
    (dlk kvs k = none ∧ dlk ds k = none) ∨ ∃ (i : Nat) (p : D × α) (q : D × β), kvs[i]? = some p ∧ ds[i]? = some q ∧ dlk kvs k = some p.2 ∧ dlk ds k = some q.2
  | [], [], _, _ => .inl ⟨rfl, rfl⟩
  | [], _ :: _, e, _ => by simp at e
  | _ :: _, [], e, _ => by simp at e
  | p :: kvs, q :: ds, e, f => by
    have e1 := f 0 p q rfl rfl
    unfold dlk
    rw [List.find?_cons, List.find?_cons, e1]
    cases hs : sameK q.1 k with
    | true => exact .inr ⟨0, p, q, rfl, rfl, rfl, rfl⟩
    | false =>
      rcases dlk_rel k kvs ds (by simpa using e) fun i p q a b => f (i + 1) p q (by simpa using a) (by simpa using b) with h | ⟨i, p', q', h1, h2, h3, h4⟩
      · exact .inl h
      · exact .inr ⟨i + 1, p', q', by simpa using h1, by simpa using h2, h3, h4⟩
end

/-! ### in -/
def strIn (a b : Str) : Bool := match a.cps.toList with
  | [c] => decide (c ∈ b.cps.toList)
  | _ => !(Builtin.Str.occurrences b a 0 b.length 1).isEmpty
def dInB (x c : D) : Option Bool := match x, c with
  | .str a, .str b => some (strIn a b)
  | x, .lst ds => if (x.flat && ds.all D.flat) = true then some (ds.any fun y => y.eqF x) else match x.py, D.pys ds with
    | some p, some qs => if SeqAt.shaped p = true ∧ SeqAt.shaped (.list qs) = true then some (qs.any fun z => PyData.eqv z p) else none
    | _, _ => none
  | x, .tup ds => if (x.flat && ds.all D.flat) = true then some (ds.any fun y => y.eqF x) else none
  | x, .dic t kvs => if keyOk t x = true then some (dlk kvs x).isSome else none
  | _, _ => none
def dIn (x c : D) : Option MV := (dInB x c).map fun b => .fz (.bl b)
def dNotIn (x c : D) : Option MV := (dInB x c).map fun b => .fz (.bl (!b))
def rInA (X : Cx) (n : Bool) : R2 := fun x y H Q => ((∃ i j, x = .str i ∧ y = .str j ∧ Q (.bl ((if n then (!·) else id) (strIn i j))) H) ∨ rIn X.K n x y H Q) ∨ ((if n then rNotInD X.K else rInD X.K) x y H Q ∨ ∃ a F o, y = .ref a ∧ DG (dcx X) F H a x o ∧ Q (.bl ((if n then (!·) else id) o.isSome)) H)
section
variable {X : Cx}
theorem strIn_sign {c : Nat} {b : Str} : strIn ⟨#[c]⟩ b = decide (c ∈ b.cps.toList) := rfl
theorem op_strIn : OpR X (compareOp .In) fun x y H Q => ∃ i j, x = .str i ∧ y = .str j ∧ Q (.bl (strIn i j)) H := by
  intro pins s σ H x y v u Q I rx ry ⟨i, j, ex, ey, q⟩
  unfold strIn at q
  split at q
  · rename_i c e
    refine op_in_sign pins s σ H x y v u Q I rx ry ⟨c, j, ?_, ey, q⟩
    rw [ex]
    cases i with
    | mk a =>
      have : a = #[c] := by
        have := congrArg List.toArray e
        simpa using this
      rw [this]
  · exact op_in_str pins s σ H x y v u Q I rx ry ⟨i, j, ex, ey, q⟩
theorem op_strNotIn : OpR X (compareOp .NotIn) fun x y H Q => ∃ i j, x = .str i ∧ y = .str j ∧ Q (.bl (!strIn i j)) H := by
  intro pins s σ H x y v u Q I rx ry ⟨i, j, ex, ey, q⟩
  unfold strIn at q
  split at q
  · rename_i c e
    refine op_notIn_sign pins s σ H x y v u Q I rx ry ⟨c, j, ?_, ey, q⟩
    rw [ex]
    cases i with
    | mk a =>
      have : a = #[c] := by
        have := congrArg List.toArray e
        simpa using this
      rw [this]
  · exact op_notIn_str pins s σ H x y v u Q I rx ry ⟨i, j, ex, ey, q⟩
theorem op_inA (hu : X.A.units + 65 < cLine) : OpR X (compareOp .In) (rInA X false) :=
  OpR.or (OpR.or op_strIn op_in_seq) (OpR.or (op_inD hu) fun pins s σ H x y v u Q I rx ry ⟨a, F, o, ey, g, q⟩ => by
    subst ey
    cases ry
    exact g_in (by omega) I g rx fun s3 I3 => ⟨.bl o.isSome, H, I3, rfl, q⟩)
theorem op_notInA (hu : X.A.units + 65 < cLine) : OpR X (compareOp .NotIn) (rInA X true) :=
  OpR.or (OpR.or op_strNotIn op_notIn_seq) (OpR.or (op_notInD hu) fun pins s σ H x y v u Q I rx ry ⟨a, F, o, ey, g, q⟩ => by
    subst ey
    cases ry
    exact g_notIn (by omega) I g rx fun s3 I3 => ⟨.bl (!o.isSome), H, I3, rfl, q⟩)
theorem in_read (n : Bool) {F H : Hp} {x y : V} {d e : D} {b : Bool} {Q : VK} (le : Same F H) (vx : VD (dcx X) F H x d) (vy : VD (dcx X) F H y e) (h : dInB d e = some b) (q : Q (.bl ((if n then (!·) else id) b)) H) : rInA X n x y H Q := by
  have flatCase : ∀ {p : Addr} {vs : List V} {ds : List D}, y = .ref p → (SqL X.K H p vs ∨ SqT X.K H p vs) → vs.length = ds.length → (∀ (k : Nat) (w : V) (d : D), vs[k]? = some w → ds[k]? = some d → VD (dcx X) F H w d) → d.flat = true → ds.all D.flat = true →
      b = (ds.any fun y => y.eqF d) → rInA X n x y H Q := by
    intro p vs ds ey hq hl hi hd hds hb
    obtain ⟨e1, e2⟩ := items_flat hl hi hds
    obtain ⟨x1, x2⟩ := vx.flat hd
    refine .inl (.inr ⟨p, vs, ey, hq, x2, e2, ?_⟩)
    have : inV x vs = b := by
      rw [hb, e1, x1]
      unfold inV
      rw [List.any_map]
      clear e1 e2 hl hi hb hq
      induction ds with
      | nil => rfl
      | cons z zs ih =>
        rw [List.all_cons, Bool.and_eq_true] at hds
        rw [List.any_cons, List.any_cons, ih hds.2]
        congr 1
        exact eqF_toV hds.1 hd
    rw [← this] at q
    cases n
    · exact q
    · exact q
  unfold dInB at h
  split at h
  · cases h
    exact .inl (.inl ⟨_, _, vx.str, vy.str, q⟩)
  · rename_i ds
    obtain ⟨p, vs, rfl, h1, h2, h3⟩ := vy.lst le
    split at h
    · rename_i hf
      rw [Bool.and_eq_true] at hf
      cases h
      exact flatCase rfl (.inl (.of h1)) h2 h3 hf.1 hf.2 rfl
    · split at h
      · rename_i p' qs e1 e2
        split at h
        · rename_i hs
          cases h
          have dl : Dp X.K H (.ref p) (.list qs) := vy.dp le (by rw [D.py, e2]; rfl)
          refine .inr (.inl ?_)
          cases n
          · exact ⟨p', qs, vx.dp le e1, dl, hs.1, hs.2, q⟩
          · exact ⟨p', qs, vx.dp le e1, dl, hs.1, hs.2, q⟩
        · cases h
      · cases h
  · rename_i ds
    obtain ⟨p, vs, rfl, h1, h1', h2, h3⟩ := vy.tup le
    split at h
    · rename_i hf
      rw [Bool.and_eq_true] at hf
      cases h
      exact flatCase rfl (.inr h1) h2 (fun k w d e1 e2 => (h3 k w d e1 e2).vd) hf.1 hf.2 rfl
    · cases h
  · rename_i t ds
    split at h
    · rename_i hk
      cases h
      obtain ⟨a, o, kvs, rfl, h1, h2, h3, h4, h5⟩ := vy.dic le
      refine .inr (.inr ⟨a, F, dlk kvs d, rfl, ⟨le, t, o, kvs, d, h1, h2, vx.kd le hk, hk, rfl⟩, ?_⟩)
      have : (dlk kvs d).isSome = (dlk ds d).isSome := by
        rcases dlk_rel d kvs ds h3 h4 with ⟨e1, e2⟩ | ⟨i, p, q, _, _, e1, e2⟩ <;> rw [e1, e2] <;> rfl
      rw [this]
      exact q
    · cases h
  · cases h
theorem os_in : OpS (dcx X) (r2 (rInA X false)) (g2 false dIn) := ops2 fun F H x y d e m Q le vx vy sv hh c => by
  obtain ⟨b, eb, rfl⟩ := Option.map_eq_some_iff.mp hh
  exact in_read false le vx vy eb (c.flat le (.bl _))
theorem os_notIn : OpS (dcx X) (r2 (rInA X true)) (g2 false dNotIn) := ops2 fun F H x y d e m Q le vx vy sv hh c => by
  obtain ⟨b, eb, rfl⟩ := Option.map_eq_some_iff.mp hh
  exact in_read true le vx vy eb (c.flat le (.bl _))
end

/-! ### calls of built-ins by name -/
def dLen : D → Option MV
  | .str x => if x.length ≤ lim then some (.fz (.int x.length)) else none
  | .lst xs => some (.fz (.int xs.length))
  | .tup xs => some (.fz (.int xs.length))
  | .scr ns => some (.fz (.int ns.length))
  | .dic _ kvs => some (.fz (.int kvs.length))
  | _ => none
def chars (x : Str) : List D := x.cps.toList.map fun c => .str ⟨#[c]⟩
def dList : D → Option MV
  | .str x => if x.length ≤ lim then some (.ol ((chars x).map .fz)) else none
  | .lst xs => some (.ol (xs.map .fz))
  | .tup xs => some (.ol (xs.map .fz))
  | .scr ns => some (.ol ((ns.map D.int).map .fz))
  | .dic false kvs => some (.ol ((kvs.map (·.1)).map .fz))
  | _ => none
def dTuple : D → Option MV
  | .str x => if x.length ≤ lim then some (.fz (.tup (chars x))) else none
  | .lst xs => some (.fz (.tup xs))
  | .tup xs => some (.fz (.tup xs))
  | _ => none
def D.ints : List D → Option (List Int)
  | [] => some []
  | .int i :: r => (D.ints r).map (i :: ·)
  | _ :: _ => none
theorem ints_some : ∀ {ds : List D} {ns : List Int}, D.ints ds = some ns → ds = ns.map D.int
  | [], ns, h => by rw [D.ints] at h; cases h; rfl
  | .int i :: r, ns, h => by
    rw [D.ints] at h
    obtain ⟨k, e, rfl⟩ := Option.map_eq_some_iff.mp h
    rw [List.map_cons, ints_some e]
  | .non :: r, ns, h => by simp [D.ints] at h
  | .bl _ :: r, ns, h => by simp [D.ints] at h
  | .str _ :: r, ns, h => by simp [D.ints] at h
  | .tup _ :: r, ns, h => by simp [D.ints] at h
  | .lst _ :: r, ns, h => by simp [D.ints] at h
  | .dic _ _ :: r, ns, h => by simp [D.ints] at h
  | .scr _ :: r, ns, h => by simp [D.ints] at h
theorem ints_map (ns : List Int) : D.ints (ns.map D.int) = some ns := by
  induction ns with
  | nil => rfl
  | cons n r ih => rw [List.map_cons, D.ints, ih]; rfl
def D.strs : List D → Option (List Str)
  | [] => some []
  | .str i :: r => (D.strs r).map (i :: ·)
  | _ :: _ => none
theorem strs_some : ∀ {ds : List D} {ns : List Str}, D.strs ds = some ns → ds = ns.map D.str
  | [], ns, h => by rw [D.strs] at h; cases h; rfl
  | .str i :: r, ns, h => by
    rw [D.strs] at h
    obtain ⟨k, e, rfl⟩ := Option.map_eq_some_iff.mp h
    rw [List.map_cons, strs_some e]
  | .non :: r, ns, h => by simp [D.strs] at h
  | .bl _ :: r, ns, h => by simp [D.strs] at h
  | .int _ :: r, ns, h => by simp [D.strs] at h
  | .tup _ :: r, ns, h => by simp [D.strs] at h
  | .lst _ :: r, ns, h => by simp [D.strs] at h
  | .dic _ _ :: r, ns, h => by simp [D.strs] at h
  | .scr _ :: r, ns, h => by simp [D.strs] at h
theorem strs_map (ns : List Str) : D.strs (ns.map D.str) = some ns := by
  induction ns with
  | nil => rfl
  | cons n r ih => rw [List.map_cons, D.strs, ih]; rfl
/-- a sorted list of ints -/
def sortI (ns : List Int) : List Int := ns.mergeSort fun a b => decide (a ≤ b)
theorem sortI_unique {ns ns' : List Int} (p : ns'.Perm ns) (s : ns'.Pairwise (· ≤ ·)) : ns' = sortI ns := by
  have h1 : (sortI ns).Pairwise (· ≤ ·) := by
    have := List.pairwise_mergeSort (le := fun a b : Int => decide (a ≤ b)) (by intro a b c; simp only [decide_eq_true_eq]; omega) (by intro a b; simp only [Bool.or_eq_true, decide_eq_true_eq]; omega) ns
    exact this.imp fun h => by simpa using h
  have h2 : (sortI ns).Perm ns := List.mergeSort_perm ns _
  exact (p.trans h2.symm).eq_of_pairwise (fun a b _ _ h h' => by omega) s h1
def dSorted : D → Option MV
  | .lst xs => (D.ints xs).map fun ns => .ol ((sortI ns).map fun n => .fz (.int n))
  | .tup xs => none
  | _ => none
def dAbs : D → Option MV
  | .int i => some (.fz (.int (if i < 0 then -i else i)))
  | _ => none
def dInt : D → Option MV
  | .int i => some (.fz (.int i))
  | .bl k => some (.fz (.int (if k then 1 else 0)))
  | _ => none
def dMin2 : D → D → Option MV
  | .int i, .int j => some (.fz (.int (if j < i then j else i)))
  | _, _ => none
def dMax2 : D → D → Option MV
  | .int i, .int j => some (.fz (.int (if j > i then j else i)))
  | _, _ => none
section
variable {X : Cx} {pins : List (Addr × Obj)} {σ : L2.St} {H F : Hp} {s : Shared}
def rLenA (X : Cx) : List V → Hp → VK → Prop := fun xs H Q => (∃ x n, xs = [x] ∧ LenV X.K x H n ∧ Q (.int n) H) ∨ ((∃ a kvs, xs = [V.ref a] ∧ H a = some (.dK kvs) ∧ Q (.int kvs.length) H) ∨ ∃ a F ys kvs, xs = [V.ref a] ∧ Same F H ∧ H a = some (DN (dcx X) a ys) ∧ DNrel (dcx X) F kvs ys ∧ Q (.int (kvs.length : Nat)) H)
theorem call_lenA : CallR X (.builtin "len") (rLenA X) := by
  intro pins s σ H xs us Q I r h
  rcases h with h | h | ⟨a, F, ys, kvs, rfl, le, e, pk, q⟩
  · exact call_len pins s σ H xs us Q I r h
  · exact call_lenD pins s σ H xs us Q I r h
  · obtain ⟨u, rfl, ru⟩ := vals1 r
    cases ru
    obtain ⟨us, dd, pu, hd, hz⟩ := dn_open I le e pk
    have hlen : us.length = kvs.length := by rw [← Paired.length pu, ← Paired.length pk]
    have hk : s.heap.DictKeyed (nestedKind X.prog X.w) a (pairsH us) := ⟨us, dd, rfl⟩
    refine PyProof.Rows.call_len_slot (n := (kvs.length : Nat)) hk.typeIs PySem.F.slot_dict_len (fun Q' hq => len_keyed hd hk ?_) (by omega) ?_ ?_
    · rw [show (pairsH us).length = kvs.length by rw [pairsH_length]; exact hlen]
      exact hq
    · rw [sizeLine_eq] at hz
      omega
    · exact ⟨.int (kvs.length : Nat), H, I.tok _, ⟨_, rfl⟩, q⟩
theorem os_len : OpS (dcx X) (rLenA X) (g1 false dLen) := ops1 fun F H x d m Q le vx sv hh c => by
  unfold dLen at hh
  split at hh
  · split at hh
    · rename_i hl
      cases hh
      exact .inl ⟨x, _, rfl, by rw [vx.str]; exact ⟨lim_le hl, rfl⟩, c.flat le (.int _)⟩
    · cases hh
  · cases hh
    obtain ⟨a, vs, rfl, h1, h2, h3⟩ := vx.lst le
    exact .inl ⟨_, vs.length, rfl, .inl ⟨vs, .of h1, rfl⟩, by rw [h2]; exact c.flat le (.int _)⟩
  · cases hh
    obtain ⟨a, vs, rfl, h1, h1', h2, h3⟩ := vx.tup le
    exact .inl ⟨_, vs.length, rfl, .inr ⟨vs, h1, rfl⟩, by rw [h2]; exact c.flat le (.int _)⟩
  · cases hh
    obtain ⟨a, rfl, h1⟩ := vx.scr le
    exact .inl ⟨_, _, rfl, .inl ⟨_, h1, rfl⟩, by rw [List.length_map]; exact c.flat le (.int _)⟩
  · cases hh
    obtain ⟨a, o, kvs, rfl, h1, h2, h3, _⟩ := vx.dic le
    rcases h2 with ⟨_, ks, rfl, rfl⟩ | ⟨_, ys, rfl, pk⟩
    · refine .inr (.inl ⟨a, ks, rfl, h1, ?_⟩)
      rw [List.length_map] at h3
      rw [h3]
      exact c.flat le (.int _)
    · refine .inr (.inr ⟨a, F, ys, kvs, rfl, le, h1, pk, ?_⟩)
      rw [h3]
      exact c.flat le (.int _)
  · cases hh
theorem items_chars {K : DCx} (z : Str) : ∀ (k : Nat) (w : V) (d : D), (signs z)[k]? = some w → (chars z)[k]? = some d → Fz K F w d := by
  intro k w d e1 e2
  unfold signs at e1
  unfold chars at e2
  rw [List.getElem?_map] at e1 e2
  obtain ⟨c, e3, rfl⟩ := Option.map_eq_some_iff.mp e1
  rw [e3] at e2
  cases e2
  exact .str _
def rListA (K : PySem.W.Frag) : List V → Hp → VK → Prop := fun xs H Q => ((∃ p ys, xs = [.ref p] ∧ (SqL K H p ys ∨ SqT K H p ys) ∧ ∀ l, H l = none → Q (.ref l) (upd H l (.lst ys))) ∨ (∃ z, xs = [.str z] ∧ z.length ≤ sizeLine ∧ ∀ l, H l = none → Q (.ref l) (upd H l (.lst (signs z))))) ∨
  rListD xs H Q
theorem call_listA (hc : X.calm = true) : CallR X (.type "list") (rListA X.K) := (call_list_of.or (call_listS hc)).or (call_list_dK hc)
theorem os_list : OpS (dcx X) (rListA X.K) (g1 true dList) := ops1 fun F H x d m Q le vx sv hh c => by
  have sx := sv rfl
  unfold dList at hh
  split at hh
  · split at hh
    · rename_i hl
      cases hh
      refine .inl (.inr ⟨_, by rw [vx.str], lim_le hl, fun l hn => c.newL le (by unfold signs chars; rw [List.length_map, List.length_map]) (items_chars _) hn⟩)
    · cases hh
  · cases hh
    obtain ⟨a, vs, rfl, h1, h2, h3⟩ := sx.lst le
    exact .inl (.inl ⟨a, vs, rfl, .inl (.of h1), fun l hn => c.newL le h2 h3 hn⟩)
  · cases hh
    obtain ⟨a, vs, rfl, h1, h1', h2, h3⟩ := vx.tup le
    exact .inl (.inl ⟨a, vs, rfl, .inr h1, fun l hn => c.newL le h2 h3 hn⟩)
  · cases hh
    obtain ⟨a, rfl, h1⟩ := vx.scr le
    refine .inl (.inl ⟨a, _, rfl, .inl h1, fun l hn => c.newL le (by rw [List.length_map, List.length_map]) (fun k w d e1 e2 => ?_) hn⟩)
    rw [List.getElem?_map] at e1 e2
    obtain ⟨n, e3, rfl⟩ := Option.map_eq_some_iff.mp e1
    rw [e3] at e2
    cases e2
    exact .int n
  · cases hh
    obtain ⟨a, o, kvs, rfl, h1, h2, h3, h4, _⟩ := vx.dic le
    rcases h2 with ⟨_, ks, rfl, rfl⟩ | ⟨z, _⟩
    · refine .inr ⟨a, ks, rfl, h1, fun l hn => c.newL le (by rw [List.length_map] at h3; rw [List.length_map, List.length_map]; exact h3) (fun k w d e1 e2 => ?_) hn⟩
      rw [List.getElem?_map] at e1 e2
      obtain ⟨p, e3, rfl⟩ := Option.map_eq_some_iff.mp e1
      obtain ⟨q, e4, rfl⟩ := Option.map_eq_some_iff.mp e2
      have := h4 k (keyD p.1, p.2) q (by rw [List.getElem?_map, e3]; rfl) e4
      rw [← this]
      show Fz _ _ (kV p.1) (keyD p.1)
      cases p.1 with
      | inl i => exact .int i
      | inr x => exact .str x
    · cases z
  · cases hh
def rTupleA (K : PySem.W.Frag) : List V → Hp → VK → Prop := fun xs H Q => (∃ p ys, xs = [.ref p] ∧ ((SqL K H p ys ∧ ∀ l, H l = none → Q (.ref l) (upd H l (.tup ys))) ∨ (SqT K H p ys ∧ Q (.ref p) H))) ∨ (∃ z, xs = [.str z] ∧ z.length ≤ sizeLine ∧ ∀ l, H l = none → Q (.ref l) (upd H l (.tup (signs z))))
theorem call_tupleA (hc : X.calm = true) : CallR X (.type "tuple") (rTupleA X.K) := call_tuple_of.or (call_tupleS hc)
theorem os_tuple : OpS (dcx X) (rTupleA X.K) (g1 true dTuple) := ops1 fun F H x d m Q le vx sv hh c => by
  have sx := sv rfl
  unfold dTuple at hh
  split at hh
  · split at hh
    · rename_i hl
      cases hh
      refine .inr ⟨_, by rw [vx.str], lim_le hl, fun l hn => c.newT le (by unfold signs chars; rw [List.length_map, List.length_map]) (items_chars _) hn⟩
    · cases hh
  · cases hh
    obtain ⟨a, vs, rfl, h1, h2, h3⟩ := sx.lst le
    exact .inl ⟨a, vs, rfl, .inl ⟨.of h1, fun l hn => c.newT le h2 h3 hn⟩⟩
  · cases hh
    obtain ⟨a, vs, rfl, h1, h1', h2, h3⟩ := vx.tup le
    exact .inl ⟨a, vs, rfl, .inr ⟨h1, c.flat le (.tup h1' h2 h3)⟩⟩
  · cases hh
theorem os_sorted : OpS (dcx X) (rSortedI X.K) (g1 false dSorted) := ops1 fun F H x d m Q le vx sv hh c => by
  unfold dSorted at hh
  split at hh
  · obtain ⟨ns, e, rfl⟩ := Option.map_eq_some_iff.mp hh
    have e' := ints_some e
    subst e'
    obtain ⟨a, vs, rfl, h1, h2, h3⟩ := vx.lst le
    have ev := items_int h2 h3
    subst ev
    refine ⟨a, ns, rfl, .of h1, fun ns' p pe so hn => ?_⟩
    rw [sortI_unique pe so]
    rw [show ((sortI ns).map fun n => MV.fz (.int n)) = ((sortI ns).map D.int).map .fz by rw [List.map_map]; rfl] at c
    refine c.newL le (by rw [List.length_map, List.length_map]) (fun k w d e1 e2 => ?_) hn
    rw [List.getElem?_map] at e1 e2
    obtain ⟨n, e3, rfl⟩ := Option.map_eq_some_iff.mp e1
    rw [e3] at e2
    cases e2
    exact .int n
  · cases hh
  · cases hh
theorem os_abs : OpS (dcx X) (fun xs H Q => ∃ i, xs = [.int i] ∧ Q (.int (if i < 0 then -i else i)) H) (g1 true dAbs) := ops1 fun F H x d m Q le vx sv hh c => by
  unfold dAbs at hh
  split at hh
  · cases hh
    exact ⟨_, by rw [vx.int], c.flat le (.int _)⟩
  · cases hh
theorem os_int : OpS (dcx X) (fun xs H Q => (∃ i, xs = [.int i] ∧ Q (.int i) H) ∨ ∃ k, xs = [.bl k] ∧ Q (.int (if k then 1 else 0)) H) (g1 true dInt) := ops1 fun F H x d m Q le vx sv hh c => by
  unfold dInt at hh
  split at hh
  · cases hh
    exact .inl ⟨_, by rw [vx.int], c.flat le (.int _)⟩
  · cases hh
    exact .inr ⟨_, by rw [vx.bl], c.flat le (.int _)⟩
  · cases hh
theorem os_min2 : OpS (dcx X) (fun xs H Q => ∃ i j, xs = [.int i, .int j] ∧ Q (.int (if j < i then j else i)) H) (g2 true dMin2) := ops2 fun F H x y d e m Q le vx vy sv hh c => by
  unfold dMin2 at hh
  split at hh
  · cases hh
    exact ⟨_, _, by rw [vx.int, vy.int], c.flat le (.int _)⟩
  · cases hh
theorem os_max2 : OpS (dcx X) (fun xs H Q => ∃ i j, xs = [.int i, .int j] ∧ Q (.int (if j > i then j else i)) H) (g2 true dMax2) := ops2 fun F H x y d e m Q le vx vy sv hh c => by
  unfold dMax2 at hh
  split at hh
  · cases hh
    exact ⟨_, _, by rw [vx.int, vy.int], c.flat le (.int _)⟩
  · cases hh
end
end DL

/-! DL9: subscripts, slices, methods. -/
namespace DL
open PySem PySem.Spec PyProof.Rows L2

/-! ### a[b] -/
def D.ix : D → D → Option D
  | .lst ds, .int i => atI ds i
  | .tup ds, .int i => atI ds i
  | .str x, .int i => if x.length ≤ lim then (atI x.cps.toList i).map fun c => .str ⟨#[c]⟩ else none
  | .scr ns, .int i => (atI ns i).map .int
  | .dic t kvs, k => if keyOk t k = true then dlk kvs k else none
  | _, _ => none
def MV.ix : MV → D → Option MV
  | .fz d, k => (D.ix d k).map .fz
  | .ol xs, .int i => atI xs i
  | .od t kvs, k => if keyOk t k = true then dlk kvs k else none
  | _, _ => none
theorem atI_rel {α β : Type} {xs : List α} {ys : List β} (hl : xs.length = ys.length) {i : Int} {y : β} (h : atI ys i = some y) : ∃ (j : Nat) (x : α), atI xs i = some x ∧ xs[j]? = some x ∧ ys[j]? = some y := by
  unfold atI at h ⊢
  rw [hl]
  obtain ⟨j, e, e2⟩ := Option.bind_eq_some_iff.mp h
  have hj : j < xs.length := by rw [hl]; exact (List.getElem?_eq_some_iff.mp e2).1
  exact ⟨j, xs[j], by rw [e]; exact List.getElem?_eq_getElem hj, List.getElem?_eq_getElem hj, e2⟩
def rIxD (X : Cx) : R2 := fun x y H Q => ∃ a F v, x = .ref a ∧ DG (dcx X) F H a y (some v) ∧ Q v H
theorem ix_dict {X : Cx} (hu : X.A.units + 64 < cLine) : IxR X (rIxD X) := by
  intro value slice pins s σ H x y v u Q I rx ry h hs
  obtain ⟨a, F, z, rfl, g, q⟩ := h
  cases rx
  have hT := (g_typeIs I g).1
  unfold subscriptTail
  refine wpAny_bind ?_
  rw [getitemInPython_of_ne hT.not_modules]
  refine wpAny_bind (wpAny_specialOf hT PySem.F.slot_dict_getitem.lookup ?_)
  have fin : wpAny (model X.prog X.w) X.A (subscripted slice false (.ref a) u) (fun r s₃ => wpAny (model X.prog X.w) X.A (letTemporaryGo value (.ref a) r >>= fun _ => pure r) (EP X pins σ Q) X.xe s₃) X.xe s := by
    rw [hs]
    exact wpAny_operating (g_getItem hu I g ry fun w' s' I' r' => wpAny_bind (wpAny_letTemporaryGo (wpAny_pure ⟨z, H, I', r', q⟩)))
  first
    | exact wpAny_pure (wpAny_bind fin)
    | exact wpAny_bind (wpAny_pure (wpAny_bind fin))
    | exact wpAny_bind fin
def rIxA (X : Cx) : R2 := fun x y H Q => rIx X.K x y H Q ∨ rIxD X x y H Q
theorem ix_any {X : Cx} (hu : X.A.units + 64 < cLine) : IxR X (rIxA X) := ix_seq.or (ix_dict hu)
theorem Fz.ix {X : Cx} {F H : Hp} (le : Same F H) {v u : V} {d k c : D} (h : Fz (dcx X) F v d) (hk : VD (dcx X) F H u k) (e : d.ix k = some c) : ∃ w, Fz (dcx X) F w c ∧ ∀ Q : VK, Q w H → rIxA X v u H Q := by
  unfold D.ix at e
  split at e
  · cases h with
    | @lst a vs ds h1 h2 h3 =>
      obtain ⟨j, w, e1, e2, e3⟩ := atI_rel h2 e
      exact ⟨w, h3 j w _ e2 e3, fun Q q => .inl (.inl ⟨a, vs, _, w, rfl, hk.int, .of (le _ _ h1), e1, q⟩)⟩
  · cases h with
    | @tup a vs ds h1 h2 h3 =>
      obtain ⟨j, w, e1, e2, e3⟩ := atI_rel h2 e
      exact ⟨w, h3 j w _ e2 e3, fun Q q => .inl (.inr (.inl ⟨a, vs, _, w, rfl, hk.int, DL.Same.sqT le h1, e1, q⟩))⟩
  · split at e
    · rename_i hl
      obtain ⟨ch, e1, rfl⟩ := Option.map_eq_some_iff.mp e
      cases h
      exact ⟨_, .str _, fun Q q => .inl (.inr (.inr ⟨_, _, ch, rfl, hk.int, lim_le hl, e1, q⟩))⟩
    · cases e
  · obtain ⟨n, e1, rfl⟩ := Option.map_eq_some_iff.mp e
    cases h with
    | scr h1 =>
      obtain ⟨j, w, f1, f2, f3⟩ := atI_rel (xs := List.map V.int _) (by rw [List.length_map]) e1
      rw [List.getElem?_map, f3] at f2
      cases f2
      exact ⟨_, .int n, fun Q q => .inl (.inl ⟨_, _, _, _, rfl, hk.int, le.seq h1, f1, q⟩)⟩
  · rename_i x9 t kvs
    split at e
    · rename_i ko
      cases h with
      | @dic a t o vs ds h1 h2 h3 h4 h5 =>
        rcases dlk_rel k vs kvs h3 h4 with ⟨f1, f2⟩ | ⟨i, p, q, f1, f2, f3, f4⟩
        · rw [f2] at e; cases e
        · rw [f4] at e
          cases e
          exact ⟨p.2, h5 i p q f1 f2, fun Q q' => .inr ⟨a, F, p.2, rfl, ⟨le, t, o, vs, k, le _ _ h1, h2, hk.kd le ko, ko, f3.symm⟩, q'⟩⟩
    · cases e
  · cases e
theorem RM.ix {X : Cx} {F H : Hp} (le : Same F H) {v u : V} {m c : MV} {S : ASet} {k : D} (h : RM (dcx X) F H v m S) (hk : VD (dcx X) F H u k) (e : m.ix k = some c) : ∃ w C, RM (dcx X) F H w c C ∧ (∀ b, C b → S b) ∧ ∀ Q : VK, Q w H → rIxA X v u H Q := by
  unfold MV.ix at e
  split at e
  · obtain ⟨d, e1, rfl⟩ := Option.map_eq_some_iff.mp e
    obtain ⟨w, f, r⟩ := h.fzv.1.ix le hk e1
    exact ⟨w, fun _ => False, .of f, fun _ z => z.elim, r⟩
  · cases h with
    | @ol a vs xs S C h1 h2 h3 h4 h5 h6 =>
      obtain ⟨j, w, e1, e2, e3⟩ := atI_rel h2 e
      exact ⟨w, C j, h3 j w _ e2 e3, fun b hb => (h6 b).mpr (.inr ⟨j, (List.getElem?_eq_some_iff.mp e3).1, hb⟩), fun Q q => .inl (.inl ⟨a, vs, _, w, rfl, hk.int, .of h1, e1, q⟩)⟩
  · rename_i x9 t kvs
    split at e
    · rename_i ko
      cases h with
      | @od a t o vs ds S C h1 h2 h3 h4 h4' h5 h6 h7 =>
        rcases dlk_rel k vs kvs h3 h4 with ⟨f1, f2⟩ | ⟨i, p, q, f1, f2, f3, f4⟩
        · rw [f2] at e; cases e
        · rw [f4] at e
          cases e
          exact ⟨p.2, C i, h4' i p q f1 f2, fun b hb => (h7 b).mpr (.inr ⟨i, (List.getElem?_eq_some_iff.mp f2).1, hb⟩), fun Q q' => .inr ⟨a, F, p.2, rfl, ⟨le, t, o, vs, k, h1, h2, hk.kd le ko, ko, f3.symm⟩, q'⟩⟩
    · cases e
  · cases e
/-- a view of an item -/
def wIx (f : WE) (p1 : Bool) (g : WE) (m2 : Bool) : WE := fun ρ Q => f ρ fun m ρ1 => g ρ1 fun k ρ2 => (p1 && m2 && m.isOwn) = false ∧ ∃ c, m.ix k.toD = some c ∧ Q c ρ2
section
variable {X : Cx} {a b : Expr} {f g : WE} {p1 p2 m1 m2 : Bool} {pos : Pos} {σ : L2.St} {F H : Hp} {G : ASet} {ρ : DEnv}
theorem td_ix {K : DCx} (hK : K = dcx X) : ∀ σ H Q, TD K (wIx f p1 g m2) p1 (m1 || m2) σ H Q → tOp (rIxA X) (TD K f p1 m1) (TD K g p2 m2) σ H Q := fun σ H Q ⟨F, ρ, G, Q', st, h, k⟩ => by
  subst hK
  refine ⟨F, ρ, G, _, st, h, fun F1 H1 ρ1 v m S p h1 => ?_⟩
  refine ⟨F1, ρ1, _, _, p.st, h1, fun F2 H2 ρ2 u n T q ⟨hs, c, e, hq⟩ => ?_⟩
  have rm : RM (dcx X) F2 H2 v m S := p.rm.mono q.sf fun b o hb e => by
    cases hp : p1 with
    | false => rw [q.at_ b (.inr ⟨hp, hb⟩)]; exact e
    | true =>
      cases hm : m2 with
      | false => exact q.qt hm b o e
      | true =>
        have ho : m.isOwn = false := by simpa [hp, hm] using hs
        exact absurd hb (p.rm.own_no ho b)
  obtain ⟨w, C, rc, sub, rd⟩ := rm.ix q.st.le q.rm.vd e
  refine rd Q (k F2 H2 ρ2 w c C ⟨p.sf.trans q.sf, fun b gb => (q.at_ b (.inl gb)).trans (p.at_ b gb), fun e => ?_, rc, q.st.less fun b gb => ?_, fun hp b cb => p.ng hp b (sub b cb)⟩ hq)
  · cases m1 <;> cases m2 <;> first | exact (p.qt rfl).trans (q.qt rfl) | cases e
  · rcases gb with gb | ⟨hp, gb⟩
    · exact .inl (.inl gb)
    · exact .inl (.inr ⟨hp, sub b gb⟩)
theorem d_ix (hu : X.A.units + 64 < cLine) (ha : PE X a (TD (dcx X) f p1 m1)) (hb : PE X b (TD (dcx X) g p2 m2)) (hs : PlainIx b) : PE X (.Subscript a b pos) (TD (dcx X) (wIx f p1 g m2) p1 (m1 || m2)) :=
  PE.imp (pe_ix (ix_any hu) ha hb hs) (td_ix rfl)
end

/-! ### a[lo:hi] -/
def cutD (xs : List D) (lo hi : Option Int) : List D := (xs.drop (HT.sIx xs.length 0 lo)).take (HT.sIx xs.length xs.length hi - HT.sIx xs.length 0 lo)
def dSlice (lo hi : Option Int) : D → Option MV
  | .str x => if x.length ≤ lim then some (.fz (.str (cutS x lo hi))) else none
  | .lst xs => some (.ol ((cutD xs lo hi).map .fz))
  | .tup xs => some (.fz (.tup (cutD xs lo hi)))
  | _ => none
def rSlAll (K : PySem.W.Frag) : V → Option Int → Option Int → Hp → VK → Prop := fun x lo hi H Q => rSlS x lo hi H Q ∨ (rSlL K x lo hi H Q ∨ rSlA K x lo hi H Q)
theorem sl_all {X : Cx} : SlR X (rSlAll X.K) := SlR.or sl_str (SlR.or sl_list sl_tupA)
theorem items_cut {K : DCx} {F : Hp} {vs : List V} {ds : List D} (hl : vs.length = ds.length) (f : ∀ (k : Nat) (w : V) (d : D), vs[k]? = some w → ds[k]? = some d → Fz K F w d) (lo hi : Option Int) :
    (cutV vs lo hi).length = (cutD ds lo hi).length ∧ ∀ (k : Nat) (w : V) (d : D), (cutV vs lo hi)[k]? = some w → (cutD ds lo hi)[k]? = some d → Fz K F w d := by
  unfold cutV cutD
  rw [hl]
  refine ⟨by rw [List.length_take, List.length_take, List.length_drop, List.length_drop, hl], fun k w d e1 e2 => ?_⟩
  rw [List.getElem?_take] at e1 e2
  split at e1
  · rename_i hk
    rw [if_pos hk, List.getElem?_drop] at e2
    rw [List.getElem?_drop] at e1
    exact f _ w d e1 e2
  · cases e1
theorem slice_read {X : Cx} {F H : Hp} {x : V} {d : D} {lo hi : Option Int} {m : MV} {Q : VK} (le : Same F H) (sx : SV (dcx X) F H x d) (hh : dSlice lo hi d = some m) (c : Cont (dcx X) F H m Q) : rSlAll X.K x lo hi H Q := by
  have vx := sx.vd
  unfold dSlice at hh
  split at hh
  · split at hh
    · rename_i hl
      cases hh
      exact .inl ⟨_, vx.str, lim_le hl, c.flat le (.str _)⟩
    · cases hh
  · cases hh
    obtain ⟨a, vs, rfl, h1, h2, h3⟩ := sx.lst le
    exact .inr (.inl ⟨a, vs, rfl, .of h1, fun p hp => c.newL le (items_cut h2 h3 lo hi).1 (items_cut h2 h3 lo hi).2 hp⟩)
  · rename_i ds
    cases hh
    obtain ⟨a, vs, rfl, h1, h1', h2, h3⟩ := vx.tup le
    refine .inr (.inr ⟨a, vs, rfl, h1, fun e => ?_, fun _ p hp => c.newT le (items_cut h2 h3 lo hi).1 (items_cut h2 h3 lo hi).2 hp⟩)
    have : cutD ds lo hi = ds := by
      unfold cutD
      rw [h2] at e
      rw [e.1, e.2, List.drop_zero, Nat.sub_zero, List.take_length]
    rw [this] at c
    exact c.flat le (.tup h1' h2 h3)
  · cases hh
/-- an optional bound -/
def wPart (o : Option WE) : DEnv → (Option Int → DEnv → Prop) → Prop := fun ρ Q => match o with
  | none => Q none ρ
  | some f => f ρ fun m ρ1 => ∃ i, m = .fz (.int i) ∧ Q (some i) ρ1
def wSl (f : WE) (p1 : Bool) (lo : Option WE) (ml : Bool) (hi : Option WE) (mh : Bool) : WE := fun ρ Q => f ρ fun m ρ1 => wPart lo ρ1 fun l ρ2 => wPart hi ρ2 fun h ρ3 => (p1 && (ml || mh) && m.isOwn) = false ∧ m.shal = true ∧ ∃ r, dSlice l h m.toD = some r ∧ Q r ρ3
/-- a bound's judgement -/
structure DO (X : Cx) (e : Option Expr) (o : Option WE) (mt : Bool) : Prop where
  ex : ∃ t, PO X e t ∧ ∀ (σ : L2.St) (F H : Hp) (ρ : DEnv) (G : ASet) (Q' : Option Int → DEnv → Prop) (Q : Option Int → Hp → Prop), Sta (dcx X) F H σ ρ G → wPart o ρ Q' → (∀ F' H' ρ' i, PostT (dcx X) mt σ F H G F' H' ρ' → Q' i ρ' → Q i H') → t σ H Q
section
variable {X : Cx} {a e : Expr} {lo hi : Option Expr} {f : WE} {p1 m1 ml mh : Bool} {ol oh : Option WE} {p2 pos : Pos}
theorem do_none : DO X none none false := ⟨_, po_none, fun σ F H ρ G Q' Q st h k => k F H ρ none ⟨Same.refl F, fun _ _ => rfl, fun _ => Same.refl H, st⟩ h⟩
theorem do_some (h : PE X e (TD (dcx X) f p1 m1)) : DO X (some e) (some f) m1 := ⟨_, po_some h, fun σ F H ρ G Q' Q st hq k => by
  refine ⟨F, ρ, G, _, st, hq, fun F1 H1 ρ1 v m S p ⟨i, e, q⟩ => ?_⟩
  subst e
  have := p.rm.fzv.1
  cases this
  exact ⟨i, rfl, k F1 H1 ρ1 (some i) (post_tmp p) q⟩⟩
theorem d_slice (ha : PE X a (TD (dcx X) f p1 m1)) (hl : DO X lo ol ml) (hh : DO X hi oh mh) : PE X (.Subscript a (.Slice lo hi none p2) pos) (TD (dcx X) (wSl f p1 ol ml oh mh) false (m1 || (ml || mh))) := by
  obtain ⟨tl, l1, l2⟩ := hl.ex
  obtain ⟨th, h1, h2⟩ := hh.ex
  refine PE.imp (pe_slice sl_all ha l1 h1) fun σ H Q ⟨F, ρ, G, Q', st, h, k⟩ => ?_
  refine ⟨F, ρ, G, _, st, h, fun F1 H1 ρ1 v m S p q1 => ?_⟩
  refine l2 σ F1 H1 ρ1 _ _ _ p.st q1 fun F2 H2 ρ2 i p2 q2 => ?_
  refine h2 σ F2 H2 ρ2 _ _ _ p2.st q2 fun F3 H3 ρ3 j p3 ⟨hs, sh, r, e, q3⟩ => ?_
  have rm : RM (dcx X) F3 H3 v m S := p.rm.mono (p2.sf.trans p3.sf) fun b o hb e => by
    cases hp : p1 with
    | false => rw [p3.at_ b (.inr ⟨hp, hb⟩), p2.at_ b (.inr ⟨hp, hb⟩)]; exact e
    | true =>
      cases hm : (ml || mh) with
      | false =>
        have hm' : ml = false ∧ mh = false := by cases ml <;> cases mh <;> simp_all
        exact p3.qt hm'.2 b o (p2.qt hm'.1 b o e)
      | true =>
        have ho : m.isOwn = false := by simpa [hp, hm] using hs
        exact absurd hb (p.rm.own_no ho b)
  refine slice_read p3.st.le ⟨m, S, rm, rfl, sh⟩ e fun F4 H4 w T sf sh le new rm4 tn => ?_
  have st3 : Sta (dcx X) F3 H3 σ ρ3 G := p3.st.less fun b g => .inl g
  refine k F4 H4 ρ3 w r T ⟨((p.sf.trans p2.sf).trans p3.sf).trans sf, fun b g => ?_, fun e => ?_, rm4, st3.grow sf sh le new (fun b g ng => ?_) fun b g => ?_, fun _ b t g => ?_⟩ q3
  · obtain ⟨o, e⟩ := (st3.fr b g).2
    rw [sh b o e, ← e, p3.at_ b (.inl g), p2.at_ b (.inl g), p.at_ b g]
  · have hm' : m1 = false ∧ ml = false ∧ mh = false := by cases m1 <;> cases ml <;> cases mh <;> simp_all
    exact (((p.qt hm'.1).trans (p2.qt hm'.2.1)).trans (p3.qt hm'.2.2)).trans sh
  · rcases g with g | g
    · exact absurd g ng
    · exact (tn b g.2).1
  · rcases g with g | g
    · obtain ⟨f0, o, e⟩ := st3.fr b g
      exact ⟨new b f0 ⟨o, e⟩, o, sh b o e⟩
    · exact ⟨(tn b g.2).2, rm4.there b g.2⟩
  · obtain ⟨_, o, e⟩ := st3.fr b g
    rw [(tn b t).1] at e
    cases e
end

/-! ### x[::-1] -/
def dRev : D → Option MV
  | .str x => if x.length ≤ lim then some (.fz (.str (revS x))) else none
  | .lst xs => some (.ol (xs.reverse.map .fz))
  | _ => none
theorem PE.or {X : Cx} {e : Expr} {t u : TE} (h : PE X e t) (h' : PE X e u) : PE X e fun σ H Q => t σ H Q ∨ u σ H Q :=
  ⟨fun p s σ H Q I w => w.elim (h.run p s σ H Q I) (h'.run p s σ H Q I)⟩
/-- a one-place reading of either of two kinds, behind one evaluation -/
theorem items_rev {K : DCx} {F : Hp} {vs : List V} {ds : List D} (hl : vs.length = ds.length) (f : ∀ (k : Nat) (w : V) (d : D), vs[k]? = some w → ds[k]? = some d → Fz K F w d) :
    ∀ (k : Nat) (w : V) (d : D), vs.reverse[k]? = some w → ds.reverse[k]? = some d → Fz K F w d := by
  intro k w d e1 e2
  have h1 : k < vs.length := by have := (List.getElem?_eq_some_iff.mp e1).1; rwa [List.length_reverse] at this
  rw [List.getElem?_reverse h1] at e1
  rw [List.getElem?_reverse (by omega)] at e2
  rw [← hl] at e2
  exact f _ w d e1 e2
section
variable {X : Cx} {e : Expr} {f : WE} {p1 m1 : Bool} {k : Nat} {q1 q2 q3 pos : Pos}
def dRevS : D → Option MV
  | .str x => if x.length ≤ lim then some (.fz (.str (revS x))) else none
  | _ => none
def dRevL : D → Option MV
  | .lst xs => some (.ol (xs.reverse.map .fz))
  | _ => none
theorem os_revS : OpS (dcx X) (r1 fun x H Q => ∃ z, x = .str z ∧ z.length ≤ sizeLine ∧ Q (.str (revS z)) H) (g1 true dRevS) := ops1 fun F H x d m Q le vx sv hh c => by
  unfold dRevS at hh
  split at hh
  · split at hh
    · rename_i hl
      cases hh
      exact ⟨_, vx.str, lim_le hl, c.flat le (.str _)⟩
    · cases hh
  · cases hh
theorem os_revL : OpS (dcx X) (r1 fun x H Q => ∃ a xs, x = .ref a ∧ SqL X.K H a xs ∧ ∀ p, H p = none → Q (.ref p) (upd H p (.lst xs.reverse))) (g1 true dRevL) := ops1 fun F H x d m Q le vx sv hh c => by
  have sx := sv rfl
  unfold dRevL at hh
  split at hh
  · cases hh
    obtain ⟨a, vs, rfl, h1, h2, h3⟩ := sx.lst le
    exact ⟨a, vs, rfl, .of h1, fun p hp => c.newL le (by rw [List.length_reverse, List.length_reverse, h2]) (items_rev h2 h3) hp⟩
  · cases hh
theorem d_revS (he : PE X e (TD (dcx X) f p1 m1)) : PE X (.Subscript e (.Slice none none (some (.UnaryOp .USub (.Constant (.int 1) k q1) q2)) q3) pos) (TD (dcx X) (wOp1 (g1 true dRevS) f p1) false (m1 || false)) :=
  PE.imp (pe_revS he) fun σ H Q q => td_one (td_op os_revS σ H Q q)
theorem d_revL (he : PE X e (TD (dcx X) f p1 m1)) : PE X (.Subscript e (.Slice none none (some (.UnaryOp .USub (.Constant (.int 1) k q1) q2)) q3) pos) (TD (dcx X) (wOp1 (g1 true dRevL) f p1) false (m1 || false)) :=
  PE.imp (pe_revL he) fun σ H Q q => td_one (td_op os_revL σ H Q q)
end
/-! ### isinstance(x, T) -/
def D.ty : D → String
  | .non => "NoneType" | .bl _ => "bool" | .int _ => "int" | .str _ => "str" | .tup _ => "tuple" | .lst _ => "list" | .dic _ _ => "dict" | .scr _ => "list"
def isiT : String → D → Option Bool
  | "str", d => some (d.ty == "str")
  | "int", d => some (d.ty == "int" || d.ty == "bool")
  | "bool", d => some (d.ty == "bool")
  | "tuple", d => some (d.ty == "tuple")
  | "list", d => some (d.ty == "list")
  | _, _ => none
def wIsi (T : String) (f : WE) : WE := fun ρ Q => f ρ fun m ρ1 => ∃ b, isiT T m.toD = some b ∧ Q (.fz (.bl b)) ρ1
end DL

/-! DL10: statements, targets, what is walked, loops. -/
namespace DL
open PySem PySem.Spec PyProof.Rows L2

structure DE where
  nx : DEnv → Prop
  rt : MV → DEnv → Prop
  bk : DEnv → Prop := fun _ => False
  ct : DEnv → Prop := fun _ => False
abbrev WS := DE → DEnv → Prop
structure PostS (K : DCx) (P : Nat → Prop) (σ : L2.St) (F H : Hp) (G : ASet) (F' H' : Hp) (σ' : L2.St) (ρ' : DEnv) : Prop where
  sf : Same F F'
  at_ : ∀ b, G b → H' b = H b
  pr : ∀ i, P i → σ'[i]? = σ[i]?
  st : Sta K F' H' σ' ρ' G
structure PostR (K : DCx) (P : Nat → Prop) (σ : L2.St) (F H : Hp) (G : ASet) (F' H' : Hp) (σ' : L2.St) (ρ' : DEnv) (v : V) (m : MV) (S : ASet) : Prop where
  sf : Same F F'
  at_ : ∀ b, G b → H' b = H b
  pr : ∀ i, P i → σ'[i]? = σ[i]?
  rm : RM K F' H' v m S
  st : Sta K F' H' σ' ρ' (fun b => G b ∨ S b)
  ng : ∀ b, S b → ¬ G b
def TDS (K : DCx) (P : Nat → Prop) (f : WS) : TS := fun D σ H => ∃ (F : Hp) (ρ : DEnv) (G : ASet) (D' : DE), Sta K F H σ ρ G ∧ f D' ρ ∧
  (∀ F' H' σ' ρ', PostS K P σ F H G F' H' σ' ρ' → D'.nx ρ' → D.nx σ' H') ∧ (∀ F' H' σ' ρ', PostS K P σ F H G F' H' σ' ρ' → D'.bk ρ' → D.bk σ' H') ∧
  (∀ F' H' σ' ρ', PostS K P σ F H G F' H' σ' ρ' → D'.ct ρ' → D.ct σ' H') ∧ (∀ F' H' σ' ρ' v m S, PostR K P σ F H G F' H' σ' ρ' v m S → D'.rt m ρ' → D.rt v H')
section
variable {K : DCx} {P : Nat → Prop} {F F1 F2 H H1 H2 : Hp} {σ σ1 σ2 : L2.St} {ρ ρ1 ρ2 : DEnv} {G : ASet}
theorem PostS.refl (st : Sta K F H σ ρ G) : PostS K P σ F H G F H σ ρ := ⟨Same.refl F, fun _ _ => rfl, fun _ _ => rfl, st⟩
theorem PostS.trans (p : PostS K P σ F H G F1 H1 σ1 ρ1) (q : PostS K P σ1 F1 H1 G F2 H2 σ2 ρ2) : PostS K P σ F H G F2 H2 σ2 ρ2 :=
  ⟨p.sf.trans q.sf, fun b g => (q.at_ b g).trans (p.at_ b g), fun i h => (q.pr i h).trans (p.pr i h), q.st⟩
theorem PostS.thenR {v : V} {m : MV} {S : ASet} (p : PostS K P σ F H G F1 H1 σ1 ρ1) (q : PostR K P σ1 F1 H1 G F2 H2 σ2 ρ2 v m S) : PostR K P σ F H G F2 H2 σ2 ρ2 v m S :=
  ⟨p.sf.trans q.sf, fun b g => (q.at_ b g).trans (p.at_ b g), fun i h => (q.pr i h).trans (p.pr i h), q.rm, q.st, q.ng⟩
theorem PostT.s {mt : Bool} (p : PostT K mt σ F H G F1 H1 ρ1) : PostS K P σ F H G F1 H1 σ ρ1 := ⟨p.sf, p.at_, fun _ _ => rfl, p.st⟩
/-- behind a first part -/
theorem TDS.after {f : WS} {D : Ends} {D' : DE} (p : PostS K P σ F H G F1 H1 σ1 ρ1) (h : f D' ρ1)
    (k1 : ∀ F' H' σ' ρ', PostS K P σ F H G F' H' σ' ρ' → D'.nx ρ' → D.nx σ' H') (k2 : ∀ F' H' σ' ρ', PostS K P σ F H G F' H' σ' ρ' → D'.bk ρ' → D.bk σ' H')
    (k3 : ∀ F' H' σ' ρ', PostS K P σ F H G F' H' σ' ρ' → D'.ct ρ' → D.ct σ' H') (k4 : ∀ F' H' σ' ρ' v m S, PostR K P σ F H G F' H' σ' ρ' v m S → D'.rt m ρ' → D.rt v H') : TDS K P f D σ1 H1 :=
  ⟨F1, ρ1, G, D', p.st, h, fun F' H' σ' ρ' q => k1 F' H' σ' ρ' (p.trans q), fun F' H' σ' ρ' q => k2 F' H' σ' ρ' (p.trans q), fun F' H' σ' ρ' q => k3 F' H' σ' ρ' (p.trans q), fun F' H' σ' ρ' v m S q => k4 F' H' σ' ρ' v m S (p.thenR q)⟩
theorem tds_nil : ∀ D σ H, TDS K P (fun D ρ => D.nx ρ) D σ H → tNext D σ H := fun D σ H ⟨F, ρ, G, D', st, h, k1, _⟩ => k1 F H σ ρ (.refl st) h
def wSeq (f g : WS) : WS := fun D ρ => f { D with nx := g D } ρ
theorem tds_cons {f g : WS} : ∀ D σ H, TDS K P (wSeq f g) D σ H → tSeq (TDS K P f) (TDS K P g) D σ H := fun D σ H ⟨F, ρ, G, D', st, h, k1, k2, k3, k4⟩ =>
  ⟨F, ρ, G, { D' with nx := g D' }, st, h, fun F1 H1 σ1 ρ1 p h1 => TDS.after p h1 k1 k2 k3 k4, k2, k3, k4⟩
def wExpr (f : WE) : WS := fun D ρ => f ρ fun _ ρ1 => D.nx ρ1
theorem tds_expr {f : WE} {pl mt : Bool} : ∀ D σ H, TDS K P (wExpr f) D σ H → tDrop (TD K f pl mt) D σ H := fun D σ H ⟨F, ρ, G, D', st, h, k1, _⟩ =>
  ⟨F, ρ, G, _, st, h, fun F1 H1 ρ1 v m S p q => k1 F1 H1 σ ρ1 (post_tmp p).s q⟩
def wRet (f : WE) : WS := fun D ρ => f ρ fun m ρ1 => D.rt m ρ1
theorem tds_ret {f : WE} {mt : Bool} : ∀ D σ H, TDS K P (wRet f) D σ H → tRet (TD K f false mt) D σ H := fun D σ H ⟨F, ρ, G, D', st, h, _, _, _, k4⟩ =>
  ⟨F, ρ, G, _, st, h, fun F1 H1 ρ1 v m S p q => k4 F1 H1 σ ρ1 v m S ⟨p.sf, p.at_, fun _ _ => rfl, p.rm, p.st.less fun b g => g.elim .inl fun z => .inr ⟨rfl, z⟩, p.ng rfl⟩ q⟩
def wRetN : WS := fun D ρ => D.rt (.fz .non) ρ
theorem tds_retN : ∀ D σ H, TDS K P wRetN D σ H → tRetN D σ H := fun D σ H ⟨F, ρ, G, D', st, h, _, _, _, k4⟩ =>
  k4 F H σ ρ .non (.fz .non) (fun _ => False) ⟨Same.refl F, fun _ _ => rfl, fun _ _ => rfl, .of .non, st.less fun b g => g.elim id fun z => z.elim, fun _ z => z.elim⟩ h
def wBrk : WS := fun D ρ => D.bk ρ
def wCnt : WS := fun D ρ => D.ct ρ
theorem tds_brk : ∀ D σ H, TDS K P wBrk D σ H → tBreak D σ H := fun D σ H ⟨F, ρ, G, D', st, h, _, k2, _⟩ => k2 F H σ ρ (.refl st) h
theorem tds_cnt : ∀ D σ H, TDS K P wCnt D σ H → tCont D σ H := fun D σ H ⟨F, ρ, G, D', st, h, _, _, k3, _⟩ => k3 F H σ ρ (.refl st) h
def wIfS (c : WT) (f g : WS) : WS := fun D ρ => c ρ fun b ρ1 => if b = true then f D ρ1 else g D ρ1
theorem tds_if {c : WT} {f g : WS} {mt : Bool} : ∀ D σ H, TDS K P (wIfS c f g) D σ H → tIfS (TDT K c mt) (TDS K P f) (TDS K P g) D σ H := fun D σ H ⟨F, ρ, G, D', st, h, k1, k2, k3, k4⟩ => by
  refine ⟨F, ρ, G, _, st, h, fun F1 H1 ρ1 b p q => ?_⟩
  cases b with
  | true =>
    rw [if_pos rfl] at q ⊢
    exact TDS.after p.s q k1 k2 k3 k4
  | false =>
    rw [if_neg Bool.false_ne_true] at q ⊢
    exact TDS.after p.s q k1 k2 k3 k4
/-- while: an invariant with a measure -/
def wWhile (c : WT) (f : WS) : WS := fun D ρ => ∃ W : Nat → DEnv → Prop, (∃ m, W m ρ) ∧ ∀ m ρ, W m ρ → c ρ fun b ρ1 => if b = true then f { D with nx := fun ρ' => ∃ m', m' < m ∧ W m' ρ', ct := fun ρ' => ∃ m', m' < m ∧ W m' ρ', bk := D.nx } ρ1 else D.nx ρ1
theorem tds_while {c : WT} {f : WS} {mt : Bool} : ∀ D σ H, TDS K P (wWhile c f) D σ H → tWhile (TDT K c mt) (TDS K P f) D σ H := fun D σ H ⟨F, ρ, G, D', st, ⟨W, ⟨m0, w0⟩, turn⟩, k1, k2, k3, k4⟩ => by
  refine ⟨fun m σ1 H1 => ∃ F1 ρ1, PostS K P σ F H G F1 H1 σ1 ρ1 ∧ W m ρ1, ⟨m0, F, ρ, .refl st, w0⟩, fun m σ1 H1 ⟨F1, ρ1, p1, w1⟩ => ?_⟩
  refine ⟨F1, ρ1, G, _, p1.st, turn m ρ1 w1, fun F2 H2 ρ2 b p2 q => ?_⟩
  have p3 := p1.trans p2.s
  cases b with
  | true =>
    rw [if_pos rfl] at q
    refine iteT ?_
    refine ⟨fun σ' H' => ∃ m', m' < m ∧ ∃ F1 ρ1, PostS K P σ F H G F1 H' σ' ρ1 ∧ W m' ρ1, fun σ' H' ⟨m', l, x⟩ => ⟨m', l, x⟩, ?_⟩
    exact TDS.after (D := { D with nx := _, ct := _, bk := D.nx }) p3 q (fun F' H' σ' ρ' p ⟨m', l, w⟩ => ⟨m', l, F', ρ', p, w⟩) k1 (fun F' H' σ' ρ' p ⟨m', l, w⟩ => ⟨m', l, F', ρ', p, w⟩) k4
  | false =>
    rw [if_neg Bool.false_ne_true] at q
    exact iteF (k1 F2 H2 σ1 ρ2 p3 q)
end

/-! ### targets -/
abbrev WG := D → DEnv → (DEnv → Prop) → Prop
def Prot (P : Nat → Prop) (σ σ' : L2.St) : Prop := σ'.length = σ.length ∧ ∀ i, P i → σ'[i]? = σ[i]?
theorem Prot.refl {P : Nat → Prop} {σ : L2.St} : Prot P σ σ := ⟨rfl, fun _ _ => rfl⟩
theorem Prot.trans {P : Nat → Prop} {σ σ1 σ2 : L2.St} (a : Prot P σ σ1) (b : Prot P σ1 σ2) : Prot P σ σ2 := ⟨b.1.trans a.1, fun i h => (b.2 i h).trans (a.2 i h)⟩
def TDG (K : DCx) (P : Nat → Prop) (g : WG) : TG := fun v σ H Q => ∃ (F : Hp) (ρ : DEnv) (G : ASet) (d : D) (Q' : DEnv → Prop), Sta K F H σ ρ G ∧ Fz K F v d ∧ g d ρ Q' ∧
    ∀ σ' ρ', Sta K F H σ' ρ' G → Prot P σ σ' → Q' ρ' → Q σ' H
def TDGs (K : DCx) (P : Nat → Prop) (g : List D → DEnv → (DEnv → Prop) → Prop) : TGs := fun vs σ H Q => ∃ (F : Hp) (ρ : DEnv) (G : ASet) (ds : List D) (Q' : DEnv → Prop), Sta K F H σ ρ G ∧ vs.length = ds.length ∧ (∀ (k : Nat) (v : V) (d : D), vs[k]? = some v → ds[k]? = some d → Fz K F v d) ∧ g ds ρ Q' ∧
    ∀ σ' ρ', Sta K F H σ' ρ' G → Prot P σ σ' → Q' ρ' → Q σ' H
abbrev DT (X : Cx) (P : Nat → Prop) (tg : Expr) (g : WG) : Prop := PG X tg (TDG (dcx X) P g)
abbrev DTs (X : Cx) (P : Nat → Prop) (tgs : List Expr) (g : List D → DEnv → (DEnv → Prop) → Prop) : Prop := PGs X tgs (TDGs (dcx X) P g)
theorem PG.imp {X : Cx} {e : Expr} {t t' : TG} (h : PG X e t) (i : ∀ v σ H Q, t' v σ H Q → t v σ H Q) : PG X e t' := ⟨fun p s σ H v u Q I r w => h.run p s σ H v u Q I r (i _ _ _ _ w)⟩
theorem PGs.imp {X : Cx} {e : List Expr} {t t' : TGs} (h : PGs X e t) (i : ∀ v σ H Q, t' v σ H Q → t v σ H Q) : PGs X e t' := ⟨fun p s σ H v u Q I r w => h.run p s σ H v u Q I r (i _ _ _ _ w)⟩
def gN (i : Nat) : WG := fun d ρ Q => i < ρ.length ∧ Q (ρ.set i (some (.fz d)))
def gT (n : Nat) (g : List D → DEnv → (DEnv → Prop) → Prop) : WG := fun d ρ Q => ∃ ds, d = .tup ds ∧ ds.length = n ∧ g ds ρ Q
def gNil' : List D → DEnv → (DEnv → Prop) → Prop := fun ds ρ Q => ds = [] ∧ Q ρ
def gCons' (g : WG) (r : List D → DEnv → (DEnv → Prop) → Prop) : List D → DEnv → (DEnv → Prop) → Prop := fun ds ρ Q => ∃ d es, ds = d :: es ∧ g d ρ fun ρ1 => r es ρ1 Q
section
variable {X : Cx} {P : Nat → Prop} {pos : Pos}
theorem Sta.putF {K : DCx} {F H : Hp} {σ : L2.St} {ρ : DEnv} {G : ASet} (st : Sta K F H σ ρ G) {i : Nat} (hi : i < ρ.length) {v : V} {d : D} (f : Fz K F v d) : Sta K F H (σ.set i (some v)) (ρ.set i (some (.fz d))) G :=
  st.put hi (.of f) (fun _ z => z.elim) fun b g => ⟨g, fun z => z⟩
theorem dt_name {i : Nat} {x : Str} (hp : ¬ P i) (hN : X.N.Nodup) (hi : X.N[i]? = some x) (hx : Loc X.env.scope x) (hf : X.fn x = true ∨ X.env.scope.names.lookup x = some .local := by first | exact .inl rfl | exact .inr rfl | assumption) : DT X P (.Name x pos) (gN i) :=
  PG.imp (pg_name hN hi hx hf) fun v σ H Q ⟨F, ρ, G, d, Q', st, f, ⟨h1, h2⟩, k⟩ => k _ _ (st.putF h1 f) ⟨List.length_set, fun j hj => by
    rw [List.getElem?_set_ne]
    intro e
    exact hp (e ▸ hj)⟩ h2
theorem dts_nil : DTs X P [] gNil' := PGs.imp pgs_nil fun vs σ H Q ⟨F, ρ, G, ds, Q', st, hl, f, ⟨e, h⟩, k⟩ => by
  subst e
  exact ⟨List.eq_nil_of_length_eq_zero hl, k σ ρ st .refl h⟩
theorem dts_cons {e : Expr} {es : List Expr} {g : WG} {r : List D → DEnv → (DEnv → Prop) → Prop} (h1 : DT X P e g) (h2 : DTs X P es r)
    (ha : (assignEach (e :: es) X.env).map (·.2) = assign e X.env :: (assignEach es X.env).map (·.2) := by rfl) : DTs X P (e :: es) (gCons' g r) :=
  PGs.imp (pgs_cons h1 h2 ha) fun vs σ H Q ⟨F, ρ, G, ds, Q', st, hl, f, ⟨d, es', e, h⟩, k⟩ => by
    subst e
    cases vs with
    | nil => cases hl
    | cons v vs =>
      refine ⟨v, vs, rfl, F, ρ, G, d, _, st, f 0 v d rfl rfl, h, fun σ1 ρ1 st1 pr1 q1 => ?_⟩
      exact ⟨F, ρ1, G, es', _, st1, by simpa using hl, fun j w e x y => f (j + 1) w e (by simpa using x) (by simpa using y), q1, fun σ2 ρ2 st2 pr2 q2 => k σ2 ρ2 st2 (pr1.trans pr2) q2⟩
theorem dt_tup {es : List Expr} {k : Nat} {g : List D → DEnv → (DEnv → Prop) → Prop} {n : Nat} (hc : X.calm = true) (h : DTs X P es g) (hn : (assignEach es X.env).length = n := by rfl) (hst : (assignEach es X.env).findIdx? (·.1) = none := by rfl) : DT X P (.Tuple es k pos) (gT n g) :=
  PG.imp (pg_tup hc h hn hst) fun v σ H Q ⟨F, ρ, G, d, Q', st, f, ⟨ds, e, hl, q⟩, k⟩ => by
    subst e
    obtain ⟨a, vs, rfl, h1, _, h2, h3⟩ := (Fz.vd (H := H) f).tup st.le
    exact ⟨a, vs, rfl, h1, h2.trans hl, F, ρ, G, ds, Q', st, h2, h3, q, k⟩
end

/-! ### assignments -/
def wAsg (i : Nat) (f : WE) : WS := fun D ρ => f ρ fun m ρ1 => i < ρ1.length ∧ D.nx (ρ1.set i (some m))
/-- a, b = e -/
def wAsgT (f : WE) (g : WG) : WS := fun D ρ => f ρ fun m ρ1 => g m.toD ρ1 D.nx
section
variable {K : DCx} {P : Nat → Prop}
theorem post_put {mt : Bool} {σ : L2.St} {F H F1 H1 : Hp} {G : ASet} {ρ1 : DEnv} {v : V} {m : MV} {S : ASet} {i : Nat} (hp : ¬ P i) (hi : i < ρ1.length) (p : PostE K false mt σ F H G F1 H1 ρ1 v m S) : PostS K P σ F H G F1 H1 (σ.set i (some v)) (ρ1.set i (some m)) :=
  ⟨p.sf, p.at_, fun j hj => by
    rw [List.getElem?_set_ne]
    intro e
    exact hp (e ▸ hj), p.st.put hi p.rm (fun b s => .inr ⟨rfl, s⟩) fun b g => ⟨.inl g, fun s => p.ng rfl b s g⟩⟩
theorem tds_asg {i : Nat} {f : WE} {mt : Bool} (hp : ¬ P i) : ∀ D σ H, TDS K P (wAsg i f) D σ H → tAsg (TD K f false mt) (gName i) D σ H := fun D σ H ⟨F, ρ, G, D', st, h, k1, _⟩ =>
  ⟨F, ρ, G, _, st, h, fun F1 H1 ρ1 v m S p ⟨hi, q⟩ => k1 F1 H1 _ _ (post_put hp hi p) q⟩
end
section
variable {X : Cx} {P : Nat → Prop} {pos pos' : Pos}
theorem ds_asg {i : Nat} {x : Str} {e : Expr} {f : WE} {mt : Bool} (hp : ¬ P i) (hN : X.N.Nodup) (hi : X.N[i]? = some x) (hx : Loc X.env.scope x) (he : PE X e (TD (dcx X) f false mt)) (hs : swapsWith e (some (.Name x pos')) pos.line X.env = pure false := by rfl)
    (hf : X.fn x = true ∨ X.env.scope.names.lookup x = some .local := by first | exact .inl rfl | exact .inr rfl | assumption) : PS X (.Assign [.Name x pos'] e pos) (TDS (dcx X) P (wAsg i f)) :=
  PS.imp (ps_set hN hi hx he hs hf) (tds_asg hp)
theorem ds_asgT {tg e : Expr} {f : WE} {g : WG} {mt : Bool} (he : PE X e (TD (dcx X) f false mt)) (hg : DT X P tg g) (hs : swapsWithSole [tg] e pos.line X.env = pure false := by rfl) (hw : swappedStores [tg] e X.env = pure none := by rfl) (h1 : (assignEach [tg] X.env).map (·.2) = [assign tg X.env] := by rfl) :
    PS X (.Assign [tg] e pos) (TDS (dcx X) P (wAsgT f g)) := by
  refine PS.imp (ps_asg he hg hs hw h1) fun D σ H ⟨F, ρ, G, D', st, h, k1, _⟩ => ?_
  refine ⟨F, ρ, G, _, st, h, fun F1 H1 ρ1 v m S p q => ?_⟩
  obtain ⟨F2, sf2, ff, st2, fe⟩ := p.st.freezeT (T := S) (G' := G) (fun b t => .inr ⟨rfl, t⟩) fun b g => ⟨.inl g, fun s => p.ng rfl b s g⟩
  exact ⟨F2, ρ1, G, m.toD, _, st2, p.rm.freeze sf2 ff, q, fun σ' ρ' st3 pr q2 => k1 F2 H1 σ' ρ' ⟨p.sf.trans sf2, p.at_, pr.2, st3⟩ q2⟩
end

/-! ### what is walked -/
/-- an iterator yields these items, each of data that never changes -/
structure Yields (K : DCx) (J : It) (items : List D) (F0 : Hp) : Prop where
  stop : ∀ F H, Same F0 F → Same F H → J.stop items.length H
  item : ∀ (i : Nat) (d : D) (F H : Hp), Same F0 F → Same F H → items[i]? = some d → J.go i H ∧ ∀ x H', J.yld i H x H' → ∃ F', Same F F' ∧ Same H H' ∧ Same F' H' ∧ (∀ b, F b = none → (∃ o, H b = some o) → F' b = none) ∧ Fz K F' x d
def TDI (K : DCx) (f : DEnv → (List D → DEnv → Prop) → Prop) (mt : Bool) : TI := fun σ H R => ∃ (F : Hp) (ρ : DEnv) (G : ASet) (Q' : List D → DEnv → Prop), Sta K F H σ ρ G ∧ f ρ Q' ∧
    ∀ F' H' ρ' ds J, PostT K mt σ F H G F' H' ρ' → Yields K J ds F' → Q' ds ρ' → R J H'
abbrev DI (X : Cx) (tg e : Expr) (f : DEnv → (List D → DEnv → Prop) → Prop) (mt : Bool) : Prop := PI X tg e (TDI (dcx X) f mt)
theorem PI.imp {X : Cx} {tg e : Expr} {t t' : TI} (h : PI X tg e t) (i : ∀ σ H Q, t' σ H Q → t σ H Q) : PI X tg e t' := ⟨fun p s σ H Q I w => h.run p s σ H Q I (i _ _ _ w)⟩
theorem PI.or {X : Cx} {tg e : Expr} {t u : TI} (h : PI X tg e t) (h' : PI X tg e u) : PI X tg e fun σ H R => t σ H R ∨ u σ H R :=
  ⟨fun p s σ H R I w => w.elim (h.run p s σ H R I) (h'.run p s σ H R I)⟩
section
variable {K : DCx} {F F' H : Hp} {a : Addr} {vs : List V} {ds : List D}
theorem yields_seq {J : It} (hl : vs.length = ds.length) (hf : ∀ (k : Nat) (w : V) (d : D), vs[k]? = some w → ds[k]? = some d → Fz K F w d)
    (hs : ∀ H, Same F H → J.stop vs.length H) (hg : ∀ (i : Nat) (v : V) H, Same F H → vs[i]? = some v → J.go i H ∧ ∀ x H', J.yld i H x H' → H' = H ∧ x = v) : Yields K J ds F where
  stop := fun F1 H sf le => hl ▸ hs H (sf.trans le)
  item := fun i d F1 H sf le e => by
    have hi : i < vs.length := by rw [hl]; exact (List.getElem?_eq_some_iff.mp e).1
    obtain ⟨g, y⟩ := hg i vs[i] H (sf.trans le) (List.getElem?_eq_getElem hi)
    refine ⟨g, fun x H' hy => ?_⟩
    obtain ⟨rfl, rfl⟩ := y x H' hy
    exact ⟨F1, Same.refl F1, Same.refl _, le, fun _ e _ => e, (hf i _ d (List.getElem?_eq_getElem hi) e).mono sf⟩
theorem yields_list (e : SqL K.K F a vs) (hl : vs.length = ds.length) (hf : ∀ (k : Nat) (w : V) (d : D), vs[k]? = some w → ds[k]? = some d → Fz K F w d) : Yields K (Itl K.K a) ds F :=
  yields_seq hl hf (fun H le => ⟨vs, le.seq e, Nat.le_refl _⟩) fun i v H le ev => ⟨⟨vs, v, le.seq e, ev⟩, fun x H' ⟨h1, h2⟩ => ⟨h1, Option.some.inj ((h2 vs (le.seq e)).symm.trans ev)⟩⟩
theorem yields_tup (e : SqT K.K F a vs) (hl : vs.length = ds.length) (hf : ∀ (k : Nat) (w : V) (d : D), vs[k]? = some w → ds[k]? = some d → Fz K F w d) : Yields K (Itt K.K a) ds F :=
  yields_seq hl hf (fun H le => ⟨vs, DL.Same.sqT le e, Nat.le_refl _⟩) fun i v H le ev => ⟨⟨vs, v, DL.Same.sqT le e, ev⟩, fun x H' ⟨h1, h2⟩ => ⟨h1, Option.some.inj ((h2 vs (DL.Same.sqT le e)).symm.trans ev)⟩⟩
theorem yields_str (x : Str) : Yields K (Its x) (chars x) F :=
  yields_seq (vs := signs x) (by unfold signs chars; rw [List.length_map, List.length_map]) (items_chars x) (fun H le => by unfold signs; rw [List.length_map]; exact Nat.le_of_eq (by simp)) fun i v H le ev => by
    unfold signs at ev
    rw [List.getElem?_map] at ev
    obtain ⟨c, e1, rfl⟩ := Option.map_eq_some_iff.mp ev
    refine ⟨?_, fun y H' ⟨h1, c', h2, h3⟩ => ⟨h1, ?_⟩⟩
    · have := (List.getElem?_eq_some_iff.mp e1).1
      show i < x.cps.size
      simpa using this
    · have : x.cps.toList[i]? = some c' := by simpa using h2
      rw [e1] at this
      cases this
      exact h3
theorem yields_range (lo : Int) (n : Nat) : Yields K (Itr lo n) ((List.range n).map fun k => .int (lo + (k : Nat))) F where
  stop := fun F1 H sf le => by
    show n ≤ _
    rw [List.length_map, List.length_range]
    exact Nat.le_refl _
  item := fun i d F1 H sf le e => by
    rw [List.getElem?_map] at e
    obtain ⟨k, e1, rfl⟩ := Option.map_eq_some_iff.mp e
    obtain ⟨h1, h2⟩ := List.getElem?_eq_some_iff.mp e1
    rw [List.length_range] at h1
    rw [List.getElem_range] at h2
    subst h2
    refine ⟨h1, fun x H' ⟨h3, h4⟩ => ?_⟩
    subst h3 h4
    exact ⟨F1, Same.refl F1, Same.refl _, le, fun _ e _ => e, .int _⟩
end
/-- the items of data -/
def dItems : D → Option (List D)
  | .lst ds => some ds
  | .tup ds => some ds
  | .str x => some (chars x)
  | .scr ns => some (ns.map .int)
  | _ => none
def wIt (f : WE) : DEnv → (List D → DEnv → Prop) → Prop := fun ρ Q => f ρ fun m ρ1 => ∃ ds, dItems m.toD = some ds ∧ Q ds ρ1
/-- range(a), range(a, b) -/
def wRg1 (f : WE) : DEnv → (List D → DEnv → Prop) → Prop := fun ρ Q => f ρ fun m ρ1 => ∃ j : Int, m = .fz (.int j) ∧ -(2 ^ 62) ≤ j ∧ j < 2 ^ 62 ∧ Q ((List.range j.toNat).map fun k => .int (k : Nat)) ρ1
def wRg2 (f g : WE) : DEnv → (List D → DEnv → Prop) → Prop := fun ρ Q => f ρ fun m ρ1 => g ρ1 fun n ρ2 => ∃ i j : Int, m = .fz (.int i) ∧ n = .fz (.int j) ∧ (-(2 ^ 62) ≤ i ∧ i < 2 ^ 62 ∧ -(2 ^ 62) ≤ j ∧ j < 2 ^ 62) ∧ Q ((List.range (j - i).toNat).map fun k => .int (i + (k : Nat))) ρ2
def rIter (K : PySem.W.Frag) : V → Hp → (It → Hp → Prop) → Prop := fun x H R => (∃ a, x = .ref a ∧ (∃ xs, SqL K H a xs) ∧ R (Itl K a) H) ∨ ((∃ a, x = .ref a ∧ (∃ xs, SqT K H a xs) ∧ R (Itt K a) H) ∨ ∃ z, x = .str z ∧ R (Its z) H)
theorem pi_any {X : Cx} {tg e : Expr} {te : TE} (he : PE X e te) : PI X tg e fun σ H R => te σ H fun x H1 => rIter X.K x H1 R := by
  refine ⟨fun pins s σ H R I h => ?_⟩
  refine thn (he.run pins s σ H _ I h) fun v s1 ⟨x, H1, I1, r1, q1⟩ => ?_
  rcases q1 with ⟨a, e, ⟨xs, hq⟩, q⟩ | ⟨a, e, ⟨xs, hq⟩, q⟩ | ⟨z, e, q⟩
  · subst e
    cases r1
    obtain ⟨its, rv, p, hz⟩ := I1.list hq
    refine wpAny_pyIter_list p.isList ?_
    refine ⟨s1.heap.objs.size, [s1.heap.objs.size], _, _, H1, rfl, I1.kept (t' := s1.toks) fun b o e => Heap.get?_push_of_some _ e, turn_list a _, ⟨_, Heap.get?_push_size _ rfl, rfl, rfl⟩, fun b hb => ?_, q⟩
    have e : b = s1.heap.objs.size := by simpa using hb
    subst e
    exact I1.fpOk (Nat.le_refl _) (I1.hok.fresh (Nat.le_refl _))
  · subst e
    cases r1
    obtain ⟨its, rv, p, hz⟩ := I1.tuple hq
    refine wpAny_pyIter_tuple (show s1.heap.IsTuple a its.toArray from p) ?_
    refine ⟨s1.heap.objs.size, [s1.heap.objs.size], _, _, H1, rfl, I1.kept (t' := s1.toks) fun b o e => Heap.get?_push_of_some _ e, turn_tuple a _, ⟨_, Heap.get?_push_size _ rfl, rfl, rfl⟩, fun b hb => ?_, q⟩
    have e : b = s1.heap.objs.size := by simpa using hb
    subst e
    exact I1.fpOk (Nat.le_refl _) (I1.hok.fresh (Nat.le_refl _))
  · subst e
    obtain ⟨t, rfl⟩ := r1
    cases ha : z.cps.all (· < 128)
    · exact wpAny_pyIter_wide ha (pi_one (tk := s1.toks) I1 _ (turn_str _ z t "str_iterator" (.inr rfl)) ⟨_, Heap.get?_push_size _ rfl, rfl, rfl⟩ q)
    · exact wpAny_pyIter_ascii ha (pi_one (tk := s1.toks) I1 _ (turn_str _ z t "str_ascii_iterator" (.inl rfl)) ⟨_, Heap.get?_push_size _ rfl, rfl, rfl⟩ q)
section
variable {X : Cx} {tg e e2 : Expr} {f g : WE} {p1 p2 m1 m2 : Bool} {p pos : Pos}
theorem iter_read {K : DCx} {F H : Hp} {v : V} {d : D} {ds : List D} {R : It → Hp → Prop} (le : Same F H) (f : Fz K F v d) (e : dItems d = some ds) (k : ∀ J, Yields K J ds F → R J H) : rIter K.K v H R := by
  unfold dItems at e
  split at e
  · cases e
    cases f with
    | lst h1 h2 h3 => exact .inl ⟨_, rfl, ⟨_, .of (le _ _ h1)⟩, k _ (yields_list (.of h1) h2 h3)⟩
  · cases e
    cases f with
    | tup h1 h2 h3 => exact .inr (.inl ⟨_, rfl, ⟨_, DL.Same.sqT le h1⟩, k _ (yields_tup h1 h2 h3)⟩)
  · cases e
    cases f
    exact .inr (.inr ⟨_, rfl, k _ (yields_str _)⟩)
  · cases e
    cases f with
    | scr h1 => exact .inl ⟨_, rfl, ⟨_, le.seq h1⟩, k _ (yields_list h1 (by rw [List.length_map, List.length_map]) fun i w d e1 e2 => by
        rw [List.getElem?_map] at e1 e2
        obtain ⟨n, e3, rfl⟩ := Option.map_eq_some_iff.mp e1
        rw [e3] at e2
        cases e2
        exact .int n)⟩
  · cases e
theorem di_of (he : PE X e (TD (dcx X) f false m1)) : DI X tg e (wIt f) m1 := by
  refine PI.imp (pi_any he) fun σ H R ⟨F, ρ, G, Q', st, h, k⟩ => ?_
  refine ⟨F, ρ, G, _, st, h, fun F1 H1 ρ1 v m S p ⟨ds, e1, q⟩ => ?_⟩
  obtain ⟨F2, sf2, ff, st2, fe⟩ := p.st.freezeT (T := S) (G' := G) (fun b t => .inr ⟨rfl, t⟩) fun b g => ⟨.inl g, fun s => p.ng rfl b s g⟩
  exact iter_read (K := dcx X) st2.le (p.rm.freeze sf2 ff) e1 fun J y => k F2 H1 ρ1 ds J ⟨p.sf.trans sf2, p.at_, p.qt, st2⟩ y q
theorem di_rg1 (hg : Gl X "range") (hm : X.mg "range" = none) (he : PE X e (TD (dcx X) f p1 m1)) (h1 : starEach [e] X.env = [(false, eval e X.env)] := by rfl) : DI X tg (.Call (.Name "range" p) [e] [] pos) (wRg1 f) m1 := by
  refine PI.imp (pi_range1 hg hm (pa_cons he pa_nil h1) h1) fun σ H R ⟨F, ρ, G, Q', st, h, k⟩ => ?_
  refine ⟨F, ρ, G, _, st, h, fun F1 H1 ρ1 v m S p ⟨j, e1, h2, h3, q⟩ => ?_⟩
  subst e1
  have := p.rm.fzv.1
  cases this
  refine ⟨j, rfl, h2, h3, k F1 H1 ρ1 _ _ (post_tmp p) ?_ q⟩
  have := yields_range (K := dcx X) (F := F1) 0 j.toNat
  simpa using this
theorem di_rg2 (hg : Gl X "range") (hm : X.mg "range" = none) (he : PE X e (TD (dcx X) f p1 m1)) (he2 : PE X e2 (TD (dcx X) g p2 m2)) (h1 : starEach [e, e2] X.env = [(false, eval e X.env), (false, eval e2 X.env)] := by rfl) (h2 : starEach [e2] X.env = [(false, eval e2 X.env)] := by rfl) :
    DI X tg (.Call (.Name "range" p) [e, e2] [] pos) (wRg2 f g) (m1 || m2) := by
  refine PI.imp (pi_range2 hg hm (pa_cons he (pa_cons he2 pa_nil h2) (by rw [h1, h2])) h1 h2) fun σ H R ⟨F, ρ, G, Q', st, h, k⟩ => ?_
  refine ⟨F, ρ, G, _, st, h, fun F1 H1 ρ1 v m S p q1 => ?_⟩
  refine ⟨F1, ρ1, G, _, (post_tmp p).st, q1, fun F2 H2 ρ2 u n T p' ⟨i, j, e1, e2, hb, q⟩ => ?_⟩
  subst e1 e2
  have a1 := p.rm.fzv.1
  cases a1
  have a2 := p'.rm.fzv.1
  cases a2
  exact ⟨i, j, rfl, hb, k F2 H2 ρ2 _ _ ((post_tmp p).trans (post_tmp p')) (yields_range i _) q⟩
end

/-! ### for -/
def wForB (g : WG) (f : WS) (E : DE) : List D → DEnv → Prop
  | [], ρ => E.nx ρ
  | d :: ds, ρ => g d ρ fun ρ1 => f { E with nx := wForB g f E ds, ct := wForB g f E ds, bk := E.nx } ρ1
def wFor (it : DEnv → (List D → DEnv → Prop) → Prop) (g : WG) (f : WS) : WS := fun D ρ => it ρ fun ds ρ1 => wForB g f D ds ρ1
section
variable {X : Cx} {P : Nat → Prop} {tg iter : Expr} {body : List Stmt} {f : WS} {g : WG} {it : DEnv → (List D → DEnv → Prop) → Prop} {mt : Bool} {pos : Pos}
theorem ds_for (hp : PassesOwn (model X.prog X.w) X.A X.env X.xe) (hc : X.calm = true) (hi : DI X tg iter it mt) (hg : DT X P tg g) (hb : PSs X body (TDS (dcx X) P f)) (hs : ∀ x, foldedSetIterable iter X.env x = pure x := by intro _; rfl) :
    PS X (.For tg iter body [] pos) (TDS (dcx X) P (wFor it g f)) := by
  refine PS.imp (ps_for hp hc hi hg hb hs) fun D σ H ⟨F, ρ, G, D', st, h, k1, k2, k3, k4⟩ => ?_
  refine ⟨F, ρ, G, _, st, h, fun F0 H0 ρ0 ds J p0 ys q0 => ?_⟩
  refine ⟨fun i m σ1 H1 => m + i = ds.length ∧ ∃ F1 ρ1, Same F0 F1 ∧ PostS (dcx X) P σ F H G F1 H1 σ1 ρ1 ∧ wForB g f D' (ds.drop i) ρ1, ⟨ds.length, rfl, F0, ρ0, Same.refl _, p0.s, q0⟩, fun i m σ1 H1 ⟨em, F1, ρ1, sf, p1, w1⟩ => ?_⟩
  by_cases hi : i < ds.length
  · rw [List.drop_eq_getElem_cons hi] at w1
    obtain ⟨go, yl⟩ := ys.item i ds[i] F1 H1 sf p1.st.le (List.getElem?_eq_getElem hi)
    refine .inr ⟨go, fun σ' H' => ∃ m', m' < m ∧ (m' + (i + 1) = ds.length ∧ ∃ F1 ρ1, Same F0 F1 ∧ PostS (dcx X) P σ F H G F1 H' σ' ρ1 ∧ wForB g f D' (ds.drop (i + 1)) ρ1), fun σ' H' x => x, fun x H2 hy => ?_⟩
    obtain ⟨F2, sf2, sh2, le2, new2, fz⟩ := yl x H2 hy
    have st2 : Sta (dcx X) F2 H2 σ1 ρ1 G := p1.st.grow sf2 sh2 le2 new2 (fun b g n => absurd g n) fun b g => by
      obtain ⟨f0, o, e⟩ := p1.st.fr b g
      exact ⟨new2 b f0 ⟨o, e⟩, o, sh2 b o e⟩
    have p2 : PostS (dcx X) P σ F H G F2 H2 σ1 ρ1 := ⟨p1.sf.trans sf2, fun b g => by
      obtain ⟨_, o, e⟩ := p1.st.fr b g
      rw [sh2 b o e, ← e, p1.at_ b g], p1.pr, st2⟩
    refine ⟨F2, ρ1, G, ds[i], _, st2, fz, w1, fun σ3 ρ3 st3 pr3 w3 => ?_⟩
    have p3 : PostS (dcx X) P σ F H G F2 H2 σ3 ρ3 := p2.trans ⟨Same.refl _, fun _ _ => rfl, pr3.2, st3⟩
    refine ⟨F2, ρ3, G, _, st3, w3, fun F4 H4 σ4 ρ4 p4 w4 => ?_, fun F4 H4 σ4 ρ4 p4 w4 => ?_, fun F4 H4 σ4 ρ4 p4 w4 => ?_, fun F4 H4 σ4 ρ4 v n S p4 w4 => k4 F4 H4 σ4 ρ4 v n S (p3.thenR p4) w4⟩
    · exact ⟨m - 1, by omega, by omega, F4, ρ4, (sf.trans sf2).trans p4.sf, p3.trans p4, w4⟩
    · exact k1 F4 H4 σ4 ρ4 (p3.trans p4) w4
    · exact ⟨m - 1, by omega, by omega, F4, ρ4, (sf.trans sf2).trans p4.sf, p3.trans p4, w4⟩
  · have e : i = ds.length := by omega
    subst e
    rw [List.drop_length] at w1
    exact .inl ⟨ys.stop F1 H1 sf p1.st.le, k1 F1 H1 σ1 ρ1 p1 w1⟩
end
end DL

/-! DL11: list comprehensions. -/
namespace DL
open PySem PySem.Spec PyProof.Rows L2

def wipeD (ρ : DEnv) : List Nat → DEnv
  | [] => ρ
  | v :: vs => (wipeD ρ vs).set v none
def restD (ρ0 ρ : DEnv) : List Nat → DEnv
  | [] => ρ
  | v :: vs => (restD ρ0 ρ vs).set v ((ρ0[v]?).getD none)
def frzAt (ρ : DEnv) (vs : List Nat) : Bool := vs.all fun v => match ρ[v]? with
  | some (some m) => !m.isOwn
  | _ => true
theorem wipeD_len (ρ : DEnv) : ∀ vs, (wipeD ρ vs).length = ρ.length
  | [] => rfl
  | v :: vs => by rw [wipeD, List.length_set, wipeD_len ρ vs]
theorem restD_len (ρ0 ρ : DEnv) : ∀ vs, (restD ρ0 ρ vs).length = ρ.length
  | [] => rfl
  | v :: vs => by rw [restD, List.length_set, restD_len ρ0 ρ vs]
theorem wipeD_out (ρ : DEnv) {i : Nat} : ∀ {vs : List Nat}, i ∉ vs → (wipeD ρ vs)[i]? = ρ[i]?
  | [], _ => rfl
  | v :: vs, h => by
    rw [wipeD, List.getElem?_set_ne (fun e => h (by simp [e])), wipeD_out ρ fun z => h (by simp [z])]
theorem restD_out (ρ0 ρ : DEnv) {i : Nat} : ∀ {vs : List Nat}, i ∉ vs → (restD ρ0 ρ vs)[i]? = ρ[i]?
  | [], _ => rfl
  | v :: vs, h => by
    rw [restD, List.getElem?_set_ne (fun e => h (by simp [e])), restD_out ρ0 ρ fun z => h (by simp [z])]
theorem restD_in (ρ0 ρ : DEnv) {i : Nat} (hi : i < ρ.length) : ∀ {vs : List Nat}, i ∈ vs → (restD ρ0 ρ vs)[i]? = some ((ρ0[i]?).getD none)
  | [], h => by simp at h
  | v :: vs, h => by
    rw [restD]
    by_cases e : v = i
    · subst e
      rw [List.getElem?_set_self (by rw [restD_len]; exact hi)]
    · rw [List.getElem?_set_ne e]
      exact restD_in ρ0 ρ hi (by simpa [Ne.symm e] using h)
theorem wipe_out (σ : L2.St) {i : Nat} : ∀ {vs : List Nat}, i ∉ vs → (wipe σ vs)[i]? = σ[i]?
  | [], _ => rfl
  | v :: vs, h => by
    rw [wipe, List.getElem?_set_ne (fun e => h (by simp [e])), wipe_out σ fun z => h (by simp [z])]
theorem wipe_in (σ : L2.St) {i : Nat} (hi : i < σ.length) : ∀ {vs : List Nat}, i ∈ vs → (wipe σ vs)[i]? = some none
  | [], h => by simp at h
  | v :: vs, h => by
    rw [wipe]
    by_cases e : v = i
    · subst e
      rw [List.getElem?_set_self (by rw [wipe_length]; exact hi)]
    · rw [List.getElem?_set_ne e]
      exact wipe_in σ hi (by simpa [Ne.symm e] using h)
theorem wipe_eq {σ σ' : L2.St} {vs : List Nat} (h : Prot (fun i => i ∉ vs) (wipe σ vs) σ') : wipe σ' vs = wipe σ vs := by
  apply List.ext_getElem?
  intro i
  obtain ⟨h1, h2⟩ := h
  rw [wipe_length] at h1
  by_cases hi : i ∈ vs
  · by_cases hl : i < σ.length
    · rw [wipe_in σ' (by omega) hi, wipe_in σ hl hi]
    · rw [List.getElem?_eq_none (by rw [wipe_length]; omega), List.getElem?_eq_none (by rw [wipe_length]; omega)]
  · rw [wipe_out σ' hi]
    exact h2 i hi
section
variable {K : DCx} {F F1 H H1 : Hp} {σ σ' : L2.St} {ρ ρ0 ρ1 : DEnv} {G G' : ASet}
theorem Sta.wipe (s : Sta K F H σ ρ G) (vs : List Nat) : Sta K F H (L2.wipe σ vs) (wipeD ρ vs) G := by
  induction vs with
  | nil => exact s
  | cons v vs ih =>
    rw [L2.wipe, wipeD]
    exact ih.drop v _ List.length_set fun j hj => List.getElem?_set_ne (Ne.symm hj)
theorem Sta.rest {vs : List Nat} (s0 : Sta K F H σ ρ0 G') (fr : frzAt ρ0 vs = true) (sf : Same F F1) (s : Sta K F1 H1 (L2.wipe σ vs) (wipeD ρ1 vs) G) : Sta K F1 H1 σ (restD ρ0 ρ1 vs) G := by
  obtain ⟨S, o⟩ := s.own
  obtain ⟨S0, o0⟩ := s0.own
  have hl : σ.length = ρ1.length := by
    have := s.len
    rw [wipe_length, wipeD_len] at this
    exact this
  refine ⟨s.le, by rw [restD_len]; exact hl, ⟨fun i b => i ∉ vs ∧ S i b, fun i m e => ?_, fun i h b hb => ?_, fun i j b h1 h2 => o.dis i j b h1.2 h2.2, fun i b hb => o.out i b hb.2⟩, s.fr⟩
  · by_cases hi : i ∈ vs
    · have hlt : i < ρ1.length := by
        have := (List.getElem?_eq_some_iff.mp e).1
        rwa [restD_len] at this
      rw [restD_in ρ0 ρ1 hlt hi] at e
      have e0 : ρ0[i]? = some (some m) := by
        cases q : ρ0[i]? with
        | none => rw [q] at e; simp at e
        | some x => rw [q] at e; simp at e; rw [e]
      obtain ⟨v, e1, r⟩ := o0.rep i m e0
      have no : m.isOwn = false := by
        have := List.all_eq_true.mp fr i hi
        rw [e0] at this
        simpa using this
      refine ⟨v, e1, ?_⟩
      have f := r.fz_of no
      cases m with
      | fz d => exact .fz (Fz.mono sf f) fun b z => z.1 hi
      | ol => cases no
      | od => cases no
    · rw [restD_out ρ0 ρ1 hi] at e
      obtain ⟨v, e1, r⟩ := o.rep i m (by rw [wipeD_out ρ1 hi]; exact e)
      rw [wipe_out σ hi] at e1
      refine ⟨v, e1, ?_⟩
      have : (fun b => i ∉ vs ∧ S i b) = S i := funext fun b => propext ⟨fun z => z.2, fun z => ⟨hi, z⟩⟩
      rw [this]
      exact r
  · refine o.emp i (fun m e => ?_) b hb.2
    rw [wipeD_out ρ1 hb.1] at e
    exact h m (by rw [restD_out ρ0 ρ1 hb.1]; exact e)
/-- something of the others' changes -/
theorem Sta.setG (s : Sta K F H σ ρ G) {a : Addr} {o o' : HO} (ha : G a) (e : H a = some o) : Sta K F (upd H a o') σ ρ G := by
  have hf := (s.fr a ha).1
  obtain ⟨S, ow⟩ := s.own
  refine ⟨fun b x e => ?_, s.len, ⟨S, fun i m e => ?_, ow.emp, ow.dis, ow.out⟩, fun b g => ?_⟩
  · rw [upd_ne (ne_of_none e hf)]
    exact s.le b x e
  · obtain ⟨v, e1, r⟩ := ow.rep i m e
    refine ⟨v, e1, r.mono (Same.refl F) fun b x hb e => ?_⟩
    rw [upd_ne (show b ≠ a from fun z => (ow.out i b hb).2 (z ▸ ha))]
    exact e
  · by_cases hb : b = a
    · subst hb
      exact ⟨hf, o', upd_same⟩
    · rw [upd_ne hb]
      exact s.fr b g
/-- one more item -/
theorem RM.push {A : Addr} {acc : List MV} {T : ASet} (h : RM K F H (.ref A) (.ol acc) T) {y : V} {m : MV} {S : ASet} (hy : RM K F H y m S) (ds : ∀ b, S b → ¬ T b) :
    ∃ vs, H A = some (.lst vs) ∧ vs.length = acc.length ∧ RM K F (upd H A (.lst (vs ++ [y]))) (.ref A) (.ol (acc ++ [m])) (fun b => T b ∨ S b) := by
  cases h with
  | @ol a vs xs S' C h1 h2 h3 h4 h5 h6 =>
    refine ⟨vs, h1, h2, ?_⟩
    have hA : T A := (h6 A).mpr (.inl rfl)
    have ch : ∀ k, k < acc.length → ∀ b, C k b → T b := fun k hk b hb => (h6 b).mpr (.inr ⟨k, hk, hb⟩)
    refine .ol (fun k b => (k < acc.length ∧ C k b) ∨ (k = acc.length ∧ S b)) upd_same (by simp [h2]) (fun k v x e1 e2 => ?_) (fun i j b hi hj => ?_) (fun i hi => ?_) fun b => ⟨fun hb => ?_, fun hb => ?_⟩
    · by_cases hk : k < acc.length
      · rw [List.getElem?_append_left (by omega)] at e1
        rw [List.getElem?_append_left hk] at e2
        have eq : (fun b => (k < acc.length ∧ C k b) ∨ (k = acc.length ∧ S b)) = C k := funext fun b => propext ⟨fun z => z.elim (·.2) fun z => absurd z.1 (by omega), fun z => .inl ⟨hk, z⟩⟩
        rw [eq]
        refine (h3 k v x e1 e2).mono (Same.refl F) fun b o hb e => ?_
        rw [upd_ne (show b ≠ A from fun z => h5 k (z ▸ hb))]
        exact e
      · have hk' : k = acc.length := by
          have := (List.getElem?_eq_some_iff.mp e2).1
          simp at this
          omega
        subst hk'
        rw [List.getElem?_append_right (by omega)] at e1
        rw [List.getElem?_append_right (by omega)] at e2
        simp [h2] at e1 e2
        subst e1 e2
        have eq : (fun b => (acc.length < acc.length ∧ C acc.length b) ∨ (acc.length = acc.length ∧ S b)) = S := funext fun b => propext ⟨fun z => z.elim (fun z => absurd z.1 (by omega)) (·.2), fun z => .inr ⟨rfl, z⟩⟩
        rw [eq]
        refine hy.mono (Same.refl F) fun b o hb e => ?_
        rw [upd_ne (show b ≠ A from fun z => ds b hb (z ▸ hA))]
        exact e
    · rcases hi with ⟨i1, i2⟩ | ⟨i1, i2⟩
      · rcases hj with ⟨j1, j2⟩ | ⟨j1, j2⟩
        · exact h4 i j b i2 j2
        · exact absurd (ch i i1 b i2) (ds b j2)
      · rcases hj with ⟨j1, j2⟩ | ⟨j1, j2⟩
        · exact absurd (ch j j1 b j2) (ds b i2)
        · rw [i1, j1]
    · rcases hi with ⟨_, i2⟩ | ⟨_, i2⟩
      · exact h5 i i2
      · exact ds A i2 hA
    · rcases hb with hb | hb
      · rcases (h6 b).mp hb with rfl | ⟨k, hk, hc⟩
        · exact .inl rfl
        · exact .inr ⟨k, by simp; omega, .inl ⟨hk, hc⟩⟩
      · exact .inr ⟨acc.length, by simp, .inr ⟨rfl, hb⟩⟩
    · rcases hb with rfl | ⟨k, hk, ⟨k1, hc⟩ | ⟨k1, hc⟩⟩
      · exact .inl hA
      · exact .inl (ch k k1 b hc)
      · exact .inr hc
end

/-! ### [e for t in xs if c] -/
def wLcB (g : WG) (tt : WT) (fe : WE) (vs : List Nat) : List D → DEnv → List MV → (List MV → DEnv → Prop) → Prop
  | [], ρ, acc, Q => Q acc ρ
  | d :: ds, ρ, acc, Q => g d (wipeD ρ vs) fun ρ1 => tt ρ1 fun b ρ2 => if b = true then fe ρ2 fun m ρ3 => acc.length < lim ∧ wLcB g tt fe vs ds ρ3 (acc ++ [m]) Q else wLcB g tt fe vs ds ρ2 acc Q
def wLc (it : DEnv → (List D → DEnv → Prop) → Prop) (g : WG) (tt : WT) (fe : WE) (vs : List Nat) : WE := fun ρ Q => it ρ fun ds ρ1 => frzAt ρ1 vs = true ∧ wLcB g tt fe vs ds ρ1 [] fun acc ρ2 => Q (.ol acc) (restD ρ1 ρ2 vs)
def wYes : WT := fun ρ Q => Q true ρ
theorem tdt_yes {K : DCx} : ∀ σ H Q, TDT K wYes false σ H Q → tYes σ H Q := fun σ H Q ⟨F, ρ, G, Q', st, h, k⟩ => k F H ρ true ⟨Same.refl F, fun _ _ => rfl, fun _ => Same.refl H, st⟩ h
theorem td_lc {K : DCx} {it : DEnv → (List D → DEnv → Prop) → Prop} {g : WG} {tt : WT} {fe : WE} {vs : List Nat} {mi mt me : Bool} : ∀ σ H Q, TD K (wLc it g tt fe vs) false (mi || (mt || me)) σ H Q → tLc (TDI K it mi) (TDG K (fun i => i ∉ vs) g) (TDT K tt mt) (TD K fe false me) vs σ H Q := fun σ H Q ⟨F, ρ, G, Q', st, h, k⟩ => by
  refine ⟨F, ρ, G, _, st, h, fun F0 H0 ρ0 ds J p0 ys ⟨fz, q0⟩ A hA => ?_⟩
  refine ⟨fun i m H1 => m + i = ds.length ∧ ∃ F1 ρ1 acc T, Same F0 F1 ∧ (∀ b, G b → H1 b = H0 b) ∧ ((mt || me) = false → Same H0 H1) ∧ RM K F1 H1 (.ref A) (.ol acc) T ∧ (∀ b, T b → ¬ G b) ∧ T A ∧
    Sta K F1 H1 (wipe σ vs) (wipeD ρ1 vs) (fun b => G b ∨ T b) ∧ wLcB g tt fe vs (ds.drop i) ρ1 acc fun acc ρ2 => Q' (.ol acc) (restD ρ0 ρ2 vs),
    ⟨ds.length, rfl, F0, ρ0, [], fun b => b = A, Same.refl _, fun b gb => ?_, fun _ => same_upd hA, .ol (fun _ _ => False) upd_same rfl (fun _ _ _ e => by simp at e) (fun _ _ _ z => z.elim) (fun _ z => z) (fun b => ⟨.inl, fun z => z.elim id fun ⟨_, _, z⟩ => z.elim⟩), fun b e gb => ?_, rfl, (p0.st.wipe vs).new hA, q0⟩, fun i m H1 ⟨em, F1, ρ1, acc, T, sf, at1, qt, rm, ng, tA, st1, w1⟩ => ?_⟩
  · obtain ⟨_, o, e⟩ := p0.st.fr b gb
    rw [upd_ne (ne_of_none e hA)]
  · obtain ⟨_, o, e'⟩ := p0.st.fr b gb
    rw [e, hA] at e'
    cases e'
  · by_cases hi : i < ds.length
    · rw [List.drop_eq_getElem_cons hi] at w1
      obtain ⟨go, yl⟩ := ys.item i ds[i] F1 H1 sf st1.le (List.getElem?_eq_getElem hi)
      refine .inr ⟨go, fun H' => ∃ m', m' < m ∧ (m' + (i + 1) = ds.length ∧ ∃ F1 ρ1 acc T, Same F0 F1 ∧ (∀ b, G b → H' b = H0 b) ∧ ((mt || me) = false → Same H0 H') ∧ RM K F1 H' (.ref A) (.ol acc) T ∧ (∀ b, T b → ¬ G b) ∧ T A ∧
        Sta K F1 H' (wipe σ vs) (wipeD ρ1 vs) (fun b => G b ∨ T b) ∧ wLcB g tt fe vs (ds.drop (i + 1)) ρ1 acc fun acc ρ2 => Q' (.ol acc) (restD ρ0 ρ2 vs)), fun H' x => x, fun x H2 hy => ?_⟩
      obtain ⟨F2, sf2, sh2, le2, new2, fzx⟩ := yl x H2 hy
      have st2 : Sta K F2 H2 (wipe σ vs) (wipeD ρ1 vs) (fun b => G b ∨ T b) := st1.grow sf2 sh2 le2 new2 (fun b g n => absurd g n) fun b g => by
        obtain ⟨f0, o, e⟩ := st1.fr b g
        exact ⟨new2 b f0 ⟨o, e⟩, o, sh2 b o e⟩
      have at2 : ∀ b, (G b ∨ T b) → H2 b = H1 b := fun b gb => by
        obtain ⟨_, o, e⟩ := st1.fr b gb
        rw [sh2 b o e, e]
      refine ⟨F2, wipeD ρ1 vs, _, ds[i], _, st2, fzx, w1, fun σ3 ρ3 st3 pr3 w3 => ⟨wipe_eq pr3, ?_⟩⟩
      refine ⟨F2, ρ3, _, _, st3, w3, fun F4 H4 ρ4 b p4 w4 => ?_⟩
      have rm4 : RM K F4 H4 (.ref A) (.ol acc) T := rm.mono (sf2.trans p4.sf) fun b o hb e => by rw [p4.at_ b (.inr hb), at2 b (.inr hb)]; exact e
      have at4 : ∀ b, G b → H4 b = H0 b := fun b gb => by rw [p4.at_ b (.inl gb), at2 b (.inl gb), at1 b gb]
      have em' : m - 1 < m ∧ m - 1 + (i + 1) = ds.length := by omega
      cases b with
      | false =>
        rw [if_neg Bool.false_ne_true] at w4
        refine iteF ⟨m - 1, em'.1, em'.2, F4, ρ4, acc, T, (sf.trans sf2).trans p4.sf, at4, fun e => ?_, rm4, ng, tA, ?_, w4⟩
        · have e1 : mt = false := by cases mt <;> simp_all
          exact ((qt e).trans sh2).trans (p4.qt e1)
        · have := p4.st.wipe vs
          rw [wipe_eq pr3] at this
          exact this
      | true =>
        rw [if_pos rfl] at w4
        refine iteT ⟨F4, ρ4, _, _, p4.st, w4, fun F5 H5 ρ5 y n S p5 ⟨hz, w5⟩ => ?_⟩
        have rm5 : RM K F5 H5 (.ref A) (.ol acc) T := rm4.mono p5.sf fun b o hb e => by rw [p5.at_ b (.inr hb)]; exact e
        obtain ⟨vsA, hvA, hlA, rm6⟩ := rm5.push p5.rm fun b sb tb => p5.ng rfl b sb (.inr tb)
        refine ⟨vsA, hvA, lim_lt (by rw [hlA]; exact hz), m - 1, em'.1, em'.2, F5, ρ5, acc ++ [n], fun b => T b ∨ S b, ((sf.trans sf2).trans p4.sf).trans p5.sf, fun b gb => ?_, fun e => ?_, rm6, fun b tb gb => ?_, .inl tA, ?_, w5⟩
        · rw [upd_ne (show b ≠ A from fun z => ng A tA (z ▸ gb)), p5.at_ b (.inl gb), at4 b gb]
        · have e1 : mt = false ∧ me = false := by cases mt <;> cases me <;> simp_all
          intro b o hb
          by_cases hbA : b = A
          · subst hbA
            rw [hA] at hb
            cases hb
          · rw [upd_ne hbA]
            exact (((qt e).trans sh2).trans (p4.qt e1.1)).trans (p5.qt e1.2) b o hb
        · rcases tb with tb | sb
          · exact ng b tb gb
          · exact p5.ng rfl b sb (.inl gb)
        · have s5 := p5.st.wipe vs
          rw [wipe_eq pr3] at s5
          exact (s5.setG (.inl (.inr tA)) hvA).less fun b gb => by
            rcases gb with gb | tb | sb
            · exact .inl (.inl gb)
            · exact .inl (.inr tb)
            · exact .inr ⟨rfl, sb⟩
    · have e : i = ds.length := by omega
      subst e
      rw [List.drop_length] at w1
      refine .inl ⟨ys.stop F1 H1 sf st1.le, k F1 H1 (restD ρ0 ρ1 vs) (.ref A) (.ol acc) T ⟨p0.sf.trans sf, fun b gb => (at1 b gb).trans (p0.at_ b gb), fun e => ?_, rm, (Sta.rest p0.st fz sf st1).less fun b gb => gb.elim .inl fun z => .inr z.2, fun _ => ng⟩ w1⟩
      have e1 : mi = false ∧ (mt || me) = false := by cases mi <;> simp_all
      exact (p0.qt e1.1).trans (qt e1.2)

section
variable {X : Cx} {tg iter elt tg1 iter1 : Expr} {ifs ifs1 : List Expr} {scope : Scope} {own : List (Str × Nat)} {pos : Pos} {it it1 : DEnv → (List D → DEnv → Prop) → Prop} {g g1 : WG} {tt tt1 : WT} {fe : WE} {mi mt me mi1 mt1 : Bool}
theorem PTs.imp {X : Cx} {e : List Expr} {t t' : TT} (h : PTs X e t) (i : ∀ σ H Q, t' σ H Q → t σ H Q) : PTs X e t' := ⟨fun p s σ H Q I w => h.run p s σ H Q I (i _ _ _ w)⟩
theorem dpts_nil : PTs X [] (TDT (dcx X) wYes false) := PTs.imp pts_nil tdt_yes
theorem dpts_one {c : Expr} {f : WT} (h : PT X c (TDT (dcx X) f mt)) : PTs X [c] (TDT (dcx X) f mt) := pts_one h
theorem d_lc (hc : X.calm = true) (hN : X.N.Nodup) (hi : DI X tg iter it mi) (ok : BlkOk X.N X.env.scope scope own)
    (hg : ∀ (s : Shared) (H : Hp) (C : Addr) (cl : List (Str × Addr)) (fp : List Addr), DT (X.blk s H scope (compEnvC scope cl C X.env) fp) (fun i => i ∉ own.map (·.2)) tg g)
    (ht : ∀ (s : Shared) (H : Hp) (C : Addr) (cl : List (Str × Addr)) (fp : List Addr), PTs (X.blk s H scope (compEnvC scope cl C X.env) fp) ifs (TDT (dcx X) tt mt))
    (he : ∀ (s : Shared) (H : Hp) (C : Addr) (cl : List (Str × Addr)) (fp : List Addr), PE (X.blk s H scope (compEnvC scope cl C X.env) fp) elt (TD (dcx X) fe false me)) (hs : ∀ x, foldedSetIterable iter X.env x = pure x := by intro _; rfl) :
    PE X (.ListComp elt [⟨tg, iter, ifs, 0⟩] scope pos) (TD (dcx X) (wLc it g tt fe (own.map (·.2))) false (mi || (mt || me))) :=
  PE.imp (pe_lc hc hN hi ok hg ht he hs) td_lc
theorem ds_setLc {P : Nat → Prop} {i : Nat} {y : Str} {py spos : Pos} (hp : ¬ P i) (hc : X.calm = true) (hN : X.N.Nodup) (hy : X.N[i]? = some y) (hyl : X.env.scope.names.lookup y = some .local)
    (hsw : swapsWith (.ListComp elt [⟨tg, iter, ifs, 0⟩] scope pos) (some (.Name y py)) spos.line X.env = pure true) (hi : DI X tg iter it mi) (ok : BlkOk X.N X.env.scope scope own)
    (hg : ∀ (s : Shared) (H : Hp) (C : Addr) (cl : List (Str × Addr)) (fp : List Addr), DT (X.blk s H scope (compEnvC scope cl C X.env) fp) (fun i => i ∉ own.map (·.2)) tg g)
    (ht : ∀ (s : Shared) (H : Hp) (C : Addr) (cl : List (Str × Addr)) (fp : List Addr), PTs (X.blk s H scope (compEnvC scope cl C X.env) fp) ifs (TDT (dcx X) tt mt))
    (he : ∀ (s : Shared) (H : Hp) (C : Addr) (cl : List (Str × Addr)) (fp : List Addr), PE (X.blk s H scope (compEnvC scope cl C X.env) fp) elt (TD (dcx X) fe false me)) (hs : ∀ x, foldedSetIterable iter X.env x = pure x := by intro _; rfl) :
    PS X (.Assign [.Name y py] (.ListComp elt [⟨tg, iter, ifs, 0⟩] scope pos) spos) (TDS (dcx X) P (wAsg i (wLc it g tt fe (own.map (·.2))))) :=
  PS.imp (ps_setLc hc hN hy hyl hsw hi ok hg ht he hs) fun D σ H h => td_lc σ H _ (tds_asg (mt := mi || (mt || me)) hp D σ H h)
end

/-! ### two for -/
structure LcSt (K : DCx) (F0 H0 : Hp) (G : ASet) (fl : Bool) (A : Addr) (σw : L2.St) (ρw : DEnv) (F1 H1 : Hp) (acc : List MV) (T : ASet) : Prop where
  sf : Same F0 F1
  at_ : ∀ b, G b → H1 b = H0 b
  qt : fl = false → Same H0 H1
  rm : RM K F1 H1 (.ref A) (.ol acc) T
  ng : ∀ b, T b → ¬ G b
  tA : T A
  st : Sta K F1 H1 σw ρw (fun b => G b ∨ T b)
section
variable {K : DCx} {F0 H0 F1 H1 F2 H2 : Hp} {G T : ASet} {fl : Bool} {A : Addr} {σ σ2 : L2.St} {ρ ρ2 : DEnv} {acc : List MV}
theorem LcSt.grow (s : LcSt K F0 H0 G fl A σ ρ F1 H1 acc T) (sf2 : Same F1 F2) (sh2 : Same H1 H2) (le2 : Same F2 H2) (new2 : ∀ b, F1 b = none → (∃ o, H1 b = some o) → F2 b = none) : LcSt K F0 H0 G fl A σ ρ F2 H2 acc T := by
  refine ⟨s.sf.trans sf2, fun b gb => ?_, fun e => (s.qt e).trans sh2, s.rm.mono sf2 fun b o _ e => sh2 b o e, s.ng, s.tA, s.st.grow sf2 sh2 le2 new2 (fun b g n => absurd g n) fun b g => ?_⟩
  · obtain ⟨_, o, e⟩ := s.st.fr b (.inl gb)
    rw [sh2 b o e, ← e, s.at_ b gb]
  · obtain ⟨f0, o, e⟩ := s.st.fr b g
    exact ⟨new2 b f0 ⟨o, e⟩, o, sh2 b o e⟩
theorem LcSt.put (s : LcSt K F0 H0 G fl A σ ρ F1 H1 acc T) (st : Sta K F1 H1 σ2 ρ2 (fun b => G b ∨ T b)) : LcSt K F0 H0 G fl A σ2 ρ2 F1 H1 acc T := ⟨s.sf, s.at_, s.qt, s.rm, s.ng, s.tA, st⟩
theorem LcSt.test {m : Bool} (hm : fl = false → m = false) (s : LcSt K F0 H0 G fl A σ ρ F1 H1 acc T) (p : PostT K m σ F1 H1 (fun b => G b ∨ T b) F2 H2 ρ2) : LcSt K F0 H0 G fl A σ ρ2 F2 H2 acc T :=
  ⟨s.sf.trans p.sf, fun b gb => (p.at_ b (.inl gb)).trans (s.at_ b gb), fun e => (s.qt e).trans (p.qt (hm e)), s.rm.mono p.sf fun b o hb e => by rw [p.at_ b (.inr hb)]; exact e, s.ng, s.tA, p.st⟩
theorem LcSt.push {m : Bool} (hA0 : H0 A = none) (hm : fl = false → m = false) (s : LcSt K F0 H0 G fl A σ ρ F1 H1 acc T) {y : V} {n : MV} {S : ASet} (p : PostE K false m σ F1 H1 (fun b => G b ∨ T b) F2 H2 ρ2 y n S) :
    ∃ vs, H2 A = some (.lst vs) ∧ vs.length = acc.length ∧ LcSt K F0 H0 G fl A σ ρ2 F2 (upd H2 A (.lst (vs ++ [y]))) (acc ++ [n]) (fun b => T b ∨ S b) := by
  have rm5 : RM K F2 H2 (.ref A) (.ol acc) T := s.rm.mono p.sf fun b o hb e => by rw [p.at_ b (.inr hb)]; exact e
  obtain ⟨vs, h1, h2, rm6⟩ := rm5.push p.rm fun b sb tb => p.ng rfl b sb (.inr tb)
  refine ⟨vs, h1, h2, s.sf.trans p.sf, fun b gb => ?_, fun e => ?_, rm6, fun b tb gb => ?_, .inl s.tA, ?_⟩
  · rw [upd_ne (show b ≠ A from fun z => s.ng A s.tA (z ▸ gb)), p.at_ b (.inl gb), s.at_ b gb]
  · intro b o hb
    have hbA : b ≠ A := fun z => by rw [z, hA0] at hb; cases hb
    rw [upd_ne hbA]
    exact ((s.qt e).trans (p.qt (hm e))) b o hb
  · rcases tb with tb | sb
    · exact s.ng b tb gb
    · exact p.ng rfl b sb (.inl gb)
  · exact (p.st.setG (.inl (.inr s.tA)) h1).less fun b gb => by
      rcases gb with gb | tb | sb
      · exact .inl (.inl gb)
      · exact .inl (.inr tb)
      · exact .inr ⟨rfl, sb⟩
end
theorem wipe_wipe (σ : L2.St) {vs1 vs : List Nat} (h : ∀ i ∈ vs1, i ∈ vs) : wipe (wipe σ vs1) vs = wipe σ vs := by
  apply List.ext_getElem?
  intro i
  by_cases hi : i ∈ vs
  · by_cases hl : i < σ.length
    · rw [wipe_in _ (by rw [wipe_length]; exact hl) hi, wipe_in σ hl hi]
    · rw [List.getElem?_eq_none (by rw [wipe_length, wipe_length]; omega), List.getElem?_eq_none (by rw [wipe_length]; omega)]
  · rw [wipe_out _ hi, wipe_out _ hi, wipe_out _ fun z => hi (h i z)]
theorem wipeD_in (ρ : DEnv) {i : Nat} (hi : i < ρ.length) : ∀ {vs : List Nat}, i ∈ vs → (wipeD ρ vs)[i]? = some none
  | [], h => by simp at h
  | v :: vs, h => by
    rw [wipeD]
    by_cases e : v = i
    · subst e
      rw [List.getElem?_set_self (by rw [wipeD_len]; exact hi)]
    · rw [List.getElem?_set_ne e]
      exact wipeD_in ρ hi (by simpa [Ne.symm e] using h)
theorem wipeD_wipeD (ρ : DEnv) {vs1 vs : List Nat} (h : ∀ i ∈ vs1, i ∈ vs) : wipeD (wipeD ρ vs1) vs = wipeD ρ vs := by
  apply List.ext_getElem?
  intro i
  by_cases hi : i ∈ vs
  · by_cases hl : i < ρ.length
    · rw [wipeD_in _ (by rw [wipeD_len]; exact hl) hi, wipeD_in ρ hl hi]
    · rw [List.getElem?_eq_none (by rw [wipeD_len, wipeD_len]; omega), List.getElem?_eq_none (by rw [wipeD_len]; omega)]
  · rw [wipeD_out _ hi, wipeD_out _ hi, wipeD_out _ fun z => hi (h i z)]
def wLc2B (g : WG) (tt : WT) (it1 : DEnv → (List D → DEnv → Prop) → Prop) (g1 : WG) (tt1 : WT) (fe : WE) (vs vs1 : List Nat) : List D → DEnv → List MV → (List MV → DEnv → Prop) → Prop
  | [], ρ, acc, Q => Q acc ρ
  | d :: ds, ρ, acc, Q => g d (wipeD ρ vs) fun ρ1 => tt ρ1 fun b ρ2 => if b = true then it1 ρ2 fun es ρ3 => frzAt ρ3 vs1 = true ∧ wLcB g1 tt1 fe vs1 es ρ3 acc fun acc' ρ4 => wLc2B g tt it1 g1 tt1 fe vs vs1 ds ρ4 acc' Q
      else wLc2B g tt it1 g1 tt1 fe vs vs1 ds ρ2 acc Q
def wLc2 (it : DEnv → (List D → DEnv → Prop) → Prop) (g : WG) (tt : WT) (it1 : DEnv → (List D → DEnv → Prop) → Prop) (g1 : WG) (tt1 : WT) (fe : WE) (vs vs1 : List Nat) : WE := fun ρ Q => it ρ fun ds ρ1 => frzAt ρ1 vs = true ∧ wLc2B g tt it1 g1 tt1 fe vs vs1 ds ρ1 [] fun acc ρ2 => Q (.ol acc) (restD ρ1 ρ2 vs)
theorem td_lc2 {K : DCx} {it it1 : DEnv → (List D → DEnv → Prop) → Prop} {g g1 : WG} {tt tt1 : WT} {fe : WE} {vs vs1 : List Nat} {mi mt mi1 mt1 me : Bool} (hsub : ∀ i ∈ vs1, i ∈ vs) : ∀ σ H Q, TD K (wLc2 it g tt it1 g1 tt1 fe vs vs1) false (mi || (mt || (mi1 || (mt1 || me)))) σ H Q →
    tLc2 (TDI K it mi) (TDG K (fun i => i ∉ vs) g) (TDT K tt mt) (TDI K it1 mi1) (TDG K (fun i => i ∉ vs1) g1) (TDT K tt1 mt1) (TD K fe false me) vs vs1 σ H Q := fun σ H Q ⟨F, ρ, G, Q', st, h, k⟩ => by
  refine ⟨F, ρ, G, _, st, h, fun F0 H0 ρ0 ds J p0 ys ⟨fz, q0⟩ A hA => ?_⟩
  generalize hfl : (mt || (mi1 || (mt1 || me))) = fl
  have f1 : fl = false → mt = false := fun e => by rw [← hfl] at e; cases mt <;> simp_all
  have f2 : fl = false → mi1 = false := fun e => by rw [← hfl] at e; cases mi1 <;> simp_all
  have f3 : fl = false → mt1 = false := fun e => by rw [← hfl] at e; cases mt1 <;> simp_all
  have f4 : fl = false → me = false := fun e => by rw [← hfl] at e; cases me <;> simp_all
  refine ⟨fun i m H1 => m + i = ds.length ∧ ∃ F1 ρ1 acc T, LcSt K F0 H0 G fl A (wipe σ vs) (wipeD ρ1 vs) F1 H1 acc T ∧ wLc2B g tt it1 g1 tt1 fe vs vs1 (ds.drop i) ρ1 acc fun acc ρ2 => Q' (.ol acc) (restD ρ0 ρ2 vs),
    ⟨ds.length, rfl, F0, ρ0, [], fun b => b = A, ⟨Same.refl _, fun b gb => ?_, fun _ => same_upd hA, .ol (fun _ _ => False) upd_same rfl (fun _ _ _ e => by simp at e) (fun _ _ _ z => z.elim) (fun _ z => z) (fun b => ⟨.inl, fun z => z.elim id fun ⟨_, _, z⟩ => z.elim⟩), fun b e gb => ?_, rfl, (p0.st.wipe vs).new hA⟩, q0⟩, fun i m H1 ⟨em, F1, ρ1, acc, T, ls, w1⟩ => ?_⟩
  · obtain ⟨_, o, e⟩ := p0.st.fr b gb
    rw [upd_ne (ne_of_none e hA)]
  · obtain ⟨_, o, e'⟩ := p0.st.fr b gb
    rw [e, hA] at e'
    cases e'
  · by_cases hi : i < ds.length
    · rw [List.drop_eq_getElem_cons hi] at w1
      obtain ⟨go, yl⟩ := ys.item i ds[i] F1 H1 ls.sf ls.st.le (List.getElem?_eq_getElem hi)
      have em' : m - 1 < m ∧ m - 1 + (i + 1) = ds.length := by omega
      refine .inr ⟨go, fun H' => ∃ m', m' < m ∧ (m' + (i + 1) = ds.length ∧ ∃ F1 ρ1 acc T, LcSt K F0 H0 G fl A (wipe σ vs) (wipeD ρ1 vs) F1 H' acc T ∧ wLc2B g tt it1 g1 tt1 fe vs vs1 (ds.drop (i + 1)) ρ1 acc fun acc ρ2 => Q' (.ol acc) (restD ρ0 ρ2 vs)), fun H' x => x, fun x H2 hy => ?_⟩
      obtain ⟨F2, sf2, sh2, le2, new2, fzx⟩ := yl x H2 hy
      have ls2 := ls.grow sf2 sh2 le2 new2
      refine ⟨F2, wipeD ρ1 vs, _, ds[i], _, ls2.st, fzx, w1, fun σ3 ρ3 st3 pr3 w3 => ⟨wipe_eq pr3, ?_⟩⟩
      have ls3 := ls2.put st3
      refine ⟨F2, ρ3, _, _, st3, w3, fun F4 H4 ρ4 b p4 w4 => ?_⟩
      have ls4 := ls3.test f1 p4
      cases b with
      | false =>
        rw [if_neg Bool.false_ne_true] at w4
        refine iteF ⟨m - 1, em'.1, em'.2, F4, ρ4, acc, T, ls4.put ?_, w4⟩
        have := ls4.st.wipe vs
        rw [wipe_eq pr3] at this
        exact this
      | true =>
        rw [if_pos rfl] at w4
        refine iteT ⟨F4, ρ4, _, _, ls4.st, w4, fun F5 H5 ρ5 es J1 p5 ys1 ⟨fz1, w5⟩ => ?_⟩
        have ls5 := ls4.test f2 p5
        refine ⟨fun j k' H6 => k' + j = es.length ∧ ∃ F6 ρ6 acc T, Same F5 F6 ∧ LcSt K F0 H0 G fl A (wipe σ3 vs1) (wipeD ρ6 vs1) F6 H6 acc T ∧ wLcB g1 tt1 fe vs1 (es.drop j) ρ6 acc fun acc' ρ4 => wLc2B g tt it1 g1 tt1 fe vs vs1 (ds.drop (i + 1)) ρ4 acc' fun acc ρ2 => Q' (.ol acc) (restD ρ0 ρ2 vs),
          ⟨es.length, rfl, F5, ρ5, acc, T, Same.refl _, ls5.put (ls5.st.wipe vs1), w5⟩, fun j k' H6 ⟨ej, F6, ρ6, acc6, T6, sf6, ls6, w6⟩ => ?_⟩
        by_cases hj : j < es.length
        · rw [List.drop_eq_getElem_cons hj] at w6
          obtain ⟨go1, yl1⟩ := ys1.item j es[j] F6 H6 sf6 ls6.st.le (List.getElem?_eq_getElem hj)
          have ej' : k' - 1 < k' ∧ k' - 1 + (j + 1) = es.length := by omega
          refine .inr ⟨go1, fun H' => ∃ k'', k'' < k' ∧ (k'' + (j + 1) = es.length ∧ ∃ F6 ρ6 acc T, Same F5 F6 ∧ LcSt K F0 H0 G fl A (wipe σ3 vs1) (wipeD ρ6 vs1) F6 H' acc T ∧ wLcB g1 tt1 fe vs1 (es.drop (j + 1)) ρ6 acc fun acc' ρ4 => wLc2B g tt it1 g1 tt1 fe vs vs1 (ds.drop (i + 1)) ρ4 acc' fun acc ρ2 => Q' (.ol acc) (restD ρ0 ρ2 vs)), fun H' x => x, fun x1 H7 hy1 => ?_⟩
          obtain ⟨F7, sf7, sh7, le7, new7, fz7⟩ := yl1 x1 H7 hy1
          have ls7 := ls6.grow sf7 sh7 le7 new7
          refine ⟨F7, wipeD ρ6 vs1, _, es[j], _, ls7.st, fz7, w6, fun σ8 ρ8 st8 pr8 w8 => ⟨wipe_eq pr8, ?_⟩⟩
          have ls8 := ls7.put st8
          refine ⟨F7, ρ8, _, _, st8, w8, fun F9 H9 ρ9 b p9 w9 => ?_⟩
          have ls9 := ls8.test f3 p9
          cases b with
          | false =>
            rw [if_neg Bool.false_ne_true] at w9
            refine iteF ⟨k' - 1, ej'.1, ej'.2, F9, ρ9, acc6, T6, (sf6.trans sf7).trans p9.sf, ls9.put ?_, w9⟩
            have := ls9.st.wipe vs1
            rw [wipe_eq pr8] at this
            exact this
          | true =>
            rw [if_pos rfl] at w9
            refine iteT ⟨F9, ρ9, _, _, ls9.st, w9, fun F10 H10 ρ10 y n S p10 ⟨hz, w10⟩ => ?_⟩
            obtain ⟨vsA, hvA, hlA, ls10⟩ := ls9.push hA f4 p10
            refine ⟨vsA, hvA, lim_lt (by rw [hlA]; exact hz), k' - 1, ej'.1, ej'.2, F10, ρ10, acc6 ++ [n], _, ((sf6.trans sf7).trans p9.sf).trans p10.sf, ls10.put ?_, w10⟩
            have := ls10.st.wipe vs1
            rw [wipe_eq pr8] at this
            exact this
        · have e : j = es.length := by omega
          subst e
          rw [List.drop_length] at w6
          refine .inl ⟨ys1.stop F6 H6 sf6 ls6.st.le, m - 1, em'.1, em'.2, F6, ρ6, acc6, T6, ls6.put ?_, w6⟩
          have := ls6.st.wipe vs
          rw [wipe_wipe _ hsub, wipeD_wipeD _ hsub, wipe_eq pr3] at this
          exact this
    · have e : i = ds.length := by omega
      subst e
      rw [List.drop_length] at w1
      refine .inl ⟨ys.stop F1 H1 ls.sf ls.st.le, k F1 H1 (restD ρ0 ρ1 vs) (.ref A) (.ol acc) T ⟨p0.sf.trans ls.sf, fun b gb => (ls.at_ b gb).trans (p0.at_ b gb), fun e => ?_, ls.rm, (Sta.rest p0.st fz ls.sf ls.st).less fun b gb => gb.elim .inl fun z => .inr z.2, fun _ => ls.ng⟩ w1⟩
      rw [hfl] at e
      have e1 : mi = false ∧ fl = false := by cases mi <;> simp_all
      exact (p0.qt e1.1).trans (ls.qt e1.2)
section
variable {X : Cx} {tg iter elt tg1 iter1 : Expr} {ifs ifs1 : List Expr} {scope : Scope} {own : List (Str × Nat)} {vs1 : List Nat} {pos : Pos} {it it1 : DEnv → (List D → DEnv → Prop) → Prop} {g g1 : WG} {tt tt1 : WT} {fe : WE} {mi mt me mi1 mt1 : Bool}
theorem d_lc2 (hc : X.calm = true) (hN : X.N.Nodup) (hi : DI X tg iter it mi) (ok : BlkOk X.N X.env.scope scope own) (hv : ∀ i ∈ vs1, i ∈ own.map (·.2))
    (hg : ∀ (s : Shared) (H : Hp) (C : Addr) (cl : List (Str × Addr)) (fp : List Addr), DT (X.blk s H scope (compEnvC scope cl C X.env) fp) (fun i => i ∉ own.map (·.2)) tg g)
    (ht : ∀ (s : Shared) (H : Hp) (C : Addr) (cl : List (Str × Addr)) (fp : List Addr), PTs (X.blk s H scope (compEnvC scope cl C X.env) fp) ifs (TDT (dcx X) tt mt))
    (hi1 : ∀ (s : Shared) (H : Hp) (C : Addr) (cl : List (Str × Addr)) (fp : List Addr), DI (X.blk s H scope (compEnvC scope cl C X.env) fp) tg1 iter1 it1 mi1)
    (hg1 : ∀ (s : Shared) (H : Hp) (C : Addr) (cl : List (Str × Addr)) (fp : List Addr), DT (X.blk s H scope (compEnvC scope cl C X.env) fp) (fun i => i ∉ vs1) tg1 g1)
    (ht1 : ∀ (s : Shared) (H : Hp) (C : Addr) (cl : List (Str × Addr)) (fp : List Addr), PTs (X.blk s H scope (compEnvC scope cl C X.env) fp) ifs1 (TDT (dcx X) tt1 mt1))
    (he : ∀ (s : Shared) (H : Hp) (C : Addr) (cl : List (Str × Addr)) (fp : List Addr), PE (X.blk s H scope (compEnvC scope cl C X.env) fp) elt (TD (dcx X) fe false me)) (hs : ∀ x, foldedSetIterable iter X.env x = pure x := by intro _; rfl) (hs1 : ∀ env x, foldedSetIterable iter1 env x = pure x := by intro _ _; rfl) :
    PE X (.ListComp elt [⟨tg, iter, ifs, 0⟩, ⟨tg1, iter1, ifs1, 0⟩] scope pos) (TD (dcx X) (wLc2 it g tt it1 g1 tt1 fe (own.map (·.2)) vs1) false (mi || (mt || (mi1 || (mt1 || me))))) :=
  PE.imp (pe_lc2 hc hN hi ok hv hg ht hi1 hg1 ht1 he hs hs1) (td_lc2 hv)
theorem ds_setLc2 {P : Nat → Prop} {i : Nat} {y : Str} {py spos : Pos} (hp : ¬ P i) (hc : X.calm = true) (hN : X.N.Nodup) (hy : X.N[i]? = some y) (hyl : X.env.scope.names.lookup y = some .local)
    (hsw : swapsWith (.ListComp elt [⟨tg, iter, ifs, 0⟩, ⟨tg1, iter1, ifs1, 0⟩] scope pos) (some (.Name y py)) spos.line X.env = pure true) (hi : DI X tg iter it mi) (ok : BlkOk X.N X.env.scope scope own) (hv : ∀ i ∈ vs1, i ∈ own.map (·.2))
    (hg : ∀ (s : Shared) (H : Hp) (C : Addr) (cl : List (Str × Addr)) (fp : List Addr), DT (X.blk s H scope (compEnvC scope cl C X.env) fp) (fun i => i ∉ own.map (·.2)) tg g)
    (ht : ∀ (s : Shared) (H : Hp) (C : Addr) (cl : List (Str × Addr)) (fp : List Addr), PTs (X.blk s H scope (compEnvC scope cl C X.env) fp) ifs (TDT (dcx X) tt mt))
    (hi1 : ∀ (s : Shared) (H : Hp) (C : Addr) (cl : List (Str × Addr)) (fp : List Addr), DI (X.blk s H scope (compEnvC scope cl C X.env) fp) tg1 iter1 it1 mi1)
    (hg1 : ∀ (s : Shared) (H : Hp) (C : Addr) (cl : List (Str × Addr)) (fp : List Addr), DT (X.blk s H scope (compEnvC scope cl C X.env) fp) (fun i => i ∉ vs1) tg1 g1)
    (ht1 : ∀ (s : Shared) (H : Hp) (C : Addr) (cl : List (Str × Addr)) (fp : List Addr), PTs (X.blk s H scope (compEnvC scope cl C X.env) fp) ifs1 (TDT (dcx X) tt1 mt1))
    (he : ∀ (s : Shared) (H : Hp) (C : Addr) (cl : List (Str × Addr)) (fp : List Addr), PE (X.blk s H scope (compEnvC scope cl C X.env) fp) elt (TD (dcx X) fe false me)) (hs : ∀ x, foldedSetIterable iter X.env x = pure x := by intro _; rfl) (hs1 : ∀ env x, foldedSetIterable iter1 env x = pure x := by intro _ _; rfl) :
    PS X (.Assign [.Name y py] (.ListComp elt [⟨tg, iter, ifs, 0⟩, ⟨tg1, iter1, ifs1, 0⟩] scope pos) spos) (TDS (dcx X) P (wAsg i (wLc2 it g tt it1 g1 tt1 fe (own.map (·.2)) vs1))) :=
  PS.imp (ps_setLc2 hc hN hy hyl hsw hi ok hv hg ht hi1 hg1 ht1 he hs hs1) fun D σ H h => td_lc2 hv σ H _ (tds_asg (mt := mi || (mt || (mi1 || (mt1 || me)))) hp D σ H h)
end
end DL

/-! DL12: defs and their calls. -/
namespace DL
open PySem PySem.Spec PyProof.Rows L2

/-- what a def promises: its arguments, what is wanted of its value and of what was lent -/
abbrev DSp := List MV → (MV → List MV → Prop) → Prop
/-- behind a call -/
structure PostF (K : DCx) (io : List Bool) (vs : List V) (F H : Hp) (G : ASet) (F' H' : Hp) (v : V) (m : MV) (T : ASet) (fin : List MV) (U : Nat → ASet) : Prop where
  sf : Same F F'
  le : Same F' H'
  at_ : ∀ b, G b → H' b = H b
  rm : RM K F' H' v m T
  fl : fin.length = vs.length
  fin : ∀ (k : Nat) (u : V) (f : MV), io[k]? = some true → vs[k]? = some u → fin[k]? = some f → RM K F' H' u f (U k)
  uemp : ∀ k, io[k]? ≠ some true → ∀ b, ¬ U k b
  uemp2 : ∀ k, vs.length ≤ k → ∀ b, ¬ U k b
  dis : ∀ j k b, U j b → U k b → j = k
  tu : ∀ k b, T b → ¬ U k b
  tn : ∀ b, T b → F' b = none ∧ ¬ G b
  un : ∀ k b, U k b → F' b = none ∧ ¬ G b
  gn : ∀ b, G b → F' b = none
def spD (K : DCx) (n : Nat) (io : List Bool) (sp : DSp) : Sp := fun vs H Q _ =>
  vs.length = n ∧ ∃ (F : Hp) (ms : List MV) (S : Nat → ASet) (G : ASet) (Q' : MV → List MV → Prop), Same F H ∧ vs.length = ms.length ∧ (∀ (k : Nat) (v : V) (m : MV), vs[k]? = some v → ms[k]? = some m → RM K F H v m (S k)) ∧
    (∀ k, ms.length ≤ k → ∀ b, ¬ S k b) ∧ (∀ j k b, S j b → S k b → j = k) ∧ (∀ k b, S k b → F b = none ∧ ¬ G b) ∧ (∀ b, G b → F b = none ∧ ∃ o, H b = some o) ∧ sp ms Q' ∧
    ∀ F' H' v m T fin U, PostF K io vs F H G F' H' v m T fin U → Q' m fin → Q v H'

/-! ### the call -/
def putBack : List (Option Nat) → List MV → DEnv → DEnv
  | some i :: ls, m :: ms, ρ => putBack ls ms (ρ.set i (some m))
  | none :: ls, _ :: ms, ρ => putBack ls ms ρ
  | _, _, ρ => ρ
def wCall (sp : DSp) (ls : List (Option Nat)) (fs : WA) : WE := fun ρ Q => fs ρ fun ms ρ1 => sp ms fun r fin => Q r (putBack ls fin ρ1)
def lsOk : List (Option Nat) → List Bool → Bool
  | [], _ => true
  | none :: ls, _ :: io => lsOk ls io
  | none :: ls, [] => lsOk ls []
  | some _ :: ls, true :: io => lsOk ls io
  | some _ :: _, _ => false
theorem lsOk_get : ∀ {ls : List (Option Nat)} {io : List Bool}, lsOk ls io = true → ∀ (k i : Nat), ls[k]? = some (some i) → io[k]? = some true
  | [], _, _, k, i, e => by simp at e
  | none :: ls, b :: io, h, 0, i, e => by simp at e
  | none :: ls, b :: io, h, k + 1, i, e => by simpa using lsOk_get (by simpa [lsOk] using h) k i (by simpa using e)
  | none :: ls, [], h, 0, i, e => by simp at e
  | none :: ls, [], h, k + 1, i, e => by
    have := lsOk_get (ls := ls) (io := []) (by simpa [lsOk] using h) k i (by simpa using e)
    simp at this
  | some j :: ls, true :: io, h, 0, i, e => rfl
  | some j :: ls, true :: io, h, k + 1, i, e => by simpa using lsOk_get (by simpa [lsOk] using h) k i (by simpa using e)
  | some j :: ls, false :: io, h, _, _, _ => by simp [lsOk] at h
  | some j :: ls, [], h, _, _, _ => by simp [lsOk] at h
theorem Sta.back {K : DCx} {F H : Hp} {σ : L2.St} : ∀ (ls : List (Option Nat)) (fin : List MV) (vs : List V) (U : Nat → ASet) (ρ : DEnv) (G : ASet), ls.length = fin.length → vs.length = fin.length →
    (∀ (k i : Nat) (u : V) (f : MV), ls[k]? = some (some i) → vs[k]? = some u → fin[k]? = some f → σ[i]? = some (some u) ∧ RM K F H u f (U k)) → (∀ j k b, U j b → U k b → j = k) → (∀ k b, U k b → ¬ G b) →
    Sta K F H σ ρ (fun b => G b ∨ ∃ k, U k b) → Sta K F H σ (putBack ls fin ρ) G
  | [], _, _, U, ρ, G, _, _, _, _, _, st => by
    cases ‹List MV› <;> exact st.less fun b g => .inl g
  | some i :: ls, [], _, U, ρ, G, h, _, _, _, _, st => by simp at h
  | none :: ls, [], _, U, ρ, G, h, _, _, _, _, st => by simp at h
  | _ :: _, _ :: _, [], U, ρ, G, _, h, _, _, _, st => by simp at h
  | none :: ls, f :: fin, v :: vs, U, ρ, G, h1, h2, h3, h4, h5, st => by
    rw [putBack]
    exact Sta.back ls fin vs (fun k => U (k + 1)) ρ G (by simpa using h1) (by simpa using h2) (fun k i u f a b c => h3 (k + 1) i u f (by simpa using a) (by simpa using b) (by simpa using c)) (fun j k b a c => by have := h4 _ _ b a c; omega) (fun k b a => h5 _ b a)
      (st.less fun b g => g.elim .inl fun ⟨k, z⟩ => .inr ⟨k + 1, z⟩)
  | some i :: ls, f :: fin, v :: vs, U, ρ, G, h1, h2, h3, h4, h5, st => by
    rw [putBack]
    obtain ⟨e1, r⟩ := h3 0 i v f rfl rfl rfl
    have hi : i < ρ.length := by
      rw [← st.len]
      exact (List.getElem?_eq_some_iff.mp e1).1
    have hσ : σ.set i (some v) = σ := by
      have hl := (List.getElem?_eq_some_iff.mp e1)
      apply List.ext_getElem?
      intro j
      by_cases hj : i = j
      · subst hj
        rw [List.getElem?_set_self hl.1, e1]
      · rw [List.getElem?_set_ne hj]
    have st' := st.put (i := i) (G' := fun b => G b ∨ ∃ k, U (k + 1) b) hi r (fun b u => .inr ⟨0, u⟩) fun b g => by
      rcases g with g | ⟨k, g⟩
      · exact ⟨.inl g, fun u => h5 0 b u g⟩
      · exact ⟨.inr ⟨k + 1, g⟩, fun u => by have := h4 _ _ b u g; omega⟩
    rw [hσ] at st'
    exact Sta.back ls fin vs (fun k => U (k + 1)) (ρ.set i (some f)) G (by simpa using h1) (by simpa using h2) (fun k i u f a b c => h3 (k + 1) i u f (by simpa using a) (by simpa using b) (by simpa using c)) (fun j k b a c => by have := h4 _ _ b a c; omega) (fun k b a => h5 _ b a) st'
theorem td_call {K : DCx} {sp : DSp} {ls : List (Option Nat)} {io : List Bool} {fs : WA} {mt : Bool} {n : Nat} {E : XK} (hl : ls.length = n) (hio : lsOk ls io = true) : ∀ σ H Q, TD K (wCall sp ls fs) false true σ H Q → tCall (spD K n io sp) [] E (TDM K fs mt ls) σ H Q :=
  fun σ H Q ⟨F, ρ, G, Q', st, h, k⟩ => by
    refine ⟨F, ρ, G, _, st, h, fun F1 H1 ρ1 vs ms S p hq => ?_⟩
    show spD K n io sp (vs ++ []) H1 Q E
    rw [List.append_nil]
    obtain ⟨So, o⟩ := p.st.own
    refine ⟨by rw [p.len, ← p.ln, hl], F1, ms, S, fun b => G b ∨ ∃ i, So i b, _, p.st.le, p.len, p.rm, p.emp, p.dis, fun k b s => ⟨(p.st.fr b (.inr ⟨k, s⟩)).1, fun g => ?_⟩, fun b g => ?_, hq, fun F2 H2 v m T fin U q hq2 => ?_⟩
    · rcases g with g | ⟨i, g⟩
      · exact p.ng k b s g
      · exact (o.out i b g).2 (.inr ⟨k, s⟩)
    · rcases g with g | ⟨i, g⟩
      · exact p.st.fr b (.inl g)
      · exact ⟨(o.out i b g).1, o.there g⟩
    · have st2 : Sta K F2 H2 σ ρ1 (fun b => (G b ∨ T b) ∨ ∃ k, U k b) := by
        refine ⟨q.le, p.st.len, ⟨So, fun i m e => ?_, o.emp, o.dis, fun i b s => ?_⟩, fun b g => ?_⟩
        · obtain ⟨u, e1, r⟩ := o.rep i m e
          exact ⟨u, e1, r.mono q.sf fun b x hb e => by rw [q.at_ b (.inr ⟨i, hb⟩)]; exact e⟩
        · refine ⟨q.gn b (.inr ⟨i, s⟩), fun g => ?_⟩
          rcases g with (g | g) | ⟨k, g⟩
          · exact (o.out i b s).2 (.inl g)
          · exact (q.tn b g).2 (.inr ⟨i, s⟩)
          · exact (q.un k b g).2 (.inr ⟨i, s⟩)
        · rcases g with (g | g) | ⟨k, g⟩
          · obtain ⟨_, x, e⟩ := p.st.fr b (.inl g)
            exact ⟨q.gn b (.inl g), x, by rw [q.at_ b (.inl g)]; exact e⟩
          · exact ⟨(q.tn b g).1, q.rm.there b g⟩
          · refine ⟨(q.un k b g).1, ?_⟩
            have hk : k < vs.length := by
              by_cases hk : k < vs.length
              · exact hk
              · exact absurd g (q.uemp2 k (by omega) b)
            have hio : io[k]? = some true := by
              by_cases hi : io[k]? = some true
              · exact hi
              · exact absurd g (q.uemp k hi b)
            exact (q.fin k vs[k] (fin[k]'(by rw [q.fl]; exact hk)) hio (List.getElem?_eq_getElem hk) (List.getElem?_eq_getElem _)).there b g
      have st3 := Sta.back ls fin vs U ρ1 (fun b => G b ∨ T b) (by rw [q.fl, p.len, p.ln]) q.fl.symm (fun k i u f a b c => ⟨p.lent k i u a b, q.fin k u f (lsOk_get hio k i a) b c⟩) q.dis (fun k b u g => by
        rcases g with g | g
        · exact (q.un k b u).2 (.inl g)
        · exact q.tu k b g u) st2
      exact k F2 H2 _ v m T ⟨p.sf.trans q.sf, fun b g => (q.at_ b (.inl g)).trans (p.at_ b g), (fun e => nomatch e), q.rm, st3.less fun b g => g.elim .inl fun z => .inr z.2, fun _ b t g => (q.tn b t).2 (.inl g)⟩ hq2
section
variable {X : Cx} {x : Str} {p pos : Pos} {e : Expr} {es : List Expr} {k n : Nat} {f : Addr} {fd : FuncData} {ps : List Str} {sp : DSp} {io : List Bool} {ls : List (Option Nat)} {fs : WA} {mt : Bool}
theorem d_call (hF : FnOk X.prog X.w X.K X.mg X.base CX0 k f fd ps (spD (dcx X) n io sp)) (hr : Room k X.A) (hg : Gl X x) (hm : X.mg x = some (.ref f)) (hk : PySem.W.keepIn X.K (.ref f) = true) (hb : Binds X.K fd ps []) (ha : PA X (e :: es) (TDM (dcx X) fs mt ls)) (hl : ls.length = n) (hio : lsOk ls io = true)
    (hdb : (x == ("__debug__" : Str)) = false := by decide) (he : starEach (e :: es) X.env = (false, eval e X.env) :: starEach es X.env := by rfl) (hpl : (backTo pos (starEach es X.env)).any (·.1) = false := by rfl) :
    PE X (.Call (.Name x p) (e :: es) [] pos) (TD (dcx X) (wCall sp ls fs) false true) :=
  PE.imp (pe_call hF hr hg hm hk hb .nil pass0 ha (hdb := hdb) (he := he) (hpl := hpl)) (td_call hl hio)
end

/-! ### the def -/
def finOf : List Bool → DEnv → Option (List MV)
  | [], _ => some []
  | true :: bs, some m :: ρ => (finOf bs ρ).map (m :: ·)
  | true :: _, _ => none
  | false :: bs, _ :: ρ => (finOf bs ρ).map (.fz .non :: ·)
  | false :: _, [] => none
theorem finOf_some : ∀ {bs : List Bool} {ρ : DEnv} {fin : List MV}, finOf bs ρ = some fin → fin.length = bs.length ∧ ∀ (k : Nat) (f : MV), bs[k]? = some true → fin[k]? = some f → ρ[k]? = some (some f)
  | [], _, fin, h => by
    rw [finOf] at h
    cases h
    exact ⟨rfl, fun k f e => by simp at e⟩
  | true :: bs, [], fin, h => by simp [finOf] at h
  | true :: bs, none :: ρ, fin, h => by simp [finOf] at h
  | true :: bs, some m :: ρ, fin, h => by
    rw [finOf] at h
    obtain ⟨r, e, rfl⟩ := Option.map_eq_some_iff.mp h
    obtain ⟨h1, h2⟩ := finOf_some e
    refine ⟨by simp [h1], fun k f a b => ?_⟩
    cases k with
    | zero => simpa using b
    | succ k => simpa using h2 k f (by simpa using a) (by simpa using b)
  | false :: bs, [], fin, h => by simp [finOf] at h
  | false :: bs, o :: ρ, fin, h => by
    rw [finOf] at h
    obtain ⟨r, e, rfl⟩ := Option.map_eq_some_iff.mp h
    obtain ⟨h1, h2⟩ := finOf_some e
    refine ⟨by simp [h1], fun k f a b => ?_⟩
    cases k with
    | zero => simp at a
    | succ k => simpa using h2 k f (by simpa using a) (by simpa using b)
def endsF (io : List Bool) (Q : MV → List MV → Prop) : DE := { nx := fun ρ => ∃ fin, finOf io ρ = some fin ∧ Q (.fz .non) fin, rt := fun m ρ => ∃ fin, finOf io ρ = some fin ∧ Q m fin }
def env0 (n : Nat) (ms : List MV) : DEnv := ms.map some ++ List.replicate (n - ms.length) none
theorem fun_ok {P : Program} {w : World} {K : PySem.W.Frag} {mg : Str → Option Value} {base : Heap} {x qual : Str} {st : Stmt} {f : Addr} {fd : FuncData} {N ps : List Str} {k : Nat} {sp : DSp} {io : List Bool} {W : WS} (hF : Fun K x qual st f fd) (S : FnScope N ps (defScope st)) (hio : io.length = ps.length)
    (hbody : ∀ (cdv : Value) (A : Around) (outer : List Env) (s : Shared) (H : Hp) (E : XK), Room k (A.deeper (envOfC qual (defScope st) s.heap.objs.size f cdv)) →
      PSs (cxOf CX0 P w K mg base N qual (defScope st) f cdv A outer s H E).nox (defBody st) (TDS ⟨P, w, K⟩ (fun i => io[i]? = some true) W))
    (hm : ∀ ms Q, ms.length = ps.length → sp ms Q → W (endsF io Q) (env0 N.length ms)) : FnOk P w K mg base CX0 (k + 1) f fd ps (spD ⟨P, w, K⟩ ps.length io sp) := by
  have hpl : ps.length ≤ N.length := by have := congrArg List.length S.pre; rw [List.length_take] at this; omega
  refine hF.ok S (fun vs H Q E h => h.1) fun cdv A outer s H vs Q E hr ⟨hn, F, ms, So, G, Q', le, hl, rm, emp, dis, out, fr, hsp, cont⟩ => ?_
  refine ⟨_, hbody cdv A outer s H E hr, F, env0 N.length ms, G, endsF io Q', ⟨le, ?_, ⟨So, fun i m e => ?_, fun i h b hb => ?_, dis, out⟩, fr⟩, hm ms Q' (by rw [← hl, hn]) hsp, ?_, fun _ _ _ _ _ z => z.elim, fun _ _ _ _ _ z => z.elim, ?_⟩
  · unfold L2.start env0
    rw [List.length_append, List.length_append, List.length_map, List.length_map, List.length_replicate, List.length_replicate, hl]
  · have hi : i < ms.length := by
      unfold env0 at e
      by_cases hi : i < ms.length
      · exact hi
      · rw [List.getElem?_append_right (by simpa using hi), List.getElem?_replicate] at e
        split at e <;> cases e
    unfold env0 at e
    rw [List.getElem?_append_left (by simpa using hi), List.getElem?_map, List.getElem?_eq_getElem hi] at e
    cases e
    have hv : vs[i]? = some (vs[i]'(by omega)) := List.getElem?_eq_getElem _
    refine ⟨vs[i]'(by omega), ?_, rm i _ _ hv (List.getElem?_eq_getElem hi)⟩
    unfold L2.start
    rw [List.getElem?_append_left (by simp; omega), List.getElem?_map, hv]
    rfl
  · by_cases hi : i < ms.length
    · refine h ms[i] ?_
      unfold env0
      rw [List.getElem?_append_left (by simpa using hi), List.getElem?_map, List.getElem?_eq_getElem hi]
      rfl
    · exact emp i (by omega) b hb
  all_goals
    have slot : ∀ {σ' : L2.St} (i : Nat), io[i]? = some true → σ'[i]? = (L2.start N vs)[i]? → ∀ u, vs[i]? = some u → σ'[i]? = some (some u) := fun {σ'} i hi pr u hu => by
      rw [pr]
      unfold L2.start
      have : i < vs.length := (List.getElem?_eq_some_iff.mp hu).1
      rw [List.getElem?_append_left (by simpa using this), List.getElem?_map, hu]
      rfl
  · intro F' H' σ' ρ' p ⟨fin, hf, hq⟩
    obtain ⟨f1, f2⟩ := finOf_some hf
    obtain ⟨S', o⟩ := p.st.own
    refine cont F' H' .non (.fz .non) (fun _ => False) fin (fun k b => io[k]? = some true ∧ k < vs.length ∧ S' k b) ⟨p.sf, p.st.le, p.at_, .of .non, by rw [f1, hio, hn], fun k u g e1 e2 e3 => ?_, fun k h b z => h z.1, fun k h b z => by omega, fun j k b a c => o.dis j k b a.2.2 c.2.2, fun k b z => z.elim, fun b z => z.elim, fun k b z => o.out k b z.2.2, fun b g => (p.st.fr b g).1⟩ hq
    obtain ⟨u', e4, r⟩ := o.rep k g (f2 k g e1 e3)
    rw [slot k e1 (p.pr k e1) u e2] at e4
    cases e4
    have hk : k < vs.length := (List.getElem?_eq_some_iff.mp e2).1
    have : (fun b => io[k]? = some true ∧ k < vs.length ∧ S' k b) = S' k := funext fun b => propext ⟨fun z => z.2.2, fun z => ⟨e1, hk, z⟩⟩
    rw [this]
    exact r
  · intro F' H' σ' ρ' v m T p ⟨fin, hf, hq⟩
    obtain ⟨f1, f2⟩ := finOf_some hf
    obtain ⟨S', o⟩ := p.st.own
    refine cont F' H' v m T fin (fun k b => io[k]? = some true ∧ k < vs.length ∧ S' k b) ⟨p.sf, p.st.le, p.at_, p.rm, by rw [f1, hio, hn], fun k u g e1 e2 e3 => ?_, fun k h b z => h z.1, fun k h b z => by omega, fun j k b a c => o.dis j k b a.2.2 c.2.2, fun k b t z => (o.out k b z.2.2).2 (.inr t), fun b t => ⟨(p.st.fr b (.inr t)).1, p.ng b t⟩, fun k b z => ⟨(o.out k b z.2.2).1, fun g => (o.out k b z.2.2).2 (.inl g)⟩, fun b g => (p.st.fr b (.inl g)).1⟩ hq
    obtain ⟨u', e4, r⟩ := o.rep k g (f2 k g e1 e3)
    rw [slot k e1 (p.pr k e1) u e2] at e4
    cases e4
    have hk : k < vs.length := (List.getElem?_eq_some_iff.mp e2).1
    have : (fun b => io[k]? = some true ∧ k < vs.length ∧ S' k b) = S' k := funext fun b => propext ⟨fun z => z.2.2, fun z => ⟨e1, hk, z⟩⟩
    rw [this]
    exact r
end DL

/-! DL13: what changes a slot's own list or dict. -/
namespace DL
open PySem PySem.Spec PyProof.Rows L2

section
variable {K : DCx} {F H : Hp} {σ : L2.St} {ρ : DEnv} {G G' : ASet}
theorem upd_keep {H : Hp} {a b : Addr} {o : HO} {S : ASet} (hb : S b) (n : ¬ S a) : upd H a o b = H b := upd_ne fun z => n (z ▸ hb)
theorem Sta.mut (s : Sta K F H σ ρ G) {i : Nat} {a : Addr} {m0 m' : MV} {ob' : HO} {T : ASet} (e : ρ[i]? = some (some m0)) (hσ : σ[i]? = some (some (.ref a)))
    (hT : ∀ b, T b → G b) (hG : ∀ b, G' b → G b ∧ ¬ T b)
    (step : ∀ S, RM K F H (.ref a) m0 S → (∀ b, S b → ¬ T b) → S a ∧ ∃ S', RM K F (upd H a ob') (.ref a) m' S' ∧ ∀ b, S' b → S b ∨ T b) :
    Sta K F (upd H a ob') σ (ρ.set i (some m')) G' ∧ ¬ G a ∧ ∀ b, G b → upd H a ob' b = H b := by
  obtain ⟨S, o⟩ := s.own
  obtain ⟨v, e1, r⟩ := o.rep i m0 e
  rw [hσ] at e1
  cases e1
  obtain ⟨ha, S', r', sub⟩ := step (S i) r fun b h t => (o.out i b h).2 (hT b t)
  have hi : i < ρ.length := (List.getElem?_eq_some_iff.mp e).1
  have na : ¬ G a := (o.out i a ha).2
  have fa : F a = none := (o.out i a ha).1
  have atg : ∀ b, G b → upd H a ob' b = H b := fun b g => upd_ne fun z => na (z ▸ g)
  refine ⟨⟨same_updR s.le fa, by rw [List.length_set, s.len], ⟨fun j => if j = i then S' else S j, fun j m e => ?_, fun j h b hb => ?_, fun j k b h1 h2 => ?_, fun j b hb => ?_⟩, fun b g => ?_⟩, na, atg⟩
  · by_cases hj : j = i
    · subst hj
      rw [List.getElem?_set_self hi] at e
      cases e
      refine ⟨.ref a, hσ, ?_⟩
      simp only [if_true]
      exact r'
    · rw [List.getElem?_set_ne (Ne.symm hj)] at e
      obtain ⟨v, e1, r⟩ := o.rep j m e
      refine ⟨v, e1, ?_⟩
      simp only [if_neg hj]
      refine r.mono (Same.refl _) fun b ob hb e => ?_
      rw [upd_keep hb fun z => hj (o.dis j i a z ha)]
      exact e
  · by_cases hj : j = i
    · subst hj
      exact absurd (List.getElem?_set_self hi) (h m')
    · simp only [if_neg hj] at hb
      exact o.emp j (fun m' e => h m' (by rw [List.getElem?_set_ne (Ne.symm hj)]; exact e)) b hb
  · by_cases hj : j = i
    · by_cases hk : k = i
      · rw [hj, hk]
      · simp only [if_pos hj] at h1
        simp only [if_neg hk] at h2
        rcases sub b h1 with z | z
        · rw [hj]; exact o.dis i k b z h2
        · exact absurd (hT b z) (o.out k b h2).2
    · by_cases hk : k = i
      · simp only [if_neg hj] at h1
        simp only [if_pos hk] at h2
        rcases sub b h2 with z | z
        · rw [hk]; exact o.dis j i b h1 z
        · exact absurd (hT b z) (o.out j b h1).2
      · simp only [if_neg hj] at h1
        simp only [if_neg hk] at h2
        exact o.dis j k b h1 h2
  · by_cases hj : j = i
    · simp only [if_pos hj] at hb
      rcases sub b hb with z | z
      · exact ⟨(o.out i b z).1, fun g => (o.out i b z).2 (hG b g).1⟩
      · exact ⟨(s.fr b (hT b z)).1, fun g => (hG b g).2 z⟩
    · simp only [if_neg hj] at hb
      exact ⟨(o.out j b hb).1, fun g => (o.out j b hb).2 (hG b g).1⟩
  · obtain ⟨f0, ob, e⟩ := s.fr b (hG b g).1
    exact ⟨f0, ob, by rw [atg b (hG b g).1]; exact e⟩
/-- a list, one of its items exchanged, or one more behind -/
theorem RM.setL {a : Addr} {ms : List MV} {vs : List V} {S T : ASet} {v : V} {m : MV} {n : Nat} (r : RM K F H (.ref a) (.ol ms) S) (hv : H a = some (.lst vs)) (rt : RM K F H v m T) (dis : ∀ b, S b → ¬ T b) (hn : n < ms.length) :
    S a ∧ ∃ S', RM K F (upd H a (.lst (vs.set n v))) (.ref a) (.ol (ms.set n m)) S' ∧ ∀ b, S' b → S b ∨ T b := by
  cases r with
  | ol C h1 h2 h3 h4 h5 h6 =>
    rw [hv] at h1
    cases h1
    have sa : S a := (h6 a).mpr (.inl rfl)
    have sc : ∀ i b, i < ms.length → C i b → S b := fun i b h c => (h6 b).mpr (.inr ⟨i, h, c⟩)
    let C' : Nat → ASet := fun k b => k < ms.length ∧ if k = n then T b else C k b
    refine ⟨sa, fun b => b = a ∨ ∃ i, i < (ms.set n m).length ∧ C' i b, .ol C' upd_same (by rw [List.length_set, List.length_set, h2]) (fun k w x e1 e2 => ?_) (fun j k b c d => ?_) (fun j c => ?_) (fun b => .rfl), fun b z => ?_⟩
    · have hk : k < ms.length := by
        have := (List.getElem?_eq_some_iff.mp e2).1
        rwa [List.length_set] at this
      by_cases hkn : k = n
      · subst hkn
        rw [List.getElem?_set_self (by omega)] at e1
        rw [List.getElem?_set_self hn] at e2
        cases e1; cases e2
        have : C' k = T := funext fun b => propext ⟨fun z => by simpa using z.2, fun z => ⟨hk, by simpa using z⟩⟩
        rw [this]
        exact rt.mono (Same.refl _) fun b o hb e => by rw [upd_keep hb (dis a sa)]; exact e
      · rw [List.getElem?_set_ne (Ne.symm hkn)] at e1 e2
        have : C' k = C k := funext fun b => propext ⟨fun z => by have := z.2; rwa [if_neg hkn] at this, fun z => ⟨hk, by rwa [if_neg hkn]⟩⟩
        rw [this]
        exact (h3 k w x e1 e2).mono (Same.refl _) fun b o hb e => by rw [upd_keep hb (h5 k)]; exact e
    · obtain ⟨c1, c2⟩ := c
      obtain ⟨d1, d2⟩ := d
      by_cases hj : j = n
      · by_cases hk : k = n
        · rw [hj, hk]
        · rw [if_pos hj] at c2
          rw [if_neg hk] at d2
          exact absurd c2 (dis b (sc k b d1 d2))
      · by_cases hk : k = n
        · rw [if_neg hj] at c2
          rw [if_pos hk] at d2
          exact absurd d2 (dis b (sc j b c1 c2))
        · rw [if_neg hj] at c2
          rw [if_neg hk] at d2
          exact h4 j k b c2 d2
    · obtain ⟨c1, c2⟩ := c
      by_cases hj : j = n
      · rw [if_pos hj] at c2
        exact dis a sa c2
      · rw [if_neg hj] at c2
        exact h5 j c2
    · rcases z with rfl | ⟨j, _, z1, z2⟩
      · exact .inl sa
      · by_cases hj : j = n
        · rw [if_pos hj] at z2
          exact .inr z2
        · rw [if_neg hj] at z2
          exact .inl (sc j b z1 z2)
theorem RM.appL {a : Addr} {ms : List MV} {vs : List V} {S T : ASet} {v : V} {m : MV} (r : RM K F H (.ref a) (.ol ms) S) (hv : H a = some (.lst vs)) (rt : RM K F H v m T) (dis : ∀ b, S b → ¬ T b) :
    S a ∧ ∃ S', RM K F (upd H a (.lst (vs ++ [v]))) (.ref a) (.ol (ms ++ [m])) S' ∧ ∀ b, S' b → S b ∨ T b := by
  cases r with
  | ol C h1 h2 h3 h4 h5 h6 =>
    rw [hv] at h1
    cases h1
    have sa : S a := (h6 a).mpr (.inl rfl)
    have sc : ∀ i b, i < ms.length → C i b → S b := fun i b h c => (h6 b).mpr (.inr ⟨i, h, c⟩)
    let C' : Nat → ASet := fun k b => if k = ms.length then T b else k < ms.length ∧ C k b
    refine ⟨sa, fun b => b = a ∨ ∃ i, i < (ms ++ [m]).length ∧ C' i b, .ol C' upd_same (by rw [List.length_append, List.length_append, h2]; rfl) (fun k w x e1 e2 => ?_) (fun j k b c d => ?_) (fun j c => ?_) (fun b => .rfl), fun b z => ?_⟩
    · have hk : k < ms.length + 1 := by
        have := (List.getElem?_eq_some_iff.mp e2).1
        rwa [List.length_append] at this
      by_cases hkn : k = ms.length
      · subst hkn
        rw [List.getElem?_append_right (by omega), h2] at e1
        rw [List.getElem?_append_right (by omega)] at e2
        simp at e1 e2
        subst e1 e2
        have : C' ms.length = T := funext fun b => propext ⟨fun z => by have z : (if ms.length = ms.length then T b else _) := z; rwa [if_pos rfl] at z, fun z => by show (if ms.length = ms.length then T b else _); rwa [if_pos rfl]⟩
        rw [this]
        exact rt.mono (Same.refl _) fun b o hb e => by rw [upd_keep hb (dis a sa)]; exact e
      · rw [List.getElem?_append_left (by omega)] at e1 e2
        have : C' k = C k := funext fun b => propext ⟨fun z => by have z : (if k = ms.length then T b else k < ms.length ∧ C k b) := z; rw [if_neg hkn] at z; exact z.2, fun z => by show (if k = ms.length then T b else k < ms.length ∧ C k b); rw [if_neg hkn]; exact ⟨by omega, z⟩⟩
        rw [this]
        exact (h3 k w x e1 e2).mono (Same.refl _) fun b o hb e => by rw [upd_keep hb (h5 k)]; exact e
    · simp only [C'] at c d
      by_cases hj : j = ms.length
      · by_cases hk : k = ms.length
        · rw [hj, hk]
        · rw [if_pos hj] at c
          rw [if_neg hk] at d
          exact absurd c (dis b (sc k b d.1 d.2))
      · by_cases hk : k = ms.length
        · rw [if_neg hj] at c
          rw [if_pos hk] at d
          exact absurd d (dis b (sc j b c.1 c.2))
        · rw [if_neg hj] at c
          rw [if_neg hk] at d
          exact h4 j k b c.2 d.2
    · simp only [C'] at c
      by_cases hj : j = ms.length
      · rw [if_pos hj] at c
        exact dis a sa c
      · rw [if_neg hj] at c
        exact h5 j c.2
    · rcases z with rfl | ⟨j, _, z⟩
      · exact .inl sa
      · simp only [C'] at z
        by_cases hj : j = ms.length
        · rw [if_pos hj] at z
          exact .inr z
        · rw [if_neg hj] at z
          exact .inl (sc j b z.1 z.2)
theorem RM.lst_at {a : Addr} {ms : List MV} {S : ASet} (r : RM K F H (.ref a) (.ol ms) S) : ∃ vs, H a = some (.lst vs) ∧ vs.length = ms.length := by
  cases r with
  | ol C h1 h2 h3 h4 h5 h6 => exact ⟨_, h1, h2⟩
theorem Sta.slot (s : Sta K F H σ ρ G) {i : Nat} {m : MV} (e : ρ[i]? = some (some m)) : ∃ v S, σ[i]? = some (some v) ∧ RM K F H v m S := by
  obtain ⟨S, o⟩ := s.own
  obtain ⟨v, e1, r⟩ := o.rep i m e
  exact ⟨v, S i, e1, r⟩
theorem RM.ol_ref {v : V} {ms : List MV} {S : ASet} (r : RM K F H v (.ol ms) S) : ∃ a vs, v = .ref a ∧ H a = some (.lst vs) ∧ vs.length = ms.length := by
  cases r with
  | ol C h1 h2 h3 h4 h5 h6 => exact ⟨_, _, rfl, h1, h2⟩
end

/-- x.append(e) -/
def wApp (i : Nat) (f : WE) : WE := fun ρ Q => (∃ ms, ρ[i]? = some (some (.ol ms))) ∧ f ρ fun m ρ1 => ∃ ms, ρ1[i]? = some (some (.ol ms)) ∧ ms.length < lim ∧ Q (.fz .non) (ρ1.set i (some (.ol (ms ++ [m]))))
theorem td_app {K : DCx} {i : Nat} {f : WE} {mt : Bool} : ∀ σ H Q, TD K (wApp i f) false true σ H Q → tBM K.K "list" rAppend (tVar i) (tCons (TD K f false mt) tNil) σ H Q := fun σ H Q ⟨F, ρ, G, Q', st, ⟨⟨ms0, e0⟩, h⟩, k⟩ => by
  obtain ⟨v, S, e1, r⟩ := st.slot e0
  obtain ⟨a, vs0, rfl, h1, _⟩ := r.ol_ref
  refine ⟨_, e1, .inl ⟨rfl, vs0, .of h1⟩, F, ρ, G, _, st, h, fun F1 H1 ρ1 w m T p ⟨ms, e2, hz, q⟩ => ?_⟩
  obtain ⟨v', S', e3, r'⟩ := p.st.slot e2
  rw [e1] at e3
  cases e3
  obtain ⟨vs, h2, hl⟩ := r'.lst_at
  refine ⟨a, vs, w, rfl, rfl, h2, lim_lt (by rw [hl]; exact hz), ?_⟩
  obtain ⟨st2, na, atg⟩ := p.st.mut (G' := G) (ob' := .lst (vs ++ [w])) (m' := .ol (ms ++ [m])) (T := T) e2 e1 (fun b t => .inr ⟨rfl, t⟩) (fun b g => ⟨.inl g, fun t => p.ng rfl b t g⟩) fun S rS dis => rS.appL h2 p.rm dis
  exact k F1 _ _ .non (.fz .non) (fun _ => False) ⟨p.sf, fun b g => (atg b (.inl g)).trans (p.at_ b g), (fun e => nomatch e), .of .non, st2.less fun b g => g.elim id fun z => z.2.elim, fun _ _ z => z.elim⟩ q
section
variable {X : Cx} {x : Str} {xp apos cpos : Pos} {e : Expr} {i : Nat} {f : WE} {mt : Bool}
theorem pa1 {te : TE} (he : PE X e te) (hs : starEach [e] X.env = [(false, eval e X.env)] := by rfl) : PA X [e] (tCons te tNil) := pa_cons he pa_nil hs
theorem MtM.r {id : String} {r : V → List V → Hp → VK → Prop} (h : MtM X id r) : MtR X id r := fun pins s σ H x xs v us Q I rx rs q => h pins s σ H x xs v us Q I rx rs q
theorem d_app (ho : PE X (.Name x xp) (tVar i)) (he : PE X e (TD (dcx X) f false mt)) 
    (hbase : attributeBase (.Name x xp) "append" X.env (eval (.Name x xp) X.env) = eval (.Name x xp) X.env := by rfl)
    (hfew : ((backTo cpos (starEach [e] X.env)).all (fun x => !x.1) && (backToKw cpos (keywordEach [] X.env)).all (fun x => x.1.isSome)
      && decide (([e] : List Expr).length + ([] : List Keyword).length + (if ([] : List Keyword).isEmpty then 0 else 1) < 30)) = true := by rfl)
    (hline : (apos.endLine == cpos.line) = true := by rfl) (hs : starEach [e] X.env = [(false, eval e X.env)] := by rfl) :
    PE X (.Call (.Attribute (.Name x xp) "append" apos) [e] [] cpos) (TD (dcx X) (wApp i f) false true) :=
  PE.imp (pe_bm PySem.F.plainAttrs_list PySem.F.slot_list_append PySem.F.type_list_append (MtM.r mt_append) ho (pa1 he hs) hbase hfew hline hs (hplain := by rfl)) td_app
end

/-- x[k] = e, x a list -/
def wSetL (i : Nat) (f g : WE) : WS := fun D ρ => f ρ fun m ρ1 => (∃ q, ρ1[i]? = some (some q)) ∧ g ρ1 fun k ρ2 => ∃ ms j n, ρ2[i]? = some (some (.ol ms)) ∧ k = .fz (.int j) ∧ ixN ms.length j = some n ∧ D.nx (ρ2.set i (some (.ol (ms.set n m))))
theorem tds_setL {K : DCx} {P : Nat → Prop} {i : Nat} {f g : WE} {m1 m2 p2 : Bool} : ∀ D σ H, TDS K P (wSetL i f g) D σ H → tAsg (TD K f false m1) (gSub (tVar i) (TD K g p2 m2) rSetL) D σ H := fun D σ H ⟨F, ρ, G, D', st, h, k1, _⟩ => by
  refine ⟨F, ρ, G, _, st, h, fun F1 H1 ρ1 w m T p ⟨⟨q0, e0⟩, h2⟩ => ?_⟩
  obtain ⟨v, _, e1, _⟩ := p.st.slot e0
  refine ⟨v, e1, F1, ρ1, fun b => G b ∨ T b, _, p.st.less fun b g => g.elim .inl fun z => .inr ⟨rfl, z⟩, h2, fun F2 H2 ρ2 kv km S2 q ⟨ms, j, n, e2, ek, hj, hq⟩ => ?_⟩
  subst ek
  obtain ⟨fz, _⟩ := q.rm.fzv
  cases fz
  obtain ⟨v', S', e3, r'⟩ := q.st.slot e2
  rw [e1] at e3
  cases e3
  obtain ⟨a, vs, rfl, h3, hl⟩ := r'.ol_ref
  refine ⟨a, vs, j, n, rfl, rfl, h3, by rw [hl]; exact hj, ?_⟩
  have hn : n < ms.length := (ixN_seq hj).2.1
  have rt : RM K F2 H2 w m T := p.rm.mono q.sf fun b o hb e => by rw [q.at_ b (.inr hb)]; exact e
  obtain ⟨st2, na, atg⟩ := q.st.mut (G' := G) (ob' := .lst (vs.set n w)) (m' := .ol (ms.set n m)) (T := T) e2 e1 (fun b t => .inl (.inr t)) (fun b g => ⟨.inl (.inl g), fun t => p.ng rfl b t g⟩) fun S rS dis => rS.setL h3 rt dis hn
  exact k1 F2 _ σ _ ⟨p.sf.trans q.sf, fun b g => (atg b (.inl (.inl g))).trans ((q.at_ b (.inl g)).trans (p.at_ b g)), fun _ _ => rfl, st2⟩ hq
section
variable {X : Cx} {x : Str} {xp spos pos : Pos} {e ix : Expr} {i : Nat} {f g : WE} {m1 m2 p2 : Bool} {P : Nat → Prop}
theorem ds_setL (ho : PE X (.Name x xp) (tVar i)) (he : PE X e (TD (dcx X) f false m1)) (hi : PE X ix (TD (dcx X) g p2 m2))
    (ha : ∀ v, assign (.Subscript (.Name x xp) ix spos) X.env v = (do
      let ov ← holding [v] (eval (.Name x xp) X.env)
      let iv ← holding [v, ov] (eval ix X.env)
      standAt spos
      holding [v, ov, iv] (setItem ov iv v)
      release [v, ov, iv] []) := by intro _; rfl)
    (hs : swapsWithSole [.Subscript (.Name x xp) ix spos] e pos.line X.env = pure false := by rfl) (hw : swappedStores [.Subscript (.Name x xp) ix spos] e X.env = pure none := by rfl)
    (h1 : (assignEach [.Subscript (.Name x xp) ix spos] X.env).map (·.2) = [assign (.Subscript (.Name x xp) ix spos) X.env] := by rfl) :
    PS X (.Assign [.Subscript (.Name x xp) ix spos] e pos) (TDS (dcx X) P (wSetL i f g)) :=
  PS.imp (ps_asg he (pg_sub ho hi set_list ha) hs hw h1) tds_setL
end
end DL

/-! DL14: x[k] = e for a slot's own list or dict, x.setdefault(k, e). -/
namespace DL
open PySem PySem.Spec PyProof.Rows L2

section
variable {K : DCx} {F H : Hp} {σ : L2.St} {ρ : DEnv} {G G' : ASet}
theorem Sta.opn (s : Sta K F H σ ρ G) {i : Nat} {m0 : MV} (e : ρ[i]? = some (some m0)) : ∃ v S, σ[i]? = some (some v) ∧ RM K F H v m0 S ∧ (∀ b, S b → ¬ G b) ∧
    ∀ {a : Addr} {m' : MV} {ob' : HO} {T G' : ASet}, v = .ref a → S a → (∀ b, T b → G b) → (∀ b, G' b → G b ∧ ¬ T b) → (∃ S', RM K F (upd H a ob') (.ref a) m' S' ∧ ∀ b, S' b → S b ∨ T b) →
    Sta K F (upd H a ob') σ (ρ.set i (some m')) G' ∧ ∀ b, G b → upd H a ob' b = H b := by
  obtain ⟨S, o⟩ := s.own
  obtain ⟨v, e1, r⟩ := o.rep i m0 e
  refine ⟨v, S i, e1, r, fun b h => (o.out i b h).2, fun {a m' ob' T G'} hv ha hT hG ⟨S', r', sub⟩ => ?_⟩
  subst hv
  have hi : i < ρ.length := (List.getElem?_eq_some_iff.mp e).1
  have na : ¬ G a := (o.out i a ha).2
  have fa : F a = none := (o.out i a ha).1
  have atg : ∀ b, G b → upd H a ob' b = H b := fun b g => upd_ne fun z => na (z ▸ g)
  refine ⟨⟨same_updR s.le fa, by rw [List.length_set, s.len], ⟨fun j => if j = i then S' else S j, fun j m e => ?_, fun j h b hb => ?_, fun j k b h1 h2 => ?_, fun j b hb => ?_⟩, fun b g => ?_⟩, atg⟩
  · by_cases hj : j = i
    · subst hj
      rw [List.getElem?_set_self hi] at e
      cases e
      refine ⟨.ref a, e1, ?_⟩
      simp only [if_true]
      exact r'
    · rw [List.getElem?_set_ne (Ne.symm hj)] at e
      obtain ⟨v, e1, r⟩ := o.rep j m e
      refine ⟨v, e1, ?_⟩
      simp only [if_neg hj]
      refine r.mono (Same.refl _) fun b ob hb e => ?_
      rw [upd_keep hb fun z => hj (o.dis j i a z ha)]
      exact e
  · by_cases hj : j = i
    · subst hj
      exact absurd (List.getElem?_set_self hi) (h m')
    · simp only [if_neg hj] at hb
      exact o.emp j (fun m' e => h m' (by rw [List.getElem?_set_ne (Ne.symm hj)]; exact e)) b hb
  · by_cases hj : j = i
    · by_cases hk : k = i
      · rw [hj, hk]
      · simp only [if_pos hj] at h1
        simp only [if_neg hk] at h2
        rcases sub b h1 with z | z
        · rw [hj]; exact o.dis i k b z h2
        · exact absurd (hT b z) (o.out k b h2).2
    · by_cases hk : k = i
      · simp only [if_neg hj] at h1
        simp only [if_pos hk] at h2
        rcases sub b h2 with z | z
        · rw [hk]; exact o.dis j i b h1 z
        · exact absurd (hT b z) (o.out j b h1).2
      · simp only [if_neg hj] at h1
        simp only [if_neg hk] at h2
        exact o.dis j k b h1 h2
  · by_cases hj : j = i
    · simp only [if_pos hj] at hb
      rcases sub b hb with z | z
      · exact ⟨(o.out i b z).1, fun g => (o.out i b z).2 (hG b g).1⟩
      · exact ⟨(s.fr b (hT b z)).1, fun g => (hG b g).2 z⟩
    · simp only [if_neg hj] at hb
      exact ⟨(o.out j b hb).1, fun g => (o.out j b hb).2 (hG b g).1⟩
  · obtain ⟨f0, ob, e⟩ := s.fr b (hG b g).1
    exact ⟨f0, ob, by rw [atg b (hG b g).1]; exact e⟩

theorem any_keys {α β : Type} : ∀ {xs : List (D × α)} {ys : List (D × β)} (k : D), xs.length = ys.length → (∀ (j : Nat) p q, xs[j]? = some p → ys[j]? = some q → p.1 = q.1) → (xs.any fun p => sameK p.1 k) = ys.any fun p => sameK p.1 k
  | [], [], _, _, _ => rfl
  | [], _ :: _, _, h, _ => by cases h
  | _ :: _, [], _, h, _ => by cases h
  | p :: xs, q :: ys, k, h, e => by
    rw [List.any_cons, List.any_cons, e 0 p q rfl rfl, any_keys (xs := xs) (ys := ys) k (by simpa using h) fun j p q a b => e (j + 1) p q (by simpa using a) (by simpa using b)]
theorem dlk_rel2 {α β : Type} {R : α → β → Prop} : ∀ {xs : List (D × α)} {ys : List (D × β)} (k : D), xs.length = ys.length → (∀ (j : Nat) p q, xs[j]? = some p → ys[j]? = some q → p.1 = q.1 ∧ R p.2 q.2) →
    (dlk xs k = none ∧ dlk ys k = none) ∨ ∃ x y, dlk xs k = some x ∧ dlk ys k = some y ∧ R x y
  | [], [], _, _, _ => .inl ⟨rfl, rfl⟩
  | [], _ :: _, _, h, _ => by cases h
  | _ :: _, [], _, h, _ => by cases h
  | p :: xs, q :: ys, k, h, e => by
    obtain ⟨e1, e2⟩ := e 0 p q rfl rfl
    have ih := dlk_rel2 (R := R) (xs := xs) (ys := ys) k (by simpa using h) fun j p q a b => e (j + 1) p q (by simpa using a) (by simpa using b)
    unfold dlk at ih ⊢
    rw [List.find?_cons, List.find?_cons, ← e1]
    cases sameK p.1 k with
    | true => exact .inr ⟨p.2, q.2, rfl, rfl, e2⟩
    | false => exact ih
theorem dput_get {α : Type} (xs : List (D × α)) (k : D) (m : α) (j : Nat) : (dput xs k m)[j]? =
    if (xs.any fun p => sameK p.1 k) = true then xs[j]?.map (fun p => if sameK p.1 k = true then (p.1, m) else p) else if j = xs.length then some (k, m) else xs[j]? := by
  unfold dput
  split
  · rw [List.getElem?_map]
  · split
    · rename_i h
      subst h
      simp
    · rename_i h
      by_cases hj : j < xs.length
      · rw [List.getElem?_append_left hj]
      · rw [List.getElem?_eq_none (by simp; omega), List.getElem?_eq_none (by omega)]
theorem dput_length {α β : Type} {xs : List (D × α)} {ys : List (D × β)} (k : D) (a : α) (b : β) (h : xs.length = ys.length) (e : ∀ (j : Nat) p q, xs[j]? = some p → ys[j]? = some q → p.1 = q.1) : (dput xs k a).length = (dput ys k b).length := by
  unfold dput
  rw [any_keys k h e]
  split
  · rw [List.length_map, List.length_map, h]
  · rw [List.length_append, List.length_append, h]; rfl
theorem DicO.put {a : Addr} {t : Bool} {ob : HO} {kvs : List (D × V)} {y v : V} {k : D} (le : Same F H) (e : H a = some ob) (h : DicO K F a t ob kvs) (kd : KD K F y k) (ok : keyOk t k = true) (hl : kvs.length < lim) :
    ∃ ob', DP K F H a y v (dlk kvs k) ob' ∧ DicO K F a t ob' (dput kvs k v) := by
  rcases h with ⟨rfl, ks, rfl, rfl⟩ | ⟨rfl, ys, rfl, pk⟩
  · obtain ⟨k', rfl, rfl⟩ := kd.key ok
    exact ⟨.dK (putK ks k' v), ⟨le, false, _, _, _, e, .inl ⟨rfl, ks, rfl, rfl⟩, kd, ok, hl, rfl, .inl ⟨rfl, ks, k', rfl, rfl, rfl⟩⟩, .inl ⟨rfl, _, rfl, dput_dK ks k' v⟩⟩
  · obtain ⟨b, n, rfl, hk, h8⟩ := kd.keyT ok
    exact ⟨DN K a (storeY ys n b v), ⟨le, true, _, _, _, e, .inr ⟨rfl, ys, rfl, pk⟩, kd, ok, hl, rfl, .inr ⟨rfl, ys, n, b, rfl, pk, rfl, hk, h8, rfl⟩⟩, .inr ⟨rfl, _, rfl, DNrel.store pk hk h8 kd⟩⟩
theorem RM.putD {w : V} {t : Bool} {xs : List (D × MV)} {S : ASet} (r : RM K F H w (.od t xs) S) (le : Same F H) {y v : V} {k d : D} (kd : KD K F y k) (ok : keyOk t k = true) (fz : Fz K F v d) (hl : xs.length < lim) :
    ∃ a ob' o, w = .ref a ∧ S a ∧ DP K F H a y v o ob' ∧ (∃ S', RM K F (upd H a ob') (.ref a) (.od t (dput xs k (.fz d))) S' ∧ ∀ b, S' b → S b) ∧
      ((o = none ∧ dlk xs k = none) ∨ ∃ z m, o = some z ∧ dlk xs k = some m ∧ ∃ C, RM K F H z m C) := by
  cases r with
  | @od a t ob kvs xs S C h1 h2 h3 h4 h5 h6 h7 h8 =>
    have sa : S a := (h8 a).mpr (.inl rfl)
    have sc : ∀ i b, i < xs.length → C i b → S b := fun i b h c => (h8 b).mpr (.inr ⟨i, h, c⟩)
    obtain ⟨ob', dp, dic⟩ := DicO.put (v := v) le h1 h2 kd ok (by rw [h3]; exact hl)
    let hit : Nat → Prop := fun j => ∃ p, xs[j]? = some p ∧ sameK p.1 k = true
    let C' : Nat → ASet := fun j b => j < xs.length ∧ ¬ hit j ∧ C j b
    have hlen := dput_length k v (MV.fz d) h3 h4
    refine ⟨a, ob', _, rfl, sa, dp, ⟨fun b => b = a ∨ ∃ i, i < (dput xs k (.fz d)).length ∧ C' i b, .od C' upd_same dic hlen (fun j p q e1 e2 => ?_) (fun j p q e1 e2 => ?_) (fun i j b c c' => h6 i j b c.2.2 c'.2.2) (fun i c => h7 i c.2.2) fun b => .rfl, fun b z => ?_⟩, ?_⟩
    · rw [dput_get, any_keys k h3 h4] at e1
      rw [dput_get] at e2
      split at e1
      · rename_i hz
        rw [if_pos hz] at e2
        obtain ⟨p', e3, rfl⟩ := Option.map_eq_some_iff.mp e1
        obtain ⟨q', e4, rfl⟩ := Option.map_eq_some_iff.mp e2
        have := h4 j p' q' e3 e4
        rw [this]
        split <;> first | rfl | exact this
      · rename_i hz
        rw [if_neg hz] at e2
        rw [h3] at e1
        split at e1
        · rename_i hj
          rw [if_pos hj] at e2
          cases e1; cases e2; rfl
        · rename_i hj
          rw [if_neg hj] at e2
          exact h4 j p q e1 e2
    · have frz : RM K F (upd H a ob') v (.fz d) (fun _ => False) := .of fz
      have emp : ∀ {m : MV}, (∀ b, ¬ C' j b) → m = .fz d → RM K F (upd H a ob') v m (C' j) := fun hb e => by
        subst e
        exact .fz fz hb
      rw [dput_get, any_keys k h3 h4] at e1
      rw [dput_get] at e2
      have old : ∀ p' q', kvs[j]? = some p' → xs[j]? = some q' → ¬ hit j → RM K F (upd H a ob') p'.2 q'.2 (C' j) := fun p' q' e3 e4 nh => by
        have hj : j < xs.length := (List.getElem?_eq_some_iff.mp e4).1
        have : C' j = C j := funext fun b => propext ⟨fun z => z.2.2, fun z => ⟨hj, nh, z⟩⟩
        rw [this]
        exact (h5 j p' q' e3 e4).mono (Same.refl _) fun b o hb e => by rw [upd_keep hb (h7 j)]; exact e
      split at e1
      · rename_i hz
        rw [if_pos hz] at e2
        obtain ⟨p', e3, rfl⟩ := Option.map_eq_some_iff.mp e1
        obtain ⟨q', e4, rfl⟩ := Option.map_eq_some_iff.mp e2
        have hk := h4 j p' q' e3 e4
        by_cases hs : sameK q'.1 k = true
        · rw [if_pos (by rw [hk]; exact hs), if_pos hs]
          exact .fz fz fun b z => z.2.1 ⟨q', e4, hs⟩
        · rw [if_neg (by rw [hk]; exact hs), if_neg hs]
          refine old p' q' e3 e4 fun ⟨q2, e5, e6⟩ => ?_
          rw [e4] at e5
          cases e5
          exact hs e6
      · rename_i hz
        rw [if_neg hz] at e2
        rw [h3] at e1
        split at e1
        · rename_i hj
          rw [if_pos hj] at e2
          cases e1; cases e2
          exact .fz fz fun b z => by have := z.1; omega
        · rename_i hj
          rw [if_neg hj] at e2
          refine old p q e1 e2 fun ⟨q2, e5, e6⟩ => hz ?_
          exact List.any_eq_true.mpr ⟨q2, List.mem_of_getElem? e5, e6⟩
    · rcases z with rfl | ⟨i, _, z⟩
      · exact sa
      · exact sc i b z.1 z.2.2
    · rcases dlk_rel2 (R := fun z m => ∃ C, RM K F H z m C) k h3 fun j p q e1 e2 => ⟨h4 j p q e1 e2, C j, h5 j p q e1 e2⟩ with z | ⟨x, y, e1, e2, z⟩
      · exact .inl z
      · exact .inr ⟨x, y, e1, e2, z⟩
end

/-- what x[k] = m makes of x -/
def MV.put : MV → MV → MV → Option MV
  | .ol ms, .fz (.int j), m => (ixN ms.length j).map fun n => .ol (ms.set n m)
  | .od t xs, .fz k, .fz d => if keyOk t k = true ∧ k.nk.isSome = true ∧ xs.length < lim then some (.od t (dput xs k (.fz d))) else none
  | _, _, _ => none
def rSetX (X : Cx) : TSet := fun o i v H Q => rSetL o i v H Q ∨ ∃ a F ob' oo, o = .ref a ∧ DP (dcx X) F H a i v oo ob' ∧ Q (upd H a ob')
theorem set_x {X : Cx} (hu : X.A.units + 64 < cLine) : PSet X (rSetX X) := by
  intro pins s σ H o i v ov iv u Q I ro ri rv h
  rcases h with h | ⟨a, F, ob', oo, rfl, dp, q⟩
  · exact set_list pins s σ H o i v ov iv u Q I ro ri rv h
  · cases ro
    exact g_setItem hu I dp ri rv fun s' I' => ⟨_, I', q⟩
theorem put_x {X : Cx} {F H : Hp} {σ : L2.St} {ρ : DEnv} {G G' : ASet} (s : Sta (dcx X) F H σ ρ G) {i : Nat} {m0 km m m' : MV} (e : ρ[i]? = some (some m0)) (hp : m0.put km m = some m') {kv v : V} {S T : ASet}
    (rk : RM (dcx X) F H kv km S) (rt : RM (dcx X) F H v m T) (hT : ∀ b, T b → G b) (hG : ∀ b, G' b → G b ∧ ¬ T b) {Q : Hp → Prop} :
    ∃ w, σ[i]? = some (some w) ∧ ((∀ H', Sta (dcx X) F H' σ (ρ.set i (some m')) G' → (∀ b, G b → H' b = H b) → Q H') → rSetX X w kv v H Q) := by
  obtain ⟨w, S0, e1, r, ng, go⟩ := s.opn e
  refine ⟨w, e1, fun hQ => ?_⟩
  unfold MV.put at hp
  split at hp
  · rename_i ms j
    obtain ⟨n, hj, rfl⟩ := Option.map_eq_some_iff.mp hp
    obtain ⟨fz, _⟩ := rk.fzv
    cases fz
    obtain ⟨a, vs, rfl, h3, hl⟩ := r.ol_ref
    obtain ⟨sa, S', r', sub⟩ := r.setL h3 rt (fun b sb t => ng b sb (hT b t)) (ixN_seq hj).2.1
    obtain ⟨st2, atg⟩ := go rfl sa hT hG ⟨S', r', sub⟩
    exact .inl ⟨a, vs, j, n, rfl, rfl, h3, by rw [hl]; exact hj, hQ _ st2 atg⟩
  · rename_i t xs k d
    split at hp
    · rename_i hc
      cases hp
      obtain ⟨fk, _⟩ := rk.fzv
      obtain ⟨fd, nt⟩ := rt.fzv
      obtain ⟨a, ob', o, rfl, sa, dp, ⟨S', r', sub⟩, _⟩ := r.putD s.le (fk.kd hc.2.1) hc.1 fd hc.2.2
      obtain ⟨st2, atg⟩ := go (T := T) rfl sa hT hG ⟨S', r', fun b z => .inl (sub b z)⟩
      exact .inr ⟨a, F, ob', o, rfl, dp, hQ _ st2 atg⟩
    · cases hp
  · cases hp
/-- x[k] = e -/
def wSet (i : Nat) (f g : WE) : WS := fun D ρ => f ρ fun m ρ1 => (∃ q, ρ1[i]? = some (some q)) ∧ g ρ1 fun k ρ2 => ∃ q q', ρ2[i]? = some (some q) ∧ q.put k m = some q' ∧ D.nx (ρ2.set i (some q'))
theorem tds_set {X : Cx} {P : Nat → Prop} {i : Nat} {f g : WE} {m1 m2 p2 : Bool} : ∀ D σ H, TDS (dcx X) P (wSet i f g) D σ H → tAsg (TD (dcx X) f false m1) (gSub (tVar i) (TD (dcx X) g p2 m2) (rSetX X)) D σ H := fun D σ H ⟨F, ρ, G, D', st, h, k1, _⟩ => by
  refine ⟨F, ρ, G, _, st, h, fun F1 H1 ρ1 w m T p ⟨⟨q0, e0⟩, h2⟩ => ?_⟩
  obtain ⟨v, _, e1, _⟩ := p.st.slot e0
  refine ⟨v, e1, F1, ρ1, fun b => G b ∨ T b, _, p.st.less fun b g => g.elim .inl fun z => .inr ⟨rfl, z⟩, h2, fun F2 H2 ρ2 kv km S2 q ⟨m0, m', e2, hp, hq⟩ => ?_⟩
  have rt : RM (dcx X) F2 H2 w m T := p.rm.mono q.sf fun b o hb e => by rw [q.at_ b (.inr hb)]; exact e
  obtain ⟨v', e3, go⟩ := put_x (G' := G) (Q := fun H3 => D.nx σ H3) q.st e2 hp q.rm rt (fun b t => .inl (.inr t)) (fun b g => ⟨.inl (.inl g), fun t => p.ng rfl b t g⟩)
  rw [e1] at e3
  cases e3
  exact go fun H3 st2 atg => k1 F2 H3 σ _ ⟨p.sf.trans q.sf, fun b g => (atg b (.inl (.inl g))).trans ((q.at_ b (.inl g)).trans (p.at_ b g)), fun _ _ => rfl, st2⟩ hq
section
variable {X : Cx} {x : Str} {xp spos pos : Pos} {e ix : Expr} {i : Nat} {f g : WE} {m1 m2 p2 : Bool} {P : Nat → Prop}
theorem ds_set (hu : X.A.units + 64 < cLine) (ho : PE X (.Name x xp) (tVar i)) (he : PE X e (TD (dcx X) f false m1)) (hi : PE X ix (TD (dcx X) g p2 m2))
    (ha : ∀ v, assign (.Subscript (.Name x xp) ix spos) X.env v = (do
      let ov ← holding [v] (eval (.Name x xp) X.env)
      let iv ← holding [v, ov] (eval ix X.env)
      standAt spos
      holding [v, ov, iv] (setItem ov iv v)
      release [v, ov, iv] []) := by intro _; rfl)
    (hs : swapsWithSole [.Subscript (.Name x xp) ix spos] e pos.line X.env = pure false := by rfl) (hw : swappedStores [.Subscript (.Name x xp) ix spos] e X.env = pure none := by rfl)
    (h1 : (assignEach [.Subscript (.Name x xp) ix spos] X.env).map (·.2) = [assign (.Subscript (.Name x xp) ix spos) X.env] := by rfl) :
    PS X (.Assign [.Subscript (.Name x xp) ix spos] e pos) (TDS (dcx X) P (wSet i f g)) :=
  PS.imp (ps_asg he (pg_sub ho hi (set_x hu) ha) hs hw h1) tds_set
end

/-- a value that lay beside never changes any more -/
def wFrz (f : WE) : WE := fun ρ Q => f ρ fun m ρ1 => Q (.fz m.toD) ρ1
theorem td_frz {K : DCx} {f : WE} {mt : Bool} : ∀ σ H Q, TD K (wFrz f) false mt σ H Q → TD K f false mt σ H Q := fun σ H Q ⟨F, ρ, G, Q', st, h, k⟩ => by
  refine ⟨F, ρ, G, _, st, h, fun F1 H1 ρ1 v m S p q => ?_⟩
  obtain ⟨F2, sf, fz, st2, hF⟩ := p.st.freeze (G' := G) p.rm (fun b s => .inr ⟨rfl, s⟩) fun b g => ⟨.inl g, fun s => p.ng rfl b s g⟩
  exact k F2 H1 ρ1 v (.fz m.toD) (fun _ => False) ⟨p.sf.trans sf, p.at_, p.qt, .of fz, st2.less fun b g => g.elim id fun z => z.2.elim, fun _ _ z => z.elim⟩ q

/-! ### x.setdefault(k, e) -/
theorem dic_typeIs {X : Cx} {pins : List (Addr × Obj)} {σ : L2.St} {H F : Hp} {s : Shared} {a : Addr} {t : Bool} {ob : HO} {kvs : List (D × V)} (I : Inv X pins σ H s) (le : Same F H) (e : H a = some ob) (h : DicO (dcx X) F a t ob kvs) :
    s.TypeIs (.ref a) "dict" ∧ (∀ b, Value.ref a = .ref b → ∃ ob, s.heap.get? b = some ob ∧ ob.dict = none) := by
  rcases h with ⟨rfl, ks, rfl, rfl⟩ | ⟨rfl, ys, rfl, pk⟩
  · obtain ⟨h1, h2, _⟩ := isD_at I (.inl ⟨ks, .inl e⟩)
    exact ⟨h1, h2⟩
  · obtain ⟨us, dd, _⟩ := dn_open I le e pk
    refine ⟨dd.typeIs, fun b e => ?_⟩
    cases e
    obtain ⟨ob, _, _, h1, h2, _⟩ := dd
    exact ⟨ob, h1, h2.2.1⟩
def IsDic (K : DCx) (H : Hp) (a : Addr) : Prop := ∃ F t ob kvs, Same F H ∧ H a = some ob ∧ DicO K F a t ob kvs
def tSetd (K : DCx) (td ty tx : TE) : TE := fun σ H Q => td σ H fun x H1 => ∃ a, x = .ref a ∧ IsDic K H1 a ∧ ty σ H1 fun y H2 => tx σ H2 fun z H3 => ∃ F o ob', DP K F H3 a y z o ob' ∧
  (∀ v, o = some v → Q v H3) ∧ (o = none → Q z (upd H3 a ob'))
section
variable {X : Cx} {o e f : Expr} {td ty tx : TE} {apos cpos : Pos}
theorem pe_setd (hu : X.A.units + 64 < cLine) (ho : PE X o td) (he : PE X e ty) (hf : PE X f tx) (m : M2 X o "setdefault" apos e f cpos) : PE X (.Call (.Attribute o "setdefault" apos) [e, f] [] cpos) (tSetd (dcx X) td ty tx) := by
  refine ⟨fun pins s σ H Q I h => ?_⟩
  refine wpAny_Call_method m.base m.few m.line PySem.F.plainAttrs_dict PySem.F.slot_dict_setdefault PySem.F.type_dict_setdefault (thn (ho.run pins s σ H _ I h) fun u s1 ⟨x, H1, I1, rx, a, ex, ⟨F, t, ob, kvs, le, e0, dic⟩, q1⟩ => ?_)
  subst ex
  obtain rfl : u = Value.ref a := rx
  obtain ⟨t1, t2⟩ := dic_typeIs I1 le e0 dic
  refine ⟨t1, t2, ?_⟩
  rw [m.trees]
  refine Calls.callWith_builtin rfl (Calls.evalArgs_plain (Calls.spliced_cons (thn (he.run pins s1 σ H1 _ I1 q1) fun iv s2 ⟨y, H2, I2, ry, q2⟩ =>
    Calls.spliced_cons (thn (hf.run pins s2 σ H2 _ I2 q2) fun fv s3 ⟨z, H3, I3, rz, F3, oo, ob', dp, q3, q4⟩ => Calls.spliced_nil ?_))))
  exact g_setd hu I3 dp ry rz (fun v hv w' s4 I4 rw' => ⟨v, _, I4, rw', q3 v hv⟩) fun hn w' s4 I4 rw' => ⟨z, _, I4, rw', q4 hn⟩
end
def MV.fzd : MV → Option D
  | .fz d => some d
  | _ => none
def wSetd (i : Nat) (g f : WE) : WE := fun ρ Q => (∃ t xs, ρ[i]? = some (some (.od t xs))) ∧ g ρ fun k ρ1 => f ρ1 fun m ρ2 => ∃ t xs d kd, ρ2[i]? = some (some (.od t xs)) ∧ m = .fz d ∧ k = .fz kd ∧ (keyOk t kd = true ∧ kd.nk.isSome = true ∧ xs.length < lim) ∧
  (∀ z, dlk xs kd = some z → ∃ d', z = .fz d' ∧ Q (.fz d') ρ2) ∧ (dlk xs kd = none → Q (.fz d) (ρ2.set i (some (.od t (dput xs kd (.fz d))))))
theorem td_setd {K : DCx} {i : Nat} {f g : WE} {p1 p2 m1 m2 : Bool} : ∀ σ H Q, TD K (wSetd i g f) false true σ H Q → tSetd K (tVar i) (TD K g p1 m1) (TD K f p2 m2) σ H Q := fun σ H Q ⟨F, ρ, G, Q', st, ⟨⟨t, xs, e0⟩, h⟩, k⟩ => by
  obtain ⟨v, S, e1, r⟩ := st.slot e0
  have hv : ∃ a, v = .ref a ∧ IsDic K H a := by
    cases r with
    | od C h1 h2 h3 h4 h5 h6 h7 h8 => exact ⟨_, rfl, F, _, _, _, st.le, h1, h2⟩
  obtain ⟨a, rfl, isd⟩ := hv
  refine ⟨_, e1, a, rfl, isd, F, ρ, G, _, st, h, fun F1 H1 ρ1 kv km S1 p1 h1 => ?_⟩
  refine ⟨F1, ρ1, G, _, p1.st.less fun b g => .inl g, h1, fun F2 H2 ρ2 z zm S2 p2 ⟨t, xs, d, kd, e2, ez, ek, hc, q1, q2⟩ => ?_⟩
  subst ez ek
  obtain ⟨fk, _⟩ := p1.rm.fzv
  obtain ⟨fd, nt⟩ := p2.rm.fzv
  have st2 : Sta K F2 H2 σ ρ2 G := p2.st.less fun b g => .inl g
  obtain ⟨w, S0, e3, r2, ng, go⟩ := st2.opn e2
  rw [e1] at e3
  cases e3
  obtain ⟨a', ob', o, ea, sa, dp, ⟨S', r', sub⟩, hlk⟩ := r2.putD st2.le ((fk.mono p2.sf).kd hc.2.1) hc.1 fd hc.2.2
  cases ea
  refine ⟨F2, o, ob', dp, fun z' hz => ?_, fun hn => ?_⟩
  · rcases hlk with ⟨e4, _⟩ | ⟨z2, m2', e4, e5, C, r5⟩
    · rw [hz] at e4; cases e4
    · rw [hz] at e4
      cases e4
      obtain ⟨d', rfl, q⟩ := q1 m2' e5
      exact k F2 H2 ρ2 z' (.fz d') (fun _ => False) ⟨p1.sf.trans p2.sf, fun b g => (p2.at_ b g).trans (p1.at_ b g), (fun e => nomatch e), .of r5.fzv.1, st2.less fun b g => g.elim id fun z => z.2.elim, fun _ _ z => z.elim⟩ q
  · rcases hlk with ⟨_, e5⟩ | ⟨z2, m2', e4, _⟩
    · obtain ⟨st3, atg⟩ := go (T := fun _ => False) (G' := G) rfl sa (fun _ z => z.elim) (fun b g => ⟨g, fun z => z⟩) ⟨S', r', fun b z => .inl (sub b z)⟩
      exact k F2 _ _ z (.fz d) (fun _ => False) ⟨p1.sf.trans p2.sf, fun b g => (atg b g).trans ((p2.at_ b g).trans (p1.at_ b g)), (fun e => nomatch e), .of fd, st3.less fun b g => g.elim id fun z => z.2.elim, fun _ _ z => z.elim⟩ (q2 e5)
    · rw [hn] at e4; cases e4
section
variable {X : Cx} {x : Str} {xp apos cpos : Pos} {e f : Expr} {i : Nat} {g h : WE} {p1 p2 m1 m2 : Bool}
theorem d_setd (hu : X.A.units + 64 < cLine) (ho : PE X (.Name x xp) (tVar i)) (he : PE X e (TD (dcx X) g p1 m1)) (hf : PE X f (TD (dcx X) h p2 m2))
    (m : M2 X (.Name x xp) "setdefault" apos e f cpos := by exact ⟨rfl, rfl, rfl, rfl⟩) : PE X (.Call (.Attribute (.Name x xp) "setdefault" apos) [e, f] [] cpos) (TD (dcx X) (wSetd i g h) false true) :=
  PE.imp (pe_setd hu ho he hf m) td_setd
end
end DL

/-! DL15: one lemma for each form of the text. -/
namespace DL
open PySem PySem.Spec PyProof.Rows L2

section
variable {X : Cx} {x : Str} {p pos xp apos cpos kpos : Pos} {e e2 a b c : Expr} {es : List Expr} {i : Nat} {f g h : WE} {fs gs : WA} {p1 p2 m1 m2 m3 mt mts : Bool} {P : Nat → Prop}
/-! ### leaves -/
theorem d_int {i : Int} {j} : PE X (.Constant (.int i) j pos) (TD (dcx X) (wC (.int i)) false false) := PE.imp pe_int (td_const fun F => .int i)
theorem d_str {i : Str} {j} : PE X (.Constant (.str i) j pos) (TD (dcx X) (wC (.str i)) false false) := PE.imp pe_str (td_const fun F => .str i)
theorem d_bl {i : Bool} {j} : PE X (.Constant (.bool i) j pos) (TD (dcx X) (wC (.bl i)) false false) := PE.imp pe_bl (td_const fun F => .bl i)
theorem d_non {j} : PE X (.Constant .none j pos) (TD (dcx X) (wC .non) false false) := PE.imp pe_non (td_const fun F => .non)
theorem d_var (hN : X.N[i]? = some x) (hv : Vis X.env.scope x) (hd : (x == ("__debug__" : Str)) = false := by decide) (hcd : (x == ("__classdict__" : Str)) = false := by decide) : PE X (.Name x pos) (TD (dcx X) (wVar i) true false) :=
  PE.imp (pe_var hN hv hd hcd) td_var
theorem d_mov (hN : X.N[i]? = some x) (hv : Vis X.env.scope x) (hd : (x == ("__debug__" : Str)) = false := by decide) (hcd : (x == ("__classdict__" : Str)) = false := by decide) : PE X (.Name x pos) (TD (dcx X) (wMov i) false false) :=
  PE.imp (pe_var hN hv hd hcd) td_mov
theorem d_escv (hN : X.N[i]? = some x) (hv : Vis X.env.scope x) (hd : (x == ("__debug__" : Str)) = false := by decide) (hcd : (x == ("__classdict__" : Str)) = false := by decide) : PE X (.Name x pos) (TD (dcx X) (wEsc (some i) true (wVar i)) false false) :=
  PE.imp (pe_var hN hv hd hcd) td_esc_var
theorem d_view (he : PE X e (TD (dcx X) f true mt)) : PE X e (TD (dcx X) (wEsc none true f) false mt) := PE.imp he td_esc_view
theorem d_frz (he : PE X e (TD (dcx X) f false mt)) : PE X e (TD (dcx X) (wFrz f) false mt) := PE.imp he td_frz
/-! ### arguments -/
theorem a_nil : PA X [] (TDA (dcx X) wNil false) := PA.imp pa_nil tda_nil
theorem a_cons (he : PE X e (TD (dcx X) f p1 mt)) (hr : PA X es (TDA (dcx X) fs mts)) (hs : starEach (e :: es) X.env = (false, eval e X.env) :: starEach es X.env := by rfl) : PA X (e :: es) (TDA (dcx X) (wCons f p1 mts fs) (mt || mts)) :=
  PA.imp (pa_cons he hr hs) tda_cons
theorem m_nil : PA X [] (TDM (dcx X) wNil false []) := PA.imp pa_nil tdm_nil
theorem m_cons {ls : List (Option Nat)} (he : PE X e (TD (dcx X) f false mt)) (hr : PA X es (TDM (dcx X) fs mts ls)) (hs : starEach (e :: es) X.env = (false, eval e X.env) :: starEach es X.env := by rfl) : PA X (e :: es) (TDM (dcx X) (wConsM f fs) (mt || mts) (none :: ls)) :=
  PA.imp (pa_cons he hr hs) tdm_cons
theorem m_lend {ls : List (Option Nat)} (hN : X.N[i]? = some x) (hv : Vis X.env.scope x) (hr : PA X es (TDM (dcx X) fs mts ls)) (hd : (x == ("__debug__" : Str)) = false := by decide) (hcd : (x == ("__classdict__" : Str)) = false := by decide)
    (hs : starEach (.Name x xp :: es) X.env = (false, eval (.Name x xp) X.env) :: starEach es X.env := by rfl) : PA X (.Name x xp :: es) (TDM (dcx X) (wConsM (wMov i) fs) mts (some i :: ls)) :=
  PA.imp (pa_cons (pe_var hN hv hd hcd) hr hs) tdm_lend
/-! ### displays -/
theorem d_lst {ls : List (Option Nat)} (h : PA X es (TDM (dcx X) fs mt ls)) : PE X (.List es pos) (TD (dcx X) (wLst fs) false mt) := PE.imp (pe_lst h) td_lst
theorem d_tup {ls : List (Option Nat)} {k : Nat} (h : PA X es (TDM (dcx X) fs mt ls)) : PE X (.Tuple es k pos) (TD (dcx X) (wTup fs) false mt) := PE.imp (pe_tup h) td_tup
/-! ### built-ins by name -/
theorem d_callB {id : String} {r : List V → Hp → VK → Prop} {gg : List MV → Option MV} (hc : CallR X (.builtin id) r) (ho : OpS (dcx X) r gg) (hg : Gl X x) (hm : X.mg x = none) (hv : bootBuiltins x = some (.builtin id)) (ha : PA X (e :: es) (TDA (dcx X) fs mt))
    (hn : x ≠ "__name__" := by decide) (hdb : (x == ("__debug__" : Str)) = false := by decide) (he : starEach (e :: es) X.env = (false, eval e X.env) :: starEach es X.env := by rfl) (hpl : (backTo pos (starEach es X.env)).any (·.1) = false := by rfl) :
    PE X (.Call (.Name x p) (e :: es) [] pos) (TD (dcx X) (wOp gg fs) false mt) := PE.imp (pe_callB hc hg hm hv ha hn hdb he hpl) (td_op ho)
theorem d_callTy {T : String} {r : List V → Hp → VK → Prop} {gg : List MV → Option MV} (hc : CallR X (.type T) r) (ho : OpS (dcx X) r gg) (hg : Gl X x) (hm : X.mg x = none) (hv : bootBuiltins x = some (.type T)) (ha : PA X (e :: es) (TDA (dcx X) fs mt))
    (hn : x ≠ "__name__" := by decide) (hdb : (x == ("__debug__" : Str)) = false := by decide) (he : starEach (e :: es) X.env = (false, eval e X.env) :: starEach es X.env := by rfl) (hpl : (backTo pos (starEach es X.env)).any (·.1) = false := by rfl) :
    PE X (.Call (.Name x p) (e :: es) [] pos) (TD (dcx X) (wOp gg fs) false mt) := PE.imp (pe_callTy hc hg hm hv ha hn hdb he hpl) (td_op ho)
/-! ### tests -/
theorem t_val (he : PE X e (TD (dcx X) f p1 mt)) (hh : ∀ whole, isTrue e X.env whole = (do let v ← whole; standAt e.pos; holding [v] (truthy v)) := by intro _; rfl) : PT X e (TDT (dcx X) (wBool f) mt) := PT.imp (pt_val he hh) tdt_bool
theorem t_cmp {op : CmpOp} {R : R2} {gg : List MV → Option MV} (ho : OpR X (compareOp op) R) (hs : OpS (dcx X) (r2 R) gg) (ha : PE X a (TD (dcx X) f p1 m1)) (hb : PE X b (TD (dcx X) h p2 m2)) (hm : behindInMarks op b = false) :
    PT X (.Compare a [op] [b] pos) (TDT (dcx X) (wBool (wOp2 gg f p1 h p2 m2)) (m1 || (m2 || false))) :=
  PT.imp (pt_cmpR ho ha hb hm) fun σ H Q z => by
    have z' := tdt_bool (pl := false) σ H Q z
    exact td_two (P := fun vs H1 => r2 R vs H1 fun x H' => ∃ k, x = .bl k ∧ Q k H') (td_op hs σ H _ z')
theorem t_not {f' : WT} (he : PT X e (TDT (dcx X) f' mt)) : PT X (.UnaryOp .Not e pos) (TDT (dcx X) (wNotT f') mt) := PT.imp (pt_not he) tdt_not
variable {u v : WT} {rest : List Expr}
theorem w_and1 (ha : PT X a (TDT (dcx X) u mt)) : PW X (.BoolOp .And [a] pos) (TDT (dcx X) u mt) := pw_and1 ha
theorem w_or1 (ha : PT X a (TDT (dcx X) u mt)) : PW X (.BoolOp .Or [a] pos) (TDT (dcx X) u mt) := pw_or1 ha
theorem w_and (ha : PT X a (TDT (dcx X) u m1)) (hb : PW X (.BoolOp .And (b :: rest) pos) (TDT (dcx X) v m2)) : PW X (.BoolOp .And (a :: b :: rest) pos) (TDT (dcx X) (wAndT u v) (m1 || m2)) := PW.imp (pw_and ha hb) tdt_and
theorem w_or (ha : PT X a (TDT (dcx X) u m1)) (hb : PW X (.BoolOp .Or (b :: rest) pos) (TDT (dcx X) v m2)) : PW X (.BoolOp .Or (a :: b :: rest) pos) (TDT (dcx X) (wOrT u v) (m1 || m2)) := PW.imp (pw_or ha hb) tdt_or
/-! ### and, or, not, if as values -/
theorem d_one {op} (ha : PE X a (TD (dcx X) f p1 mt)) : PE X (.BoolOp op [a] pos) (TD (dcx X) f p1 mt) := pe_one ha
theorem d_and (ha : PE X a (TD (dcx X) f p1 m1)) (hb : PE X (.BoolOp .And (b :: rest) pos) (TD (dcx X) g false m2)) : PE X (.BoolOp .And (a :: b :: rest) pos) (TD (dcx X) (wAndV f g) false (m1 || m2)) := PE.imp (pe_and ha hb) td_andV
theorem d_or (ha : PE X a (TD (dcx X) f p1 m1)) (hb : PE X (.BoolOp .Or (b :: rest) pos) (TD (dcx X) g false m2)) : PE X (.BoolOp .Or (a :: b :: rest) pos) (TD (dcx X) (wOrV f g) false (m1 || m2)) := PE.imp (pe_or ha hb) td_orV
theorem d_not (ha : PE X a (TD (dcx X) f p1 m1)) : PE X (.UnaryOp .Not a pos) (TD (dcx X) (wNotV f) false m1) := PE.imp (pe_not ha) td_notV
theorem d_ife (hc : PT X c (TDT (dcx X) u mt)) (ha : PE X a (TD (dcx X) f false m1)) (hb : PE X b (TD (dcx X) g false m2)) : PE X (.IfExp c a b pos) (TD (dcx X) (wIf u f g) false (mt || (m1 || m2))) := PE.imp (pe_ifExp hc ha hb) td_if
theorem td_tmp {K : DCx} {f : WE} {mt : Bool} : ∀ σ H Q, TD K f true mt σ H Q → TD K f false mt σ H Q → TD K f true mt σ H Q := fun σ H Q h _ => h
theorem td_any {K : DCx} {f : WE} {pl mt : Bool} : ∀ σ H Q, TD K f pl true σ H Q → TD K f pl mt σ H Q := fun σ H Q ⟨F, ρ, G, Q', st, h, k⟩ =>
  ⟨F, ρ, G, Q', st, h, fun F1 H1 ρ1 v m S p q => k F1 H1 ρ1 v m S ⟨p.sf, p.at_, (fun e => nomatch e), p.rm, p.st, p.ng⟩ q⟩
theorem d_mt (he : PE X e (TD (dcx X) f p1 mt)) : PE X e (TD (dcx X) f p1 true) := PE.imp he td_any
/-! ### statements -/
theorem ds_nil : PSs X [] (TDS (dcx X) P fun D ρ => D.nx ρ) := PSs.imp pss_nil tds_nil
variable {st : Stmt} {sts : List Stmt} {s1 s2 : WS}
theorem ds_cons (h1 : PS X st (TDS (dcx X) P s1)) (h2 : PSs X sts (TDS (dcx X) P s2)) : PSs X (st :: sts) (TDS (dcx X) P (wSeq s1 s2)) := PSs.imp (pss_cons h1 h2) tds_cons
theorem ds_one (h1 : PS X st (TDS (dcx X) P s1)) : PSs X [st] (TDS (dcx X) P s1) := pss_one h1
theorem ds_expr (he : PE X e (TD (dcx X) f p1 mt)) (hs : swapsWith e none pos.line X.env = pure false := by rfl) : PS X (.Expr e pos) (TDS (dcx X) P (wExpr f)) := PS.imp (ps_expr he hs) tds_expr
theorem ds_ret (he : PE X e (TD (dcx X) f false mt)) : PS X (.Return (some e) pos) (TDS (dcx X) P (wRet f)) := PS.imp (ps_ret he) tds_ret
theorem ds_retN : PS X (.Return none pos) (TDS (dcx X) P wRetN) := PS.imp ps_retN tds_retN
theorem ds_brk : PS X (.Break pos) (TDS (dcx X) P wBrk) := PS.imp ps_break tds_brk
theorem ds_cnt : PS X (.Continue pos) (TDS (dcx X) P wCnt) := PS.imp ps_continue tds_cnt
theorem ds_if {p q : List Stmt} (hc : PT X c (TDT (dcx X) u mt)) (ha : PSs X p (TDS (dcx X) P s1)) (hb : PSs X q (TDS (dcx X) P s2)) : PS X (.If c p q pos) (TDS (dcx X) P (wIfS u s1 s2)) := PS.imp (ps_if hc ha hb) tds_if
theorem ds_while (hp : PassesOwn (model X.prog X.w) X.A X.env X.xe) (hc : PT X c (TDT (dcx X) u mt)) (hb : PSs X sts (TDS (dcx X) P s1)) : PS X (.While c sts [] pos) (TDS (dcx X) P (wWhile u s1)) := PS.imp (ps_while hp hc hb) tds_while
end

/-! ### x op= e, x a number -/
def wAug (i : Nat) (op : Int → Int → Int) (f : WE) : WS := fun D ρ => ∃ a, ρ[i]? = some (some (.fz (.int a))) ∧ f ρ fun m ρ1 => ∃ b, m = .fz (.int b) ∧ i < ρ1.length ∧ D.nx (ρ1.set i (some (.fz (.int (op a b)))))
theorem tds_aug {K : DCx} {P : Nat → Prop} {i : Nat} {op : Int → Int → Int} {f : WE} {p1 mt : Bool} (hp : ¬ P i) : ∀ D σ H, TDS K P (wAug i op f) D σ H → tAug i (TD K f p1 mt) (ipI op) D σ H := fun D σ H ⟨F, ρ, G, D', st, ⟨a, e, h⟩, k1, _⟩ => by
  obtain ⟨v, S, e1, r⟩ := st.slot e
  obtain ⟨fz, _⟩ := r.fzv
  cases fz
  refine ⟨_, e1, F, ρ, G, _, st, h, fun F1 H1 ρ1 w m T p ⟨b, em, hi, q⟩ => ?_⟩
  subst em
  obtain ⟨fz, _⟩ := p.rm.fzv
  cases fz
  refine ⟨a, b, rfl, rfl, k1 F1 H1 _ _ ⟨p.sf, p.at_, fun j hj => ?_, (p.st.less fun b g => .inl g).putF hi (.int _)⟩ q⟩
  rw [List.getElem?_set_ne]
  intro e
  exact hp (e ▸ hj)
section
variable {X : Cx} {x : Str} {p pos pos' : Pos} {e : Expr} {i : Nat} {f : WE} {p1 mt : Bool} {P : Nat → Prop}
theorem ds_augAdd (hp : ¬ P i) (hN : X.N.Nodup) (hi : X.N[i]? = some x) (hx : Loc X.env.scope x) (he : PE X e (TD (dcx X) f p1 mt)) (hf : X.fn x = true ∨ X.env.scope.names.lookup x = some .local := by first | exact .inl rfl | exact .inr rfl | assumption) :
    PS X (.AugAssign (.Name x pos') .Add e pos) (TDS (dcx X) P (wAug i (fun a b => a + b) f)) := PS.imp (ps_aug hN hi hx he ip_add hf) (tds_aug hp)
theorem ds_augSub (hp : ¬ P i) (hN : X.N.Nodup) (hi : X.N[i]? = some x) (hx : Loc X.env.scope x) (he : PE X e (TD (dcx X) f p1 mt)) (hf : X.fn x = true ∨ X.env.scope.names.lookup x = some .local := by first | exact .inl rfl | exact .inr rfl | assumption) :
    PS X (.AugAssign (.Name x pos') .Sub e pos) (TDS (dcx X) P (wAug i (fun a b => a - b) f)) := PS.imp (ps_aug hN hi hx he ip_sub hf) (tds_aug hp)
end

/-! ### a, b, c = x, y, z -/
def wParB : List Nat → List MV → DEnv → (DEnv → Prop) → Prop
  | [], [], ρ, Q => Q ρ
  | i :: is, m :: ms, ρ, Q => i < ρ.length ∧ wParB is ms (ρ.set i (some m)) Q
  | _, _, _, _ => False
def wPar (is : List Nat) (fs : WA) : WS := fun D ρ => fs ρ fun ms ρ1 => wParB is ms ρ1 D.nx
theorem par_fill {K : DCx} {F H : Hp} {P : Nat → Prop} {G : ASet} : ∀ (is : List Nat) (vs : List V) (ms : List MV) (S : Nat → ASet) (σ : L2.St) (ρ : DEnv) (Q : DEnv → Prop), (∀ i ∈ is, ¬ P i) → vs.length = ms.length → (∀ (k : Nat) (v : V) (m : MV), vs[k]? = some v → ms[k]? = some m → RM K F H v m (S k)) →
    (∀ j k b, S j b → S k b → j = k) → (∀ k b, S k b → ¬ G b) → (∀ k, ms.length ≤ k → ∀ b, ¬ S k b) → Sta K F H σ ρ (fun b => G b ∨ ∃ k, S k b) → wParB is ms ρ Q →
    ∃ ρ', Q ρ' ∧ Sta K F H ((is.zip vs).foldl (fun σ p => σ.set p.1 (some p.2)) σ) ρ' G ∧ ∀ i, P i → ((is.zip vs).foldl (fun σ p => σ.set p.1 (some p.2)) σ)[i]? = σ[i]?
  | [], [], [], S, σ, ρ, Q, _, _, _, _, _, _, st, h => ⟨ρ, h, st.less fun b g => .inl g, fun _ _ => rfl⟩
  | i :: is, v :: vs, m :: ms, S, σ, ρ, Q, hP, hl, rm, dis, ng, em, st, ⟨hi, h⟩ => by
    have st1 := st.put (i := i) (G' := fun b => G b ∨ ∃ k, S (k + 1) b) hi (rm 0 v m rfl rfl) (fun b s => .inr ⟨0, s⟩) fun b g => by
      rcases g with g | ⟨k, g⟩
      · exact ⟨.inl g, fun s => ng 0 b s g⟩
      · exact ⟨.inr ⟨k + 1, g⟩, fun s => by have := dis _ _ b s g; omega⟩
    obtain ⟨ρ', q, st2, pr⟩ := par_fill is vs ms (fun k => S (k + 1)) (σ.set i (some v)) _ Q (fun j hj => hP j (List.mem_cons_of_mem _ hj)) (by simpa using hl) (fun k v m a b => rm (k + 1) v m (by simpa using a) (by simpa using b)) (fun j k b a c => by have := dis _ _ b a c; omega) (fun k b a => ng _ b a)
      (fun k hk b => em (k + 1) (by simpa using hk) b) st1 h
    refine ⟨ρ', q, st2, fun j hj => (pr j hj).trans ?_⟩
    rw [List.getElem?_set_ne]
    intro e
    exact hP i (List.mem_cons_self ..) (e ▸ hj)
  | [], v :: vs, [], _, _, _, _, _, hl, _, _, _, _, _, _ => by cases hl
  | [], [], m :: ms, _, _, _, _, _, hl, _, _, _, _, _, _ => by cases hl
  | [], _ :: _, _ :: _, _, _, _, _, _, _, _, _, _, _, _, h => h.elim
  | _ :: _, [], [], _, _, _, _, _, _, _, _, _, _, _, h => h.elim
  | _ :: _, v :: vs, [], _, _, _, _, _, hl, _, _, _, _, _, _ => by cases hl
  | _ :: _, [], m :: ms, _, _, _, _, _, hl, _, _, _, _, _, _ => by cases hl
theorem tds_par {K : DCx} {P : Nat → Prop} {is : List Nat} {fs : WA} {mt : Bool} {ls : List (Option Nat)} (hP : ∀ i ∈ is, ¬ P i) {D : Ends} {σ : L2.St} {H : Hp} (h : TDS K P (wPar is fs) D σ H) :
    TDM K fs mt ls σ H fun vs H1 => D.nx ((is.zip vs).foldl (fun σ p => σ.set p.1 (some p.2)) σ) H1 ∧ vs.length = is.length := by
  obtain ⟨F, ρ, G, D', st, h, k1, _⟩ := h
  refine ⟨F, ρ, G, _, st, h, fun F1 H1 ρ1 vs ms S p q => ?_⟩
  obtain ⟨ρ', q', st2, pr⟩ := par_fill is vs ms S σ ρ1 _ hP p.len p.rm p.dis p.ng p.emp p.st q
  refine ⟨k1 F1 H1 _ ρ' ⟨p.sf, p.at_, pr, st2⟩ q', ?_⟩
  have : ∀ (is : List Nat) (ms : List MV) (ρ : DEnv) (Q : DEnv → Prop), wParB is ms ρ Q → ms.length = is.length := by
    intro is
    induction is with
    | nil => intro ms ρ Q h; cases ms with | nil => rfl | cons _ _ => exact h.elim
    | cons i is ih => intro ms ρ Q h; cases ms with | nil => exact h.elim | cons m ms => simp only [List.length_cons, ih ms _ _ h.2]
  rw [p.len, this _ _ _ _ q]
section
variable {X : Cx} {i j l : Nat} {x y z : Str} {a b c : Expr} {px py pz pt pos : Pos} {kt k2 pt2} {fs : WA} {mt : Bool} {ls : List (Option Nat)} {P : Nat → Prop}
theorem ds_par2 (hc : X.calm = true) (hN : X.N.Nodup) (hi : X.N[i]? = some x) (hj : X.N[j]? = some y) (hij : i ≠ j) (hP : ∀ k ∈ [i, j], ¬ P k)
    (hx : X.env.scope.names.lookup x = some .local) (hy : X.env.scope.names.lookup y = some .local) (ha : PA X [a, b] (TDM (dcx X) fs mt ls))
    (hw : swappedStores [.Tuple [.Name x px, .Name y py] kt pt] (.Tuple [a, b] k2 pt2) X.env = pure (some [x, y]) := by rfl)
    (hs : swapsWithSole [.Tuple [.Name x px, .Name y py] kt pt] (.Tuple [a, b] k2 pt2) pos.line X.env = pure false := by rfl) :
    PS X (.Assign [.Tuple [.Name x px, .Name y py] kt pt] (.Tuple [a, b] k2 pt2) pos) (TDS (dcx X) P (wPar [i, j] fs)) :=
  PS.imp (ps_par hc hN hi hj hij hx hy ha hw hs) fun D σ H h => by
    obtain ⟨F, ρ, G, Q', st, h1, k⟩ := tds_par (mt := mt) (ls := ls) hP h
    refine ⟨F, ρ, G, Q', st, h1, fun F1 H1 ρ1 vs ms S p q => ?_⟩
    obtain ⟨n, hl⟩ := k F1 H1 ρ1 vs ms S p q
    match vs, hl with
    | [v, w], _ => exact ⟨v, w, rfl, n⟩
theorem ds_par3 (hc : X.calm = true) (hN : X.N.Nodup) (hi : X.N[i]? = some x) (hj : X.N[j]? = some y) (hl : X.N[l]? = some z) (hij : i ≠ j) (hil : i ≠ l) (hjl : j ≠ l) (hP : ∀ k ∈ [i, j, l], ¬ P k)
    (hx : X.env.scope.names.lookup x = some .local) (hy : X.env.scope.names.lookup y = some .local) (hz : X.env.scope.names.lookup z = some .local) (ha : PA X [a, b, c] (TDM (dcx X) fs mt ls))
    (hw : swappedStores [.Tuple [.Name x px, .Name y py, .Name z pz] kt pt] (.Tuple [a, b, c] k2 pt2) X.env = pure (some [x, y, z]) := by rfl)
    (hs : swapsWithSole [.Tuple [.Name x px, .Name y py, .Name z pz] kt pt] (.Tuple [a, b, c] k2 pt2) pos.line X.env = pure false := by rfl) :
    PS X (.Assign [.Tuple [.Name x px, .Name y py, .Name z pz] kt pt] (.Tuple [a, b, c] k2 pt2) pos) (TDS (dcx X) P (wPar [i, j, l] fs)) :=
  PS.imp (ps_par3 hc hN hi hj hl hij hil hjl hx hy hz ha hw hs) fun D σ H h => by
    obtain ⟨F, ρ, G, Q', st, h1, k⟩ := tds_par (mt := mt) (ls := ls) hP h
    refine ⟨F, ρ, G, Q', st, h1, fun F1 H1 ρ1 vs ms S p q => ?_⟩
    obtain ⟨n, hl⟩ := k F1 H1 ρ1 vs ms S p q
    match vs, hl with
    | [v, w, u], _ => exact ⟨v, w, u, rfl, n⟩
end
end DL

/-! DL16: enumerate, zip of two, list(range). -/
namespace DL
open PySem PySem.Spec PyProof.Rows L2

/-! ### enumerate(text) -/
def ItES (x : Str) : It :=
  ⟨fun i H => i < x.cps.size, fun i H v H' => ∃ T c, v = .ref T ∧ H T = none ∧ x.cps[i]? = some c ∧ H' = upd H T (.tup [.int (i : Nat), .str ⟨#[c]⟩]), fun i H => i = x.cps.size⟩
theorem turn_enumS {P : Program} {w : World} {K : PySem.W.Frag} {elts : List Expr} {kk : Nat} {tpos : Pos} (x : Str) (t : Tok) (e it : Addr) :
    Turn P w K (.Tuple elts kk tpos) (ItES x) [e, it] e (fun i h => (∃ old, IsEnum h e it ((i : Nat) : Int) old) ∧ h.IsStrIter it (strIterType x) x t i ∧ e ≠ it) where
  mem := by simp
  obj := fun i h st b hb => by
    obtain ⟨⟨old, he⟩, ⟨o, ho, hc, hd⟩, _⟩ := st
    have e' : b = e ∨ b = it := by simpa using hb
    rcases e' with z | z
    · rw [z]; exact ⟨_, he, fun v q => nomatch q⟩
    · rw [z]; exact ⟨o, ho, fun v q => by rw [hd] at q; cases q⟩
  keep := fun i h h' st k => let ⟨⟨old, he⟩, ⟨o, ho, r⟩, hne⟩ := st; ⟨⟨old, k e (by simp) _ he⟩, ⟨o, k it (by simp) o ho, r⟩, hne⟩
  item := by
    intro X hP hw hK hc i pins s σ H E I hf st hg
    subst hP hw hK
    obtain ⟨⟨old, he⟩, hit, hne⟩ := st
    have hel : e < s.heap.objs.size := Heap.lt_size he
    have D : Draws X.prog X.w X.A.in1 it [it] x.cps.size (fun i v => ∃ c u, x.cps[i]? = some c ∧ v = .str ⟨#[c]⟩ u) (fun i h => h.IsStrIter it (strIterType x) x t i) := by
      unfold strIterType
      split
      · exact Draws.strAscii (A := X.A.in1) (I.ok.hd hc) it x t
      · exact Draws.strWide (A := X.A.in1) (I.ok.hd hc) it x t
    refine wpAny_pyNext_enum_itemD D he hit hg hne (by simpa using hne) fun u h' tk hu ho hit' hT hsz hk => ?_
    obtain ⟨c, tt, hcx, rfl⟩ := hu
    refine ⟨_, rfl, wpAny_letOwnedTupleGo_enum (s := { s with heap := h', toks := tk + 1 }) ho fun h'' he' sb => ?_⟩
    have hT2 : h''.get? s.heap.objs.size = some { cls := .type "tuple", data := .seq #[.int i tk, .str ⟨#[c]⟩ tt] } := (sb.2 _ (Nat.ne_of_gt hel)).trans hT
    have new : ObjOk X.prog X.w (upd H s.heap.objs.size (.tup [.int (i : Nat), .str ⟨#[c]⟩])) h'' s.heap.objs.size (.tup [.int (i : Nat), .str ⟨#[c]⟩]) :=
      ⟨by show 2 ≤ sizeLine; decide, [.int i tk, .str ⟨#[c]⟩ tt], .cons ⟨_, rfl⟩ (.cons ⟨_, rfl⟩ .nil), ⟨_, hT2, rfl, _, rfl⟩⟩
    have I1 : Inv X pins σ (upd H s.heap.objs.size (.tup [.int (i : Nat), .str ⟨#[c]⟩])) { s with heap := h'', toks := tk + 1 } :=
      I.turnedNew (ch := [e, it]) (fun b ob hb q => (sb.2 b (fun z => hb (by simp [z]))).trans (hk b ob (fun z => hb (by simp [z])) (fun z => hb (by simp [z])) q)) hf (Nat.le_refl _) new
    refine ⟨.ref s.heap.objs.size, _, I1, rfl, ⟨_, c, rfl, I.hok.fresh (Nat.le_refl _), hcx, rfl⟩, ⟨⟨.str ⟨#[c]⟩ tt, ?_⟩, ?_, hne⟩, fun b hb => ?_⟩
    · have e1 : ((i + 1 : Nat) : Int) = (i : Int) + 1 := by omega
      rw [e1]; exact he'
    · obtain ⟨o, ho2, r⟩ := hit'
      exact ⟨o, (sb.2 it (Ne.symm hne)).trans ho2, r⟩
    · have hb' : b < s.heap.objs.size := by
        have e' : b = e ∨ b = it := by simpa using hb
        rcases e' with z | z
        · rw [z]; exact hel
        · rw [z]; obtain ⟨_, q, _⟩ := hit; exact Heap.lt_size q
      rw [upd_ne (Nat.ne_of_lt hb')]
      exact (hf b hb).1
  done := by
    intro X hP hw hK hc i pins s σ H E I hf st hg
    subst hP hw hK
    obtain ⟨⟨old, he⟩, hit, hne⟩ := st
    obtain ⟨f0, f1, f2, f3, f4, f5⟩ := hf it (by simp)
    have hg' : i = x.cps.size := hg
    subst hg'
    have D : Draws X.prog X.w X.A.in1 it [it] x.cps.size (fun i v => ∃ c u, x.cps[i]? = some c ∧ v = .str ⟨#[c]⟩ u) (fun i h => h.IsStrIter it (strIterType x) x t i) := by
      unfold strIterType
      split
      · exact Draws.strAscii (A := X.A.in1) (I.ok.hd hc) it x t
      · exact Draws.strWide (A := X.A.in1) (I.ok.hd hc) it x t
    exact wpAny_pyNext_enum_endD D he hit fun h' eb => ⟨rfl, I.turned (t' := s.toks) (fun b o hb q => eb b o hb q) f0 f1 f3 f4 f5⟩
  self := fun A i s Q E st h => let ⟨⟨_, he⟩, _⟩ := st; wpAny_pyIter_enum he h
/-- enumerate(a list or a text) -/
def rEnum (K : PySem.W.Frag) (vs : List V) (H1 : Hp) (R : It → Hp → Prop) : Prop := (∃ a xs, vs = [.ref a] ∧ SqL K H1 a xs ∧ R (Ite K a) H1) ∨ ∃ x, vs = [.str x] ∧ R (ItES x) H1
theorem pi_enumA {X : Cx} {e : Expr} {ta : TA} {p pos tpos : Pos} {elts : List Expr} {kk : Nat} (hg : Gl X "enumerate") (hm : X.mg "enumerate" = none) (ha : PA X [e] ta) (hs : starEach [e] X.env = [(false, eval e X.env)] := by rfl) :
    PI X (.Tuple elts kk tpos) (.Call (.Name "enumerate" p) [e] [] pos) (fun σ H R => ta σ H fun vs H1 => rEnum X.K vs H1 R) := by
  refine ⟨fun pins s σ H R I h => ?_⟩
  refine Call_ (ld_blt I hg hm boot_enumerate (PyProof.Rows.callWith_type1 (thn (ha.run pos pins s σ H _ I h) fun us s1 ⟨vs, H1, I1, r1, q1⟩ => ?_) hs rfl))
  rcases q1 with ⟨a, xs, ex, hq, q⟩ | ⟨x, ex, q⟩
  · subst ex
    cases r1 with
    | cons r rr =>
      cases rr
      cases r
      obtain ⟨its, rv, p', hz⟩ := I1.list hq
      refine call_enumerate_list p'.isList fun h' he hit hsz hk => wpAny_pyIter_enum he ?_
      have I2 : Inv X pins σ H1 { s1 with heap := h' } := I1.kept (t' := s1.toks) hk
      refine ⟨s1.heap.objs.size + 1, [s1.heap.objs.size + 1, s1.heap.objs.size], _, _, H1, rfl, I2, turn_enum a (s1.heap.objs.size + 1) s1.heap.objs.size, ⟨⟨.none, he⟩, hit, Nat.succ_ne_self _⟩, fun b hb => ?_, q⟩
      have e' : b = s1.heap.objs.size + 1 ∨ b = s1.heap.objs.size := by simpa using hb
      have hle : s1.heap.objs.size ≤ b := by
        rcases e' with z | z
        · rw [z]; exact Nat.le_add_right _ _
        · rw [z]; exact Nat.le_refl _
      exact I1.fpOk hle (I1.hok.fresh hle)
  · subst ex
    cases r1 with
    | cons r rr =>
      cases rr
      obtain ⟨t, rfl⟩ := r
      refine call_enumerate_str fun h' he hit hsz hk => wpAny_pyIter_enum he ?_
      have I2 : Inv X pins σ H1 { s1 with heap := h' } := I1.kept (t' := s1.toks) hk
      refine ⟨s1.heap.objs.size + 1, [s1.heap.objs.size + 1, s1.heap.objs.size], _, _, H1, rfl, I2, turn_enumS x t (s1.heap.objs.size + 1) s1.heap.objs.size, ⟨⟨.none, he⟩, hit, Nat.succ_ne_self _⟩, fun b hb => ?_, q⟩
      have e' : b = s1.heap.objs.size + 1 ∨ b = s1.heap.objs.size := by simpa using hb
      have hle : s1.heap.objs.size ≤ b := by
        rcases e' with z | z
        · rw [z]; exact Nat.le_add_right _ _
        · rw [z]; exact Nat.le_refl _
      exact I1.fpOk hle (I1.hok.fresh hle)
def enumD (i : Nat) : List D → List D
  | [] => []
  | d :: ds => .tup [.int (i : Nat), d] :: enumD (i + 1) ds
theorem enumD_get : ∀ (ds : List D) (k i : Nat), (enumD k ds)[i]? = ds[i]?.map fun d => .tup [.int ((k + i : Nat) : Int), d]
  | [], k, i => by simp [enumD]
  | d :: ds, k, 0 => by simp [enumD]
  | d :: ds, k, i + 1 => by
    rw [enumD, List.getElem?_cons_succ, List.getElem?_cons_succ, enumD_get ds (k + 1) i, show k + 1 + i = k + (i + 1) by omega]
theorem enumD_len : ∀ (ds : List D) (k : Nat), (enumD k ds).length = ds.length
  | [], k => rfl
  | d :: ds, k => by rw [enumD, List.length_cons, List.length_cons, enumD_len ds]
section
variable {K : DCx} {F F' H : Hp} {a : Addr} {vs : List V} {ds : List D}
theorem new_pair {F1 H T : _} {x y : V} {d e : D} (le : Same F1 H) (hT : H T = none) (fx : Fz K F1 x d) (fy : Fz K F1 y e) : ∃ F', Same F1 F' ∧ Same H (upd H T (.tup [x, y])) ∧ Same F' (upd H T (.tup [x, y])) ∧ (∀ b, F1 b = none → (∃ o, H b = some o) → F' b = none) ∧ Fz K F' (.ref T) (.tup [d, e]) := by
  have hf := Same.none le hT
  have sf : Same F1 (upd F1 T (.tup [x, y])) := same_upd hf
  refine ⟨upd F1 T (.tup [x, y]), sf, same_upd hT, same_upd2 le, fun b e ⟨o, z⟩ => by rw [upd_ne (ne_of_none z hT)]; exact e, .tup (.of upd_same) rfl fun k v d e1 e2 => ?_⟩
  match k, e1, e2 with
  | 0, e1, e2 => cases e1; cases e2; exact fx.mono sf
  | 1, e1, e2 => cases e1; cases e2; exact fy.mono sf
  | k + 2, e1, e2 => simp at e1
theorem yields_enum (e : SqL K.K F a vs) (hl : vs.length = ds.length) (hf : ∀ (k : Nat) (w : V) (d : D), vs[k]? = some w → ds[k]? = some d → Fz K F w d) : Yields K (Ite K.K a) (enumD 0 ds) F where
  stop := fun F1 H sf le => ⟨vs, (sf.trans le).seq e, by rw [enumD_len, hl]; exact Nat.le_refl _⟩
  item := fun i d F1 H sf le ed => by
    rw [enumD_get] at ed
    obtain ⟨d', e1, rfl⟩ := Option.map_eq_some_iff.mp ed
    have hi : i < vs.length := by rw [hl]; exact (List.getElem?_eq_some_iff.mp e1).1
    have ev : vs[i]? = some vs[i] := List.getElem?_eq_getElem hi
    have sq := (sf.trans le).seq e
    refine ⟨⟨vs, vs[i], sq, ev⟩, fun x H' ⟨T, y, ex, hT, eH, hy⟩ => ?_⟩
    subst ex eH
    have : y = vs[i] := Option.some.inj ((hy vs sq).symm.trans ev)
    subst this
    rw [Nat.zero_add]
    exact new_pair le hT (.int _) ((hf i _ d' ev e1).mono sf)
theorem yields_enumS (x : Str) : Yields K (ItES x) (enumD 0 (chars x)) F where
  stop := fun F1 H sf le => by
    show _ = x.cps.size
    rw [enumD_len]
    unfold chars
    rw [List.length_map]
    simp
  item := fun i d F1 H sf le ed => by
    rw [enumD_get] at ed
    obtain ⟨d', e1, rfl⟩ := Option.map_eq_some_iff.mp ed
    unfold chars at e1
    rw [List.getElem?_map] at e1
    obtain ⟨c, e2, rfl⟩ := Option.map_eq_some_iff.mp e1
    have hi := (List.getElem?_eq_some_iff.mp e2).1
    refine ⟨by show i < x.cps.size; simpa using hi, fun y H' ⟨T, c', ex, hT, hc, eH⟩ => ?_⟩
    subst ex eH
    have : x.cps.toList[i]? = some c' := by simpa using hc
    rw [e2] at this
    cases this
    rw [Nat.zero_add]
    exact new_pair le hT (.int _) (.str _)
end
def dEnum : D → Option (List D)
  | .lst ds => some (enumD 0 ds)
  | .str x => some (enumD 0 (chars x))
  | .scr ns => some (enumD 0 (ns.map .int))
  | _ => none
def wEnum (f : WE) : DEnv → (List D → DEnv → Prop) → Prop := fun ρ Q => f ρ fun m ρ1 => ∃ ds, dEnum m.toD = some ds ∧ Q ds ρ1
theorem enum_read {K : DCx} {F H : Hp} {v : V} {d : D} {ds : List D} {R : It → Hp → Prop} (le : Same F H) (f : Fz K F v d) (e : dEnum d = some ds) (k : ∀ J, Yields K J ds F → R J H) : rEnum K.K [v] H R := by
  unfold dEnum at e
  split at e
  · cases e
    cases f with
    | lst h1 h2 h3 => exact .inl ⟨_, _, rfl, .of (le _ _ h1), k _ (yields_enum (.of h1) h2 h3)⟩
  · cases e
    cases f
    exact .inr ⟨_, rfl, k _ (yields_enumS _)⟩
  · cases e
    cases f with
    | scr h1 => exact .inl ⟨_, _, rfl, le.seq h1, k _ (yields_enum h1 (by rw [List.length_map, List.length_map]) fun i w d e1 e2 => by
        rw [List.getElem?_map] at e1 e2
        obtain ⟨n, e3, rfl⟩ := Option.map_eq_some_iff.mp e1
        rw [e3] at e2
        cases e2
        exact .int n)⟩
  · cases e
section
variable {X : Cx} {e e2 : Expr} {f g : WE} {p1 p2 m1 m2 : Bool} {p pos tpos : Pos} {elts : List Expr} {kk : Nat}
theorem di_enum (hg : Gl X "enumerate") (hm : X.mg "enumerate" = none) (he : PE X e (TD (dcx X) f false m1)) (hs : starEach [e] X.env = [(false, eval e X.env)] := by rfl) : DI X (.Tuple elts kk tpos) (.Call (.Name "enumerate" p) [e] [] pos) (wEnum f) m1 := by
  refine PI.imp (pi_enumA hg hm (pa_cons he pa_nil hs) hs) fun σ H R ⟨F, ρ, G, Q', st, h, k⟩ => ?_
  refine ⟨F, ρ, G, _, st, h, fun F1 H1 ρ1 v m S p ⟨ds, e1, q⟩ => ?_⟩
  obtain ⟨F2, sf2, ff, st2, fe⟩ := p.st.freezeT (T := S) (G' := G) (fun b t => .inr ⟨rfl, t⟩) fun b g => ⟨.inl g, fun s => p.ng rfl b s g⟩
  exact enum_read (K := dcx X) st2.le (p.rm.freeze sf2 ff) e1 fun J y => k F2 H1 ρ1 ds J ⟨p.sf.trans sf2, p.at_, p.qt, st2⟩ y q
end

/-! ### zip of two lists -/
def zipD : List D → List D → List D
  | d :: ds, e :: es => .tup [d, e] :: zipD ds es
  | _, _ => []
theorem zipD_get : ∀ (ds es : List D) (i : Nat), (zipD ds es)[i]? = (ds[i]?.bind fun d => es[i]?.map fun e => .tup [d, e])
  | [], es, i => by simp [zipD]
  | d :: ds, [], i => by
    simp only [zipD, List.getElem?_nil]
    cases (d :: ds)[i]? <;> rfl
  | d :: ds, e :: es, 0 => by simp [zipD]
  | d :: ds, e :: es, i + 1 => by rw [zipD, List.getElem?_cons_succ, List.getElem?_cons_succ, List.getElem?_cons_succ, zipD_get ds es i]
theorem zipD_len : ∀ (ds es : List D), (zipD ds es).length = min ds.length es.length
  | [], es => by simp [zipD]
  | d :: ds, [] => by simp [zipD]
  | d :: ds, e :: es => by rw [zipD, List.length_cons, List.length_cons, List.length_cons, zipD_len ds es]; omega
theorem yields_zip {K : DCx} {F : Hp} {a b : Addr} {vs us : List V} {ds es : List D} (e : SqL K.K F a vs) (hl : vs.length = ds.length) (hf : ∀ (k : Nat) (w : V) (d : D), vs[k]? = some w → ds[k]? = some d → Fz K F w d)
    (e' : SqL K.K F b us) (hl' : us.length = es.length) (hf' : ∀ (k : Nat) (w : V) (d : D), us[k]? = some w → es[k]? = some d → Fz K F w d) : Yields K (Itz K.K a b) (zipD ds es) F where
  stop := fun F1 H sf le => ⟨vs, us, (sf.trans le).seq e, (sf.trans le).seq e', by rw [zipD_len, hl, hl']; omega⟩
  item := fun i d F1 H sf le ed => by
    rw [zipD_get] at ed
    obtain ⟨d1, e1, ed⟩ := Option.bind_eq_some_iff.mp ed
    obtain ⟨d2, e2, rfl⟩ := Option.map_eq_some_iff.mp ed
    have hi : i < vs.length := by rw [hl]; exact (List.getElem?_eq_some_iff.mp e1).1
    have hj : i < us.length := by rw [hl']; exact (List.getElem?_eq_some_iff.mp e2).1
    have ev : vs[i]? = some vs[i] := List.getElem?_eq_getElem hi
    have eu : us[i]? = some us[i] := List.getElem?_eq_getElem hj
    have sq := (sf.trans le).seq e
    have sq' := (sf.trans le).seq e'
    refine ⟨⟨vs, us, vs[i], us[i], sq, sq', ev, eu⟩, fun x H' ⟨T, y, z, ex, hT, eH, hy, hz⟩ => ?_⟩
    subst ex eH
    have : y = vs[i] := Option.some.inj ((hy vs sq).symm.trans ev)
    subst this
    have : z = us[i] := Option.some.inj ((hz us sq').symm.trans eu)
    subst this
    exact new_pair le hT ((hf i _ d1 ev e1).mono sf) ((hf' i _ d2 eu e2).mono sf)
def dSeqL : D → Option (List D)
  | .lst ds => some ds
  | .scr ns => some (ns.map .int)
  | _ => none
theorem seqL_read {K : DCx} {F : Hp} {v : V} {d : D} {ds : List D} (f : Fz K F v d) (e : dSeqL d = some ds) : ∃ a vs, v = .ref a ∧ SqL K.K F a vs ∧ vs.length = ds.length ∧ ∀ (k : Nat) (w : V) (d : D), vs[k]? = some w → ds[k]? = some d → Fz K F w d := by
  unfold dSeqL at e
  split at e
  · cases e
    cases f with
    | lst h1 h2 h3 => exact ⟨_, _, rfl, .of h1, h2, h3⟩
  · cases e
    cases f with
    | scr h1 => exact ⟨_, _, rfl, h1, by rw [List.length_map, List.length_map], fun i w d e1 e2 => by
        rw [List.getElem?_map] at e1 e2
        obtain ⟨n, e3, rfl⟩ := Option.map_eq_some_iff.mp e1
        rw [e3] at e2
        cases e2
        exact .int n⟩
  · cases e
def wZip (f g : WE) : DEnv → (List D → DEnv → Prop) → Prop := fun ρ Q => f ρ fun m ρ1 => g ρ1 fun n ρ2 => ∃ ds es, dSeqL m.toD = some ds ∧ dSeqL n.toD = some es ∧ Q (zipD ds es) ρ2
section
variable {X : Cx} {e e2 : Expr} {f g : WE} {p1 p2 m1 m2 : Bool} {p pos tpos : Pos} {elts : List Expr} {kk : Nat}
theorem di_zip (hg : Gl X "zip") (hm : X.mg "zip" = none) (he : PE X e (TD (dcx X) f false m1)) (he2 : PE X e2 (TD (dcx X) g false m2)) (hs : starEach [e, e2] X.env = (false, eval e X.env) :: starEach [e2] X.env := by rfl) (hs2 : starEach [e2] X.env = [(false, eval e2 X.env)] := by rfl)
    (hpl : (backTo pos (starEach [e2] X.env)).any (·.1) = false := by rfl) : DI X (.Tuple elts kk tpos) (.Call (.Name "zip" p) [e, e2] [] pos) (wZip f g) (m1 || m2) := by
  refine PI.imp (pi_zip hg hm (pa_cons he (pa_cons he2 pa_nil hs2) hs) hs hpl) fun σ H R ⟨F, ρ, G, Q', st, h, k⟩ => ?_
  refine ⟨F, ρ, G, _, st, h, fun F1 H1 ρ1 v m S p h1 => ?_⟩
  obtain ⟨F2, sf2, ff, st2, fe⟩ := p.st.freezeT (T := S) (G' := G) (fun b t => .inr ⟨rfl, t⟩) fun b g => ⟨.inl g, fun s => p.ng rfl b s g⟩
  refine ⟨F2, ρ1, G, _, st2, h1, fun F3 H3 ρ3 u n S' p' ⟨ds, es, e1, e2, q⟩ => ?_⟩
  obtain ⟨F4, sf4, ff4, st4, fe4⟩ := p'.st.freezeT (T := S') (G' := G) (fun b t => .inr ⟨rfl, t⟩) fun b g => ⟨.inl g, fun s => p'.ng rfl b s g⟩
  obtain ⟨a, vs, rfl, s1, l1, i1⟩ := seqL_read (((p.rm.freeze sf2 ff).mono p'.sf).mono sf4) e1
  obtain ⟨b, us, rfl, s2, l2, i2⟩ := seqL_read (p'.rm.freeze sf4 ff4) e2
  refine ⟨a, b, vs, us, rfl, st4.le.seq s1, st4.le.seq s2, k F4 H3 ρ3 _ _ ⟨((p.sf.trans sf2).trans p'.sf).trans sf4, fun b g => (p'.at_ b g).trans (p.at_ b g), fun e => ?_, st4⟩ (yields_zip s1 l1 i1 s2 l2 i2) q⟩
  cases m1 <;> cases m2 <;> first | exact (p.qt rfl).trans (p'.qt rfl) | cases e
end
end DL

/-! DL17: isinstance, methods, dict displays, list(range). -/
namespace DL
open PySem PySem.Spec PyProof.Rows L2

/-! ### isinstance(x, T) -/
def D.isDic : D → Bool
  | .dic _ _ => true
  | _ => false
section
variable {K : DCx} {F H : Hp}
theorem tyx_list {a : Addr} {xs : List V} (h : SqL K.K H a xs) : TyX K.K H (.ref a) (.type "list") := by
  rcases h with (h | ⟨o, h⟩) | ⟨o, its, n, h1, h2, _⟩
  · exact .base (.lst h)
  · exact .base (.frz h)
  · exact .kList h1 h2
theorem tyx_tup {a : Addr} {xs : List V} (h : SqT K.K H a xs) : TyX K.K H (.ref a) (.type "tuple") := by
  rcases h with (h | ⟨o, h⟩) | ⟨o, its, n, h1, h2, _⟩
  · exact .base (.tup h)
  · exact .fTuple h
  · exact .kTuple h1 h2
theorem VD.ty {v : V} {d : D} (le : Same F H) (h : VD K F H v d) (n : d.isDic = false) : TyX K.K H v (.type d.ty) := by
  cases d with
  | non => rw [h.non]; exact .base .non
  | bl b => rw [h.bl]; exact .base (.bl b)
  | int i => rw [h.int]; exact .base (.int i)
  | str x => rw [h.str]; exact .base (.str x)
  | tup ds => obtain ⟨a, vs, rfl, h1, _⟩ := h.tup le; exact tyx_tup h1
  | lst ds => obtain ⟨a, vs, rfl, h1, _⟩ := h.lst le; exact .base (.lst h1)
  | dic t ds => cases n
  | scr ns => obtain ⟨a, rfl, h1⟩ := h.scr le; exact tyx_list h1
end
def isiB (T : String) (d : D) : Option Bool := if d.isDic = true then none else kitB d.ty T
def wIsT (T : String) (f : WE) : WE := fun ρ Q => f ρ fun m ρ1 => ∃ b, isiB T m.toD = some b ∧ Q (.fz (.bl b)) ρ1
theorem td_isi {K : DCx} {T : String} {f : WE} {p1 m1 : Bool} : ∀ σ H Q, TD K (wIsT T f) false m1 σ H Q → tCB (rIsi K.K) (tCons (TD K f p1 m1) (tCons (tC (.ty T)) tNil)) σ H Q := fun σ H Q ⟨F, ρ, G, Q', st, h, k⟩ => by
  refine ⟨F, ρ, G, _, st, h, fun F1 H1 ρ1 v m S p ⟨b, e, q⟩ => ?_⟩
  have vd := p.rm.vd
  unfold isiB at e
  split at e
  · cases e
  · rename_i nd
    have st1 := p.st.less fun b g => Or.inl g
    exact ⟨v, .ty T, _, _, b, rfl, .ty T, vd.ty p.st.le (by simpa using nd), kit_ty e, k F1 H1 ρ1 (.bl b) (.fz (.bl b)) (fun _ => False) ⟨p.sf, p.at_, p.qt, .of (.bl b), st1.less fun b g => g.elim id fun z => z.2.elim, fun _ _ z => z.elim⟩ q⟩
section
variable {X : Cx} {e : Expr} {f : WE} {p1 m1 : Bool} {p q pos : Pos} {x : Str} {T : String}
theorem d_isi (hg : Gl X "isinstance") (hm : X.mg "isinstance" = none) (hgT : Gl X x) (hmT : X.mg x = none) (hvT : bootBuiltins x = some (.type T)) (he : PE X e (TD (dcx X) f p1 m1)) (hs : starEach [e, .Name x q] X.env = (false, eval e X.env) :: starEach [.Name x q] X.env := by rfl)
    (hs2 : starEach [.Name x q] X.env = [(false, eval (.Name x q) X.env)] := by rfl) (hpl : (backTo pos (starEach [.Name x q] X.env)).any (·.1) = false := by rfl) (hn : x ≠ "__name__" := by decide) (hd : (x == ("__debug__" : Str)) = false := by decide) :
    PE X (.Call (.Name "isinstance" p) [e, .Name x q] [] pos) (TD (dcx X) (wIsT T f) false m1) :=
  PE.imp (pe_callB call_isi hg hm rfl (pa_cons he (pa_cons (pe_bltn (v := .ty T) hgT hmT hvT rfl hn hd) pa_nil hs2) hs) (he := hs) (hpl := hpl)) td_isi
end

/-! ### methods -/
def MV.isT : String → MV → Bool
  | "str", .fz (.str _) => true
  | "list", .fz (.lst _) => true
  | "list", .fz (.scr _) => true
  | "list", .ol _ => true
  | _, _ => false
theorem isT_tyV {K : DCx} {F H : Hp} {v : V} {m : MV} {S : ASet} {T : String} (le : Same F H) (h : RM K F H v m S) (t : m.isT T = true) : tyV K.K T v H := by
  unfold MV.isT at t
  split at t
  · obtain ⟨fz, _⟩ := h.fzv; cases fz; exact rfl
  · obtain ⟨fz, _⟩ := h.fzv
    cases fz with
    | lst h1 _ _ => exact .inl ⟨rfl, _, .of (le _ _ h1)⟩
  · obtain ⟨fz, _⟩ := h.fzv
    cases fz with
    | scr h1 => exact .inl ⟨rfl, _, le.seq h1⟩
  · obtain ⟨a, vs, rfl, h1, _⟩ := h.ol_ref
    exact .inl ⟨rfl, _, .of h1⟩
  · cases t
def wOk (T : String) (f : WE) : WE := fun ρ Q => f ρ fun m ρ1 => m.isT T = true ∧ Q m ρ1
theorem td_ok {K : DCx} {T : String} {f : WE} {pl mt : Bool} {σ : L2.St} {H : Hp} {Q : VK} (h : TD K (wOk T f) pl mt σ H Q) : TD K f pl mt σ H fun v H' => tyV K.K T v H' ∧ Q v H' := by
  obtain ⟨F, ρ, G, Q', st, h, k⟩ := h
  exact ⟨F, ρ, G, _, st, h, fun F1 H1 ρ1 v m S p ⟨t, q⟩ => ⟨isT_tyV p.st.le p.rm t, k F1 H1 ρ1 v m S p q⟩⟩
def rM (r : V → List V → Hp → VK → Prop) : List V → Hp → VK → Prop := fun xs H Q => match xs with
  | x :: xs => r x xs H Q
  | [] => False
def dIndex (x y : D) : Option MV := match x with
  | .lst ds => if (y.flat && ds.all D.flat) = true then (ds.findIdx? fun z => z.eqF y).map fun j => .fz (.int (j : Nat)) else none
  | _ => none
def dJoin (a x : D) : Option MV := match a, x with
  | .str a, .lst ds => (D.strs ds).bind fun ys => if (ys.map (·.length)).sum + ys.length * a.length ≤ lim then some (.fz (.str (Txt.join a ys))) else none
  | .str a, .tup ds => (D.strs ds).bind fun ys => if (ys.map (·.length)).sum + ys.length * a.length ≤ lim then some (.fz (.str (Txt.join a ys))) else none
  | _, _ => none
section
variable {X : Cx}
theorem os_index : OpS (dcx X) (rM (rIndex X.K)) (g2 false dIndex) := ops2 fun F H x y d e m Q le vx vy sv hh c => by
  unfold dIndex at hh
  split at hh
  · rename_i ds
    split at hh
    · rename_i hf
      rw [Bool.and_eq_true] at hf
      obtain ⟨j, hj, rfl⟩ := Option.map_eq_some_iff.mp hh
      obtain ⟨a, vs, rfl, h1, h2, h3⟩ := vx.lst le
      obtain ⟨e1, e2⟩ := items_flat h2 h3 hf.2
      obtain ⟨y1, y2⟩ := vy.flat hf.1
      obtain ⟨hjl, hje, hno⟩ := List.findIdx?_eq_some_iff_getElem.mp hj
      refine ⟨a, vs, y, j, (ds[j]).toV, rfl, rfl, .of h1, y2, e2, ?_, ?_, fun k z' hk ez => ?_, c.flat le (.int _)⟩
      · rw [e1, List.getElem?_map, List.getElem?_eq_getElem hjl]; rfl
      · rw [y1, eqF_toV (List.all_eq_true.mp hf.2 _ (List.getElem_mem hjl)) hf.1]; exact hje
      · have hk' : k < ds.length := by omega
        rw [e1, List.getElem?_map, List.getElem?_eq_getElem hk'] at ez
        cases ez
        rw [y1, eqF_toV (List.all_eq_true.mp hf.2 _ (List.getElem_mem hk')) hf.1]
        simpa using hno k hk
    · cases hh
  · cases hh
def rJoin (K : PySem.W.Frag) : V → List V → Hp → VK → Prop := fun x xs H Q => ∃ a p, ∃ ys : List Str, x = .str a ∧ xs = [.ref p] ∧ (SqL K H p (ys.map V.str) ∨ SqT K H p (ys.map V.str)) ∧
    (ys.map (·.length)).sum + ys.length * a.length ≤ 16777216 ∧ Q (.str (Txt.join a ys)) H
theorem os_join : OpS (dcx X) (rM (rJoin X.K)) (g2 false dJoin) := ops2 fun F H x y d e m Q le vx vy sv hh c => by
  unfold dJoin at hh
  split at hh
  · obtain ⟨ys, e1, e2⟩ := Option.bind_eq_some_iff.mp hh
    split at e2
    · rename_i hz
      cases e2
      obtain ⟨a, vs, rfl, h1, h2, h3⟩ := vy.lst le
      have e := strs_some e1
      subst e
      have e := items_str h2 h3
      subst e
      exact ⟨_, a, ys, vx.str, rfl, .inl (.of h1), hz, c.flat le (.str _)⟩
    · cases e2
  · obtain ⟨ys, e1, e2⟩ := Option.bind_eq_some_iff.mp hh
    split at e2
    · rename_i hz
      cases e2
      obtain ⟨a, vs, rfl, h1, h1', h2, h3⟩ := vy.tup le
      have e := strs_some e1
      subst e
      have e := items_str (H := H) h2 fun k w d a b => (h3 k w d a b).vd
      subst e
      exact ⟨_, a, ys, vx.str, rfl, .inr h1, hz, c.flat le (.str _)⟩
    · cases e2
  · cases hh
variable {o e : Expr} {f h : WE} {p1 p2 m1 m2 : Bool} {apos cpos : Pos}
theorem d_meth {T id : String} {name : Str} {r : V → List V → Hp → VK → Prop} {gg : List MV → Option MV} (pa : PySem.PlainAttrs T) (slot : Slot T name id) (hty : typeOf (.builtin id) = pure (.type "method_descriptor")) (hm : MtR X id r) (os : OpS (dcx X) (rM r) gg)
    (ho : PE X o (TD (dcx X) f p1 m1)) (he : PE X e (TD (dcx X) h p2 m2))
    (hbase : attributeBase o name X.env (eval o X.env) = eval o X.env := by rfl)
    (hfew : ((backTo cpos (starEach [e] X.env)).all (fun x => !x.1) && (backToKw cpos (keywordEach [] X.env)).all (fun x => x.1.isSome)
      && decide (([e] : List Expr).length + ([] : List Keyword).length + (if ([] : List Keyword).isEmpty then 0 else 1) < 30)) = true := by rfl)
    (hline : (apos.endLine == cpos.line) = true := by rfl) (hs : starEach [e] X.env = [(false, eval e X.env)] := by rfl) (hplain : (backTo cpos (starEach [] X.env)).any (·.1) = false := by rfl) :
    PE X (.Call (.Attribute o name apos) [e] [] cpos) (TD (dcx X) (wOp2 gg (wOk T f) p1 h p2 m2) false (m1 || (m2 || false))) :=
  PE.imp (pe_bm pa slot hty hm ho (pa1 he hs) hbase hfew hline hs hplain) fun σ H Q q => by
    have h1 := td_ok (td_two (td_op os σ H Q q))
    refine td_weak σ H _ _ (fun v H' z => ⟨z.1, ?_⟩) h1
    exact td_weak σ H' _ _ (fun w H2 z2 => z2) z.2
theorem d_index (ho : PE X o (TD (dcx X) f p1 m1)) (he : PE X e (TD (dcx X) h p2 m2)) (hbase : attributeBase o "index" X.env (eval o X.env) = eval o X.env := by rfl)
    (hfew : ((backTo cpos (starEach [e] X.env)).all (fun x => !x.1) && (backToKw cpos (keywordEach [] X.env)).all (fun x => x.1.isSome)
      && decide (([e] : List Expr).length + ([] : List Keyword).length + (if ([] : List Keyword).isEmpty then 0 else 1) < 30)) = true := by rfl)
    (hline : (apos.endLine == cpos.line) = true := by rfl) (hs : starEach [e] X.env = [(false, eval e X.env)] := by rfl) (hplain : (backTo cpos (starEach [] X.env)).any (·.1) = false := by rfl) :
    PE X (.Call (.Attribute o "index" apos) [e] [] cpos) (TD (dcx X) (wOp2 (g2 false dIndex) (wOk "list" f) p1 h p2 m2) false (m1 || (m2 || false))) :=
  d_meth PySem.F.plainAttrs_list PySem.F.slot_list_index PySem.F.type_list_index mt_index os_index ho he hbase hfew hline hs hplain
theorem d_join (ho : PE X o (TD (dcx X) f p1 m1)) (he : PE X e (TD (dcx X) h p2 m2)) (hbase : attributeBase o "join" X.env (eval o X.env) = eval o X.env := by rfl)
    (hfew : ((backTo cpos (starEach [e] X.env)).all (fun x => !x.1) && (backToKw cpos (keywordEach [] X.env)).all (fun x => x.1.isSome)
      && decide (([e] : List Expr).length + ([] : List Keyword).length + (if ([] : List Keyword).isEmpty then 0 else 1) < 30)) = true := by rfl)
    (hline : (apos.endLine == cpos.line) = true := by rfl) (hs : starEach [e] X.env = [(false, eval e X.env)] := by rfl) (hplain : (backTo cpos (starEach [] X.env)).any (·.1) = false := by rfl) :
    PE X (.Call (.Attribute o "join" apos) [e] [] cpos) (TD (dcx X) (wOp2 (g2 false dJoin) (wOk "str" f) p1 h p2 m2) false (m1 || (m2 || false))) :=
  d_meth PySem.F.plainAttrs_str PySem.F.slot_str_join PySem.F.type_str_join mt_join os_join ho he hbase hfew hline hs hplain
end

/-! ### list(range(a)), list(range(a, b)) -/
def dLstRg (a b : Int) : Option MV := if RgOkB a b then some (.ol (((List.range (b - a).toNat).map fun i => D.int (a + (i : Nat))).map .fz)) else none
where RgOkB (a b : Int) : Bool := decide (-(2 ^ 62) ≤ a ∧ a < 2 ^ 62 ∧ -(2 ^ 62) ≤ b ∧ b < 2 ^ 62 ∧ (b - a).toNat ≤ 2 ^ 24)
def wLR1 (f : WE) : WE := fun ρ Q => f ρ fun m ρ1 => ∃ j m', m = .fz (.int j) ∧ dLstRg 0 j = some m' ∧ Q m' ρ1
def wLR2 (f g : WE) : WE := fun ρ Q => f ρ fun m ρ1 => g ρ1 fun n ρ2 => ∃ i j m', m = .fz (.int i) ∧ n = .fz (.int j) ∧ dLstRg i j = some m' ∧ Q m' ρ2
section
variable {X : Cx} {e e2 : Expr} {f g : WE} {p1 p2 m1 m2 mt : Bool} {p p' q pos : Pos}
theorem lr_fin {K : DCx} {pl mt : Bool} {σ : L2.St} {F H F1 H1 : Hp} {G : ASet} {ρ1 : DEnv} {a b : Int} {m' : MV} {Q' : MV → DEnv → Prop} {Q : VK} (p : PostT K mt σ F H G F1 H1 ρ1) (hm : dLstRg a b = some m') (q : Q' m' ρ1)
    (k : ∀ F' H' ρ' v m S, PostE K false mt σ F H G F' H' ρ' v m S → Q' m ρ' → Q v H') : RgOk a b ∧ ∀ z, H1 z = none → Q (.ref z) (upd H1 z (.lst (rgV a b))) := by
  unfold dLstRg at hm
  split at hm
  · rename_i hr
    cases hm
    refine ⟨show _ from of_decide_eq_true (p := -(2 ^ 62) ≤ a ∧ a < 2 ^ 62 ∧ -(2 ^ 62) ≤ b ∧ b < 2 ^ 62 ∧ (b - a).toNat ≤ 2 ^ 24) hr, fun z hz => ?_⟩
    have c : Cont K F1 H1 (.ol (((List.range (b - a).toNat).map fun i => D.int (a + (i : Nat))).map .fz)) Q := fun F' H' v T sf sh le new rm tn => by
      refine k F' H' ρ1 v _ T ⟨p.sf.trans sf, fun b g => ?_, fun e => (p.qt e).trans sh, rm, p.st.grow sf sh le new (fun b g ng => ?_) fun b g => ?_, fun _ b t g => ?_⟩ q
      · obtain ⟨o, e⟩ := (p.st.fr b g).2
        rw [sh b o e, ← e, p.at_ b g]
      · rcases g with g | g
        · exact absurd g ng
        · exact (tn b g.2).1
      · rcases g with g | g
        · obtain ⟨f0, o, e⟩ := p.st.fr b g
          exact ⟨new b f0 ⟨o, e⟩, o, sh b o e⟩
        · exact ⟨(tn b g.2).2, rm.there b g.2⟩
      · obtain ⟨_, o, e⟩ := p.st.fr b g
        rw [(tn b t).1] at e
        cases e
    refine c.newL p.st.le (by unfold rgV; rw [List.length_map, List.length_map]) (fun i w d e1 e2 => ?_) hz
    unfold rgV at e1
    rw [List.getElem?_map] at e1 e2
    obtain ⟨n, e3, rfl⟩ := Option.map_eq_some_iff.mp e1
    rw [e3] at e2
    cases e2
    exact .int _
  · cases hm
theorem d_lr1 (hc : X.calm = true) (hg : Gl X "list") (hm : X.mg "list" = none) (hg' : Gl X "range") (hm' : X.mg "range" = none) (he : PE X e (TD (dcx X) f p1 m1)) (na : starEach [e] X.env = (false, eval e X.env) :: starEach [] X.env := by rfl)
    (na' : starEach [.Call (.Name "range" p) [e] [] q] X.env = (false, eval (.Call (.Name "range" p) [e] [] q) X.env) :: starEach [] X.env := by rfl) :
    PE X (.Call (.Name "list" p') [.Call (.Name "range" p) [e] [] q] [] pos) (TD (dcx X) (wLR1 f) false m1) :=
  PE.imp (pe_listRg hc hg hm (prg_1 hg' hm' he na) na') fun σ H Q ⟨F, ρ, G, Q', st, h, k⟩ => by
    refine ⟨F, ρ, G, _, st, h, fun F1 H1 ρ1 v m S p ⟨j, m', em, hd, q⟩ => ?_⟩
    subst em
    obtain ⟨fz, _⟩ := p.rm.fzv
    cases fz
    exact ⟨j, rfl, lr_fin (pl := false) (post_tmp p) hd q k⟩
theorem d_lr2 (hc : X.calm = true) (hg : Gl X "list") (hm : X.mg "list" = none) (hg' : Gl X "range") (hm' : X.mg "range" = none) (he : PE X e (TD (dcx X) f p1 m1)) (he2 : PE X e2 (TD (dcx X) g p2 m2))
    (na : starEach [e, e2] X.env = (false, eval e X.env) :: starEach [e2] X.env := by rfl) (nb : starEach [e2] X.env = (false, eval e2 X.env) :: starEach [] X.env := by rfl) (hp : (backTo q (starEach [e2] X.env)).any (·.1) = false := by rfl)
    (na' : starEach [.Call (.Name "range" p) [e, e2] [] q] X.env = (false, eval (.Call (.Name "range" p) [e, e2] [] q) X.env) :: starEach [] X.env := by rfl) :
    PE X (.Call (.Name "list" p') [.Call (.Name "range" p) [e, e2] [] q] [] pos) (TD (dcx X) (wLR2 f g) false (m1 || m2)) :=
  PE.imp (pe_listRg hc hg hm (prg_2 hg' hm' he he2 na nb hp) na') fun σ H Q ⟨F, ρ, G, Q', st, h, k⟩ => by
    refine ⟨F, ρ, G, _, st, h, fun F1 H1 ρ1 v m S p h1 => ?_⟩
    refine ⟨F1, ρ1, G, _, (post_tmp p).st, h1, fun F2 H2 ρ2 u n T p' ⟨i, j, m', em, en, hd, q⟩ => ?_⟩
    subst em en
    obtain ⟨fz, _⟩ := p.rm.fzv
    cases fz
    obtain ⟨fz, _⟩ := p'.rm.fzv
    cases fz
    exact ⟨i, j, rfl, rfl, lr_fin (pl := false) ((post_tmp p).trans (post_tmp p')) hd q k⟩
end
end DL

/-! DL18: dicts that are made: {}, displays, dict(pairs), comprehensions. -/
namespace DL
open PySem PySem.Spec PyProof.Rows L2

def fzs (acc : List (D × D)) : List (D × MV) := acc.map fun p => (p.1, MV.fz p.2)
/-- keys and values of a dict of ints and texts, as data -/
structure KR (K : DCx) (F : Hp) (kvs : List (Key × V)) (acc : List (D × D)) : Prop where
  len : kvs.length = acc.length
  at_ : ∀ (j : Nat) (p : Key × V) (q : D × D), kvs[j]? = some p → acc[j]? = some q → keyD p.1 = q.1 ∧ Fz K F p.2 q.2
section
variable {K : DCx} {F F' H : Hp} {kvs : List (Key × V)} {acc : List (D × D)}
theorem KR.nil : KR K F [] [] := ⟨rfl, fun j p q e => by simp at e⟩
theorem KR.mono (h : KR K F kvs acc) (s : Same F F') : KR K F' kvs acc := ⟨h.len, fun j p q a b => ⟨(h.at_ j p q a b).1, (h.at_ j p q a b).2.mono s⟩⟩
theorem KR.put (h : KR K F kvs acc) {k : Key} {v : V} {d : D} (f : Fz K F v d) : KR K F (putK kvs k v) (dput acc (keyD k) d) := by
  have hk : (kvs.map fun p => (keyD p.1, p.2)).length = acc.length := by rw [List.length_map]; exact h.len
  have he : ∀ (j : Nat) p q, (kvs.map fun p => (keyD p.1, p.2))[j]? = some p → acc[j]? = some q → p.1 = q.1 := fun j p q a b => by
    rw [List.getElem?_map] at a
    obtain ⟨p', e1, rfl⟩ := Option.map_eq_some_iff.mp a
    exact (h.at_ j p' q e1 b).1
  have e1 := dput_dK kvs k v
  refine ⟨?_, fun j p q a b => ?_⟩
  · have := dput_length (keyD k) v d hk he
    rw [e1, List.length_map] at this
    exact this
  · have a' : (dput (kvs.map fun p => (keyD p.1, p.2)) (keyD k) v)[j]? = some (keyD p.1, p.2) := by rw [e1, List.getElem?_map, a]; rfl
    rw [dput_get, any_keys (keyD k) hk he] at a'
    rw [dput_get] at b
    split at a'
    · rename_i hz
      rw [if_pos hz] at b
      obtain ⟨p', e3, e4⟩ := Option.map_eq_some_iff.mp a'
      obtain ⟨q', e5, rfl⟩ := Option.map_eq_some_iff.mp b
      have hh := he j p' q' e3 e5
      rw [List.getElem?_map] at e3
      obtain ⟨p2, e6, rfl⟩ := Option.map_eq_some_iff.mp e3
      obtain ⟨h1, h2⟩ := h.at_ j p2 q' e6 e5
      by_cases hs : sameK q'.1 (keyD k) = true
      · rw [if_pos (by rw [hh]; exact hs)] at e4
        rw [if_pos hs]
        injection e4 with e7 e8
        exact ⟨e7.symm.trans h1, e8 ▸ f⟩
      · rw [if_neg (by rw [hh]; exact hs)] at e4
        rw [if_neg hs]
        injection e4 with e7 e8
        exact ⟨e7.symm.trans h1, e8 ▸ h2⟩
    · rename_i hz
      rw [if_neg hz] at b
      rw [hk] at a'
      split at a'
      · rename_i hj
        rw [if_pos hj] at b
        cases b
        injection a' with a'
        injection a' with e7 e8
        exact ⟨e7.symm, e8 ▸ f⟩
      · rename_i hj
        rw [if_neg hj] at b
        rw [List.getElem?_map] at a'
        obtain ⟨p2, e6, e7⟩ := Option.map_eq_some_iff.mp a'
        injection e7 with e8 e9
        obtain ⟨h1, h2⟩ := h.at_ j p2 q e6 b
        exact ⟨e8.symm.trans h1, e9 ▸ h2⟩
def mergeD (acc : List (D × D)) : List (D × D) → List (D × D)
  | [] => acc
  | p :: ps => mergeD (dput acc p.1 p.2) ps
theorem KR.merge : ∀ {more : List (Key × V)} {ps : List (D × D)} {kvs : List (Key × V)} {acc : List (D × D)}, KR K F more ps → KR K F kvs acc → KR K F (mergeK kvs more) (mergeD acc ps)
  | [], [], kvs, acc, _, h => h
  | [], _ :: _, _, _, h, _ => by have := h.len; cases this
  | _ :: _, [], _, _, h, _ => by have := h.len; cases this
  | p :: more, q :: ps, kvs, acc, h, h0 => by
    obtain ⟨e1, e2⟩ := h.at_ 0 p q rfl rfl
    have ht : KR K F more ps := ⟨by simpa using h.len, fun j a b x y => h.at_ (j + 1) a b (by simpa using x) (by simpa using y)⟩
    have := h0.put (k := p.1) e2
    rw [e1] at this
    show KR K F (mergeK (putK kvs p.1 p.2) more) (mergeD (dput acc q.1 q.2) ps)
    exact KR.merge ht this
theorem KR.od (h : KR K F kvs acc) {a : Addr} (e : H a = some (.dK kvs)) : RM K F H (.ref a) (.od false (fzs acc)) (fun b => b = a) :=
  .od (kvs := kvs.map fun p => (keyD p.1, p.2)) (fun _ _ => False) e (.inl ⟨rfl, kvs, rfl, rfl⟩) (by unfold fzs; rw [List.length_map, List.length_map]; exact h.len) (fun j p q e1 e2 => by
    unfold fzs at e2
    rw [List.getElem?_map] at e1 e2
    obtain ⟨p', e3, rfl⟩ := Option.map_eq_some_iff.mp e1
    obtain ⟨q', e4, rfl⟩ := Option.map_eq_some_iff.mp e2
    exact (h.at_ j p' q' e3 e4).1) (fun j p q e1 e2 => by
    unfold fzs at e2
    rw [List.getElem?_map] at e1 e2
    obtain ⟨p', e3, rfl⟩ := Option.map_eq_some_iff.mp e1
    obtain ⟨q', e4, rfl⟩ := Option.map_eq_some_iff.mp e2
    exact .of (h.at_ j p' q' e3 e4).2) (fun _ _ _ z => z.elim) (fun _ z => z) fun b => ⟨.inl, fun z => z.elim id fun ⟨_, _, z⟩ => z.elim⟩
theorem kd_keyD {y : V} {d : D} (f : Fz K F y d) (o : keyOk false d = true) : ∃ k, y = kV k ∧ d = keyD k := (f.kd (keyOk_nk o)).key o
end

/-! ### {} -/
def wDic (t : Bool) : WE := fun ρ Q => Q (.od t []) ρ
def tDNewN (K : DCx) : TE := fun _ H Q => ∀ p, H p = none → Q (.ref p) (upd H p (DN K p []))
section
variable {X : Cx} {pos : Pos}
theorem pe_dnewN : PE X (.Dict [] [] pos) (tDNewN (dcx X)) := ⟨fun pins s σ H Q I h =>
  wpAny_Dict_empty ⟨.ref s.heap.objs.size, _, I.laid (a := s.heap.objs.size) (o := DN (dcx X) s.heap.objs.size []) (t' := s.toks) (fun _ _ q => Heap.get?_push_of_some _ q) (Nat.le_refl _)
    (dn_new (K := dcx X) (us := []) .nil (beq_eq_false_iff_ne.mpr (Ne.symm (Nat.ne_of_lt I.big))) (Nat.zero_le _) (Heap.DictOfH.new _)), rfl, h _ (I.hok.fresh (Nat.le_refl _))⟩⟩
theorem td_dic {K : DCx} {t : Bool} {o : Addr → HO} (ho : ∀ F a, DicO K F a t (o a) []) : ∀ σ H Q, TD K (wDic t) false false σ H Q → (∀ p, H p = none → Q (.ref p) (upd H p (o p))) := fun σ H Q ⟨F, ρ, G, Q', st, h, k⟩ p hp =>
  k F (upd H p (o p)) ρ (.ref p) (.od t []) (fun b => b = p) ⟨Same.refl F, fun b g => by
    obtain ⟨_, o, e⟩ := st.fr b g
    rw [upd_ne (ne_of_none e hp)], fun _ => same_upd hp, .od (fun _ _ => False) upd_same (ho F p) rfl (fun j p q e => by simp at e) (fun j p q e => by simp at e) (fun _ _ _ z => z.elim) (fun _ z => z) fun b => ⟨.inl, fun z => z.elim id fun ⟨_, _, z⟩ => z.elim⟩,
    (st.new hp).less fun b g => g.elim .inl fun z => .inr z.2, fun _ b e g => by
      obtain ⟨_, o, e'⟩ := st.fr b g
      rw [e, hp] at e'
      cases e'⟩ h
theorem d_dic0 : PE X (.Dict [] [] pos) (TD (dcx X) (wDic false) false false) := PE.imp pe_dnewK (td_dic (o := fun _ => .dK []) fun F a => .inl ⟨rfl, [], rfl, rfl⟩)
theorem d_dicT : PE X (.Dict [] [] pos) (TD (dcx X) (wDic true) false false) := PE.imp pe_dnewN (td_dic (o := fun a => DN (dcx X) a []) fun F a => .inr ⟨rfl, [], rfl, .nil⟩)
end

/-! ### {k: v, ..} -/
def wPairs : List (WE × WE) → DEnv → (List (D × D) → DEnv → Prop) → Prop
  | [], ρ, Q => Q [] ρ
  | p :: ps, ρ, Q => p.1 ρ fun km ρ1 => p.2 ρ1 fun vm ρ2 => ∃ kd vd, km = .fz kd ∧ vm = .fz vd ∧ keyOk false kd = true ∧ wPairs ps ρ2 fun qs ρ3 => Q ((kd, vd) :: qs) ρ3
def wDisp (ps : List (WE × WE)) : WE := fun ρ Q => wPairs ps ρ fun qs ρ1 => Q (.od false (fzs (mergeD [] qs))) ρ1
def trsOf (K : DCx) (ps : List (WE × WE)) : List (TE × TE) := ps.map fun p => (TD K p.1 false true, TD K p.2 false true)
theorem td_pairs {K : DCx} : ∀ (ps : List (WE × WE)) (σ : L2.St) (H : Hp) (F : Hp) (ρ : DEnv) (G : ASet) (Q : List (V × V) → Hp → Prop) (Q' : List (D × D) → DEnv → Prop), Sta K F H σ ρ G → wPairs ps ρ Q' →
    (∀ F' H' ρ' (kvs : List (Key × V)) qs, PostT K true σ F H G F' H' ρ' → KR K F' kvs qs → kvs.length = ps.length → Q' qs ρ' → Q (kvs.map fun kv => (kV kv.1, kv.2)) H') → tPairs (trsOf K ps) σ H Q
  | [], σ, H, F, ρ, G, Q, Q', st, h, k => k F H ρ [] [] ⟨Same.refl F, fun _ _ => rfl, (fun e => nomatch e), st⟩ .nil rfl h
  | p :: ps, σ, H, F, ρ, G, Q, Q', st, h, k => by
    refine ⟨F, ρ, G, _, st, h, fun F1 H1 ρ1 kv km S1 p1 h1 => ?_⟩
    refine ⟨F1, ρ1, G, _, (post_tmp p1).st, h1, fun F2 H2 ρ2 v vm S2 p2 ⟨kd, vd, e1, e2, hk, h2⟩ => ?_⟩
    subst e1 e2
    obtain ⟨fk, _⟩ := p1.rm.fzv
    obtain ⟨fv, _⟩ := p2.rm.fzv
    obtain ⟨k', rfl, rfl⟩ := kd_keyD fk hk
    refine td_pairs ps σ H2 F2 ρ2 G _ _ (post_tmp p2).st h2 fun F3 H3 ρ3 kvs qs p3 kr hl hq => ?_
    refine k F3 H3 ρ3 ((k', v) :: kvs) ((keyD k', vd) :: qs) (((post_tmp p1).trans (post_tmp p2)).trans p3) ⟨by simp only [List.length_cons, kr.len], fun j a b x y => ?_⟩ (by simp only [List.length_cons, hl]) hq
    cases j with
    | zero => cases x; cases y; exact ⟨rfl, fv.mono p3.sf⟩
    | succ j => exact kr.at_ j a b (by simpa using x) (by simpa using y)
theorem td_disp {K : DCx} {ps : List (WE × WE)} (hz : ps.length ≤ 15) : ∀ σ H Q, TD K (wDisp ps) false true σ H Q → tDisp (trsOf K ps) σ H Q := fun σ H Q ⟨F, ρ, G, Q', st, h, k⟩ p hp => by
  have st1 := st.new (o := .dK []) hp
  refine td_pairs ps σ _ F ρ _ _ _ st1 h fun F1 H1 ρ1 kvs qs p1 kr hl hq => ?_
  have e1 : H1 p = some (.dK []) := by rw [p1.at_ p (.inr rfl), upd_same]
  refine ⟨e1, kvs, rfl, by omega, ?_⟩
  have km := KR.merge (K := K) kr (KR.nil (K := K) (F := F1))
  have ng : ∀ b, G b → b ≠ p := fun b g z => by
    obtain ⟨_, o, e⟩ := st.fr b g
    rw [z, hp] at e
    cases e
  refine k F1 _ ρ1 (.ref p) _ (fun b => b = p) ⟨p1.sf, fun b g => ?_, (fun e => nomatch e), km.od upd_same, (p1.st.setG (.inr rfl) e1).less fun b g => g.elim .inl fun z => .inr z.2, fun _ b e g => ng b g e⟩ hq
  rw [upd_ne (ng b g), p1.at_ b (.inl g), upd_ne (ng b g)]
section
variable {X : Cx} {pos : Pos} {e e2 : Expr} {ks : List (Option Expr)} {vs : List Expr} {f g : WE} {ps : List (WE × WE)}
theorem dp_nil : PPs X pos [] [] (trsOf (dcx X) []) := pps_nil
theorem dp_cons (hk : PE X e (TD (dcx X) f false true)) (hv : PE X e2 (TD (dcx X) g false true)) (hr : PPs X pos ks vs (trsOf (dcx X) ps)) : PPs X pos (some e :: ks) (e2 :: vs) (trsOf (dcx X) ((f, g) :: ps)) := pps_cons hk hv hr
theorem d_disp (h : PPs X pos ks vs (trsOf (dcx X) ps)) (hz : ps.length ≤ 15) (hall : ks.all (·.isSome) = true := by rfl) (hl : ks.length = vs.length := by rfl) (h0 : ks ≠ [] := by exact List.cons_ne_nil _ _) (h15 : ks.length ≤ 15 := by decide) :
    PE X (.Dict ks vs pos) (TD (dcx X) (wDisp ps) false true) := PE.imp (pe_disp h hall hl h0 h15) (td_disp hz)
end

/-! ### dict(a list of pairs) -/
def D.pairs : List D → Option (List (D × D))
  | [] => some []
  | .tup [k, v] :: r => if keyOk false k = true then (D.pairs r).map ((k, v) :: ·) else none
  | _ => none
def dDict : D → Option MV
  | .lst ds => (D.pairs ds).map fun ps => .od false (fzs (mergeD [] ps))
  | _ => none
theorem pairs_read {K : DCx} {F H : Hp} : ∀ {ds : List D} {ps : List (D × D)} {vs : List V}, Same F H → D.pairs ds = some ps → vs.length = ds.length → (∀ (k : Nat) (w : V) (d : D), vs[k]? = some w → ds[k]? = some d → Fz K F w d) →
    ∃ (as : List Addr) (kvs : List (Key × V)), vs = as.map V.ref ∧ Paired (fun p kv => SqT K.K H p [kV kv.1, kv.2]) as kvs ∧ KR K F kvs ps
  | [], ps, [], _, e, _, _ => by cases e; exact ⟨[], [], rfl, .nil, .nil⟩
  | [], _, _ :: _, _, _, hl, _ => by cases hl
  | _ :: _, _, [], _, _, hl, _ => by cases hl
  | d :: ds, ps, v :: vs, le, e, hl, hf => by
    unfold D.pairs at e
    split at e
    · rename_i eq; cases eq
    · rename_i k w r eq
      cases eq
      split at e
      · rename_i ok
        obtain ⟨ps', e1, rfl⟩ := Option.map_eq_some_iff.mp e
        obtain ⟨as, kvs, rfl, h1, h2⟩ := pairs_read le e1 (by simpa using hl) fun j w d a b => hf (j + 1) w d (by simpa using a) (by simpa using b)
        have f0 := hf 0 v _ rfl rfl
        cases f0 with
        | @tup a us _ s1 s2 s3 =>
          match us, s2, s3, s1 with
          | [x, y], _, s3, s1 =>
            obtain ⟨k', rfl, rfl⟩ := kd_keyD (s3 0 x k rfl rfl) ok
            refine ⟨a :: as, (k', y) :: kvs, rfl, .cons (DL.Same.sqT le s1) h1, ⟨by simp only [List.length_cons, h2.len], fun j p q a b => ?_⟩⟩
            cases j with
            | zero => cases a; cases b; exact ⟨rfl, s3 1 y w rfl rfl⟩
            | succ j => exact h2.at_ j p q (by simpa using a) (by simpa using b)
      · cases e
    · cases e
section
variable {X : Cx}
theorem os_dict : OpS (dcx X) (fun xs H Q => ∃ (a : Addr) (ps : List Addr) (kvs : List (Key × V)), xs = [.ref a] ∧ SqL X.K H a (ps.map V.ref) ∧ Paired (fun p kv => SqT X.K H p [kV kv.1, kv.2]) ps kvs ∧
    ∀ p, H p = none → Q (.ref p) (upd H p (.dK (mergeK [] kvs)))) (g1 true dDict) := ops1 fun F H x d m Q le vx sv hh c => by
  have sx := sv rfl
  unfold dDict at hh
  split at hh
  · obtain ⟨ps, e1, rfl⟩ := Option.map_eq_some_iff.mp hh
    obtain ⟨a, vs, rfl, h1, h2, h3⟩ := sx.lst le
    obtain ⟨as, kvs, rfl, h4, h5⟩ := pairs_read (K := dcx X) le e1 h2 h3
    have km := KR.merge (K := dcx X) h5 (KR.nil (F := F))
    exact ⟨a, as, kvs, rfl, .of h1, h4, fun p hp => c F _ (.ref p) (fun b => b = p) (Same.refl F) (same_upd hp) (same_updR le (Same.none le hp)) (fun _ e _ => e) (km.od upd_same) fun b e => ⟨e ▸ hp, e ▸ Same.none le hp⟩⟩
  · cases hh
end

/-! ### {k: v for ..} -/
def wDcB (g : WG) (tt : WT) (fk fv : WE) (vs : List Nat) : List D → DEnv → List (D × D) → (List (D × D) → DEnv → Prop) → Prop
  | [], ρ, acc, Q => Q acc ρ
  | d :: ds, ρ, acc, Q => g d (wipeD ρ vs) fun ρ1 => tt ρ1 fun b ρ2 => if b = true then fk ρ2 fun km ρ3 => fv ρ3 fun vm ρ4 => ∃ kd vd, km = .fz kd ∧ vm = .fz vd ∧ keyOk false kd = true ∧ acc.length < lim ∧ wDcB g tt fk fv vs ds ρ4 (dput acc kd vd) Q else wDcB g tt fk fv vs ds ρ2 acc Q
def wDc (it : DEnv → (List D → DEnv → Prop) → Prop) (g : WG) (tt : WT) (fk fv : WE) (vs : List Nat) : WE := fun ρ Q => it ρ fun ds ρ1 => frzAt ρ1 vs = true ∧ wDcB g tt fk fv vs ds ρ1 [] fun acc ρ2 => Q (.od false (fzs acc)) (restD ρ1 ρ2 vs)
theorem td_dc {K : DCx} {it : DEnv → (List D → DEnv → Prop) → Prop} {g : WG} {tt : WT} {fk fv : WE} {vs : List Nat} {mi mt mk mv pk : Bool} : ∀ σ H Q, TD K (wDc it g tt fk fv vs) false true σ H Q → tDc (TDI K it mi) (TDG K (fun i => i ∉ vs) g) (TDT K tt mt) (TD K fk false mk) (TD K fv false mv) vs σ H Q := fun σ H Q ⟨F, ρ, G, Q', st, h, k⟩ => by
  refine ⟨F, ρ, G, _, st, h, fun F0 H0 ρ0 ds J p0 ys ⟨fz, q0⟩ A hA => ?_⟩
  have ngA : ∀ b, G b → b ≠ A := fun b gb e => by
    obtain ⟨_, o, e'⟩ := p0.st.fr b gb
    rw [e, hA] at e'
    cases e'
  refine ⟨fun i m H1 => m + i = ds.length ∧ ∃ F1 ρ1 acc kvs, Same F0 F1 ∧ (∀ b, G b → H1 b = H0 b) ∧ H1 A = some (.dK kvs) ∧ KR K F1 kvs acc ∧
    Sta K F1 H1 (wipe σ vs) (wipeD ρ1 vs) (fun b => G b ∨ b = A) ∧ wDcB g tt fk fv vs (ds.drop i) ρ1 acc fun acc ρ2 => Q' (.od false (fzs acc)) (restD ρ0 ρ2 vs),
    ⟨ds.length, rfl, F0, ρ0, [], [], Same.refl _, fun b gb => upd_ne (ngA b gb), upd_same, .nil, (p0.st.wipe vs).new hA, q0⟩, fun i m H1 ⟨em, F1, ρ1, acc, kvs, sf, at1, eA, kr, st1, w1⟩ => ?_⟩
  by_cases hi : i < ds.length
  · rw [List.drop_eq_getElem_cons hi] at w1
    obtain ⟨go, yl⟩ := ys.item i ds[i] F1 H1 sf st1.le (List.getElem?_eq_getElem hi)
    refine .inr ⟨go, fun H' => ∃ m', m' < m ∧ (m' + (i + 1) = ds.length ∧ ∃ F1 ρ1 acc kvs, Same F0 F1 ∧ (∀ b, G b → H' b = H0 b) ∧ H' A = some (.dK kvs) ∧ KR K F1 kvs acc ∧
      Sta K F1 H' (wipe σ vs) (wipeD ρ1 vs) (fun b => G b ∨ b = A) ∧ wDcB g tt fk fv vs (ds.drop (i + 1)) ρ1 acc fun acc ρ2 => Q' (.od false (fzs acc)) (restD ρ0 ρ2 vs)), fun H' x => x, fun x H2 hy => ?_⟩
    obtain ⟨F2, sf2, sh2, le2, new2, fzx⟩ := yl x H2 hy
    have st2 : Sta K F2 H2 (wipe σ vs) (wipeD ρ1 vs) (fun b => G b ∨ b = A) := st1.grow sf2 sh2 le2 new2 (fun b g n => absurd g n) fun b g => by
      obtain ⟨f0, o, e⟩ := st1.fr b g
      exact ⟨new2 b f0 ⟨o, e⟩, o, sh2 b o e⟩
    have at2 : ∀ b, (G b ∨ b = A) → H2 b = H1 b := fun b gb => by
      obtain ⟨_, o, e⟩ := st1.fr b gb
      rw [sh2 b o e, e]
    refine ⟨F2, wipeD ρ1 vs, _, ds[i], _, st2, fzx, w1, fun σ3 ρ3 st3 pr3 w3 => ⟨wipe_eq pr3, ?_⟩⟩
    refine ⟨F2, ρ3, _, _, st3, w3, fun F4 H4 ρ4 b p4 w4 => ?_⟩
    have at4 : ∀ b, G b → H4 b = H0 b := fun b gb => by rw [p4.at_ b (.inl gb), at2 b (.inl gb), at1 b gb]
    have eA4 : H4 A = some (.dK kvs) := by rw [p4.at_ A (.inr rfl), at2 A (.inr rfl), eA]
    have kr4 : KR K F4 kvs acc := kr.mono (sf2.trans p4.sf)
    have em' : m - 1 < m ∧ m - 1 + (i + 1) = ds.length := by omega
    cases b with
    | false =>
      rw [if_neg Bool.false_ne_true] at w4
      refine iteF ⟨m - 1, em'.1, em'.2, F4, ρ4, acc, kvs, (sf.trans sf2).trans p4.sf, at4, eA4, kr4, ?_, w4⟩
      have := p4.st.wipe vs
      rw [wipe_eq pr3] at this
      exact this
    | true =>
      rw [if_pos rfl] at w4
      refine iteT ⟨F4, ρ4, _, _, p4.st, w4, fun F5 H5 ρ5 y km S5 p5 w5 => ?_⟩
      refine ⟨F5, ρ5, _, _, (post_tmp p5).st, w5, fun F6 H6 ρ6 z vm S6 p6 ⟨kd, vd, e1, e2, hk, hz, w6⟩ => ?_⟩
      subst e1 e2
      obtain ⟨fk, _⟩ := p5.rm.fzv
      obtain ⟨fv, _⟩ := p6.rm.fzv
      obtain ⟨k', rfl, rfl⟩ := kd_keyD fk hk
      have eA6 : H6 A = some (.dK kvs) := by rw [p6.at_ A (.inr rfl), p5.at_ A (.inr rfl), eA4]
      have kr6 : KR K F6 (putK kvs k' z) (dput acc (keyD k') vd) := (kr4.mono (p5.sf.trans p6.sf)).put fv
      refine ⟨kvs, k', rfl, eA6, lim_lt (by rw [kr.len]; exact hz), m - 1, em'.1, em'.2, F6, ρ6, _, _, (((sf.trans sf2).trans p4.sf).trans p5.sf).trans p6.sf, fun b gb => ?_, upd_same, kr6, ?_, w6⟩
      · rw [upd_ne (ngA b gb), p6.at_ b (.inl gb), p5.at_ b (.inl gb), at4 b gb]
      · have s6 := (post_tmp p6).st.wipe vs
        rw [wipe_eq pr3] at s6
        exact s6.setG (.inr rfl) eA6
  · have e : i = ds.length := by omega
    subst e
    rw [List.drop_length] at w1
    exact .inl ⟨ys.stop F1 H1 sf st1.le, k F1 H1 (restD ρ0 ρ1 vs) (.ref A) _ (fun b => b = A) ⟨p0.sf.trans sf, fun b gb => (at1 b gb).trans (p0.at_ b gb), (fun e => nomatch e), kr.od eA, (Sta.rest p0.st fz sf st1).less fun b gb => gb.elim .inl fun z => .inr z.2, fun _ b e gb => ngA b gb e⟩ w1⟩
section
variable {X : Cx} {tg iter kx vx : Expr} {ifs : List Expr} {scope : Scope} {own : List (Str × Nat)} {pos : Pos} {it : DEnv → (List D → DEnv → Prop) → Prop} {g : WG} {tt : WT} {fk fv : WE} {mi mt mk mv : Bool}
theorem d_dc (hc : X.calm = true) (hN : X.N.Nodup) (hi : DI X tg iter it mi) (ok : BlkOk X.N X.env.scope scope own)
    (hg : ∀ (s : Shared) (H : Hp) (C : Addr) (cl : List (Str × Addr)) (fp : List Addr), DT (X.blk s H scope (compEnvC scope cl C X.env) fp) (fun i => i ∉ own.map (·.2)) tg g)
    (ht : ∀ (s : Shared) (H : Hp) (C : Addr) (cl : List (Str × Addr)) (fp : List Addr), PTs (X.blk s H scope (compEnvC scope cl C X.env) fp) ifs (TDT (dcx X) tt mt))
    (hk : ∀ (s : Shared) (H : Hp) (C : Addr) (cl : List (Str × Addr)) (fp : List Addr), PE (X.blk s H scope (compEnvC scope cl C X.env) fp) kx (TD (dcx X) fk false mk))
    (he : ∀ (s : Shared) (H : Hp) (C : Addr) (cl : List (Str × Addr)) (fp : List Addr), PE (X.blk s H scope (compEnvC scope cl C X.env) fp) vx (TD (dcx X) fv false mv)) (hs : ∀ x, foldedSetIterable iter X.env x = pure x := by intro _; rfl) :
    PE X (.DictComp kx vx [⟨tg, iter, ifs, 0⟩] scope pos) (TD (dcx X) (wDc it g tt fk fv (own.map (·.2))) false true) :=
  PE.imp (pe_dc hc hN hi ok hg ht hk he hs) (td_dc (pk := false))
end
end DL

/-! DL19: list(zip(*texts)). -/
namespace DL
open PySem PySem.Spec PyProof.Rows L2

theorem zn_typeCall (vs : List Value) : checkTypeCall "zip" ⟨vs, []⟩ = pure () := by kernel_rfl
theorem zn_newCall (vs : List Value) : checkBuiltinCall "zip.__new__" ⟨.type "zip" :: vs, []⟩ = pure () := by cases vs with | nil => kernel_rfl | cons v r => kernel_rfl
theorem zn_args (obj : Value) (vs : List Value) : argsOk "object.__init__" ⟨obj :: vs, []⟩ := by unfold argsOk; kernel_rfl

abbrev ZP := Str × Tok
def zObj (p : ZP) : Obj := { cls := .type (strIterType p.1), data := .fields #[.str p.1 p.2, .int 0 0] }
def zPush : Heap → List ZP → Heap
  | h, [] => h
  | h, p :: ps => zPush (h.push (zObj p)) ps
theorem zPush_append : ∀ (ps qs : List ZP) (h : Heap), zPush h (ps ++ qs) = zPush (zPush h ps) qs
  | [], qs, h => rfl
  | p :: ps, qs, h => zPush_append ps qs _
theorem zPush_size : ∀ (ps : List ZP) (h : Heap), (zPush h ps).objs.size = h.objs.size + ps.length
  | [], h => rfl
  | p :: ps, h => by rw [zPush, zPush_size ps, Heap.size_push, List.length_cons]; omega
theorem zPush_keep : ∀ (ps : List ZP) (h : Heap) (b : Addr) (o : Obj), h.get? b = some o → (zPush h ps).get? b = some o
  | [], h, b, o, e => e
  | p :: ps, h, b, o, e => zPush_keep ps _ b o (Heap.get?_push_of_some _ e)
theorem zPush_get : ∀ (ps : List ZP) (h : Heap) (i : Nat) (p : ZP), ps[i]? = some p → (zPush h ps).get? (h.objs.size + i) = some (zObj p)
  | [], h, i, p, e => by simp at e
  | q :: ps, h, 0, p, e => by
    cases e
    exact zPush_keep ps _ _ _ (Heap.get?_push_size _ rfl)
  | q :: ps, h, i + 1, p, e => by
    have := zPush_get ps (h.push (zObj q)) i p (by simpa using e)
    rw [Heap.size_push] at this
    rw [zPush, show h.objs.size + (i + 1) = h.objs.size + 1 + i by omega]
    exact this
def zRefs (n k : Nat) : List Value := (List.range' n k).map Value.ref
def zVals (ps : List ZP) : List Value := ps.map fun p => .str p.1 p.2
section
variable {prog : Program} {w : World} {A : Around} {E : Value → Shared → Prop} {s : Shared}
theorem z_iterAll {ps : List ZP} {Q : List Value → Shared → Prop} (h : Q (zRefs s.heap.objs.size ps.length) { s with heap := zPush s.heap ps }) : wpAny (model prog w) A (Builtin.SmallTypes.iterAll (zVals ps)) Q E s := by
  show wpAny _ _ (forIn (zVals ps) (#[] : Array Value) _ >>= _) _ _ _
  refine wpAny_bind (wpAny_forIn_list _ (fun rest its st => ∃ done rp, ps = done ++ rp ∧ rest = zVals rp ∧ its.toList = zRefs s.heap.objs.size done.length ∧ st = { s with heap := zPush s.heap done }) _ ?_ ?_ _ _ ⟨[], ps, rfl, rfl, rfl, rfl⟩)
  · rintro x rest its st ⟨done, rp, e1, e2, e3, rfl⟩
    cases rp with
    | nil => cases e2
    | cons p rp =>
      injection e2 with e2 e4
      subst e2
      refine wpAny_bind (wpAny_holding (wpAny_pyIter_strU (wpAny_pure ?_)))
      refine ⟨done ++ [p], rp, by rw [List.append_assoc]; exact e1, e4, ?_, ?_⟩
      · rw [Array.toList_push, e3]
        unfold zRefs
        rw [List.length_append, List.length_singleton, List.range'_concat, List.map_append]
        show _ ++ [Value.ref (zPush s.heap done).objs.size] = _
        rw [zPush_size]
        simp
      · rw [zPush_append]; rfl
  · rintro its st ⟨done, rp, e1, e2, e3, rfl⟩
    cases rp with
    | cons p rp => cases e2
    | nil =>
      rw [List.append_nil] at e1
      subst e1
      refine wpAny_pure ?_
      rw [e3]
      exact h
abbrev zT (h : Heap) (ps : List ZP) : Heap := (zPush h ps).push { cls := .type "tuple", data := .seq (zRefs h.objs.size ps.length).toArray }
abbrev zO (h : Heap) (ps : List ZP) : Heap := (zT h ps).push { cls := .type "tuple", data := .seq ((zRefs h.objs.size ps.length).map fun _ => Value.none).toArray }
abbrev zZ (h : Heap) (ps : List ZP) : Heap := (zO h ps).push { cls := .type "zip", data := .fields #[.none, .bool false, .bool false, .ref (zPush h ps).objs.size, .ref (zT h ps).objs.size] }
theorem zRefs_length (n k : Nat) : (zRefs n k).length = k := by unfold zRefs; rw [List.length_map, List.length_range']
theorem meets_zipN (ps : List ZP) (hz : ps.length ≤ sizeLine) :
    Meets (Builtin.«zip.__new__» ⟨.type "zip" :: zVals ps, []⟩) (fun _ R s => R (.ok (.ret (.ref (zO s.heap ps).objs.size))) { s with heap := zZ s.heap ps }) :=
  .of_wp fun prog w A R s h => by
    obtain ⟨hp, g, d, tk, os⟩ := s
    have hsub := sub_zip
    have q : ∀ {A' : Around} {E : Value → Shared → Prop} {Q : List Value → Shared → Prop}, Q (zRefs hp.objs.size ps.length) ⟨zPush hp ps, g, d, tk, os⟩ → wpAny (model prog w) A' (Builtin.SmallTypes.iterAll (zVals ps)) Q E ⟨hp, g, d, tk, os⟩ := fun q => z_iterAll (s := ⟨hp, g, d, tk, os⟩) q
    have t1 : ∀ {A' : Around} {E : Value → Shared → Prop} {Q : Value → Shared → Prop}, Q (.ref (zPush hp ps).objs.size) ⟨zT hp ps, g, d, tk, os⟩ → wpAny (model prog w) A' (newTuple (zRefs hp.objs.size ps.length)) Q E ⟨zPush hp ps, g, d, tk, os⟩ :=
      fun q => wpAny_newTuple (s := ⟨zPush hp ps, g, d, tk, os⟩) q (by rw [zRefs_length]; exact hz)
    have t2 : ∀ {A' : Around} {E : Value → Shared → Prop} {Q : Value → Shared → Prop}, Q (.ref (zT hp ps).objs.size) ⟨zO hp ps, g, d, tk, os⟩ → wpAny (model prog w) A' (newTuple ((zRefs hp.objs.size ps.length).map fun _ => Value.none)) Q E ⟨zT hp ps, g, d, tk, os⟩ :=
      fun q => wpAny_newTuple (s := ⟨zT hp ps, g, d, tk, os⟩) q (by rw [List.length_map, zRefs_length]; exact hz)
    wp_walk using q, t1, t2
    exact ⟨_, rfl, h⟩

theorem call_zipN {ps : List ZP} {Q : Value → Shared → Prop} (hz : ps.length ≤ sizeLine)
    (h : ∀ h' n m, n = s.heap.objs.size → m = ps.length → IsZip h' (n + m + 2) (n + m) (n + m + 1) .none → h'.get? (n + m) = some { cls := .type "tuple", data := .seq (zRefs n m).toArray } →
      (∃ its, h'.get? (n + m + 1) = some { cls := .type "tuple", data := .seq its } ∧ its.size = m) → (∀ i p, ps[i]? = some p → h'.get? (n + i) = some (zObj p)) → h'.objs.size = n + m + 3 → (∀ b o, s.heap.get? b = some o → h'.get? b = some o) → Q (.ref (n + m + 2)) { s with heap := h' }) :
    wpAny (model prog w) A (call (.type "zip") (zVals ps)) Q E s := by
  refine callType_new F.called_zip (by decide) (zn_typeCall _) (zn_newCall _) (fun obj => zn_args obj _) F.entry_zip_new (meets_zipN ps hz) ?_
  have z1 := zPush_size ps s.heap
  have z2 : (zT s.heap ps).objs.size = s.heap.objs.size + ps.length + 1 := by rw [Heap.size_push, z1]
  have z3 : (zO s.heap ps).objs.size = s.heap.objs.size + ps.length + 2 := by rw [Heap.size_push, z2]
  have z4 : (zZ s.heap ps).objs.size = s.heap.objs.size + ps.length + 3 := by rw [Heap.size_push, z3]
  have g3 : (zZ s.heap ps).get? (zO s.heap ps).objs.size = some _ := Heap.get?_push_size _ rfl
  have g2 : (zZ s.heap ps).get? (zT s.heap ps).objs.size = some _ := Heap.get?_push_of_some _ (Heap.get?_push_size _ rfl)
  have g1 : (zZ s.heap ps).get? (zPush s.heap ps).objs.size = some _ := Heap.get?_push_of_some _ (Heap.get?_push_of_some _ (Heap.get?_push_size _ rfl))
  have up : ∀ b o, (zPush s.heap ps).get? b = some o → (zZ s.heap ps).get? b = some o := fun b o e => Heap.get?_push_of_some _ (Heap.get?_push_of_some _ (Heap.get?_push_of_some _ e))
  rw [z3, z2, z1] at g3
  rw [z2] at g2
  rw [z1] at g1
  show _ ∧ _
  rw [z3]
  exact ⟨⟨_, g3, rfl⟩, h _ _ _ rfl rfl g3 g1 ⟨_, g2, by rw [List.size_toArray, List.length_map, zRefs_length]⟩ (fun i p e => up _ _ (zPush_get ps _ i p e)) z4 fun b o e => up b o (zPush_keep ps _ b o e)⟩

abbrev SI (h : Heap) (a : Addr) (p : ZP) (k : Nat) : Prop := h.IsStrIter a (strIterType p.1) p.1 p.2 k
theorem zObj_si {h : Heap} {a : Addr} {p : ZP} (e : h.get? a = some (zObj p)) : SI h a p 0 := ⟨_, e, rfl, rfl⟩
theorem SI.keep {h h' : Heap} {a : Addr} {p : ZP} {k : Nat} (x : SI h a p k) (hk : ∀ o, h.get? a = some o → h'.get? a = some o) : SI h' a p k := let ⟨o, e, r⟩ := x; ⟨o, hk o e, r⟩
theorem z_item {a : Addr} {p : ZP} {k c : Nat} {Q : Value → Shared → Prop} (hit : SI s.heap a p k) (hx : p.1.cps[k]? = some c)
    (hQ : ∀ h', SI h' a p (k + 1) → Heap.SameBut a s.heap h' → Q (.str ⟨#[c]⟩ s.toks) { s with heap := h', toks := s.toks + 1 }) : wpAny (model prog w) A (Builtin.SmallTypes.nextOf (.ref a)) Q E s := by
  unfold SI strIterType at *
  split at hit
  · rename_i hc
    refine wpAny_nextOf_ascii_item hit hx fun h' h1 h2 => hQ h' ?_ h2
    rw [if_pos hc]; exact h1
  · rename_i hc
    refine wpAny_nextOf_wide_item hit hx fun h' h1 h2 => hQ h' ?_ h2
    rw [if_neg hc]; exact h1
theorem z_end {a : Addr} {p : ZP} {k : Nat} {Q : Value → Shared → Prop} (hh : A.handled = none) (hit : SI s.heap a p k) (hx : p.1.cps[k]? = none)
    (hE : ∀ h' e, Heap.ExtBut a s.heap h' → (∃ o, h'.get? e = some o ∧ o.cls = .type "StopIteration") → E (.ref e) { s with heap := h' }) : wpAny (model prog w) A (Builtin.SmallTypes.nextOf (.ref a)) Q E s := by
  unfold SI strIterType at *
  split at hit
  · exact wpAny_nextOf_ascii_end hh hit hx hE
  · exact wpAny_nextOf_wide_end hh hit hx hE

theorem nat_ne {a b : Nat} (h : a ≠ b) : @Ne Addr a b := h
/-- the iterators stand at n, n + 1, ..: those ahead of j have drawn once more -/
def ZAt (h : Heap) (n : Nat) (ps : List ZP) (k j : Nat) : Prop := ∀ (i : Nat) (p : ZP), ps[i]? = some p → SI h (n + i) p (if i < j then k + 1 else k)
def ZV (ps : List ZP) (k : Nat) (i : Nat) (v : Value) : Prop := ∃ p c t, ps[i]? = some p ∧ p.1.cps[k]? = some c ∧ v = .str ⟨#[c]⟩ t
theorem ZAt.step {h h' : Heap} {n : Nat} {ps : List ZP} {k j : Nat} {p : ZP} (x : ZAt h n ps k j) (hp : ps[j]? = some p) (h1 : SI h' (n + j) p (k + 1)) (hk : ∀ (b : Nat) o, b ≠ n + j → h.get? b = some o → h'.get? b = some o) : ZAt h' n ps k (j + 1) := fun i q e => by
  by_cases hi : i = j
  · subst hi
    rw [hp] at e
    cases e
    rw [if_pos (by omega)]
    exact h1
  · have := (x i q e).keep fun o e => hk _ o (nat_ne (by omega)) e
    by_cases hj : i < j
    · rw [if_pos hj] at this
      rw [if_pos (by omega)]
      exact this
    · rw [if_neg hj] at this
      rw [if_neg (by omega)]
      exact this
theorem ZAt.keep {h h' : Heap} {n : Nat} {ps : List ZP} {k j : Nat} (x : ZAt h n ps k j) (hk : ∀ (b : Nat) o, n ≤ b → b < n + ps.length → h.get? b = some o → h'.get? b = some o) : ZAt h' n ps k j :=
  fun i p e => (x i p e).keep fun o e' => hk _ o (Nat.le_add_right _ _) (by have := (List.getElem?_eq_some_iff.mp e).1; omega) e'
theorem ZAt.done {h : Heap} {n : Nat} {ps : List ZP} {k : Nat} (x : ZAt h n ps k ps.length) : ZAt h n ps (k + 1) 0 := fun i p e => by
  have := x i p e
  rw [if_pos (List.getElem?_eq_some_iff.mp e).1] at this
  rw [if_neg (Nat.not_lt_zero _)]
  exact this
abbrev IsT (h : Heap) (T : Addr) (vs : Array Value) : Prop := h.get? T = some { cls := .type "tuple", data := .seq vs }
structure ZOut (n m : Nat) (h h' : Heap) : Prop where
  out : ∀ (b : Nat) o, (b < n ∨ b = n + m ∨ n + m + 2 < b) → h.get? b = some o → h'.get? b = some o
theorem ZOut.trans {n m : Nat} {h h' h'' : Heap} (a : ZOut n m h h') (b : ZOut n m h' h'') : ZOut n m h h'' := ⟨fun c o x e => b.out c o x (a.out c o x e)⟩
theorem ZOut.same {n m : Nat} {h h' : Heap} {a : Nat} (x : Heap.SameBut a h h') (ha : n ≤ a ∧ a ≤ n + m + 2 ∧ a ≠ n + m) : ZOut n m h h' := ⟨fun b o c e => x.extBut b o (nat_ne (by omega)) e⟩

/-- the first draw: the zip's own tuple is free -/
theorem zip_first {n m k : Nat} {ps : List ZP} {its : Array Value} {Q : Value → Shared → Prop} (hm : m = ps.length) (h1 : 0 < m) (hz : IsZip s.heap (n + m + 2) (n + m) (n + m + 1) .none) (hTI : IsT s.heap (n + m) (zRefs n m).toArray) (hTO : IsT s.heap (n + m + 1) its) (hits : its.size = m)
    (hlt : m ≤ sizeLine) (hat : ZAt s.heap n ps k 0) (hc : ∀ (i : Nat) (p : ZP), ps[i]? = some p → ∃ c, p.1.cps[k]? = some c)
    (hQ : ∀ h' tk vs, vs.size = m → (∀ i v, vs[i]? = some v → ZV ps k i v) → IsZipHeld h' (n + m + 2) (n + m) (n + m + 1) s.heap.objs.size false → ZAt h' n ps (k + 1) 0 → IsT h' s.heap.objs.size vs → h'.objs.size = s.heap.objs.size + 1 → ZOut n m s.heap h' → Q (.ref s.heap.objs.size) { s with heap := h', toks := tk }) :
    wpAny (model prog w) A (Builtin.«zip.__next__» ⟨[.ref (n + m + 2)], []⟩) (fun fin s' => ∃ v, fin = .done (.ret v) ∧ Q v s') E s := by
  show wpAny _ _ (field (.ref (n + m + 2)) 2 >>= _) _ _ _
  refine wpAny_bind (wpAny_field hz rfl (x := .bool false) rfl ?_)
  show wpAny _ _ (field (.ref (n + m + 2)) 3 >>= _) _ _ _
  refine wpAny_bind (wpAny_field hz rfl (x := .ref (n + m)) rfl ?_)
  refine wpAny_bind (wpAny_seqItems hTI rfl ?_)
  have hne : (zRefs n m).toArray.isEmpty = false := by
    have : (zRefs n m).length = m := zRefs_length n m
    cases e : zRefs n m with
    | nil => rw [e] at this; simp at this; omega
    | cons _ _ => rfl
  simp only [hne, Bool.false_eq_true, if_false]
  show wpAny _ _ (Builtin.SmallTypes.ownedTupleIsFree (.ref (n + m + 2)) >>= _) _ _ _
  refine wpAny_bind ?_
  unfold Builtin.SmallTypes.ownedTupleIsFree
  refine wpAny_bind (wpAny_field hz rfl (x := .none) rfl (wpAny_pure ?_))
  simp only [if_true]
  refine wpAny_bind (wpAny_rule ?_)
  refine wpAny_bind (wpAny_field hz rfl (x := .ref (n + m + 1)) rfl ?_)
  refine wpAny_bind (wpAny_setField_rec hz (by simp) fun h₁ hz₁ hs₁ => ?_)
  replace hz₁ : IsZip h₁ (n + m + 2) (n + m) (n + m + 1) .ellipsis := hz₁
  refine wpAny_bind (wpAny_forIn_list _ (fun rest b st => b.1 = none ∧ ∃ j vs h tk, j ≤ m ∧ rest = ((zRefs n m).zipIdx).drop j ∧ st = { s with heap := h, toks := tk } ∧ vs.size = m ∧ (∀ i v, i < j → vs[i]? = some v → ZV ps k i v) ∧
    IsZip h (n + m + 2) (n + m) (n + m + 1) .ellipsis ∧ ZAt h n ps k j ∧ IsT h (n + m + 1) vs ∧ h.objs.size = s.heap.objs.size ∧ ZOut n m s.heap h) _ ?_ ?_ _ _ ⟨rfl, 0, its, h₁, s.toks, Nat.zero_le _, by rw [List.drop_zero], rfl, hits, fun i v z => absurd z (Nat.not_lt_zero _), hz₁, hat.keep fun b o b1 b2 e => hs₁.extBut b o (nat_ne (by omega)) e, hs₁.extBut _ _ (nat_ne (by omega)) hTO, hs₁.1, .same hs₁ (by omega)⟩)
  · rintro ⟨it, kk⟩ rest b st ⟨hb, j, vs, h, tk, hj, hr, rfl, hvs, hv, hz2, hat2, hTO2, hsz, hout⟩
    have hjm : j < m := by
      rcases Nat.lt_or_ge j m with x | x
      · exact x
      · rw [List.drop_eq_nil_of_le (by rw [List.length_zipIdx, zRefs_length]; exact x)] at hr
        cases hr
    have hlen : j < ((zRefs n m).zipIdx).length := by rw [List.length_zipIdx, zRefs_length]; exact hjm
    rw [List.drop_eq_getElem_cons hlen] at hr
    injection hr with hr1 hr2
    rw [List.getElem_zipIdx] at hr1
    injection hr1 with hi hkk
    have hit : it = .ref (n + j) := by
      rw [hi]
      unfold zRefs
      rw [List.getElem_map, List.getElem_range']
      simp
    have hkj : kk = j := by omega
    subst hit hkj
    obtain ⟨p, hp⟩ : ∃ p, ps[kk]? = some p := ⟨ps[kk]'(by omega), List.getElem?_eq_getElem _⟩
    obtain ⟨c, hcx⟩ := hc kk p hp
    have si := hat2 kk p hp
    rw [if_neg (Nat.lt_irrefl _)] at si
    refine wpAny_bind (wpAny_onRaise ?_)
    show wpAny _ _ (Builtin.SmallTypes.nextOf (.ref (n + kk)) >>= _) _ _ _
    refine wpAny_bind (z_item si hcx fun h₂ si₂ hs₂ => wpAny_pure ?_)
    have hTO₂ : IsT h₂ (n + m + 1) vs := hs₂.extBut _ _ (nat_ne (by omega)) hTO2
    refine wpAny_bind (wpAny_seqItems hTO₂ rfl ?_)
    refine wpAny_bind (wpAny_updateSeq hTO₂ rfl ?_ (by rw [hvs]; exact hlt) (by rw [Array.size_setIfInBounds, hvs]; omega))
    have hs₃ : Heap.SameBut (n + m + 1) h₂ (h₂.update (n + m + 1) (Obj.mapSeq (·.setIfInBounds kk (Value.str ⟨#[c]⟩ tk)))) := Heap.SameBut.update ..
    have hTO₃ : IsT (h₂.update (n + m + 1) (Obj.mapSeq (·.setIfInBounds kk (Value.str ⟨#[c]⟩ tk)))) (n + m + 1) (vs.setIfInBounds kk (Value.str ⟨#[c]⟩ tk)) := by
      show Heap.get? _ _ = _
      rw [Heap.get?_update_self _ hTO₂ rfl]
      simp [Obj.mapSeq]
    refine wpAny_bind (wpAny_letGo (wpAny_pure ?_))
    refine ⟨rfl, kk + 1, _, _, _, hjm, hr2, rfl, by rw [Array.size_setIfInBounds, hvs], fun i v hi ev => ?_, hs₃.extBut _ _ (nat_ne (by omega)) (hs₂.extBut _ _ (nat_ne (by omega)) hz2), (hat2.step hp si₂ fun b o hb e => hs₂.extBut b o hb e).keep fun b o b1 b2 e => hs₃.extBut b o (nat_ne (by omega)) e, hTO₃, by rw [hs₃.1, hs₂.1]; exact hsz, (hout.trans (.same hs₂ (by omega))).trans (.same hs₃ (by omega))⟩
    rw [Array.getElem?_setIfInBounds] at ev
    split at ev
    · rename_i hki
      subst hki
      rw [if_pos (by omega)] at ev
      cases ev
      exact ⟨p, c, tk, hp, hcx, rfl⟩
    · exact hv i v (by omega) ev
  · rintro ⟨b1, b2⟩ st ⟨hb, j, vs, h, tk, hj, hr, rfl, hvs, hv, hz2, hat2, hTO2, hsz, hout⟩
    simp only at hb
    subst hb
    have hjm : j = m := by
      rcases Nat.lt_or_ge j m with x | x
      · have := congrArg List.length hr
        rw [List.length_drop, List.length_zipIdx, zRefs_length] at this
        simp at this
        omega
      · omega
    subst hjm
    refine wpAny_bind (wpAny_seqItems hTO2 rfl ?_)
    refine wpAny_bind (wpAny_newTuple ?_ (by rw [Array.length_toList, hvs]; exact hlt))
    show wpAny _ _ (Builtin.SmallTypes.ownedTupleHandOut (.ref (n + j + 2)) (.ref h.objs.size) >>= _) _ _ _
    refine wpAny_bind ?_
    unfold Builtin.SmallTypes.ownedTupleHandOut
    have hz₆ : IsZip (h.push { cls := .type "tuple", data := .seq vs.toList.toArray }) (n + j + 2) (n + j) (n + j + 1) .ellipsis := Heap.get?_push_of_some _ hz2
    refine wpAny_bind (wpAny_setField_rec hz₆ (by simp) fun h₇ hz₇ hs₇ => ?_)
    replace hz₇ : IsZip h₇ (n + j + 2) (n + j) (n + j + 1) (rawInt h.objs.size) := hz₇
    refine wpAny_setField_rec hz₇ (by simp) fun h₈ hz₈ hs₈ => ?_
    replace hz₈ : IsZipHeld h₈ (n + j + 2) (n + j) (n + j + 1) h.objs.size false := hz₈
    have hzlt : n + j + 2 < h.objs.size := Heap.lt_size hz2
    have hzlt' : (n + j + 2 : Nat) < h.objs.size := hzlt
    have up : ∀ (c : Nat) o, c ≠ n + j + 2 → h.get? c = some o → h₈.get? c = some o := fun c o c1 e => hs₈.extBut _ _ c1 (hs₇.extBut _ _ c1 (Heap.get?_push_of_some _ e))
    have hT₈ : IsT h₈ h.objs.size vs.toList.toArray := hs₈.extBut _ _ (Nat.ne_of_gt hzlt) (hs₇.extBut _ _ (Nat.ne_of_gt hzlt) (Heap.get?_push_size _ rfl))
    have hz8 : h₈.objs.size = h.objs.size + 1 := by rw [hs₈.1, hs₇.1, Heap.size_push]
    rw [Array.toArray_toList] at hT₈
    rw [hsz] at hz₈ hT₈ hz8
    refine wpAny_pure ⟨_, rfl, ?_⟩
    show Q (.ref h.objs.size) _
    rw [hsz]
    exact hQ h₈ tk vs hvs (fun i v ev => hv i v (by have := (Array.getElem?_eq_some_iff.mp ev).1; omega) ev) hz₈ (ZAt.done (hm ▸ (hat2.keep fun b o b1 b2 e => up b o (by omega) e))) hT₈ hz8 (hout.trans ⟨fun b o c e => up b o (by omega) e⟩)

/-- every later draw: the zip's own tuple T is out -/
theorem zip_later {n m k : Nat} {T : Addr} {f : Bool} {oT : Obj} {ps : List ZP} {Q : Value → Shared → Prop} (hm : m = ps.length) (h1 : 0 < m) (hz : IsZipHeld s.heap (n + m + 2) (n + m) (n + m + 1) T f) (hT : s.heap.get? T = some oT) (hTI : IsT s.heap (n + m) (zRefs n m).toArray)
    (hlt : m ≤ sizeLine) (hat : ZAt s.heap n ps k 0) (hc : ∀ (i : Nat) (p : ZP), ps[i]? = some p → ∃ c, p.1.cps[k]? = some c)
    (hQ : ∀ h' tk vs, vs.size = m → (∀ i v, vs[i]? = some v → ZV ps k i v) → IsZipHeld h' (n + m + 2) (n + m) (n + m + 1) T true → ZAt h' n ps (k + 1) 0 → IsT h' s.heap.objs.size vs → h'.objs.size = s.heap.objs.size + 1 → ZOut n m s.heap h' → Q (.ref s.heap.objs.size) { s with heap := h', toks := tk }) :
    wpAny (model prog w) A (Builtin.«zip.__next__» ⟨[.ref (n + m + 2)], []⟩) (fun fin s' => ∃ v, fin = .done (.ret v) ∧ Q v s') E s := by
  show wpAny _ _ (field (.ref (n + m + 2)) 2 >>= _) _ _ _
  refine wpAny_bind (wpAny_field hz rfl (x := .bool false) rfl ?_)
  show wpAny _ _ (field (.ref (n + m + 2)) 3 >>= _) _ _ _
  refine wpAny_bind (wpAny_field hz rfl (x := .ref (n + m)) rfl ?_)
  refine wpAny_bind (wpAny_seqItems hTI rfl ?_)
  have hne : (zRefs n m).toArray.isEmpty = false := by
    have : (zRefs n m).length = m := zRefs_length n m
    cases e : zRefs n m with
    | nil => rw [e] at this; simp at this; omega
    | cons _ _ => rfl
  simp only [hne, Bool.false_eq_true, if_false]
  show wpAny _ _ (Builtin.SmallTypes.ownedTupleIsFree (.ref (n + m + 2)) >>= _) _ _ _
  refine wpAny_bind (wpAny_tupleHeld_zip hz hT fun h₁ hz₁ hs₁ => ?_)
  simp only [Bool.false_eq_true, if_false]
  refine wpAny_bind (forIn_array_ _ (fun rest b st => b.1 = none ∧ ∃ j h tk, j ≤ m ∧ rest = (zRefs n m).drop j ∧ st = { s with heap := h, toks := tk } ∧ b.2.size = j ∧ (∀ i v, b.2[i]? = some v → ZV ps k i v) ∧
    IsZipHeld h (n + m + 2) (n + m) (n + m + 1) T true ∧ ZAt h n ps k j ∧ h.objs.size = s.heap.objs.size ∧ ZOut n m s.heap h) _ ?_ ?_ _ _ ⟨rfl, 0, h₁, s.toks, Nat.zero_le _, by rw [List.drop_zero], rfl, rfl, fun i v z => by simp at z, hz₁, hat.keep fun b o b1 b2 e => hs₁.extBut b o (nat_ne (by omega)) e, hs₁.1, .same hs₁ (by omega)⟩)
  · rintro it rest ⟨b1, b2⟩ st ⟨hb, j, h, tk, hj, hr, rfl, hvs, hv, hz2, hat2, hsz, hout⟩
    simp only at hvs hv
    have hjm : j < m := by
      rcases Nat.lt_or_ge j m with x | x
      · exact x
      · rw [List.drop_eq_nil_of_le (by rw [zRefs_length]; exact x)] at hr
        cases hr
    have hlen : j < (zRefs n m).length := by rw [zRefs_length]; exact hjm
    rw [List.drop_eq_getElem_cons hlen] at hr
    injection hr with hr1 hr2
    have hit : it = .ref (n + j) := by
      rw [hr1]
      have : (zRefs n m)[j]? = some (.ref (n + j)) := by
        unfold zRefs
        rw [List.getElem?_map, List.getElem?_range' hjm]
        simp
      rw [List.getElem?_eq_getElem hlen] at this
      exact Option.some.inj this
    subst hit
    obtain ⟨p, hp⟩ : ∃ p, ps[j]? = some p := ⟨ps[j]'(by omega), List.getElem?_eq_getElem _⟩
    obtain ⟨c, hcx⟩ := hc j p hp
    have si := hat2 j p hp
    rw [if_neg (Nat.lt_irrefl _)] at si
    refine wpAny_bind (wpAny_holding ?_)
    show wpAny _ _ (Builtin.SmallTypes.nextOf (.ref (n + j)) >>= _) _ _ _
    refine wpAny_bind (z_item si hcx fun h₂ si₂ hs₂ => wpAny_pure ?_)
    refine wpAny_pure ⟨rfl, j + 1, _, _, hjm, hr2, rfl, by rw [Array.size_push, hvs], fun i v ev => ?_, hs₂.extBut _ _ (nat_ne (by omega)) hz2, hat2.step hp si₂ fun b o hb e => hs₂.extBut b o hb e, by rw [hs₂.1]; exact hsz, hout.trans (.same hs₂ (by omega))⟩
    simp only [Array.getElem?_push] at ev
    split at ev
    · rename_i hi
      cases ev
      rw [hi, hvs]
      exact ⟨p, c, tk, hp, hcx, rfl⟩
    · exact hv i v ev
  · rintro ⟨b1, b2⟩ st ⟨hb, j, h, tk, hj, hr, rfl, hvs, hv, hz2, hat2, hsz, hout⟩
    simp only at hb hvs hv
    subst hb
    have hjm : j = m := by
      rcases Nat.lt_or_ge j m with x | x
      · have := congrArg List.length hr
        rw [List.length_drop, zRefs_length] at this
        simp at this
        omega
      · omega
    subst hjm
    show wpAny _ _ (newTuple b2.toList >>= _) _ _ _
    refine wpAny_bind (wpAny_newTuple ?_ (by rw [Array.length_toList, hvs]; exact hlt))
    have hzlt : n + j + 2 < h.objs.size := Heap.lt_size hz2
    have hT₈ : IsT (h.push { cls := .type "tuple", data := .seq b2.toList.toArray }) h.objs.size b2.toList.toArray := Heap.get?_push_size _ rfl
    have hz8 : (h.push { cls := .type "tuple", data := .seq b2.toList.toArray }).objs.size = h.objs.size + 1 := Heap.size_push ..
    rw [Array.toArray_toList] at hT₈ hz8 ⊢
    refine wpAny_pure ⟨_, rfl, ?_⟩
    show Q (.ref h.objs.size) _
    have hT' := hT₈
    rw [show h.objs.size = s.heap.objs.size from hsz] at hT' hz8 ⊢
    exact hQ _ tk b2 hvs hv (Heap.get?_push_of_some _ hz2) (ZAt.done (hm ▸ (hat2.keep fun b o b1 b2 e => Heap.get?_push_of_some _ e))) hT' hz8 (hout.trans ⟨fun b o c e => Heap.get?_push_of_some _ e⟩)
theorem zip_stop {n m k : Nat} {T : Addr} {f : Bool} {oT : Obj} {ps : List ZP} {Q : Fin → Shared → Prop} (hh : A.handled = none) (hm : m = ps.length) (h1 : 0 < m) (hz : IsZipHeld s.heap (n + m + 2) (n + m) (n + m + 1) T f) (hT : s.heap.get? T = some oT) (hTI : IsT s.heap (n + m) (zRefs n m).toArray)
    (hat : ZAt s.heap n ps k 0) (hc : ∀ (i : Nat) (p : ZP), ps[i]? = some p → p.1.cps[k]? = none)
    (hE : ∀ h' e, ZOut n m s.heap h' → (∃ o, h'.get? e = some o ∧ o.cls = .type "StopIteration") → E (.ref e) { s with heap := h' }) :
    wpAny (model prog w) A (Builtin.«zip.__next__» ⟨[.ref (n + m + 2)], []⟩) Q E s := by
  show wpAny _ _ (field (.ref (n + m + 2)) 2 >>= _) _ _ _
  refine wpAny_bind (wpAny_field hz rfl (x := .bool false) rfl ?_)
  show wpAny _ _ (field (.ref (n + m + 2)) 3 >>= _) _ _ _
  refine wpAny_bind (wpAny_field hz rfl (x := .ref (n + m)) rfl ?_)
  refine wpAny_bind (wpAny_seqItems hTI rfl ?_)
  obtain ⟨m', rfl⟩ : ∃ m', m = m' + 1 := ⟨m - 1, by omega⟩
  have hre : zRefs n (m' + 1) = .ref n :: zRefs (n + 1) m' := rfl
  have hne : (zRefs n (m' + 1)).toArray.isEmpty = false := by rw [hre]; rfl
  simp only [hne, Bool.false_eq_true, if_false]
  show wpAny _ _ (Builtin.SmallTypes.ownedTupleIsFree (.ref (n + (m' + 1) + 2)) >>= _) _ _ _
  refine wpAny_bind (wpAny_tupleHeld_zip hz hT fun h₁ hz₁ hs₁ => ?_)
  simp only [Bool.false_eq_true, if_false]
  refine wpAny_bind ?_
  rw [← Array.forIn_toList, hre]
  simp only [List.forIn_cons]
  refine wpAny_bind (wpAny_bind (wpAny_holding ?_))
  show wpAny _ _ (Builtin.SmallTypes.nextOf (.ref n) >>= _) _ _ _
  obtain ⟨p, hp⟩ : ∃ p, ps[0]? = some p := ⟨ps[0]'(by omega), List.getElem?_eq_getElem _⟩
  have si := hat 0 p hp
  rw [if_neg (Nat.lt_irrefl _)] at si
  have si' : SI h₁ n p k := si.keep fun o e => hs₁.extBut _ o (nat_ne (by omega)) e
  refine wpAny_bind (z_end (s := { s with heap := h₁ }) hh si' (hc 0 p hp) fun h₂ e hs₂ he => ?_)
  exact hE h₂ e ⟨fun b o c x => hs₂ b o (nat_ne (by omega)) (hs₁.extBut b o (nat_ne (by omega)) x)⟩ he

theorem next_first {n m k : Nat} {ps : List ZP} {its : Array Value} {Q : Option Value → Shared → Prop} (hm : m = ps.length) (h1 : 0 < m) (hz : IsZip s.heap (n + m + 2) (n + m) (n + m + 1) .none) (hTI : IsT s.heap (n + m) (zRefs n m).toArray) (hTO : IsT s.heap (n + m + 1) its) (hits : its.size = m)
    (hlt : m ≤ sizeLine) (hat : ZAt s.heap n ps k 0) (hc : ∀ (i : Nat) (p : ZP), ps[i]? = some p → ∃ c, p.1.cps[k]? = some c)
    (hQ : ∀ h' tk vs, vs.size = m → (∀ i v, vs[i]? = some v → ZV ps k i v) → IsZipHeld h' (n + m + 2) (n + m) (n + m + 1) s.heap.objs.size false → ZAt h' n ps (k + 1) 0 → IsT h' s.heap.objs.size vs → h'.objs.size = s.heap.objs.size + 1 → ZOut n m s.heap h' → Q (some (.ref s.heap.objs.size)) { s with heap := h', toks := tk }) :
    wpAny (model prog w) A (pyNext (.ref (n + m + 2))) Q E s := by
  have hT : s.TypeIs (.ref (n + m + 2)) "zip" := ⟨_, hz, rfl⟩
  unfold pyNext
  exact wpAny_bind (wpAny_attempt (wpAny_callSpecial?_slot (name := Str.ofString "__next__") hT F.slot_zip_next
    (wpAny_call_entry F.slot_zip_next hT F.entry_zip_next
      (zip_first hm h1 hz hTI hTO hits hlt hat hc fun h' tk vs a1 a2 a3 a4 a5 a6 a7 => wpAny_pure (hQ h' tk vs a1 a2 a3 a4 a5 a6 a7)) (F.args_zip_next_1 _))))
theorem next_later {n m k : Nat} {T : Addr} {f : Bool} {oT : Obj} {ps : List ZP} {Q : Option Value → Shared → Prop} (hm : m = ps.length) (h1 : 0 < m) (hz : IsZipHeld s.heap (n + m + 2) (n + m) (n + m + 1) T f) (hT : s.heap.get? T = some oT) (hTI : IsT s.heap (n + m) (zRefs n m).toArray)
    (hlt : m ≤ sizeLine) (hat : ZAt s.heap n ps k 0) (hc : ∀ (i : Nat) (p : ZP), ps[i]? = some p → ∃ c, p.1.cps[k]? = some c)
    (hQ : ∀ h' tk vs, vs.size = m → (∀ i v, vs[i]? = some v → ZV ps k i v) → IsZipHeld h' (n + m + 2) (n + m) (n + m + 1) T true → ZAt h' n ps (k + 1) 0 → IsT h' s.heap.objs.size vs → h'.objs.size = s.heap.objs.size + 1 → ZOut n m s.heap h' → Q (some (.ref s.heap.objs.size)) { s with heap := h', toks := tk }) :
    wpAny (model prog w) A (pyNext (.ref (n + m + 2))) Q E s := by
  have hTy : s.TypeIs (.ref (n + m + 2)) "zip" := ⟨_, hz, rfl⟩
  unfold pyNext
  exact wpAny_bind (wpAny_attempt (wpAny_callSpecial?_slot (name := Str.ofString "__next__") hTy F.slot_zip_next
    (wpAny_call_entry F.slot_zip_next hTy F.entry_zip_next
      (zip_later hm h1 hz hT hTI hlt hat hc fun h' tk vs a1 a2 a3 a4 a5 a6 a7 => wpAny_pure (hQ h' tk vs a1 a2 a3 a4 a5 a6 a7)) (F.args_zip_next_1 _))))
theorem next_stop {n m k : Nat} {T : Addr} {f : Bool} {oT : Obj} {ps : List ZP} {Q : Option Value → Shared → Prop} (hh : A.handled = none) (hm : m = ps.length) (h1 : 0 < m) (hz : IsZipHeld s.heap (n + m + 2) (n + m) (n + m + 1) T f) (hT : s.heap.get? T = some oT) (hTI : IsT s.heap (n + m) (zRefs n m).toArray)
    (hat : ZAt s.heap n ps k 0) (hc : ∀ (i : Nat) (p : ZP), ps[i]? = some p → p.1.cps[k]? = none)
    (hQ : ∀ h', ZOut n m s.heap h' → Q none { s with heap := h' }) : wpAny (model prog w) A (pyNext (.ref (n + m + 2))) Q E s := by
  have hTy : s.TypeIs (.ref (n + m + 2)) "zip" := ⟨_, hz, rfl⟩
  unfold pyNext
  refine wpAny_bind (wpAny_attempt (wpAny_callSpecial?_slot (name := Str.ofString "__next__") hTy F.slot_zip_next
    (wpAny_call_entry F.slot_zip_next hTy F.entry_zip_next (zip_stop hh hm h1 hz hT hTI hat hc fun h' e hk he => ?_) (F.args_zip_next_1 _))))
  obtain ⟨o, ho, hcl⟩ := he
  refine wpAny_bind (wpAny_isInstance (T := "StopIteration") (b := true) ⟨o, ho, hcl⟩ isSubtype_stop ?_)
  exact wpAny_pure (hQ _ hk)

/-- what the zip and its parts are between two draws, S beside -/
def ZSt (h : Heap) (n m S : Nat) (ps : List ZP) (k : Nat) : Prop := IsT h (n + m) (zRefs n m).toArray ∧ ZAt h n ps k 0 ∧
  ((k = 0 ∧ IsZip h (n + m + 2) (n + m) (n + m + 1) .none ∧ ∃ its, IsT h (n + m + 1) its ∧ its.size = m) ∨ ∃ T f oT, IsZipHeld h (n + m + 2) (n + m) (n + m + 1) T f ∧ h.get? T = some oT ∧ n + m + 2 < T ∧ T ≠ S)
theorem ZSt.keep {h h' : Heap} {n m S k : Nat} {ps : List ZP} (hm : m = ps.length) (x : ZSt h n m S ps k) (hS : n + m + 2 < S) (hk : ∀ (b : Nat) o, b ≠ S → h.get? b = some o → h'.get? b = some o) : ZSt h' n m S ps k := by
  obtain ⟨a, b, c⟩ := x
  refine ⟨hk _ _ (by omega) a, b.keep fun b o b1 b2 e => hk b o (by omega) e, ?_⟩
  rcases c with ⟨e, c, its, d, d2⟩ | ⟨T, f, oT, c, d, d2, d3⟩
  · exact .inl ⟨e, hk _ _ (by omega) c, its, hk _ _ (by omega) d, d2⟩
  · exact .inr ⟨T, f, oT, hk _ _ (by omega) c, hk _ _ d3 d, d2, d3⟩
theorem z_next {n m k S : Nat} {ps : List ZP} {Q : Option Value → Shared → Prop} (hm : m = ps.length) (h1 : 0 < m) (hlt : m ≤ sizeLine) (hS : n + m + 2 < S) (hSl : S < s.heap.objs.size) (st : ZSt s.heap n m S ps k) (hc : ∀ (i : Nat) (p : ZP), ps[i]? = some p → ∃ c, p.1.cps[k]? = some c)
    (hQ : ∀ h' tk vs, vs.size = m → (∀ i v, vs[i]? = some v → ZV ps k i v) → ZSt h' n m S ps (k + 1) → IsT h' s.heap.objs.size vs → h'.objs.size = s.heap.objs.size + 1 → ZOut n m s.heap h' → Q (some (.ref s.heap.objs.size)) { s with heap := h', toks := tk }) :
    wpAny (model prog w) A (pyNext (.ref (n + m + 2))) Q E s := by
  obtain ⟨hTI, hat, hz⟩ := st
  rcases hz with ⟨rfl, hz, its, hTO, hits⟩ | ⟨T, f, oT, hz, hT, b1, b2⟩
  · exact next_first hm h1 hz hTI hTO hits hlt hat hc fun h' tk vs a1 a2 a3 a4 a5 a6 a7 => hQ h' tk vs a1 a2 ⟨a7.out _ _ (.inr (.inl rfl)) hTI, a4, .inr ⟨_, _, _, a3, a5, by omega, nat_ne (by omega)⟩⟩ a5 a6 a7
  · exact next_later hm h1 hz hT hTI hlt hat hc fun h' tk vs a1 a2 a3 a4 a5 a6 a7 => hQ h' tk vs a1 a2 ⟨a7.out _ _ (.inr (.inl rfl)) hTI, a4, .inr ⟨_, _, _, a3, a7.out _ _ (.inr (.inr b1)) hT, b1, b2⟩⟩ a5 a6 a7
end

/-- the tuples that the list at S holds -/
structure ZG (ps : List ZP) (lo : Addr) (h : Heap) (as : List Addr) : Prop where
  rise : as.Pairwise (· < ·)
  above : ∀ a ∈ as, lo < a
  rows : ∀ (j : Nat) (a : Addr), as[j]? = some a → ∃ vs : Array Value, vs.size = ps.length ∧ (∀ i v, vs[i]? = some v → ZV ps j i v) ∧ IsT h a vs
theorem ZG.there {ps : List ZP} {lo : Addr} {h : Heap} {as : List Addr} (g : ZG ps lo h as) {a : Addr} (ha : a ∈ as) : a < h.objs.size := by
  obtain ⟨j, hj⟩ := List.mem_iff_getElem?.mp ha
  obtain ⟨_, _, _, e⟩ := g.rows j a hj
  exact Heap.lt_size e
section
variable {prog : Program} {w : World} {A : Around} {s : Shared} {R : Result → Shared → Prop} {ps : List ZP}
theorem z_loop {n m S L : Nat} (hh : A.handled = none) (hm : m = ps.length) (h1 : 0 < m) (hlt : m ≤ sizeLine) (hL : ∀ p ∈ ps, p.1.cps.size = L) (hL0 : 0 < L) (hn : L ≤ sizeLine) (hS : n + m + 2 < S) (res : Value) {h₁ : Heap}
    (hR : ∀ h' tk acc c as, (∀ b o, b ≠ S → (b < n) → h₁.get? b = some o → h'.get? b = some o) → h'.get? S = some { cls := .type "list", dict := none, data := .seq acc c, slots := #[] } → as.length = L → ZG ps S h' as →
      acc.toList = as.map Value.ref → R (.ok (.ret res)) { s with heap := h', toks := tk }) :
    ∀ (k i : Nat) (h : Heap) (tk c : Nat) (acc : Array Value) (as : List Addr), L - i = k → i ≤ L → ZSt h n m S ps i → (∀ b o, b ≠ S → (b < n) → h₁.get? b = some o → h.get? b = some o) →
      h.get? S = some { cls := .type "list", dict := none, data := .seq acc c, slots := #[] } → acc.toList = as.map Value.ref → as.length = i → ZG ps S h as →
      codeAny (model prog w) A (.builtin "list.extend.loop" ⟨[.ref S, .ref (n + m + 2), res], []⟩) R { s with heap := h, toks := tk } := by
  intro k
  induction k with
  | zero =>
    intro i h tk c acc as hk hi hst hkeep hS' hacc hal hG
    have hin : i = L := by omega
    subst hin
    refine codeAny_builtin PySem.F.entry_extend_loop ?_
    rw [Around.under_plainId PySem.F.plain_extend_loop _]
    show wpAny _ A.in1 (pyNext (.ref (n + m + 2)) >>= _) _ _ _
    obtain ⟨hTI, hat, hz⟩ := hst
    rcases hz with ⟨rfl, _⟩ | ⟨T, f, oT, hz, hT, b1, b2⟩
    · omega
    refine wpAny_bind (next_stop (s := { s with heap := h, toks := tk }) (A := A.in1) hh hm h1 hz hT hTI hat (fun j p e => ?_) fun h' ho => ?_)
    · rw [Array.getElem?_eq_none]
      rw [hL p (List.mem_of_getElem? e)]
      exact Nat.le_refl _
    · refine wpAny_pure (hR h' tk acc c as (fun b o x1 x2 e => ho.out b o (.inl x2) (hkeep b o x1 x2 e)) (ho.out S _ (.inr (.inr hS)) hS') hal ⟨hG.rise, hG.above, fun j a hj => ?_⟩ hacc)
      obtain ⟨vs, e1, e2, e3⟩ := hG.rows j a hj
      have hb : S < a := hG.above a (List.mem_of_getElem? hj)
      exact ⟨vs, e1, e2, ho.out a _ (.inr (.inr (Nat.lt_trans hS hb))) e3⟩
  | succ k ih =>
    intro i h tk c acc as hk hi hst hkeep hS' hacc hal hG
    have hlt2 : i < L := by omega
    have hsz : acc.size = i := by rw [← Array.length_toList, hacc, List.length_map, hal]
    refine codeAny_builtin PySem.F.entry_extend_loop ?_
    rw [Around.under_plainId PySem.F.plain_extend_loop _]
    show wpAny _ A.in1 (pyNext (.ref (n + m + 2)) >>= _) _ _ _
    have hSl : S < h.objs.size := Heap.lt_size hS'
    refine wpAny_bind (z_next (s := { s with heap := h, toks := tk }) hm h1 hlt hS hSl hst (fun j p e => ?_) fun h' tk' vs a1 a2 a3 a4 a5 a6 => ?_)
    · have := hL p (List.mem_of_getElem? e)
      exact ⟨p.1.cps[i]'(by omega), Array.getElem?_eq_getElem _⟩
    dsimp only at a4 a5 a6 ⊢
    have hS2 := a6.out S _ (.inr (.inr hS)) hS'
    have up : ∀ (b : Nat) o, b ≠ S → h'.get? b = some o → (h'.update S (Obj.mapSeq (·.push (Value.ref h.objs.size)))).get? b = some o := fun b o hb e => (Heap.get?_update_other _ _ (Ne.symm hb)).trans e
    show wpAny _ A.in1 (updateSeq S (·.push (Value.ref h.objs.size)) >>= _) _ _ _
    refine wpAny_bind ?_
    refine wpAny_updateSeq hS2 rfl (wpAny_pure ⟨plainId_quiet PySem.F.plain_extend_loop _, ih (i + 1) _ tk' _ (acc.push (Value.ref h.objs.size)) (as ++ [h.objs.size]) (by omega) hlt2 (a3.keep hm hS up)
      (fun b o x1 x2 e => up b o x1 (a6.out b o (.inl x2) (hkeep b o x1 x2 e))) (Heap.get?_update_self _ hS2 rfl) (by rw [Array.toList_push, hacc, List.map_append]; rfl) (by rw [List.length_append, hal]; rfl) ⟨?_, ?_, ?_⟩⟩) (by rw [hsz]; omega) (by show (acc.push (Value.ref h.objs.size)).size ≤ sizeLine + 1; rw [Array.size_push, hsz]; omega)
    · refine List.pairwise_append.mpr ⟨hG.rise, List.pairwise_singleton _ _, fun a ha b hb => ?_⟩
      rw [List.mem_singleton.mp hb]
      exact hG.there ha
    · intro a ha
      rcases List.mem_append.mp ha with ha | ha
      · exact hG.above a ha
      · rw [List.mem_singleton.mp ha]; exact hSl
    · intro j b hj
      rcases Nat.lt_trichotomy j as.length with x | x | x
      · rw [List.getElem?_append_left x] at hj
        obtain ⟨vs', e1, e2, e3⟩ := hG.rows j b hj
        have hb : S < b := hG.above b (List.mem_of_getElem? hj)
        exact ⟨vs', e1, e2, up b _ (Nat.ne_of_gt hb) (a6.out b _ (.inr (.inr (Nat.lt_trans hS hb))) e3)⟩
      · subst x
        have hb : h.objs.size = b := by simpa using hj
        subst hb
        exact ⟨vs, by omega, by rw [hal]; exact a2, up _ _ (Nat.ne_of_gt hSl) a4⟩
      · have hnone : (as ++ [h.objs.size])[j]? = none := List.getElem?_eq_none (by rw [List.length_append, List.length_singleton]; omega)
        rw [hnone] at hj; cases hj
end
end DL

/-! DL20: list(zip(*texts)), the call. -/
namespace DL
open PySem PySem.Spec PyProof.Rows L2

theorem zip_nolen : typeLookup (.type "zip") "__len__" = pure none := by rw [typeLookup_type, builtinLookup_eq_fast]; kernel_rfl
theorem zip_nohint : typeLookup (.type "zip") "__length_hint__" = pure none := by rw [typeLookup_type, builtinLookup_eq_fast]; kernel_rfl
section
variable {prog : Program} {w : World} {A : Around} {E : Value → Shared → Prop} {s : Shared} {ps : List ZP}
theorem z_extend {R : Result → Shared → Prop} {n m S L : Nat} (hh : A.handled = none) (hm : m = ps.length) (h1 : 0 < m) (hlt : m ≤ sizeLine) (hL : ∀ p ∈ ps, p.1.cps.size = L) (hL0 : 0 < L) (hn : L ≤ sizeLine) (hS : n + m + 2 < S) (res : Value) (c₀ : Nat)
    (hz : IsZip s.heap (n + m + 2) (n + m) (n + m + 1) .none) (st : ZSt s.heap n m S ps 0) (hSl : s.heap.get? S = some { cls := .type "list", data := .seq #[] c₀ })
    (hR : ∀ h' tk acc c as, (∀ b o, b ≠ S → (b < n) → s.heap.get? b = some o → h'.get? b = some o) → h'.get? S = some { cls := .type "list", dict := none, data := .seq acc c, slots := #[] } → as.length = L → ZG ps S h' as →
      acc.toList = as.map Value.ref → R (.ok (.ret res)) { s with heap := h', toks := tk }) :
    wpAny (model prog w) A.in1 (Builtin.List.listExtendWith (.ref S) (.ref (n + m + 2)) res)
      (fun fin s' => match fin with | .done f => R (.ok f) s' | .again c' => c'.quiet = true ∧ codeAny (model prog w) A c' R s') (fun e s' => R (.error e) s') s := by
  have hT : s.TypeIs (.ref (n + m + 2)) "zip" := ⟨_, hz, rfl⟩
  have key : ∀ (h : Heap) (c₁ tk : Nat), (∀ (b : Nat) o, b ≠ S → s.heap.get? b = some o → h.get? b = some o) → h.get? S = some { cls := .type "list", data := .seq #[] c₁ } → codeAny (model prog w) A (.builtin "list.extend.loop" ⟨[.ref S, .ref (n + m + 2), res], []⟩) R { s with heap := h, toks := tk } := by
    intro h c₁ tk hk hS₁
    exact z_loop (s := s) (h₁ := s.heap) hh hm h1 hlt hL hL0 hn hS res hR L 0 h tk c₁ #[] [] (Nat.sub_zero _) (Nat.zero_le _) (st.keep hm hS hk) (fun b o x1 _ e => hk b o x1 e) hS₁ rfl rfl
      ⟨List.Pairwise.nil, (fun _ ha => nomatch ha), (fun j a hj => by simp at hj)⟩
  unfold Builtin.List.listExtendWith
  refine wpAny_bind (wpAny_typeOf (T := "zip") hT ?_)
  have e1 : Builtin.List.listSameRef (.ref S) (.ref (n + m + 2)) = false := by
    have : (S : Addr) ≠ n + m + 2 := nat_ne (by omega)
    simp [Builtin.List.listSameRef, this]
  have e2 : (Value.type "zip" == Value.type "list") = false := by decide
  have e3 : (Value.type "zip" == Value.type "tuple") = false := by decide
  simp only [e1, e2, e3, Bool.or_false, Bool.false_eq_true, if_false]
  refine wpAny_bind (wpAny_pyIter_zip hz ?_)
  refine wpAny_bind (wpAny_holding ?_)
  unfold Builtin.List.listLengthHint
  refine wpAny_bind (wpAny_specialOf hT zip_nolen ?_)
  show wpAny _ A.in1 (specialOf (Value.ref (n + m + 2)) (Str.ofString "__length_hint__") >>= _) _ _ _
  refine wpAny_bind (wpAny_specialOf hT zip_nohint ?_)
  refine wpAny_pure ?_
  show wpAny _ A.in1 (rule "list.extend.makes-room" >>= fun _ => Builtin.List.listTouch (.ref S) >>= fun _ => again (.builtin "list.extend.loop" ⟨[.ref S, .ref (n + m + 2), res], []⟩)) _ _ _
  refine wpAny_bind (wpAny_rule ?_)
  refine wpAny_bind ?_
  show wpAny _ _ (updateSeq S (·.push .none) >>= fun _ => updateSeq S (·.pop)) _ _ _
  refine wpAny_bind (wpAny_updateSeq hSl rfl ?_)
  have hS₂ := Heap.get?_update_self (Obj.mapSeq (·.push Value.none)) hSl rfl
  refine wpAny_updateSeq (hz := by seq_fits) hS₂ rfl ?_
  have hS₃ := Heap.get?_update_self (Obj.mapSeq (·.pop)) hS₂ rfl
  refine wpAny_pure ⟨plainId_quiet PySem.F.plain_extend_loop _, key _ _ _ (fun b o hb e => ?_) hS₃⟩
  exact (Heap.get?_update_other _ _ (nat_ne (Ne.symm hb))).trans ((Heap.get?_update_other _ _ (nat_ne (Ne.symm hb))).trans e)
theorem z_init {R : Result → Shared → Prop} {n m S L : Nat} (hh : A.handled = none) (hm : m = ps.length) (h1 : 0 < m) (hlt : m ≤ sizeLine) (hL : ∀ p ∈ ps, p.1.cps.size = L) (hL0 : 0 < L) (hn : L ≤ sizeLine) (hS : n + m + 2 < S)
    (hz : IsZip s.heap (n + m + 2) (n + m) (n + m + 1) .none) (st : ZSt s.heap n m S ps 0) (hSl : s.heap.get? S = some { cls := .type "list", data := .seq #[] })
    (hR : ∀ h' tk acc c as, (∀ b o, b ≠ S → (b < n) → s.heap.get? b = some o → h'.get? b = some o) → h'.get? S = some { cls := .type "list", dict := none, data := .seq acc c, slots := #[] } → as.length = L → ZG ps S h' as →
      acc.toList = as.map Value.ref → R (.ok (.ret .none)) { s with heap := h', toks := tk }) :
    wpAny (model prog w) A.in1 (Builtin.«list.__init__» ⟨[.ref S, .ref (n + m + 2)], []⟩)
      (fun fin s' => match fin with | .done f => R (.ok f) s' | .again c' => c'.quiet = true ∧ codeAny (model prog w) A c' R s') (fun e s' => R (.error e) s') s := by
  show wpAny _ _ (do let old ← Builtin.List.listItems (.ref S); Builtin.List.listUpdate (.ref S) (fun _ => #[]); letGo old.toList.reverse; Builtin.List.listExtendWith (.ref S) (.ref (n + m + 2)) .none) _ _ s
  refine wpAny_bind ?_
  unfold Builtin.List.listItems
  refine wpAny_bind (wpAny_seqItems hSl rfl (wpAny_pure ?_))
  show wpAny _ _ (updateSeq S (fun _ => #[]) >>= fun _ => letGo (#[] : Array Value).toList.reverse >>= fun _ => Builtin.List.listExtendWith (.ref S) (.ref (n + m + 2)) .none) _ _ s
  refine wpAny_bind (wpAny_updateSeq hSl rfl ?_)
  have hS₂ := Heap.get?_update_self (Obj.mapSeq (fun _ => (#[] : Array Value))) hSl rfl
  have oth : ∀ (b : Nat) o, b ≠ S → s.heap.get? b = some o → (s.heap.update S (Obj.mapSeq (fun _ => (#[] : Array Value)))).get? b = some o :=
    fun b o hb e => (Heap.get?_update_other _ _ (nat_ne (Ne.symm hb))).trans e
  refine wpAny_bind (wpAny_letGo ?_)
  exact z_extend hh hm h1 hlt hL hL0 hn hS .none _ (oth _ _ (by omega) hz) (st.keep hm hS oth) hS₂ fun h' tk acc c as hk hS' hl hG hacc => hR h' tk acc c as (fun b o x1 x2 e => hk b o x1 x2 (oth b o x1 e)) hS' hl hG hacc
theorem z_call {Q : Value → Shared → Prop} {n m L : Nat} (hh : A.handled = none) (hm : m = ps.length) (h1 : 0 < m) (hlt : m ≤ sizeLine) (hL : ∀ p ∈ ps, p.1.cps.size = L) (hL0 : 0 < L) (hn : L ≤ sizeLine)
    (hz : IsZip s.heap (n + m + 2) (n + m) (n + m + 1) .none) (hTI : IsT s.heap (n + m) (zRefs n m).toArray) (hTO : ∃ its, IsT s.heap (n + m + 1) its ∧ its.size = m) (hat : ZAt s.heap n ps 0 0)
    (hQ : ∀ h' tk acc c as, (∀ (b : Nat) o, b < n → s.heap.get? b = some o → h'.get? b = some o) → h'.get? s.heap.objs.size = some { cls := .type "list", dict := none, data := .seq acc c, slots := #[] } → as.length = L → ZG ps s.heap.objs.size h' as →
      acc.toList = as.map Value.ref → Q (.ref s.heap.objs.size) { s with heap := h', toks := tk }) :
    wpAny (model prog w) A (call (.type "list") [.ref (n + m + 2)]) Q E s := by
  refine callType_codes (Q₁ := fun obj s₁ => obj = .ref s.heap.objs.size ∧ s₁ = { s with heap := s.heap.push { cls := .type "list", data := .seq #[] } }) PySem.F.called_list (PySem.F.typeCall_list_1 _) PySem.F.entry_list_init
    (code_list_new _ ⟨rfl, rfl⟩) fun obj s₁ h₁ => ?_
  obtain ⟨rfl, rfl⟩ := h₁
  have hS : (s.heap.push { cls := .type "list", data := .seq #[] }).get? s.heap.objs.size = some { cls := .type "list", data := .seq #[] } := Heap.get?_push_size _ rfl
  have hr : n + m + 2 < s.heap.objs.size := Heap.lt_size hz
  have up : ∀ (b : Nat) o, s.heap.get? b = some o → (s.heap.push { cls := .type "list", data := .seq #[] }).get? b = some o := fun b o e => Heap.get?_push_of_some _ e
  obtain ⟨its, t1, t2⟩ := hTO
  refine ⟨⟨_, hS, rfl⟩, PySem.F.args_list_init_2 _ _, z_init (ps := ps) (A := A.in1) hh hm h1 hlt hL hL0 hn hr (up _ _ hz) ⟨up _ _ hTI, hat.keep fun b o _ _ e => up b o e, .inl ⟨rfl, up _ _ hz, its, up _ _ t1, t2⟩⟩ hS fun h' tk acc c as hk hS' hl hG hacc => ?_⟩
  exact ⟨rfl, hQ h' tk acc c as (fun b o x e => hk b o (by have : (b : Nat) < s.heap.objs.size := Heap.lt_size e; omega) x (up b o e)) hS' hl hG hacc⟩
theorem callWith_starT {M : Model} {A : Around} {E : Value → Shared → Prop} {s : Shared} {pos : Pos} {T : String} {first : List Value} {args : List (Bool × Sem Value)} {Q : Value → Shared → Prop}
    (hst : args.any (·.1) = true)
    (h : wpAny M A (evalArgs (.type T) true args []) (fun a s₁ => wpAny M A (call (.type T) (first ++ a.pos) a.kw) Q E s₁) E s) :
    wpAny M A (callWith pos (.type T) first args []) Q E s := by
  unfold callWith
  refine wpAny_bind (wpAny_holding (wpAny_mono h (fun a s₁ h₁ => wpAny_bind (wpAny_standAt ?_)) fun _ _ x => x))
  simp only [hst, List.any_nil, Bool.or_false]
  refine wpAny_bind (wpAny_pure ?_)
  exact wpAny_bind (wpAny_mono (wpAny_operating h₁) (fun r s₂ hr => wpAny_bind (wpAny_holding (wpAny_point (wpAny_pure hr)))) fun _ _ x => x)
end

/-! ### what is laid -/
def putR : Hp → List Addr → List (List V) → Hp
  | H, a :: as, r :: rs => putR (upd H a (.tup r)) as rs
  | H, _, _ => H
theorem putR_off {b : Addr} : ∀ (as : List Addr) (rs : List (List V)) (H : Hp), b ∉ as → putR H as rs b = H b
  | [], _, _, _ => rfl
  | _ :: _, [], _, _ => rfl
  | a :: as, p :: rs, H, h => by
    show putR (upd H a (.tup p)) as rs b = H b
    rw [putR_off as rs _ (fun z => h (List.mem_cons_of_mem _ z)), upd_ne (fun z => h (by rw [z]; exact List.mem_cons_self))]
theorem putR_at : ∀ (as : List Addr) (rs : List (List V)) (H : Hp), as.Nodup → ∀ (j : Nat) a r, as[j]? = some a → rs[j]? = some r → putR H as rs a = some (.tup r)
  | [], _, _, _, j, a, r, h, _ => by simp at h
  | _ :: _, [], _, _, j, a, r, _, h => by simp at h
  | a :: as, p :: rs, H, hn, 0, _, _, e1, e2 => by
    cases e1; cases e2
    show putR (upd H a (.tup p)) as rs a = _
    rw [putR_off as rs _ (List.nodup_cons.mp hn).1, upd_same]
  | a :: as, p :: rs, H, hn, j + 1, b, r, e1, e2 => putR_at as rs (upd H a (.tup p)) (List.nodup_cons.mp hn).2 j b r (by simpa using e1) (by simpa using e2)
theorem vals_refs : ∀ as : List Addr, Vals (as.map V.ref) (as.map Value.ref)
  | [] => .nil
  | _ :: as => .cons rfl (vals_refs as)
/-- the j-th signs of the texts -/
def zCol (xs : List Str) (j : Nat) : List V := xs.map fun y => .str ⟨#[(y.cps[j]?).getD 0]⟩
def zRows (xs : List Str) (L : Nat) : List (List V) := (List.range L).map (zCol xs)
def tZipS (K : PySem.W.Frag) (te : TE) : TE := fun σ H Q => te σ H fun x H1 => ∃ (a : Addr) (xs : List Str) (L : Nat), x = .ref a ∧ SqL K H1 a (xs.map V.str) ∧ xs ≠ [] ∧ (∀ y ∈ xs, y.cps.size = L) ∧ 0 < L ∧ L ≤ sizeLine ∧
  ∀ (H' : Hp) (p : Addr) (ts : List Addr), Same H1 H' → H1 p = none → (∀ t ∈ ts, H1 t = none) → p ∉ ts → H' p = some (.lst (ts.map V.ref)) → ts.length = L → (∀ (j : Nat) (t : Addr), ts[j]? = some t → H' t = some (.tup (zCol xs j))) → Q (.ref p) H'
section
variable {X : Cx} {pins : List (Addr × Obj)} {σ : L2.St} {H : Hp} {s : Shared}
theorem strs_zvals : ∀ {xs : List Str} {us : List Value}, Vals (xs.map V.str) us → ∃ ps : List ZP, us = zVals ps ∧ ps.map (·.1) = xs
  | [], us, h => by cases h; exact ⟨[], rfl, rfl⟩
  | x :: xs, us, h => by
    cases h with
    | cons r t =>
      obtain ⟨t0, rfl⟩ := r
      obtain ⟨ps, rfl, e⟩ := strs_zvals t
      exact ⟨(x, t0) :: ps, rfl, by rw [List.map_cons, e]⟩
theorem z_laid {h' : Heap} {tk n L c : Nat} {ps : List ZP} {acc : Array Value} {as : List Addr} {s1 : Shared} (I : Inv X pins σ H s) (hL : ∀ p ∈ ps, p.1.cps.size = L) (hn : L ≤ sizeLine) (hps : ps.length ≤ sizeLine) (hge : s.heap.objs.size ≤ s1.heap.objs.size) (hg : s1.gens = s.gens) (hd : s1.drawn = s.drawn) (ho : s1.os = s.os)
    (hk : ∀ b o, s.heap.get? b = some o → h'.get? b = some o) (hS : h'.get? s1.heap.objs.size = some { cls := .type "list", dict := none, data := .seq acc c, slots := #[] }) (hl : as.length = L) (hG : ZG ps s1.heap.objs.size h' as) (hacc : acc.toList = as.map Value.ref) :
    ∃ H' : Hp, Same H H' ∧ H s1.heap.objs.size = none ∧ (∀ t ∈ as, H t = none) ∧ s1.heap.objs.size ∉ as ∧ H' s1.heap.objs.size = some (.lst (as.map V.ref)) ∧ (∀ (j : Nat) (t : Addr), as[j]? = some t → H' t = some (.tup (zCol (ps.map (·.1)) j))) ∧ Inv X pins σ H' { s with heap := h', toks := tk } := by
  have hSn : s1.heap.objs.size ∉ as := fun z => Nat.lt_irrefl _ (hG.above _ z)
  have nd : as.Nodup := List.Pairwise.imp (fun {a b} (h : a < b) => Nat.ne_of_lt h) hG.rise
  have new : ∀ t ∈ as, H t = none := fun t ht => I.hok.fresh (Nat.le_trans hge (Nat.le_of_lt (hG.above t ht)))
  have newS : H s1.heap.objs.size = none := I.hok.fresh hge
  let rs := zRows (ps.map (·.1)) L
  have hrs : ∀ (j : Nat) (t : Addr), as[j]? = some t → rs[j]? = some (zCol (ps.map (·.1)) j) := fun j t e => by
    have hj : j < L := by rw [← hl]; exact (List.getElem?_eq_some_iff.mp e).1
    show (zRows _ L)[j]? = _
    unfold zRows
    rw [List.getElem?_map, List.getElem?_range hj]; rfl
  let H' := putR (upd H s1.heap.objs.size (.lst (as.map V.ref))) as rs
  have off : ∀ b, b ∉ as → b ≠ s1.heap.objs.size → H' b = H b := fun b h1 h2 => by
    show putR _ _ _ _ = _
    rw [putR_off as rs _ h1, upd_ne h2]
  have low : ∀ b o, s.heap.get? b = some o → b ∉ as ∧ b ≠ s1.heap.objs.size := fun b o e => ⟨fun z => absurd (Heap.lt_size e) (Nat.not_lt.mpr (Nat.le_trans hge (Nat.le_of_lt (hG.above b z)))), Nat.ne_of_lt (Nat.lt_of_lt_of_le (Heap.lt_size e) hge)⟩
  have kp : ∀ b u, H b = some u → H' b = some u := fun b u e => by
    rw [off b (fun z => by rw [new b z] at e; cases e) (fun z => by rw [z, newS] at e; cases e)]
    exact e
  have eS : H' s1.heap.objs.size = some (.lst (as.map V.ref)) := by
    show putR _ _ _ _ = _
    rw [putR_off as rs _ hSn, upd_same]
  have atP : ∀ (j : Nat) (t : Addr), as[j]? = some t → H' t = some (.tup (zCol (ps.map (·.1)) j)) := fun j t e => putR_at as rs _ nd j t _ e (hrs j t e)
  refine ⟨H', kp, newS, new, hSn, eS, atP, ?_⟩
  refine I.call' (ch := []) rfl ⟨fun b o q _ _ _ => hk b o q, fun b o q _ _ _ => ⟨o.slots, hk b o q⟩, fun b o q n _ => ?_, fun b o q _ => ⟨o, hk b o q⟩, fun b xs q => kp b _ q, fun b o u q => kp b _ q, fun b ps q => ⟨#[], by rw [kp b _ q]; simp⟩⟩ (fun b u q => ?_) I.bare fun b z => by simp at z
  · obtain ⟨z1, z2⟩ := low b o q
    rw [off b z1 z2]
    exact n
  · by_cases hb : b ∈ as
    · obtain ⟨j, hj⟩ := List.mem_iff_getElem?.mp hb
      rw [atP j b hj] at q
      cases q
      obtain ⟨vs, f1, f2, f3⟩ := hG.rows j b hj
      have hjL : j < L := by rw [← hl]; exact (List.getElem?_eq_some_iff.mp hj).1
      refine ⟨by unfold zCol; rw [List.length_map, List.length_map]; exact hps, vs.toList, ?_, ⟨_, f3, rfl, _, by rw [Array.toArray_toList]⟩⟩
      refine vals_of_at (by unfold zCol; rw [List.length_map, List.length_map]; exact (Array.length_toList.trans f1).symm) fun i x u e1 e2 => ?_
      rw [Array.getElem?_toList] at e2
      obtain ⟨p, ch, t, g1, g2, rfl⟩ := f2 i u e2
      unfold zCol at e1
      rw [List.map_map, List.getElem?_map, g1] at e1
      cases e1
      refine ⟨t, ?_⟩
      show Value.str _ _ = Value.str _ _
      simp only [Function.comp, g2, Option.getD_some]
    · by_cases hb2 : b = s1.heap.objs.size
      · rw [hb2] at q ⊢
        rw [eS] at q
        cases q
        refine ⟨by rw [List.length_map]; omega, acc.toList, c, by rw [hacc]; exact vals_refs as, ?_⟩
        rw [Array.toArray_toList]
        exact hS
      · rw [off b hb hb2] at q
        exact (I.hok b u q).stay (fun d v _ y => hk d v y) (fun d y => kp d _ y) fun d xs y => kp d _ y
variable {e : Expr} {te : TE} {p p' p2 q pos : Pos}
/-- list(zip( *e )) -/
theorem pe_zipS (hc : X.calm = true) (he : PE X e te) (hg : Gl X "list") (hm : X.mg "list" = none) (hg' : Gl X "zip") (hm' : X.mg "zip" = none)
    (hs : starEach [.Call (.Name "zip" p) [.Starred e p2] [] q] X.env = (false, eval (.Call (.Name "zip" p) [.Starred e p2] [] q) X.env) :: starEach [] X.env := by rfl)
    (hst : starEach [.Starred e p2] X.env = [(true, eval e X.env)] := by rfl) :
    PE X (.Call (.Name "list" p') [.Call (.Name "zip" p) [.Starred e p2] [] q] [] pos) (tZipS X.K te) := by
  refine ⟨fun pins s σ H Q I hq => ?_⟩
  refine wpAny_Call_Name_kw (ld_blt I hg hm boot_list ?_)
  refine PyProof.Rows.callWith_type1 ?_ hs rfl
  rw [hs]
  show wpAny _ _ (spliced ((false, eval (.Call (.Name "zip" p) [.Starred e p2] [] q) X.env) :: backTo pos (starEach [] X.env))) _ _ s
  refine Calls.spliced_cons ?_
  refine wpAny_Call_Name_kw (ld_blt I hg' hm' PyProof.Rows.boot_zip ?_)
  rw [hst]
  refine callWith_starT rfl (PySem.W.ks_lone (thn (he.run pins s σ H _ I hq) fun v s1 ⟨x, H1, I1, rx, a, xs, L, ex, hx, hne, hL, hL0, hLs, q⟩ => ?_))
  subst ex
  obtain rfl : v = Value.ref a := rx
  obtain ⟨_, _, _, hxz⟩ := I1.list hx
  rw [List.length_map] at hxz
  refine StX.star_any I1 (.inr hx) fun us s2 I2 rv => ?_
  obtain ⟨ps, rfl, rfl⟩ := strs_zvals rv
  rw [List.length_map] at hxz
  have hL' : ∀ p ∈ ps, p.1.cps.size = L := fun p hp => hL p.1 (List.mem_map_of_mem hp)
  have hm0 : 0 < ps.length := by
    cases ps with
    | nil => exact absurd rfl hne
    | cons _ _ => exact Nat.succ_pos _
  refine call_zipN hxz fun h' n m en em hz hTI hTO hat hsz hkeep => ?_
  have I3 : Inv X pins σ H1 { s2 with heap := h' } := I2.kept (t' := s2.toks) hkeep
  refine Calls.spliced_nil ?_
  refine z_call (ps := ps) (n := n) (m := m) (L := L) (I3.ok.hd hc) em (by omega) (by rw [em]; exact hxz) hL' hL0 hLs hz hTI hTO (fun i p e => by rw [if_neg (Nat.not_lt_zero _)]; exact zObj_si (hat i p e)) fun h'' tk acc c as hk hS hl hG hacc => ?_
  obtain ⟨H', k1, k2, k3, k4, k5, k6, J⟩ := z_laid (h' := h'') (tk := tk) (n := n) (s1 := { s2 with heap := h' }) I2 hL' hLs hxz (by show _ ≤ h'.objs.size; omega) rfl rfl rfl (fun b o e => hk b o (by rw [en]; exact Heap.lt_size e) (hkeep b o e)) hS hl hG hacc
  exact ⟨.ref _, H', J, rfl, q H' _ as k1 k2 k3 k4 k5 hl k6⟩
end
end DL

/-! DL21: list(zip(*texts)) as data; calls with keywords. -/
namespace DL
open PySem PySem.Spec PyProof.Rows L2

theorem cont_of {K : DCx} {mt : Bool} {σ : L2.St} {F H F1 H1 : Hp} {G : ASet} {ρ1 : DEnv} {m' : MV} {Q' : MV → DEnv → Prop} {Q : VK} (p : PostT K mt σ F H G F1 H1 ρ1) (q : Q' m' ρ1)
    (k : ∀ F' H' ρ' v m S, PostE K false mt σ F H G F' H' ρ' v m S → Q' m ρ' → Q v H') : Cont K F1 H1 m' Q := fun F' H' v T sf sh le new rm tn => by
  refine k F' H' ρ1 v _ T ⟨p.sf.trans sf, fun b g => ?_, fun e => (p.qt e).trans sh, rm, p.st.grow sf sh le new (fun b g ng => ?_) fun b g => ?_, fun _ b t g => ?_⟩ q
  · obtain ⟨o, e⟩ := (p.st.fr b g).2
    rw [sh b o e, ← e, p.at_ b g]
  · rcases g with g | g
    · exact absurd g ng
    · exact (tn b g.2).1
  · rcases g with g | g
    · obtain ⟨f0, o, e⟩ := p.st.fr b g
      exact ⟨new b f0 ⟨o, e⟩, o, sh b o e⟩
    · exact ⟨(tn b g.2).2, rm.there b g.2⟩
  · obtain ⟨_, o, e⟩ := p.st.fr b g
    rw [(tn b t).1] at e
    cases e
def zColD (xs : List Str) (j : Nat) : D := .tup (xs.map fun y => .str ⟨#[(y.cps[j]?).getD 0]⟩)
def dZip : D → Option MV
  | .lst ds => match D.strs ds with
    | some (x :: xs) => if (∀ y ∈ x :: xs, y.cps.size = x.cps.size) ∧ 0 < x.cps.size ∧ x.cps.size ≤ lim then some (.ol (((List.range x.cps.size).map (zColD (x :: xs))).map .fz)) else none
    | _ => none
  | _ => none
def wZipS (f : WE) : WE := fun ρ Q => f ρ fun m ρ1 => ∃ r, dZip m.toD = some r ∧ Q r ρ1
theorem td_zipS {K : DCx} {f : WE} {p1 mt : Bool} : ∀ σ H Q, TD K (wZipS f) false mt σ H Q → tZipS K.K (TD K f p1 mt) σ H Q := fun σ H Q ⟨F, ρ, G, Q', st, h, k⟩ => by
  refine ⟨F, ρ, G, _, st, h, fun F1 H1 ρ1 v m S p ⟨r, e, q⟩ => ?_⟩
  have c := cont_of (post_tmp p) q k
  have le := p.st.le
  have vd := p.rm.vd
  unfold dZip at e
  split at e
  · rename_i ds eds
    split at e
    · rename_i x xs ex
      split at e
      · rename_i hc
        cases e
        rw [eds] at vd
        obtain ⟨a, vs, rfl, h1, h2, h3⟩ := vd.lst le
        have e1 := strs_some ex
        subst e1
        have e2 := items_str (H := H1) h2 h3
        subst e2
        refine ⟨a, x :: xs, x.cps.size, rfl, .of h1, List.cons_ne_nil _ _, hc.1, hc.2.1, lim_le hc.2.2, fun H' pa ts sh np nt npt eS hl hrow => ?_⟩
        classical
        let F' : Hp := fun b => if b ∈ ts then H' b else F1 b
        have e1 : ∀ b, b ∈ ts → F' b = H' b := fun b hb => if_pos hb
        have e2 : ∀ b, b ∉ ts → F' b = F1 b := fun b hb => if_neg hb
        have sf : Same F1 F' := fun b o e => by
          rw [e2 b fun z => by have := le b o e; rw [nt b z] at this; cases this]
          exact e
        refine c F' H' (.ref pa) (fun b => b = pa) sf sh (fun b o e => ?_) (fun b e ⟨o, e'⟩ => ?_) ?_ fun b e => ⟨e ▸ np, ?_⟩
        · by_cases hb : b ∈ ts
          · rw [e1 b hb] at e; exact e
          · rw [e2 b hb] at e; exact sh b o (le b o e)
        · rw [e2 b fun z => by rw [nt b z] at e'; cases e']
          exact e
        · refine .ol (fun _ _ => False) eS (by rw [List.length_map, List.length_map, List.length_map, List.length_range]; exact hl) (fun j w m a b => ?_) (fun _ _ _ z => z.elim) (fun _ z => z) fun b => ⟨.inl, fun z => z.elim id fun ⟨_, _, z⟩ => z.elim⟩
          rw [List.getElem?_map] at a
          obtain ⟨t, a', rfl⟩ := Option.map_eq_some_iff.mp a
          rw [List.getElem?_map, List.getElem?_map, List.getElem?_range (by rw [← hl]; exact (List.getElem?_eq_some_iff.mp a').1)] at b
          cases b
          refine .of (.tup (vs := zCol (x :: xs) j) (.of ?_) ?_ fun i w d e3 e4 => ?_)
          · rw [e1 t (List.mem_of_getElem? a')]
            exact hrow j t a'
          · unfold zCol; rw [List.length_map, List.length_map]
          · unfold zCol at e3
            rw [List.getElem?_map] at e3 e4
            obtain ⟨y, e5, rfl⟩ := Option.map_eq_some_iff.mp e3
            rw [e5] at e4
            cases e4
            exact .str _
        · rw [e, e2 pa npt]
          cases ef : F1 pa with
          | none => rfl
          | some o => have := le pa o ef; rw [np] at this; cases this
      · cases e
    · cases e
  · cases e
section
variable {X : Cx} {e : Expr} {f : WE} {p1 mt : Bool} {p p' p2 q pos : Pos}
theorem d_zipS (hc : X.calm = true) (he : PE X e (TD (dcx X) f p1 mt)) (hg : Gl X "list") (hm : X.mg "list" = none) (hg' : Gl X "zip") (hm' : X.mg "zip" = none)
    (hs : starEach [.Call (.Name "zip" p) [.Starred e p2] [] q] X.env = (false, eval (.Call (.Name "zip" p) [.Starred e p2] [] q) X.env) :: starEach [] X.env := by rfl)
    (hst : starEach [.Starred e p2] X.env = [(true, eval e X.env)] := by rfl) :
    PE X (.Call (.Name "list" p') [.Call (.Name "zip" p) [.Starred e p2] [] q] [] pos) (TD (dcx X) (wZipS f) false mt) := PE.imp (pe_zipS hc he hg hm hg' hm' hs hst) td_zipS
end

/-! ### f(k = v, ..) -/
theorem PK.imp {X : Cx} {es : List Keyword} {t t' : TA} (h : PK X es t) (i : ∀ σ H Q, t' σ H Q → t σ H Q) : PK X es t' := ⟨fun pos p s σ H Q I w => h.run pos p s σ H Q I (i _ _ _ w)⟩
section
variable {X : Cx} {CX : CXT} {k : Nat} {f : Addr} {fd : FuncData} {ps ks : List Str} {sp : Sp} {E : XK} {x : Str} {p pos kpos : Pos} {kws : List Keyword} {tk : TA} {g : List Value → List Value → List Value} {gV : List V → List V → List V}
theorem pe_callK0 (F : FnOk X.prog X.w X.K X.mg X.base CX k f fd ps sp) (hr : Room k X.A) (hg : Gl X x) (hm : X.mg x = some (.ref f)) (hk : PySem.W.keepIn X.K (.ref f) = true) (hb : KBinds X.K fd ps ks g gV) (hx : Passes CX X E)
    (hkw : PK X kws tk) (hall : (backToKw pos (keywordEach kws X.env)).all (·.1.isSome) = true := by rfl) (hks : (backToKw pos (keywordEach kws X.env)).filterMap (·.1) = ks := by rfl)
    (hdb : (x == ("__debug__" : Str)) = false := by decide) (hpl : ((backTo pos (starEach [] X.env)).any (·.1) || (backToKw pos (keywordEach kws X.env)).any (·.1.isNone)) = false := by rfl) :
    PE X (.Call (.Name x p) [] kws pos) (fun σ H Q => tk σ H fun zs H1 => sp (gV [] zs) H1 Q E) := by
  refine ⟨fun pins s σ H Q I h => ?_⟩
  refine wpAny_Call_Name_kw (ld_glob I hg hm ?_ hdb)
  refine PySem.W.callWith_KW0 (h₀ := X.base) I.ok.mod.kin hk hall (thn (hkw.run pos pins s σ H _ I h) fun ws s2 ⟨zs, H2, I2, rz, q2⟩ => ⟨I2.kIn, ?_⟩) hpl
  rw [hks]
  exact run_fnk (us := []) (vs := []) F hr hb hx I2 .nil rz q2
theorem k_nil : PK X [] (TDM (dcx X) wNil false []) := PK.imp pk_nil tdm_nil
theorem k_cons {nm : Option Str} {e : Expr} {f : WE} {fs : WA} {mt mts : Bool} {ls : List (Option Nat)} (he : PE X e (TD (dcx X) f false mt)) (hr : PK X kws (TDM (dcx X) fs mts ls)) : PK X (⟨nm, e, kpos⟩ :: kws) (TDM (dcx X) (wConsM f fs) (mt || mts) (none :: ls)) :=
  PK.imp (pk_cons he hr) tdm_cons
end
/-- a permutation of two -/
def swap2 {α : Type} : List α → List α → List α
  | [], [a, b] => [b, a]
  | _, _ => []
theorem kb_swap {K : PySem.W.Frag} {fd : FuncData} {a b : Str} (h : ∀ u v, bindArgs fd ⟨[], [(a, u), (b, v)]⟩ = pure [(b, v), (a, u)]) : KBinds K fd [b, a] [a, b] swap2 swap2 where
  to := fun s us ws _ hl => by
    match us, ws, hl with
    | [], [u, v], _ => exact BindsTo.of_eq (h u v)
  rel := fun {vs us zs ws} r rz => by
    cases r with
    | cons _ _ => exact .nil
    | nil =>
      cases rz with
      | nil => exact .nil
      | cons r1 t =>
        cases t with
        | nil => exact .nil
        | cons r2 t =>
          cases t with
          | nil => exact .cons r2 (.cons r1 .nil)
          | cons _ _ => exact .nil
def wCallK (sp : DSp) (fs : WA) : WE := fun ρ Q => fs ρ fun ms ρ1 => ∃ a b, ms = [a, b] ∧ sp [b, a] fun r fin => Q r ρ1
theorem td_swap {K : DCx} {io : List Bool} {sp : DSp} {fs : WA} {mt : Bool} {E : XK} : ∀ σ H Q, TD K (wCallK sp fs) false true σ H Q → TDM K fs mt [none, none] σ H fun zs H1 => spD K 2 io sp (swap2 [] zs) H1 Q E :=
  fun σ H Q ⟨F, ρ, G, Q', st, h, k⟩ => by
    refine ⟨F, ρ, G, _, st, h, fun F1 H1 ρ1 vs ms S p ⟨a, b, e, hq⟩ => ?_⟩
    subst e
    match vs, p.len, p.rm with
    | [v, w], _, prm =>
      let S' : Nat → ASet := fun j => match j with | 0 => S 1 | 1 => S 0 | _ => fun _ => False
      obtain ⟨So, o⟩ := p.st.own
      refine ⟨rfl, F1, [b, a], S', fun c => G c ∨ ∃ i, So i c, _, p.st.le, rfl, fun j u m e1 e2 => ?_, fun j hj c z => ?_, fun i j c z1 z2 => ?_, fun j c s => ?_, fun c g => ?_, hq, fun F2 H2 u m T fin U q hq2 => ?_⟩
      · match j, e1, e2 with
        | 0, e1, e2 => cases e1; cases e2; exact prm 1 _ _ rfl rfl
        | 1, e1, e2 => cases e1; cases e2; exact prm 0 _ _ rfl rfl
        | j + 2, e1, e2 => exact absurd (show ([] : List V)[j]? = some u from e1) (by simp)
      · match j, hj, z with
        | j + 2, _, z => exact z
      · match i, j, z1, z2 with
        | 0, 0, _, _ => rfl
        | 1, 1, _, _ => rfl
        | 0, 1, z1, z2 => have := p.dis _ _ c z1 z2; omega
        | 1, 0, z1, z2 => have := p.dis _ _ c z1 z2; omega
        | i + 2, _, z1, _ => exact z1.elim
        | 0, j + 2, _, z2 => exact z2.elim
        | 1, j + 2, _, z2 => exact z2.elim
      · have s' : ∃ i, S i c := by
          match j, s with
          | 0, s => exact ⟨1, s⟩
          | 1, s => exact ⟨0, s⟩
          | j + 2, s => exact s.elim
        obtain ⟨i, s'⟩ := s'
        refine ⟨(p.st.fr c (.inr ⟨i, s'⟩)).1, fun g => ?_⟩
        rcases g with g | ⟨l, g⟩
        · exact p.ng i c s' g
        · exact (o.out l c g).2 (.inr ⟨i, s'⟩)
      · rcases g with g | ⟨i, g⟩
        · exact p.st.fr c (.inl g)
        · exact ⟨(o.out i c g).1, o.there g⟩
      · have st2 : Sta K F2 H2 σ ρ1 (fun c => G c ∨ T c) := by
          refine ⟨q.le, p.st.len, ⟨So, fun i m e => ?_, o.emp, o.dis, fun i c s => ?_⟩, fun c g => ?_⟩
          · obtain ⟨u, e1, r⟩ := o.rep i m e
            exact ⟨u, e1, r.mono q.sf fun c x hb e => by rw [q.at_ c (.inr ⟨i, hb⟩)]; exact e⟩
          · refine ⟨q.gn c (.inr ⟨i, s⟩), fun g => ?_⟩
            rcases g with g | g
            · exact (o.out i c s).2 (.inl g)
            · exact (q.tn c g).2 (.inr ⟨i, s⟩)
          · rcases g with g | g
            · obtain ⟨_, x, e⟩ := p.st.fr c (.inl g)
              exact ⟨q.gn c (.inl g), x, by rw [q.at_ c (.inl g)]; exact e⟩
            · exact ⟨(q.tn c g).1, q.rm.there c g⟩
        exact k F2 H2 _ u m T ⟨p.sf.trans q.sf, fun c g => (q.at_ c (.inl g)).trans (p.at_ c g), (fun e => nomatch e), q.rm, st2.less fun c g => g.elim .inl fun z => .inr z.2, fun _ c t g => (q.tn c t).2 (.inl g)⟩ hq2
section
variable {X : Cx} {k : Nat} {f : Addr} {fd : FuncData} {a b x : Str} {sp : DSp} {io : List Bool} {p pos : Pos} {kws : List Keyword} {fs : WA} {mt : Bool}
theorem d_callK (F : FnOk X.prog X.w X.K X.mg X.base CX0 k f fd [b, a] (spD (dcx X) 2 io sp)) (hr : Room k X.A) (hg : Gl X x) (hm : X.mg x = some (.ref f)) (hk : PySem.W.keepIn X.K (.ref f) = true) (hb : KBinds X.K fd [b, a] [a, b] swap2 swap2)
    (hkw : PK X kws (TDM (dcx X) fs mt [none, none])) (hall : (backToKw pos (keywordEach kws X.env)).all (·.1.isSome) = true := by rfl) (hks : (backToKw pos (keywordEach kws X.env)).filterMap (·.1) = [a, b] := by rfl)
    (hdb : (x == ("__debug__" : Str)) = false := by decide) (hpl : ((backTo pos (starEach [] X.env)).any (·.1) || (backToKw pos (keywordEach kws X.env)).any (·.1.isNone)) = false := by rfl) :
    PE X (.Call (.Name x p) [] kws pos) (TD (dcx X) (wCallK sp fs) false true) :=
  PE.imp (pe_callK0 F hr hg hm hk hb pass0 hkw hall hks hdb hpl) td_swap
end
end DL

/-! DL22: short forms, for printed terms. -/
namespace DL
open PySem PySem.Spec PyProof.Rows L2
theorem Room.u65 {k : Nat} {A : Around} (r : Room k A) : A.units + 65 < cLine := by have := r.un; omega
section
variable {X : Cx} {x : Str} {p pos xp pos' apos cpos spos kpos : Pos} {e e2 a b c ix : Expr} {es : List Expr} {f g h : WE} {fs : WA} {p1 p2 m1 m2 mt mts : Bool} {P : Nat → Prop}
theorem xv (i : Nat) (hN : X.N[i]? = some x := by rfl) (hv : Vis X.env.scope x := by first | exact Or.inl rfl | exact Or.inr (Or.inl rfl) | exact Or.inr (Or.inr rfl)) (hd : (x == ("__debug__" : Str)) = false := by decide) (hcd : (x == ("__classdict__" : Str)) = false := by decide) :
    PE X (.Name x pos) (TD (dcx X) (wVar i) true false) := d_var hN hv hd hcd
theorem xm (i : Nat) (hN : X.N[i]? = some x := by rfl) (hv : Vis X.env.scope x := by first | exact Or.inl rfl | exact Or.inr (Or.inl rfl) | exact Or.inr (Or.inr rfl)) (hd : (x == ("__debug__" : Str)) = false := by decide) (hcd : (x == ("__classdict__" : Str)) = false := by decide) :
    PE X (.Name x pos) (TD (dcx X) (wMov i) false false) := d_mov hN hv hd hcd
theorem xe (i : Nat) (hN : X.N[i]? = some x := by rfl) (hv : Vis X.env.scope x := by first | exact Or.inl rfl | exact Or.inr (Or.inl rfl) | exact Or.inr (Or.inr rfl)) (hd : (x == ("__debug__" : Str)) = false := by decide) (hcd : (x == ("__classdict__" : Str)) = false := by decide) :
    PE X (.Name x pos) (TD (dcx X) (wEsc (some i) true (wVar i)) false false) := d_escv hN hv hd hcd
theorem mlend (i : Nat) {ls : List (Option Nat)} (hr : PA X es (TDM (dcx X) fs mts ls)) (hN : X.N[i]? = some x := by rfl) (hv : Vis X.env.scope x := by first | exact Or.inl rfl | exact Or.inr (Or.inl rfl) | exact Or.inr (Or.inr rfl)) (hd : (x == ("__debug__" : Str)) = false := by decide) (hcd : (x == ("__classdict__" : Str)) = false := by decide)
    (hs : starEach (.Name x xp :: es) X.env = (false, eval (.Name x xp) X.env) :: starEach es X.env := by rfl) : PA X (.Name x xp :: es) (TDM (dcx X) (wConsM (wMov i) fs) mts (some i :: ls)) := m_lend hN hv hr hd hcd hs
theorem sA (i : Nat) (nd : X.N.Nodup) (he : PE X e (TD (dcx X) f false mt)) (hp : ¬ P i := by decide) (hi : X.N[i]? = some x := by rfl) (hx : Loc X.env.scope x := by first | exact .inl rfl | exact .inr rfl) (hs : swapsWith e (some (.Name x pos')) pos.line X.env = pure false := by rfl)
    (hf : X.fn x = true ∨ X.env.scope.names.lookup x = some .local := by first | exact .inl rfl | exact .inr rfl) : PS X (.Assign [.Name x pos'] e pos) (TDS (dcx X) P (wAsg i f)) := ds_asg hp nd hi hx he hs hf
theorem gn (i : Nat) (nd : X.N.Nodup) (hp : ¬ P i := by decide) (hi : X.N[i]? = some x := by rfl) (hx : Loc X.env.scope x := by first | exact .inl rfl | exact .inr rfl) (hf : X.fn x = true ∨ X.env.scope.names.lookup x = some .local := by first | exact .inl rfl | exact .inr rfl) :
    DT X P (.Name x pos) (gN i) := dt_name hp nd hi hx hf
theorem sAdd (i : Nat) (nd : X.N.Nodup) (he : PE X e (TD (dcx X) f p1 mt)) (hp : ¬ P i := by decide) (hi : X.N[i]? = some x := by rfl) (hx : Loc X.env.scope x := by first | exact .inl rfl | exact .inr rfl) (hf : X.fn x = true ∨ X.env.scope.names.lookup x = some .local := by first | exact .inl rfl | exact .inr rfl) :
    PS X (.AugAssign (.Name x pos') .Add e pos) (TDS (dcx X) P (wAug i (fun a b => a + b) f)) := ds_augAdd hp nd hi hx he hf
theorem sSub (i : Nat) (nd : X.N.Nodup) (he : PE X e (TD (dcx X) f p1 mt)) (hp : ¬ P i := by decide) (hi : X.N[i]? = some x := by rfl) (hx : Loc X.env.scope x := by first | exact .inl rfl | exact .inr rfl) (hf : X.fn x = true ∨ X.env.scope.names.lookup x = some .local := by first | exact .inl rfl | exact .inr rfl) :
    PS X (.AugAssign (.Name x pos') .Sub e pos) (TDS (dcx X) P (wAug i (fun a b => a - b) f)) := ds_augSub hp nd hi hx he hf
theorem pvn (i : Nat) (hN : X.N[i]? = some x := by rfl) (hv : Vis X.env.scope x := by first | exact Or.inl rfl | exact Or.inr (Or.inl rfl) | exact Or.inr (Or.inr rfl)) (hd : (x == ("__debug__" : Str)) = false := by decide) (hcd : (x == ("__classdict__" : Str)) = false := by decide) :
    PE X (.Name x pos) (tVar i) := pe_var hN hv hd hcd
end
end DL

/-! DL23: steps through a reading, head by head. -/
namespace DL
open PySem PySem.Spec PyProof.Rows L2

variable {E : DE} {ρ ρ1 : DEnv} {f g h : WE} {fs : WA} {i : Nat} {m : MV} {d : D} {Q : MV → DEnv → Prop} {QT : Bool → DEnv → Prop} {QA : List MV → DEnv → Prop} {p1 p2 m1 m2 : Bool} {s1 s2 : WS} {c u v : WT} {gg : List MV → Option MV} {sp : DSp} {ls : List (Option Nat)}
theorem toD_fz (d : D) : (MV.fz d).toD = d := rfl
theorem lt_len {ρ : DEnv} {i : Nat} {o : Option MV} (h : ρ[i]? = some o) : i < ρ.length := (List.getElem?_eq_some_iff.mp h).1
theorem len0 : ([] : List MV).length ≤ lim := by decide
theorem len1 {a : MV} : [a].length ≤ lim := by show 1 ≤ lim; decide
theorem len2 {a b : MV} : [a, b].length ≤ lim := by show 2 ≤ lim; decide
theorem len3 {a b c : MV} : [a, b, c].length ≤ lim := by show 3 ≤ lim; decide
theorem len4 {a b c d : MV} : [a, b, c, d].length ≤ lim := by show 4 ≤ lim; decide
theorem len5 {a b c d e : MV} : [a, b, c, d, e].length ≤ lim := by show 5 ≤ lim; decide
theorem len6 {a b c d e f : MV} : [a, b, c, d, e, f].length ≤ lim := by show 6 ≤ lim; decide
/-! ### statements -/
theorem st_seq (z : s1 { E with nx := s2 E } ρ) : wSeq s1 s2 E ρ := z
theorem st_asg (z : f ρ fun m ρ1 => i < ρ1.length ∧ E.nx (ρ1.set i (some m))) : wAsg i f E ρ := z
theorem st_asgT {t : WG} (z : f ρ fun m ρ1 => t m.toD ρ1 E.nx) : wAsgT f t E ρ := z
theorem st_expr (z : f ρ fun _ ρ1 => E.nx ρ1) : wExpr f E ρ := z
theorem st_ret (z : f ρ fun m ρ1 => E.rt m ρ1) : wRet f E ρ := z
theorem st_if (z : c ρ fun b ρ1 => if b = true then s1 E ρ1 else s2 E ρ1) : wIfS c s1 s2 E ρ := z
theorem st_set (z : f ρ fun m ρ1 => (∃ q, ρ1[i]? = some (some q)) ∧ g ρ1 fun k ρ2 => ∃ q q', ρ2[i]? = some (some q) ∧ q.put k m = some q' ∧ E.nx (ρ2.set i (some q'))) : wSet i f g E ρ := z
theorem st_aug {op : Int → Int → Int} {a : Int} (e : ρ[i]? = some (some (.fz (.int a)))) (z : f ρ fun m ρ1 => ∃ b, m = .fz (.int b) ∧ i < ρ1.length ∧ E.nx (ρ1.set i (some (.fz (.int (op a b)))))) : wAug i op f E ρ := ⟨a, e, z⟩
theorem st_for {it : DEnv → (List D → DEnv → Prop) → Prop} {t : WG} (z : it ρ fun ds ρ1 => wForB t s1 E ds ρ1) : wFor it t s1 E ρ := z
theorem st_par {is : List Nat} (z : fs ρ fun ms ρ1 => wParB is ms ρ1 E.nx) : wPar is fs E ρ := z
/-! ### expressions -/
theorem st_c (z : Q (.fz d) ρ) : wC d ρ Q := z
theorem st_var (e : ρ[i]? = some (some m)) (z : Q m ρ) : wVar i ρ Q := ⟨m, e, z⟩
theorem st_mov (e : ρ[i]? = some (some m)) (z : Q m (ρ.set i none)) : wMov i ρ Q := ⟨m, e, z⟩
theorem st_escf (e : ρ[i]? = some (some (.fz d))) (z : Q (.fz d) ρ) : wEsc (some i) true (wVar i) ρ Q := ⟨_, e, z⟩
theorem st_esco {xs : List MV} (e : ρ[i]? = some (some (.ol xs))) (z : Q (.fz (MV.ol xs).toD) (ρ.set i (some (.fz (MV.ol xs).toD)))) : wEsc (some i) true (wVar i) ρ Q := ⟨_, e, e, z⟩
theorem st_escd {t : Bool} {xs : List (D × MV)} (e : ρ[i]? = some (some (.od t xs))) (z : Q (.fz (MV.od t xs).toD) (ρ.set i (some (.fz (MV.od t xs).toD)))) : wEsc (some i) true (wVar i) ρ Q := ⟨_, e, e, z⟩
theorem st_view (z : f ρ fun m ρ1 => ∃ d, m = .fz d ∧ Q (.fz d) ρ1) : wEsc none true f ρ Q := by
  have e : (fun m ρ1 => ∃ d, m = MV.fz d ∧ Q (.fz d) ρ1) = fun (m : MV) ρ1 => if (m.isOwn && true) = true then (match (none : Option Nat) with | some i => ρ1[i]? = some (some m) ∧ Q (.fz m.toD) (ρ1.set i (some (.fz m.toD))) | none => False) else Q m ρ1 := by
    funext m ρ1
    cases m with
    | fz d => exact propext ⟨fun ⟨d', e, q⟩ => by cases e; exact q, fun q => ⟨d, rfl, q⟩⟩
    | ol xs => exact propext ⟨fun ⟨d', e, q⟩ => by (cases e), fun q => q.elim⟩
    | od t xs => exact propext ⟨fun ⟨d', e, q⟩ => by (cases e), fun q => q.elim⟩
  rw [e] at z
  exact z
theorem st_frz (z : f ρ fun m ρ1 => Q (.fz m.toD) ρ1) : wFrz f ρ Q := z
theorem st_op (z : fs ρ fun ms ρ1 => ∃ m, gg ms = some m ∧ Q m ρ1) : wOp gg fs ρ Q := z
theorem st_op1 (z : f ρ fun m ρ1 => (p1 && false && m.isOwn) = false ∧ ∃ r, gg [m] = some r ∧ Q r ρ1) : wOp1 gg f p1 ρ Q := z
theorem st_op2 (z : f ρ fun m ρ1 => h ρ1 fun n ρ2 => (p2 && false && n.isOwn) = false ∧ (p1 && m2 && m.isOwn) = false ∧ ∃ r, gg [m, n] = some r ∧ Q r ρ2) : wOp2 gg f p1 h p2 m2 ρ Q := z
theorem st_ix (z : f ρ fun m ρ1 => g ρ1 fun k ρ2 => (p1 && m2 && m.isOwn) = false ∧ ∃ c, m.ix k.toD = some c ∧ Q c ρ2) : wIx f p1 g m2 ρ Q := z
theorem st_nil (z : QA [] ρ) : wNil ρ QA := z
theorem st_cons (z : f ρ fun m ρ1 => fs ρ1 fun ms ρ2 => (p1 && m2 && m.isOwn) = false ∧ QA (m :: ms) ρ2) : wCons f p1 m2 fs ρ QA := z
theorem st_consM (z : f ρ fun m ρ1 => fs ρ1 fun ms ρ2 => QA (m :: ms) ρ2) : wConsM f fs ρ QA := z
theorem st_lst (z : fs ρ fun ms ρ1 => ms.length ≤ lim ∧ Q (.ol ms) ρ1) : wLst fs ρ Q := z
theorem st_tup (z : fs ρ fun ms ρ1 => ms.length ≤ lim ∧ Q (.fz (.tup (ms.map MV.toD))) ρ1) : wTup fs ρ Q := z
theorem st_call (z : fs ρ fun ms ρ1 => sp ms fun r fin => Q r (putBack ls fin ρ1)) : wCall sp ls fs ρ Q := z
theorem st_callK (z : fs ρ fun ms ρ1 => ∃ a b, ms = [a, b] ∧ sp [b, a] fun r fin => Q r ρ1) : wCallK sp fs ρ Q := z
theorem st_app (e : ∃ ms, ρ[i]? = some (some (.ol ms))) (z : f ρ fun m ρ1 => ∃ ms, ρ1[i]? = some (some (.ol ms)) ∧ ms.length < lim ∧ Q (.fz .non) (ρ1.set i (some (.ol (ms ++ [m]))))) : wApp i f ρ Q := ⟨e, z⟩
theorem st_ife (z : c ρ fun b ρ1 => if b = true then f ρ1 Q else g ρ1 Q) : wIf c f g ρ Q := z
theorem st_ok {T : String} (z : f ρ fun m ρ1 => m.isT T = true ∧ Q m ρ1) : wOk T f ρ Q := z
theorem st_dic {t : Bool} (z : Q (.od t []) ρ) : wDic t ρ Q := z
theorem st_isi {T : String} (z : f ρ fun m ρ1 => ∃ b, isiB T m.toD = some b ∧ Q (.fz (.bl b)) ρ1) : wIsT T f ρ Q := z
theorem st_sl {lo hi : Option WE} (z : f ρ fun m ρ1 => wPart lo ρ1 fun l ρ2 => wPart hi ρ2 fun h ρ3 => (p1 && (m1 || m2) && m.isOwn) = false ∧ m.shal = true ∧ ∃ r, dSlice l h m.toD = some r ∧ Q r ρ3) : wSl f p1 lo m1 hi m2 ρ Q := z
theorem st_part0 {QP : Option Int → DEnv → Prop} (z : QP none ρ) : wPart none ρ QP := z
theorem st_part1 {QP : Option Int → DEnv → Prop} (z : f ρ fun m ρ1 => ∃ i, m = .fz (.int i) ∧ QP (some i) ρ1) : wPart (some f) ρ QP := z
def MV.setd : MV → MV → MV → Option (MV × MV)
  | .od t xs, .fz k, .fz d => if keyOk t k = true ∧ k.nk.isSome = true ∧ xs.length < lim then (match dlk xs k with
    | some (.fz d') => some (.fz d', .od t xs)
    | some _ => none
    | none => some (.fz d, .od t (dput xs k (.fz d)))) else none
  | _, _, _ => none
theorem set_same {ρ : DEnv} {i : Nat} {o : Option MV} (e : ρ[i]? = some o) : ρ.set i o = ρ := by
  apply List.ext_getElem?
  intro j
  by_cases hj : i = j
  · subst hj
    rw [List.getElem?_set_self (List.getElem?_eq_some_iff.mp e).1, e]
  · rw [List.getElem?_set_ne hj]
theorem setd_iff {ρ2 : DEnv} {i : Nat} {k m : MV} {Q : MV → DEnv → Prop} : (∃ q r q', ρ2[i]? = some (some q) ∧ q.setd k m = some (r, q') ∧ Q r (ρ2.set i (some q'))) ↔
    ∃ t xs d kd, ρ2[i]? = some (some (.od t xs)) ∧ m = .fz d ∧ k = .fz kd ∧ (keyOk t kd = true ∧ kd.nk.isSome = true ∧ xs.length < lim) ∧
      (∀ z, dlk xs kd = some z → ∃ d', z = .fz d' ∧ Q (.fz d') ρ2) ∧ (dlk xs kd = none → Q (.fz d) (ρ2.set i (some (.od t (dput xs kd (.fz d)))))) := by
  refine ⟨fun ⟨q, r, q', e, h, z⟩ => ?_, fun ⟨t, xs, d, kd, e, e1, e2, hc, h1, h2⟩ => ?_⟩
  · cases q with
    | fz _ => exact absurd h (by simp [MV.setd])
    | ol _ => exact absurd h (by simp [MV.setd])
    | od t xs =>
      cases k with
      | ol _ => exact absurd h (by simp [MV.setd])
      | od _ _ => exact absurd h (by simp [MV.setd])
      | fz k =>
        cases m with
        | ol _ => exact absurd h (by simp [MV.setd])
        | od _ _ => exact absurd h (by simp [MV.setd])
        | fz d =>
          unfold MV.setd at h
          simp only at h
          split at h
          · rename_i hc
            refine ⟨t, xs, d, k, e, rfl, rfl, hc, fun z' ez => ?_, fun ez => ?_⟩
            · rw [ez] at h
              cases z' with
              | fz d' =>
                simp only [Option.some.injEq, Prod.mk.injEq] at h
                obtain ⟨rfl, rfl⟩ := h
                rw [set_same e] at z
                exact ⟨_, rfl, z⟩
              | ol _ => cases h
              | od _ _ => cases h
            · rw [ez] at h
              simp only [Option.some.injEq, Prod.mk.injEq] at h
              obtain ⟨rfl, rfl⟩ := h
              exact z
          · cases h
  · subst e1 e2
    cases ez : dlk xs kd with
    | none => exact ⟨.od t xs, .fz d, _, e, by unfold MV.setd; simp only [hc, and_self, if_true, ez], h2 ez⟩
    | some z =>
      obtain ⟨d', rfl, hq⟩ := h1 z ez
      refine ⟨.od t xs, .fz d', .od t xs, e, by unfold MV.setd; simp only [hc, and_self, if_true, ez], ?_⟩
      rw [set_same e]
      exact hq
theorem st_setd (e : ∃ t xs, ρ[i]? = some (some (.od t xs))) (z : g ρ fun k ρ1 => f ρ1 fun m ρ2 => ∃ q r q', ρ2[i]? = some (some q) ∧ q.setd k m = some (r, q') ∧ Q r (ρ2.set i (some q'))) : wSetd i g f ρ Q := by
  refine ⟨e, ?_⟩
  have : (fun k ρ1 => f ρ1 fun m ρ2 => ∃ q r q', ρ2[i]? = some (some q) ∧ q.setd k m = some (r, q') ∧ Q r (ρ2.set i (some q'))) = fun (k : MV) ρ1 => f ρ1 fun m ρ2 => ∃ t xs d kd, ρ2[i]? = some (some (.od t xs)) ∧ m = .fz d ∧ k = .fz kd ∧ (keyOk t kd = true ∧ kd.nk.isSome = true ∧ xs.length < lim) ∧
      (∀ z, dlk xs kd = some z → ∃ d', z = .fz d' ∧ Q (.fz d') ρ2) ∧ (dlk xs kd = none → Q (.fz d) (ρ2.set i (some (.od t (dput xs kd (.fz d)))))) := by
    funext k ρ1
    congr 1
    funext m ρ2
    exact propext setd_iff
  rw [this] at z
  exact z
theorem tsetd {k m q r q' : MV} {o : Option (Option MV)} {R : MV → MV → Prop} (e : o = some (some q)) (h : q.setd k m = some (r, q')) (z : R r q') : ∃ q r q', o = some (some q) ∧ q.setd k m = some (r, q') ∧ R r q' := ⟨q, r, q', e, h, z⟩
/-! ### tests -/
theorem st_bool (z : f ρ fun m ρ1 => ∃ b, m = .fz (.bl b) ∧ QT b ρ1) : wBool f ρ QT := z
theorem st_notT (z : u ρ fun b ρ1 => QT (!b) ρ1) : wNotT u ρ QT := z
theorem st_andT (z : u ρ fun b ρ1 => if b = true then v ρ1 QT else QT false ρ1) : wAndT u v ρ QT := z
theorem st_orT (z : u ρ fun b ρ1 => if b = true then QT true ρ1 else v ρ1 QT) : wOrT u v ρ QT := z
theorem st_yes (z : QT true ρ) : wYes ρ QT := z
theorem st_andV (z : f ρ fun m ρ1 => ∃ b, m = .fz (.bl b) ∧ if b = true then g ρ1 Q else Q (.fz (.bl false)) ρ1) : wAndV f g ρ Q := z
theorem st_orV (z : f ρ fun m ρ1 => ∃ b, m = .fz (.bl b) ∧ if b = true then Q (.fz (.bl true)) ρ1 else g ρ1 Q) : wOrV f g ρ Q := z
theorem st_notV (z : f ρ fun m ρ1 => ∃ b, m = .fz (.bl b) ∧ Q (.fz (.bl (!b))) ρ1) : wNotV f ρ Q := z
theorem st_gn {i : Nat} {QE : DEnv → Prop} {o : Option MV} (e : ρ[i]? = some o) (z : QE (ρ.set i (some (.fz d)))) : gN i d ρ QE := ⟨lt_len e, z⟩
theorem st_gt {n : Nat} {gs : List D → DEnv → (DEnv → Prop) → Prop} {ds : List D} {QE : DEnv → Prop} (e : ds.length = n) (z : gs ds ρ QE) : gT n gs (.tup ds) ρ QE := ⟨ds, rfl, e, z⟩
theorem st_gnil {QE : DEnv → Prop} (z : QE ρ) : gNil' [] ρ QE := ⟨rfl, z⟩
theorem st_gcons {t : WG} {gs : List D → DEnv → (DEnv → Prop) → Prop} {ds : List D} {QE : DEnv → Prop} (z : t d ρ fun ρ1 => gs ds ρ1 QE) : gCons' t gs (d :: ds) ρ QE := ⟨d, ds, rfl, z⟩
theorem tif {a b : Nat} {P Q : Prop} (h1 : a < b → P) (h2 : ¬ a < b → Q) : if decide ((a : Int) < (b : Int)) = true then P else Q := by
  by_cases h : a < b
  · rw [if_pos (decide_eq_true (by omega))]; exact h1 h
  · rw [if_neg (by simp; omega)]; exact h2 h
theorem tifd {p : Prop} [Decidable p] {P Q : Prop} (h1 : p → P) (h2 : ¬ p → Q) : if decide p = true then P else Q := by
  by_cases h : p
  · rw [if_pos (decide_eq_true h)]; exact h1 h
  · rw [if_neg (by simpa using h)]; exact h2 h
/-! ### operators at values -/
theorem ev_lt {i j : Int} : g2 true dLt [.fz (.int i), .fz (.int j)] = some (.fz (.bl (decide (i < j)))) := rfl
theorem ev_cmp {p : Int → Int → Bool} {i j : Int} : g2 true (dCmpI p) [.fz (.int i), .fz (.int j)] = some (.fz (.bl (p i j))) := rfl
theorem ev_add {i j : Int} : g2 true dAdd [.fz (.int i), .fz (.int j)] = some (.fz (.int (i + j))) := rfl
theorem ev_sub {i j : Int} : g2 true dSub [.fz (.int i), .fz (.int j)] = some (.fz (.int (i - j))) := rfl
theorem ev_neg {i : Int} : g1 true dNeg [.fz (.int i)] = some (.fz (.int (-i))) := rfl
theorem ev_lenO {xs : List MV} : g1 false dLen [.ol xs] = some (.fz (.int (xs.length : Nat))) := by
  show some (MV.fz (.int ((MV.toDs xs).length : Nat))) = _
  rw [toDs_map, List.length_map]
theorem ev_lenL {xs : List D} : g1 false dLen [.fz (.lst xs)] = some (.fz (.int (xs.length : Nat))) := rfl
theorem ev_lenT {xs : List D} : g1 false dLen [.fz (.tup xs)] = some (.fz (.int (xs.length : Nat))) := rfl
theorem ev_lenC {xs : List Int} : g1 false dLen [.fz (.scr xs)] = some (.fz (.int (xs.length : Nat))) := rfl
theorem ev_lenD {t : Bool} {xs : List (D × MV)} : g1 false dLen [.od t xs] = some (.fz (.int (xs.length : Nat))) := by
  show some (MV.fz (.int ((MV.toDk xs).length : Nat))) = _
  rw [toDk_map, List.length_map]
theorem ev_eqI {i j : Int} : g2 false dEq [.fz (.int i), .fz (.int j)] = some (.fz (.bl (decide (i = j)))) := rfl
theorem ev_neI {i j : Int} : g2 false dNe [.fz (.int i), .fz (.int j)] = some (.fz (.bl (!decide (i = j)))) := rfl
theorem ev_isN0 : gIsN [.fz .non, .fz .non] = some (.fz (.bl true)) := rfl
theorem ev_isNI {j : Int} : gIsN [.fz (.int j), .fz .non] = some (.fz (.bl false)) := rfl
theorem ev_notN0 : gNotN [.fz .non, .fz .non] = some (.fz (.bl false)) := rfl
theorem ev_notNI {j : Int} : gNotN [.fz (.int j), .fz .non] = some (.fz (.bl true)) := rfl
theorem ev_intI {i : Int} : g1 true dInt [.fz (.int i)] = some (.fz (.int i)) := rfl
theorem ev_intB {b : Bool} : g1 true dInt [.fz (.bl b)] = some (.fz (.int (if b then 1 else 0))) := rfl
theorem ev_abs {i : Int} : g1 true dAbs [.fz (.int i)] = some (.fz (.int (if i < 0 then -i else i))) := rfl
theorem ev_max {i j : Int} : g2 true dMax2 [.fz (.int i), .fz (.int j)] = some (.fz (.int (if j > i then j else i))) := rfl
theorem ev_min {i j : Int} : g2 true dMin2 [.fz (.int i), .fz (.int j)] = some (.fz (.int (if j < i then j else i))) := rfl
theorem ev_tupO {xs : List D} : g1 true dTuple [.ol (xs.map .fz)] = some (.fz (.tup xs)) := by
  have h : (MV.ol (xs.map .fz)).shal = true := by
    show (xs.map MV.fz).all _ = true
    rw [List.all_map]
    exact List.all_eq_true.mpr fun _ _ => rfl
  show (if (true && !(MV.ol (xs.map .fz)).shal) = true then none else dTuple (MV.ol (xs.map .fz)).toD) = _
  rw [h, toD_ol_fz]; rfl
theorem ev_tupL {xs : List D} : g1 true dTuple [.fz (.lst xs)] = some (.fz (.tup xs)) := rfl
theorem rep_flat {α : Type} (d : α) : ∀ k : Nat, (List.replicate k [d]).flatten = List.replicate k d
  | 0 => rfl
  | k + 1 => by rw [List.replicate_succ, List.flatten_cons, rep_flat d k, List.replicate_succ]; rfl
theorem ev_rep {d : D} {k : Nat} (h : k ≤ lim) : g2 true dMul [.ol [.fz d], .fz (.int (k : Nat))] = some (.ol (List.replicate k (.fz d))) := by
  have e1 : g2 true dMul [.ol [.fz d], .fz (.int (k : Nat))] = dMul (.lst [d]) (.int (k : Nat)) := by
    unfold g2
    exact if_neg Bool.false_ne_true
  rw [e1, dMul]
  have hl : lim = 16777216 := rfl
  rw [if_pos ⟨by omega, by omega, by rw [Int.toNat_natCast, List.length_singleton]; omega⟩, Int.toNat_natCast, rep_flat, List.map_replicate]
theorem tl2 {m n r : MV} (e : gg [m, n] = some r) {R : MV → Prop} (z : R r) : (p2 && false && n.isOwn) = false ∧ (p1 && false && m.isOwn) = false ∧ ∃ r, gg [m, n] = some r ∧ R r := ⟨by cases p2 <;> rfl, by cases p1 <;> rfl, r, e, z⟩
theorem tl2' {m n r : MV} (e : gg [m, n] = some r) {R : MV → Prop} (z : R r) : (p2 && false && n.isOwn) = false ∧ (false && m2 && m.isOwn) = false ∧ ∃ r, gg [m, n] = some r ∧ R r := ⟨by cases p2 <;> rfl, rfl, r, e, z⟩
theorem tl1 {m r : MV} (e : gg [m] = some r) {R : MV → Prop} (z : R r) : (p1 && false && m.isOwn) = false ∧ ∃ r, gg [m] = some r ∧ R r := ⟨by cases p1 <;> rfl, r, e, z⟩
theorem tlx {m c : MV} {k : D} (e : m.ix k = some c) {R : MV → Prop} (z : R c) : (p1 && false && m.isOwn) = false ∧ ∃ c, m.ix k = some c ∧ R c := ⟨by cases p1 <;> rfl, c, e, z⟩
theorem tlx' {m c : MV} {k : D} (e : m.ix k = some c) {R : MV → Prop} (z : R c) : (false && m2 && m.isOwn) = false ∧ ∃ c, m.ix k = some c ∧ R c := ⟨rfl, c, e, z⟩
theorem tlq {R : Prop} {m : MV} (z : R) : (p1 && false && m.isOwn) = false ∧ R := ⟨by cases p1 <;> rfl, z⟩
theorem tlq' {R : Prop} {m : MV} (z : R) : (false && p1 && m.isOwn) = false ∧ R := ⟨rfl, z⟩
theorem tlz {QD : D → Prop} (z : QD d) : ∃ d', MV.fz d = .fz d' ∧ QD d' := ⟨d, rfl, z⟩
theorem tlb {b : Bool} {QB : Bool → Prop} (z : QB b) : ∃ b', MV.fz (.bl b) = .fz (.bl b') ∧ QB b' := ⟨b, rfl, z⟩
theorem tli {j : Int} {QB : Int → Prop} (z : QB j) : ∃ b', MV.fz (.int j) = .fz (.int b') ∧ QB b' := ⟨j, rfl, z⟩
theorem tlt {ds : List D} {QI : List D → Prop} (z : QI ds) : ∃ ds', dItems (MV.fz (.tup ds)).toD = some ds' ∧ QI ds' := ⟨ds, rfl, z⟩
theorem tll {ds : List D} {QI : List D → Prop} (z : QI ds) : ∃ ds', dItems (MV.fz (.lst ds)).toD = some ds' ∧ QI ds' := ⟨ds, rfl, z⟩
theorem tlo {xs : List MV} {QI : List D → Prop} (z : QI (xs.map MV.toD)) : ∃ ds', dItems (MV.ol xs).toD = some ds' ∧ QI ds' := ⟨_, by show some (MV.toDs xs) = _; rw [toDs_map], z⟩
theorem tlc {ds : List D} {QI : List D → Prop} (z : QI ds) : ∃ ds', dItems (D.tup ds) = some ds' ∧ QI ds' := ⟨ds, rfl, z⟩
theorem tlen {i : Nat} {o : Option MV} {R : Prop} (e : ρ[i]? = some o) (z : R) : i < ρ.length ∧ R := ⟨lt_len e, z⟩
theorem tset {i : Nat} {R : Prop} {q : MV} (e : ρ[i]? = some (some q)) (z : R) : (∃ q, ρ[i]? = some (some q)) ∧ R := ⟨⟨q, e⟩, z⟩
theorem tput {i : Nat} {k m q q' : MV} {R : MV → Prop} (e : ρ[i]? = some (some q)) (h : q.put k m = some q') (z : R q') : ∃ q q', ρ[i]? = some (some q) ∧ q.put k m = some q' ∧ R q' := ⟨q, q', e, h, z⟩
theorem tapp {i : Nat} {ms : List MV} {R : List MV → Prop} (e : ρ[i]? = some (some (.ol ms))) (h : ms.length < lim) (z : R ms) : ∃ ms, ρ[i]? = some (some (.ol ms)) ∧ ms.length < lim ∧ R ms := ⟨ms, e, h, z⟩
/-! ### loops -/
theorem st_it {QI : List D → DEnv → Prop} (z : f ρ fun m ρ1 => ∃ ds, dItems m.toD = some ds ∧ QI ds ρ1) : wIt f ρ QI := z
theorem st_rg1 {QI : List D → DEnv → Prop} (z : f ρ fun m ρ1 => ∃ j : Int, m = .fz (.int j) ∧ -(2 ^ 62) ≤ j ∧ j < 2 ^ 62 ∧ QI ((List.range j.toNat).map fun k => .int (k : Nat)) ρ1) : wRg1 f ρ QI := z
theorem st_enum {QI : List D → DEnv → Prop} (z : f ρ fun m ρ1 => ∃ ds, dEnum m.toD = some ds ∧ QI ds ρ1) : wEnum f ρ QI := z
theorem st_zip {QI : List D → DEnv → Prop} (z : f ρ fun m ρ1 => g ρ1 fun n ρ2 => ∃ ds es, dSeqL m.toD = some ds ∧ dSeqL n.toD = some es ∧ QI (zipD ds es) ρ2) : wZip f g ρ QI := z
theorem st_lc {it : DEnv → (List D → DEnv → Prop) → Prop} {t : WG} {vs : List Nat} (z : it ρ fun ds ρ1 => frzAt ρ1 vs = true ∧ wLcB t u f vs ds ρ1 [] fun acc ρ2 => Q (.ol acc) (restD ρ1 ρ2 vs)) : wLc it t u f vs ρ Q := z
/-- a walk by an invariant -/
theorem forB_inv {t : WG} {s : WS} {E : DE} (I : Nat → DEnv → Prop) : ∀ (ds : List D) (n : Nat) (ρ : DEnv), I n ρ →
    (∀ (i : Nat) (d : D) (ρ : DEnv) (k : DEnv → Prop), ds[i]? = some d → I (n + i) ρ → (∀ ρ', I (n + i + 1) ρ' → k ρ') → t d ρ fun ρ1 => s { E with nx := k, ct := k, bk := E.nx } ρ1) →
    (∀ ρ, I (n + ds.length) ρ → E.nx ρ) → wForB t s E ds ρ
  | [], n, ρ, h0, _, hf => hf ρ h0
  | d :: ds, n, ρ, h0, hs, hf => hs 0 d ρ _ rfl h0 fun ρ' h => forB_inv I ds (n + 1) ρ' h
      (fun i d' ρ k e hi hk => hs (i + 1) d' ρ k (by simpa using e) (by rw [show n + (i + 1) = n + 1 + i by omega]; exact hi) fun ρ' h' => hk ρ' (by rw [show n + 1 + i + 1 = n + (i + 1) + 1 by omega]; exact h'))
      fun ρ h' => hf ρ (by rw [List.length_cons, show n + (ds.length + 1) = n + 1 + ds.length by omega]; exact h')
theorem for_inv {t : WG} {s : WS} {E : DE} {ds : List D} {ρ : DEnv} (I : Nat → DEnv → Prop) (h0 : I 0 ρ)
    (hs : ∀ (i : Nat) (d : D) (ρ : DEnv) (k : DEnv → Prop), ds[i]? = some d → I i ρ → (∀ ρ', I (i + 1) ρ' → k ρ') → t d ρ fun ρ1 => s { E with nx := k, ct := k, bk := E.nx } ρ1)
    (hf : ∀ ρ, I ds.length ρ → E.nx ρ) : wForB t s E ds ρ := forB_inv I ds 0 ρ h0 (fun i d ρ k e hi hk => hs i d ρ k e (by rwa [Nat.zero_add] at hi) fun ρ' h' => hk ρ' (by rwa [Nat.zero_add])) fun ρ h' => hf ρ (by rwa [Nat.zero_add] at h')
/-- a comprehension without test whose items are a function of what is walked, over an environment that stays -/
theorem lcB_map {t : WG} {f : WE} {vs : List Nat} {k : D → MV} : ∀ (ds : List D) (ρ : DEnv) (acc : List MV) (Q : List MV → DEnv → Prop) (I : DEnv → Prop), I ρ → acc.length + ds.length ≤ lim →
    (∀ d ∈ ds, ∀ ρ, I ρ → ∀ K : MV → DEnv → Prop, (∀ ρ', I ρ' → K (k d) ρ') → t d (wipeD ρ vs) fun ρ1 => f ρ1 K) → (∀ ρ', I ρ' → Q (acc ++ ds.map k) ρ') → wLcB t wYes f vs ds ρ acc Q
  | [], ρ, acc, Q, I, hI, _, _, hq => by
    have := hq ρ hI
    rw [List.map_nil, List.append_nil] at this
    exact this
  | d :: ds, ρ, acc, Q, I, hI, hl, hs, hq => by
    unfold wLcB
    refine hs d (List.mem_cons_self ..) ρ hI _ fun ρ' h' => ?_
    refine ⟨by rw [List.length_cons] at hl; omega, lcB_map ds ρ' (acc ++ [k d]) Q I h' (by rw [List.length_append, List.length_singleton]; rw [List.length_cons] at hl; omega) (fun d hd => hs d (List.mem_cons_of_mem _ hd)) fun ρ'' h'' => ?_⟩
    have := hq ρ'' h''
    rw [List.map_cons] at this
    rw [List.append_assoc]
    exact this
end DL

/-! DL24: a name that is lent late: the other arguments may still use its slot. -/
namespace DL
open PySem PySem.Spec PyProof.Rows L2

section
variable {K : DCx}
def wLend (i : Nat) (fs : WA) : WA := fun ρ Q => (∃ m, ρ[i]? = some (some m)) ∧ fs ρ fun ms ρ2 => ∃ m, ρ2[i]? = some (some m) ∧ Q (m :: ms) (ρ2.set i none)
theorem tdm_lendL {i : Nat} {fs : WA} {mts : Bool} {ls : List (Option Nat)} : ∀ σ H Q, TDM K (wLend i fs) mts (some i :: ls) σ H Q → tCons (tVar i) (TDM K fs mts ls) σ H Q := fun σ H Q ⟨F, ρ, G, Q', st, ⟨⟨m0, e0⟩, h⟩, k⟩ => by
  obtain ⟨v, T0, ev, _, _, _⟩ := st.take e0
  refine ⟨v, ev, F, ρ, G, _, st, h, fun F2 H2 ρ2 vs ms T q ⟨m, e2, h2⟩ => ?_⟩
  obtain ⟨v', S, ev', r, ng, st1⟩ := q.st.take e2
  have hv : v' = v := by
    rw [ev] at ev'
    exact (Option.some.inj (Option.some.inj ev')).symm
  subst hv
  refine k F2 H2 (ρ2.set i none) (v' :: vs) (m :: ms) (fun j => match j with | 0 => S | j + 1 => T j) ⟨q.sf, q.at_, q.qt, by simp only [List.length_cons, q.len], fun j u n e1 e3 => ?_, fun j h b => ?_, fun j k b h1 h3 => ?_, fun j b h => ?_, st1.less fun b g => ?_, by simp only [List.length_cons, q.ln], fun j i2 u e1 e3 => ?_⟩ h2
  · cases j with
    | succ j => exact q.rm j u n (by simpa using e1) (by simpa using e3)
    | zero =>
      simp only [List.getElem?_cons_zero, Option.some.injEq] at e1 e3
      subst e1 e3
      exact r
  · cases j with
    | zero => simp at h
    | succ j => exact q.emp j (by simpa using h) b
  · cases j with
    | zero =>
      cases k with
      | zero => rfl
      | succ k => exact absurd (Or.inr ⟨k, h3⟩) (ng b h1)
    | succ j =>
      cases k with
      | zero => exact absurd (Or.inr ⟨j, h1⟩) (ng b h3)
      | succ k => rw [q.dis j k b h1 h3]
  · cases j with
    | zero => exact fun g => ng b h (.inl g)
    | succ j => exact fun g => q.ng j b h g
  · rcases g with g | ⟨j, g⟩
    · exact .inl (.inl g)
    · cases j with
      | zero => exact .inr g
      | succ j => exact .inl (.inr ⟨j, g⟩)
  · cases j with
    | zero =>
      simp only [List.getElem?_cons_zero, Option.some.injEq] at e1 e3
      subst e1 e3
      exact ev
    | succ j => exact q.lent j i2 u (by simpa using e1) (by simpa using e3)
end
section
variable {X : Cx} {es : List Expr} {fs : WA} {mts : Bool} {i : Nat} {x : Str} {xp : Pos}
theorem mlendL (i : Nat) {ls : List (Option Nat)} (hr : PA X es (TDM (dcx X) fs mts ls)) (hN : X.N[i]? = some x := by rfl) (hv : Vis X.env.scope x := by first | exact Or.inl rfl | exact Or.inr (Or.inl rfl) | exact Or.inr (Or.inr rfl)) (hd : (x == ("__debug__" : Str)) = false := by decide) (hcd : (x == ("__classdict__" : Str)) = false := by decide)
    (hs : starEach (.Name x xp :: es) X.env = (false, eval (.Name x xp) X.env) :: starEach es X.env := by rfl) : PA X (.Name x xp :: es) (TDM (dcx X) (wLend i fs) mts (some i :: ls)) :=
  PA.imp (pa_cons (pe_var hN hv hd hcd) hr hs) tdm_lendL
end
theorem st_lend {i : Nat} {fs : WA} {ρ : DEnv} {Q : List MV → DEnv → Prop} {m0 : MV} (e : ρ[i]? = some (some m0)) (z : fs ρ fun ms ρ2 => ∃ m, ρ2[i]? = some (some m) ∧ Q (m :: ms) (ρ2.set i none)) : wLend i fs ρ Q := ⟨⟨m0, e⟩, z⟩
theorem tlend {o : Option (Option MV)} {m : MV} {R : MV → Prop} (e : o = some (some m)) (z : R m) : ∃ m, o = some (some m) ∧ R m := ⟨m, e, z⟩
end DL

namespace DL
open PySem PySem.Spec PyProof.Rows L2
def topS (i : Nat) : Stmt := PySem.Challenge.pw_seamsight_k71_marks_by_parts_anyhow.main.body.getD i (.Pass ⟨0, 0, 0, 0⟩)
abbrev wSkip : WS := fun D ρ => D.nx ρ
section
variable {P : Program} {w : World} {K : PySem.W.Frag} {mg : Str → Option Value} {base : Heap}
/-! reached_order: 0 steps, 1 seen, 2 queue, 3 at, 4 state -/
abbrev s_reached_order : Stmt := topS 1
abbrev N_reached_order : List Str := ["steps", "seen", "queue", "at", "state"]
abbrev P_reached_order : List Str := ["steps"]
theorem sc_reached_order : FnScope N_reached_order P_reached_order (defScope s_reached_order) := ⟨rfl, rfl, rfl, by decide +kernel, rfl, by decide +kernel, by decide +kernel⟩
def W_reached_order : WS :=
  (wSeq (wAsg 1 (wOp2 (g2 true dMul) (wLst (wConsM (wC (.bl false)) wNil)) false (wOp (g1 false dLen) (wCons (wVar 0) true false wNil)) false false))
  (wSeq (wSet 1 (wC (.bl true)) (wC (.int 0)))
  (wSeq (wAsg 2 (wLst (wConsM (wC (.int 0)) wNil)))
  (wSeq (wAsg 3 (wC (.int 0)))
  (wSeq (wWhile (wBool (wOp2 (g2 true dLt) (wVar 3) true (wOp (g1 false dLen) (wCons (wVar 2) true false wNil)) false false))
    (wSeq (wFor (wIt (wEsc none true (wIx (wVar 0) true (wIx (wVar 2) true (wVar 3) false) false))) (gN 4)
      (wIfS (wNotT (wBool (wIx (wVar 1) true (wVar 4) false)))
        (wSeq (wSet 1 (wC (.bl true)) (wVar 4))
        (wExpr (wApp 2 (wEsc (some 4) true (wVar 4)))))
        wSkip))
    (wAug 3 (fun a b => a + b) (wC (.int 1)))))
  (wRet (wMov 2)))))))
theorem ok_reached_order {f : Addr} {fd : FuncData} {sp : DSp} (F : Fun K "reached_order" "reached_order" s_reached_order f fd) (z_len : mg "len" = none)
    (hm : ∀ ms Q, ms.length = 1 → sp ms Q → W_reached_order  (endsF [false] Q) (env0 5 ms)) :
    FnOk P w K mg base CX0 1 f fd P_reached_order (spD ⟨P, w, K⟩ 1 [false] sp) := by
  have nd := sc_reached_order.nd
  exact fun_ok (io := [false]) (W := W_reached_order ) F sc_reached_order rfl (fun cdv A outer s H E hr => by
    unfold W_reached_order
    exact
  (ds_cons (sA 1 nd (d_bin op_mul' os_mul (d_lst (m_cons d_bl m_nil)) (d_callB call_lenA os_len (by rfl) z_len boot_len (a_cons (xv 0) a_nil))))
  (ds_cons (ds_set hr.units (pvn 1) d_bl d_int)
  (ds_cons (sA 2 nd (d_lst (m_cons d_int m_nil)))
  (ds_cons (sA 3 nd d_int)
  (ds_cons (ds_while PassesOwn.never (t_cmp op_lt' os_lt (xv 3) (d_callB call_lenA os_len (by rfl) z_len boot_len (a_cons (xv 2) a_nil)) (nomark _))
    (ds_cons (ds_for PassesOwn.never rfl (di_of (d_view (d_ix hr.units (xv 0) (d_ix hr.units (xv 2) (xv 3) (fun _ _ => rfl)) (fun _ _ => rfl)))) (gn 4 nd)
      (ds_one (ds_if (t_not (t_val (d_ix hr.units (xv 1) (xv 4) (fun _ _ => rfl))))
        (ds_cons (ds_set hr.units (pvn 1) d_bl (xv 4))
        (ds_one (ds_expr (d_app (pvn 2) (xe 4)))))
        ds_nil)))
    (ds_one (sAdd 3 nd d_int))))
  (ds_one (ds_ret (xm 2))))))))) hm
/-! merged_classes: 0 steps, 1 order, 2 marks, 3 classes, 4 numbers, 5 state, 6 many, 7 finer, 8 key, 9 other -/
abbrev s_merged_classes : Stmt := topS 2
abbrev N_merged_classes : List Str := ["steps", "order", "marks", "classes", "numbers", "state", "many", "finer", "key", "other"]
abbrev P_merged_classes : List Str := ["steps", "order", "marks"]
theorem sc_merged_classes : FnScope N_merged_classes P_merged_classes (defScope s_merged_classes) := ⟨rfl, rfl, rfl, by decide +kernel, rfl, by decide +kernel, by decide +kernel⟩
def W_merged_classes : WS :=
  (wSeq (wAsg 3 (wOp2 (g2 true dMul) (wLst (wConsM (wOp1 (g1 true dNeg) (wC (.int 1)) false) wNil)) false (wOp (g1 false dLen) (wCons (wVar 0) true false wNil)) false false))
  (wSeq (wAsg 4 (wDic true))
  (wSeq (wFor (wIt (wEsc (some 1) true (wVar 1))) (gN 5)
    (wSet 3 (wSetd 4 (wEsc none true (wIx (wVar 2) true (wVar 5) false)) (wOp (g1 false dLen) (wCons (wVar 4) true false wNil))) (wVar 5)))
  (wSeq (wAsg 6 (wOp (g1 false dLen) (wCons (wVar 4) true false wNil)))
  (wWhile (wBool (wC (.bl true)))
    (wSeq (wAsg 4 (wDic true))
    (wSeq (wAsg 7 (wOp2 (g2 true dMul) (wLst (wConsM (wOp1 (g1 true dNeg) (wC (.int 1)) false) wNil)) false (wOp (g1 false dLen) (wCons (wVar 0) true false wNil)) false false))
    (wSeq (wFor (wIt (wEsc (some 1) true (wVar 1))) (gN 5)
      (wSeq (wAsg 8 (wTup (wConsM (wEsc none true (wIx (wVar 3) true (wVar 5) false)) (wConsM (wOp (g1 true dTuple) (wCons (wLc (wIt (wEsc none true (wIx (wVar 0) true (wVar 5) false))) (gN 9) wYes (wEsc none true (wIx (wVar 3) true (wVar 9) false)) [9]) false false wNil)) wNil))))
      (wSet 7 (wSetd 4 (wEsc (some 8) true (wVar 8)) (wOp (g1 false dLen) (wCons (wVar 4) true false wNil))) (wVar 5))))
    (wSeq (wAsg 3 (wEsc (some 7) true (wVar 7)))
    (wSeq (wIfS (wBool (wOp2 (g2 false dEq) (wOp (g1 false dLen) (wCons (wVar 4) true false wNil)) false (wVar 6) true false))
      (wRet (wTup (wConsM (wMov 3) (wConsM (wMov 6) wNil))))
      wSkip)
    (wAsg 6 (wOp (g1 false dLen) (wCons (wVar 4) true false wNil)))))))))))))
theorem ok_merged_classes {f : Addr} {fd : FuncData} {sp : DSp} (F : Fun K "merged_classes" "merged_classes" s_merged_classes f fd) (z_len : mg "len" = none) (z_tuple : mg "tuple" = none)
    (hm : ∀ ms Q, ms.length = 3 → sp ms Q → W_merged_classes  (endsF [false, false, false] Q) (env0 10 ms)) :
    FnOk P w K mg base CX0 1 f fd P_merged_classes (spD ⟨P, w, K⟩ 3 [false, false, false] sp) := by
  have nd := sc_merged_classes.nd
  exact fun_ok (io := [false, false, false]) (W := W_merged_classes ) F sc_merged_classes rfl (fun cdv A outer s H E hr => by
    unfold W_merged_classes
    exact
  (ds_cons (sA 3 nd (d_bin op_mul' os_mul (d_lst (m_cons (d_un un_neg os_neg d_int) m_nil)) (d_callB call_lenA os_len (by rfl) z_len boot_len (a_cons (xv 0) a_nil))))
  (ds_cons (sA 4 nd d_dicT)
  (ds_cons (ds_for PassesOwn.never rfl (di_of (xe 1)) (gn 5 nd)
    (ds_one (ds_set hr.units (pvn 3) (d_setd hr.units (pvn 4) (d_view (d_ix hr.units (xv 2) (xv 5) (fun _ _ => rfl))) (d_callB call_lenA os_len (by rfl) z_len boot_len (a_cons (xv 4) a_nil))) (xv 5))))
  (ds_cons (sA 6 nd (d_callB call_lenA os_len (by rfl) z_len boot_len (a_cons (xv 4) a_nil)))
  (ds_one (ds_while PassesOwn.never (t_val d_bl)
    (ds_cons (sA 4 nd d_dicT)
    (ds_cons (sA 7 nd (d_bin op_mul' os_mul (d_lst (m_cons (d_un un_neg os_neg d_int) m_nil)) (d_callB call_lenA os_len (by rfl) z_len boot_len (a_cons (xv 0) a_nil))))
    (ds_cons (ds_for PassesOwn.never rfl (di_of (xe 1)) (gn 5 nd)
      (ds_cons (sA 8 nd (d_tup (m_cons (d_view (d_ix hr.units (xv 3) (xv 5) (fun _ _ => rfl))) (m_cons (d_callTy (call_tupleA rfl) os_tuple (by rfl) z_tuple boot_tuple (a_cons (d_lc rfl nd (di_of (d_view (d_ix hr.units (xv 0) (xv 5) (fun _ _ => rfl)))) (blkOk_by (own := [("other", 9)]) (by first | decide +kernel | kernel_rfl | rfl)) (fun _ _ _ _ _ => (gn 9 nd)) (fun _ _ _ _ _ => dpts_nil) (fun _ _ _ _ _ => (d_view (d_ix hr.units (xv 3) (xv 9) (fun _ _ => rfl))))) a_nil)) m_nil))))
      (ds_one (ds_set hr.units (pvn 7) (d_setd hr.units (pvn 4) (xe 8) (d_callB call_lenA os_len (by rfl) z_len boot_len (a_cons (xv 4) a_nil))) (xv 5)))))
    (ds_cons (sA 3 nd (xe 7))
    (ds_cons (ds_if (t_cmp (op_eqA hr.units) os_eq (d_callB call_lenA os_len (by rfl) z_len boot_len (a_cons (xv 4) a_nil)) (xv 6) (nomark _))
      (ds_one (ds_ret (d_tup (m_cons (xm 3) (m_cons (xm 6) m_nil)))))
      ds_nil)
    (ds_one (sA 6 nd (d_callB call_lenA os_len (by rfl) z_len boot_len (a_cons (xv 4) a_nil)))))))))))))))) hm
/-! merged_machine: 0 steps, 1 marks, 2 order, 3 classes, 4 many, 5 first_of, 6 state, 7 numbers, 8 queue, 9 new_steps, 10 new_marks, 11 at, 12 row, 13 other, 14 home, 15 homes -/
abbrev s_merged_machine : Stmt := topS 3
abbrev N_merged_machine : List Str := ["steps", "marks", "order", "classes", "many", "first_of", "state", "numbers", "queue", "new_steps", "new_marks", "at", "row", "other", "home", "homes"]
abbrev P_merged_machine : List Str := ["steps", "marks"]
theorem sc_merged_machine : FnScope N_merged_machine P_merged_machine (defScope s_merged_machine) := ⟨rfl, rfl, rfl, by decide +kernel, rfl, by decide +kernel, by decide +kernel⟩
def W_merged_machine (sp_reached_order sp_merged_classes : DSp) : WS :=
  (wSeq (wAsg 2 (wCall sp_reached_order [none] (wConsM (wEsc (some 0) true (wVar 0)) wNil)))
  (wSeq (wAsgT (wCall sp_merged_classes [none, none, none] (wConsM (wEsc (some 0) true (wVar 0)) (wConsM (wEsc (some 2) true (wVar 2)) (wConsM (wEsc (some 1) true (wVar 1)) wNil)))) (gT 2 (gCons' (gN 3) (gCons' (gN 4) gNil'))))
  (wSeq (wAsg 5 (wOp2 (g2 true dMul) (wLst (wConsM (wC .non) wNil)) false (wVar 4) true false))
  (wSeq (wFor (wIt (wEsc (some 2) true (wVar 2))) (gN 6)
    (wIfS (wBool (wOp2 gIsN (wIx (wVar 5) true (wIx (wVar 3) true (wVar 6) false) false) true (wC .non) false false))
      (wSet 5 (wEsc (some 6) true (wVar 6)) (wIx (wVar 3) true (wVar 6) false))
      wSkip))
  (wSeq (wAsg 7 (wDisp [((wEsc none true (wIx (wVar 3) true (wC (.int 0)) false)), (wC (.int 0)))]))
  (wSeq (wAsg 8 (wLst (wConsM (wEsc none true (wIx (wVar 3) true (wC (.int 0)) false)) wNil)))
  (wSeq (wAsg 9 (wLst wNil))
  (wSeq (wAsg 10 (wLst wNil))
  (wSeq (wAsg 11 (wC (.int 0)))
  (wSeq (wWhile (wBool (wOp2 (g2 true dLt) (wVar 11) true (wOp (g1 false dLen) (wCons (wVar 8) true false wNil)) false false))
    (wSeq (wAsg 6 (wEsc none true (wIx (wVar 5) true (wIx (wVar 8) true (wVar 11) false) false)))
    (wSeq (wAug 11 (fun a b => a + b) (wC (.int 1)))
    (wSeq (wExpr (wApp 10 (wEsc none true (wIx (wVar 1) true (wVar 6) false))))
    (wSeq (wAsg 12 (wLst wNil))
    (wSeq (wFor (wIt (wEsc none true (wIx (wVar 0) true (wVar 6) false))) (gN 13)
      (wSeq (wAsg 14 (wEsc none true (wIx (wVar 3) true (wVar 13) false)))
      (wSeq (wIfS (wBool (wOp2 (g2 false dNotIn) (wVar 14) true (wVar 7) true false))
        (wSeq (wSet 7 (wOp (g1 false dLen) (wCons (wVar 8) true false wNil)) (wVar 14))
        (wExpr (wApp 8 (wEsc (some 14) true (wVar 14)))))
        wSkip)
      (wExpr (wApp 12 (wEsc none true (wIx (wVar 7) true (wVar 14) false)))))))
    (wExpr (wApp 9 (wOp (g1 true dTuple) (wCons (wVar 12) true false wNil))))))))))
  (wSeq (wAsg 15 (wLc (wIt (wEsc (some 3) true (wVar 3))) (gN 14) wYes (wIf (wBool (wOp2 (g2 true dLt) (wVar 14) true (wC (.int 0)) false false)) (wC .non) (wEsc none true (wIx (wVar 7) true (wVar 14) false))) [14]))
  (wRet (wTup (wConsM (wMov 9) (wConsM (wMov 10) (wConsM (wMov 15) wNil))))))))))))))))
theorem ok_merged_machine {f : Addr} {fd : FuncData} {sp : DSp} (F : Fun K "merged_machine" "merged_machine" s_merged_machine f fd) (z_len : mg "len" = none) (z_tuple : mg "tuple" = none) {f_reached_order : Addr} {fd_reached_order : FuncData} {sp_reached_order : DSp} (F_reached_order : Fun K "reached_order" "reached_order" s_reached_order f_reached_order fd_reached_order) (b_reached_order : Binds K fd_reached_order P_reached_order []) (a_reached_order : mg "reached_order" = some (.ref f_reached_order)) (G_reached_order : FnOk P w K mg base CX0 1 f_reached_order fd_reached_order P_reached_order (spD ⟨P, w, K⟩ 1 [false] sp_reached_order)) {f_merged_classes : Addr} {fd_merged_classes : FuncData} {sp_merged_classes : DSp} (F_merged_classes : Fun K "merged_classes" "merged_classes" s_merged_classes f_merged_classes fd_merged_classes) (b_merged_classes : Binds K fd_merged_classes P_merged_classes []) (a_merged_classes : mg "merged_classes" = some (.ref f_merged_classes)) (G_merged_classes : FnOk P w K mg base CX0 1 f_merged_classes fd_merged_classes P_merged_classes (spD ⟨P, w, K⟩ 3 [false, false, false] sp_merged_classes))
    (hm : ∀ ms Q, ms.length = 2 → sp ms Q → W_merged_machine sp_reached_order sp_merged_classes (endsF [false, false] Q) (env0 16 ms)) :
    FnOk P w K mg base CX0 2 f fd P_merged_machine (spD ⟨P, w, K⟩ 2 [false, false] sp) := by
  have nd := sc_merged_machine.nd
  exact fun_ok (io := [false, false]) (W := W_merged_machine sp_reached_order sp_merged_classes) F sc_merged_machine rfl (fun cdv A outer s H E hr => by
    unfold W_merged_machine
    exact
  (ds_cons (sA 2 nd (d_call G_reached_order (hr.mono (by decide)) (by rfl) a_reached_order F_reached_order.kp b_reached_order (m_cons (xe 0) m_nil) rfl rfl))
  (ds_cons (ds_asgT (d_call G_merged_classes (hr.mono (by decide)) (by rfl) a_merged_classes F_merged_classes.kp b_merged_classes (m_cons (xe 0) (m_cons (xe 2) (m_cons (xe 1) m_nil))) rfl rfl) (dt_tup rfl (dts_cons (gn 3 nd) (dts_cons (gn 4 nd) dts_nil))))
  (ds_cons (sA 5 nd (d_bin op_mul' os_mul (d_lst (m_cons d_non m_nil)) (xv 4)))
  (ds_cons (ds_for PassesOwn.never rfl (di_of (xe 2)) (gn 6 nd)
    (ds_one (ds_if (t_cmp op_isN os_isN (d_ix hr.units (xv 5) (d_ix hr.units (xv 3) (xv 6) (fun _ _ => rfl)) (fun _ _ => rfl)) d_non (nomark _))
      (ds_one (ds_set hr.units (pvn 5) (xe 6) (d_ix hr.units (xv 3) (xv 6) (fun _ _ => rfl))))
      ds_nil)))
  (ds_cons (sA 7 nd (d_disp (dp_cons (d_mt (d_view (d_ix hr.units (xv 3) d_int (fun _ _ => rfl)))) (d_mt d_int) dp_nil) (by decide)))
  (ds_cons (sA 8 nd (d_lst (m_cons (d_view (d_ix hr.units (xv 3) d_int (fun _ _ => rfl))) m_nil)))
  (ds_cons (sA 9 nd (d_lst m_nil))
  (ds_cons (sA 10 nd (d_lst m_nil))
  (ds_cons (sA 11 nd d_int)
  (ds_cons (ds_while PassesOwn.never (t_cmp op_lt' os_lt (xv 11) (d_callB call_lenA os_len (by rfl) z_len boot_len (a_cons (xv 8) a_nil)) (nomark _))
    (ds_cons (sA 6 nd (d_view (d_ix hr.units (xv 5) (d_ix hr.units (xv 8) (xv 11) (fun _ _ => rfl)) (fun _ _ => rfl))))
    (ds_cons (sAdd 11 nd d_int)
    (ds_cons (ds_expr (d_app (pvn 10) (d_view (d_ix hr.units (xv 1) (xv 6) (fun _ _ => rfl)))))
    (ds_cons (sA 12 nd (d_lst m_nil))
    (ds_cons (ds_for PassesOwn.never rfl (di_of (d_view (d_ix hr.units (xv 0) (xv 6) (fun _ _ => rfl)))) (gn 13 nd)
      (ds_cons (sA 14 nd (d_view (d_ix hr.units (xv 3) (xv 13) (fun _ _ => rfl))))
      (ds_cons (ds_if (t_cmp (op_notInA (Room.u65 hr)) os_notIn (xv 14) (xv 7) (by with_unfolding_all rfl))
        (ds_cons (ds_set hr.units (pvn 7) (d_callB call_lenA os_len (by rfl) z_len boot_len (a_cons (xv 8) a_nil)) (xv 14))
        (ds_one (ds_expr (d_app (pvn 8) (xe 14)))))
        ds_nil)
      (ds_one (ds_expr (d_app (pvn 12) (d_view (d_ix hr.units (xv 7) (xv 14) (fun _ _ => rfl)))))))))
    (ds_one (ds_expr (d_app (pvn 9) (d_callTy (call_tupleA rfl) os_tuple (by rfl) z_tuple boot_tuple (a_cons (xv 12) a_nil)))))))))))
  (ds_cons (ds_setLc (i := 15) (by decide) rfl nd rfl rfl (sw_true rfl rfl rfl (by decide +kernel)) (di_of (xe 3)) (blkOk_by (own := [("home", 14)]) (by first | decide +kernel | kernel_rfl | rfl)) (fun _ _ _ _ _ => (gn 14 nd)) (fun _ _ _ _ _ => dpts_nil) (fun _ _ _ _ _ => (d_ife (t_cmp op_lt' os_lt (xv 14) d_int (nomark _)) d_non (d_view (d_ix hr.units (xv 7) (xv 14) (fun _ _ => rfl))))))
  (ds_one (ds_ret (d_tup (m_cons (xm 9) (m_cons (xm 10) (m_cons (xm 15) m_nil)))))))))))))))))) hm
/-! first_homes: 0 homes, 1 many, 2 olds, 3 state, 4 home -/
abbrev s_first_homes : Stmt := topS 5
abbrev N_first_homes : List Str := ["homes", "many", "olds", "state", "home"]
abbrev P_first_homes : List Str := ["homes", "many"]
theorem sc_first_homes : FnScope N_first_homes P_first_homes (defScope s_first_homes) := ⟨rfl, rfl, rfl, by decide +kernel, rfl, by decide +kernel, by decide +kernel⟩
def W_first_homes : WS :=
  (wSeq (wAsg 2 (wOp2 (g2 true dMul) (wLst (wConsM (wC .non) wNil)) false (wVar 1) true false))
  (wSeq (wFor (wEnum (wEsc (some 0) true (wVar 0))) (gT 2 (gCons' (gN 3) (gCons' (gN 4) gNil')))
    (wIfS (wAndT (wBool (wOp2 gNotN (wVar 4) true (wC .non) false false)) (wBool (wOp2 gIsN (wIx (wVar 2) true (wVar 4) false) true (wC .non) false false)))
      (wSet 2 (wEsc (some 3) true (wVar 3)) (wVar 4))
      wSkip))
  (wRet (wMov 2))))
theorem ok_first_homes {f : Addr} {fd : FuncData} {sp : DSp} (F : Fun K "first_homes" "first_homes" s_first_homes f fd) (z_enumerate : mg "enumerate" = none)
    (hm : ∀ ms Q, ms.length = 2 → sp ms Q → W_first_homes  (endsF [false, false] Q) (env0 5 ms)) :
    FnOk P w K mg base CX0 1 f fd P_first_homes (spD ⟨P, w, K⟩ 2 [false, false] sp) := by
  have nd := sc_first_homes.nd
  exact fun_ok (io := [false, false]) (W := W_first_homes ) F sc_first_homes rfl (fun cdv A outer s H E hr => by
    unfold W_first_homes
    exact
  (ds_cons (sA 2 nd (d_bin op_mul' os_mul (d_lst (m_cons d_non m_nil)) (xv 1)))
  (ds_cons (ds_for PassesOwn.never rfl (di_enum (by rfl) z_enumerate (xe 0)) (dt_tup rfl (dts_cons (gn 3 nd) (dts_cons (gn 4 nd) dts_nil)))
    (ds_one (ds_if (PW.pt (w_and (t_cmp op_notN os_notN (xv 4) d_non (nomark _)) (w_and1 (t_cmp op_isN os_isN (d_ix hr.units (xv 2) (xv 4) (fun _ _ => rfl)) d_non (nomark _)))))
      (ds_one (ds_set hr.units (pvn 2) (xe 3) (xv 4)))
      ds_nil)))
  (ds_one (ds_ret (xm 2)))))) hm
/-! picked_rows: 0 table, 1 states, 2 rests, 3 many, 4 state, 5 rows, 6 rest, 7 marks -/
abbrev s_picked_rows : Stmt := topS 6
abbrev N_picked_rows : List Str := ["table", "states", "rests", "many", "state", "rows", "rest", "marks"]
abbrev P_picked_rows : List Str := ["table", "states", "rests", "many"]
theorem sc_picked_rows : FnScope N_picked_rows P_picked_rows (defScope s_picked_rows) := ⟨rfl, rfl, rfl, by decide +kernel, rfl, by decide +kernel, by decide +kernel⟩
def W_picked_rows : WS :=
  (wSeq (wIfS (wBool (wOp2 (g2 false dEq) (wVar 2) true (wLR1 (wVar 3)) false false))
    (wRet (wLc (wIt (wEsc (some 1) true (wVar 1))) (gN 4) wYes (wEsc none true (wIx (wVar 0) true (wVar 4) false)) [4]))
    wSkip)
  (wSeq (wAsg 5 (wLst wNil))
  (wSeq (wFor (wIt (wEsc (some 1) true (wVar 1))) (gN 4)
    (wExpr (wApp 5 (wOp (g1 true dTuple) (wCons (wLc (wIt (wEsc none true (wIx (wVar 0) true (wVar 4) false))) (gN 7) wYes (wOp2 (g2 false dJoin) (wOk "str" (wC (.str ""))) false (wLc (wIt (wEsc (some 2) true (wVar 2))) (gN 6) wYes (wEsc none true (wIx (wVar 7) true (wVar 6) false)) [6]) false false) [7]) false false wNil)))))
  (wRet (wMov 5)))))
theorem ok_picked_rows {f : Addr} {fd : FuncData} {sp : DSp} (F : Fun K "picked_rows" "picked_rows" s_picked_rows f fd) (z_list : mg "list" = none) (z_range : mg "range" = none) (z_tuple : mg "tuple" = none)
    (hm : ∀ ms Q, ms.length = 4 → sp ms Q → W_picked_rows  (endsF [false, false, false, false] Q) (env0 8 ms)) :
    FnOk P w K mg base CX0 1 f fd P_picked_rows (spD ⟨P, w, K⟩ 4 [false, false, false, false] sp) := by
  have nd := sc_picked_rows.nd
  exact fun_ok (io := [false, false, false, false]) (W := W_picked_rows ) F sc_picked_rows rfl (fun cdv A outer s H E hr => by
    unfold W_picked_rows
    exact
  (ds_cons (ds_if (t_cmp (op_eqA hr.units) os_eq (xv 2) (d_lr1 rfl (by rfl) z_list (by rfl) z_range (xv 3)) (nomark _))
    (ds_one (ds_ret (d_lc rfl nd (di_of (xe 1)) (blkOk_by (own := [("state", 4)]) (by first | decide +kernel | kernel_rfl | rfl)) (fun _ _ _ _ _ => (gn 4 nd)) (fun _ _ _ _ _ => dpts_nil) (fun _ _ _ _ _ => (d_view (d_ix hr.units (xv 0) (xv 4) (fun _ _ => rfl)))))))
    ds_nil)
  (ds_cons (sA 5 nd (d_lst m_nil))
  (ds_cons (ds_for PassesOwn.never rfl (di_of (xe 1)) (gn 4 nd)
    (ds_one (ds_expr (d_app (pvn 5) (d_callTy (call_tupleA rfl) os_tuple (by rfl) z_tuple boot_tuple (a_cons (d_lc rfl nd (di_of (d_view (d_ix hr.units (xv 0) (xv 4) (fun _ _ => rfl)))) (blkOk_by (own := [("marks", 7)]) (by first | decide +kernel | kernel_rfl | rfl)) (fun _ _ _ _ _ => (gn 7 nd)) (fun _ _ _ _ _ => dpts_nil) (fun _ _ _ _ _ => (d_join d_str (d_lc rfl nd (di_of (xe 2)) (blkOk_by (own := [("rest", 6)]) (by first | decide +kernel | kernel_rfl | rfl)) (fun _ _ _ _ _ => (gn 6 nd)) (fun _ _ _ _ _ => dpts_nil) (fun _ _ _ _ _ => (d_view (d_ix hr.units (xv 7) (xv 6) (fun _ _ => rfl)))))))) a_nil))))))
  (ds_one (ds_ret (xm 5))))))) hm
/-! least_readers: 0 readers, 1 letters, 2 forth, 3 back, 4 table, 5 order, 6 rests, 7 rows, 8 state, 9 row, 10 strings, 11 marks, 12 new_forth, 13 _, 14 forth_homes, 15 new_back, 16 back_homes, 17 states, 18 new_table -/
abbrev s_least_readers : Stmt := topS 7
abbrev N_least_readers : List Str := ["readers", "letters", "forth", "back", "table", "order", "rests", "rows", "state", "row", "strings", "marks", "new_forth", "_", "forth_homes", "new_back", "back_homes", "states", "new_table"]
abbrev P_least_readers : List Str := ["readers"]
theorem sc_least_readers : FnScope N_least_readers P_least_readers (defScope s_least_readers) := ⟨rfl, rfl, rfl, by decide +kernel, rfl, by decide +kernel, by decide +kernel⟩
def W_least_readers (sp_reached_order sp_merged_machine sp_first_homes sp_picked_rows : DSp) : WS :=
  (wSeq (wAsgT (wEsc (some 0) true (wVar 0)) (gT 4 (gCons' (gN 1) (gCons' (gN 2) (gCons' (gN 3) (gCons' (gN 4) gNil'))))))
  (wSeq (wAsg 5 (wCall sp_reached_order [none] (wConsM (wEsc (some 2) true (wVar 2)) wNil)))
  (wSeq (wAsg 6 (wOp (g1 false dSorted) (wCons (wCall sp_reached_order [none] (wConsM (wEsc (some 3) true (wVar 3)) wNil)) false false wNil)))
  (wSeq (wAsg 7 (wOp2 (g2 true dMul) (wLst (wConsM (wC .non) wNil)) false (wOp (g1 false dLen) (wCons (wVar 2) true false wNil)) false false))
  (wSeq (wFor (wZip (wEsc (some 5) true (wVar 5)) (wCall sp_picked_rows [none, none, none, none] (wConsM (wEsc (some 4) true (wVar 4)) (wConsM (wEsc (some 5) true (wVar 5)) (wConsM (wEsc (some 6) true (wVar 6)) (wConsM (wFrz (wOp (g1 false dLen) (wCons (wVar 3) true false wNil))) wNil)))))) (gT 2 (gCons' (gN 8) (gCons' (gN 9) gNil')))
    (wSet 7 (wEsc (some 9) true (wVar 9)) (wVar 8)))
  (wSeq (wAsg 10 (wLc2 (wIt (wEsc (some 5) true (wVar 5))) (gN 8) wYes (wIt (wEsc none true (wIx (wVar 4) true (wVar 8) false))) (gN 11) wYes (wEsc (some 11) true (wVar 11)) [8, 11] [11]))
  (wSeq (wAsgT (wCall sp_merged_machine [none, none] (wConsM (wEsc (some 2) true (wVar 2)) (wConsM (wEsc (some 7) true (wVar 7)) wNil))) (gT 3 (gCons' (gN 12) (gCons' (gN 13) (gCons' (gN 14) gNil')))))
  (wSeq (wAsgT (wCall sp_merged_machine [none, none] (wConsM (wEsc (some 3) true (wVar 3)) (wConsM (wFrz (wZipS (wVar 10))) wNil))) (gT 3 (gCons' (gN 15) (gCons' (gN 13) (gCons' (gN 16) gNil')))))
  (wSeq (wAsg 17 (wCall sp_first_homes [none, none] (wConsM (wEsc (some 14) true (wVar 14)) (wConsM (wFrz (wOp (g1 false dLen) (wCons (wVar 12) true false wNil))) wNil))))
  (wSeq (wAsg 6 (wCall sp_first_homes [none, none] (wConsM (wEsc (some 16) true (wVar 16)) (wConsM (wFrz (wOp (g1 false dLen) (wCons (wVar 15) true false wNil))) wNil))))
  (wSeq (wAsg 18 (wCall sp_picked_rows [none, none, none, none] (wConsM (wEsc (some 4) true (wVar 4)) (wConsM (wEsc (some 17) true (wVar 17)) (wConsM (wEsc (some 6) true (wVar 6)) (wConsM (wFrz (wOp (g1 false dLen) (wCons (wVar 3) true false wNil))) wNil))))))
  (wRet (wTup (wConsM (wMov 1) (wConsM (wOp (g1 true dTuple) (wCons (wVar 12) true false wNil)) (wConsM (wOp (g1 true dTuple) (wCons (wVar 15) true false wNil)) (wConsM (wOp (g1 true dTuple) (wCons (wVar 18) true false wNil)) wNil)))))))))))))))))
theorem ok_least_readers {f : Addr} {fd : FuncData} {sp : DSp} (F : Fun K "least_readers" "least_readers" s_least_readers f fd) (z_len : mg "len" = none) (z_list : mg "list" = none) (z_sorted : mg "sorted" = none) (z_tuple : mg "tuple" = none) (z_zip : mg "zip" = none) {f_reached_order : Addr} {fd_reached_order : FuncData} {sp_reached_order : DSp} (F_reached_order : Fun K "reached_order" "reached_order" s_reached_order f_reached_order fd_reached_order) (b_reached_order : Binds K fd_reached_order P_reached_order []) (a_reached_order : mg "reached_order" = some (.ref f_reached_order)) (G_reached_order : FnOk P w K mg base CX0 1 f_reached_order fd_reached_order P_reached_order (spD ⟨P, w, K⟩ 1 [false] sp_reached_order)) {f_merged_machine : Addr} {fd_merged_machine : FuncData} {sp_merged_machine : DSp} (F_merged_machine : Fun K "merged_machine" "merged_machine" s_merged_machine f_merged_machine fd_merged_machine) (b_merged_machine : Binds K fd_merged_machine P_merged_machine []) (a_merged_machine : mg "merged_machine" = some (.ref f_merged_machine)) (G_merged_machine : FnOk P w K mg base CX0 2 f_merged_machine fd_merged_machine P_merged_machine (spD ⟨P, w, K⟩ 2 [false, false] sp_merged_machine)) {f_first_homes : Addr} {fd_first_homes : FuncData} {sp_first_homes : DSp} (F_first_homes : Fun K "first_homes" "first_homes" s_first_homes f_first_homes fd_first_homes) (b_first_homes : Binds K fd_first_homes P_first_homes []) (a_first_homes : mg "first_homes" = some (.ref f_first_homes)) (G_first_homes : FnOk P w K mg base CX0 1 f_first_homes fd_first_homes P_first_homes (spD ⟨P, w, K⟩ 2 [false, false] sp_first_homes)) {f_picked_rows : Addr} {fd_picked_rows : FuncData} {sp_picked_rows : DSp} (F_picked_rows : Fun K "picked_rows" "picked_rows" s_picked_rows f_picked_rows fd_picked_rows) (b_picked_rows : Binds K fd_picked_rows P_picked_rows []) (a_picked_rows : mg "picked_rows" = some (.ref f_picked_rows)) (G_picked_rows : FnOk P w K mg base CX0 1 f_picked_rows fd_picked_rows P_picked_rows (spD ⟨P, w, K⟩ 4 [false, false, false, false] sp_picked_rows))
    (hm : ∀ ms Q, ms.length = 1 → sp ms Q → W_least_readers sp_reached_order sp_merged_machine sp_first_homes sp_picked_rows (endsF [false] Q) (env0 19 ms)) :
    FnOk P w K mg base CX0 3 f fd P_least_readers (spD ⟨P, w, K⟩ 1 [false] sp) := by
  have nd := sc_least_readers.nd
  exact fun_ok (io := [false]) (W := W_least_readers sp_reached_order sp_merged_machine sp_first_homes sp_picked_rows) F sc_least_readers rfl (fun cdv A outer s H E hr => by
    unfold W_least_readers
    exact
  (ds_cons (ds_asgT (xe 0) (dt_tup rfl (dts_cons (gn 1 nd) (dts_cons (gn 2 nd) (dts_cons (gn 3 nd) (dts_cons (gn 4 nd) dts_nil))))))
  (ds_cons (sA 5 nd (d_call G_reached_order (hr.mono (by decide)) (by rfl) a_reached_order F_reached_order.kp b_reached_order (m_cons (xe 2) m_nil) rfl rfl))
  (ds_cons (sA 6 nd (d_callB cr_sortedI os_sorted (by rfl) z_sorted boot_sorted (a_cons (d_call G_reached_order (hr.mono (by decide)) (by rfl) a_reached_order F_reached_order.kp b_reached_order (m_cons (xe 3) m_nil) rfl rfl) a_nil)))
  (ds_cons (sA 7 nd (d_bin op_mul' os_mul (d_lst (m_cons d_non m_nil)) (d_callB call_lenA os_len (by rfl) z_len boot_len (a_cons (xv 2) a_nil))))
  (ds_cons (ds_for PassesOwn.never rfl (di_zip (by rfl) z_zip (xe 5) (d_call G_picked_rows (hr.mono (by decide)) (by rfl) a_picked_rows F_picked_rows.kp b_picked_rows (m_cons (xe 4) (m_cons (xe 5) (m_cons (xe 6) (m_cons (d_frz (d_callB call_lenA os_len (by rfl) z_len boot_len (a_cons (xv 3) a_nil))) m_nil)))) rfl rfl)) (dt_tup rfl (dts_cons (gn 8 nd) (dts_cons (gn 9 nd) dts_nil)))
    (ds_one (ds_set hr.units (pvn 7) (xe 9) (xv 8))))
  (ds_cons (ds_setLc2 (i := 10) (by decide) rfl nd rfl rfl (sw_true rfl rfl rfl (by decide +kernel)) (di_of (xe 5)) (blkOk_by (own := [("state", 8), ("marks", 11)]) (by first | decide +kernel | kernel_rfl | rfl)) (vs1 := [11]) (by decide) (fun _ _ _ _ _ => (gn 8 nd)) (fun _ _ _ _ _ => dpts_nil) (fun _ _ _ _ _ => (di_of (d_view (d_ix hr.units (xv 4) (xv 8) (fun _ _ => rfl))))) (fun _ _ _ _ _ => (gn 11 nd)) (fun _ _ _ _ _ => dpts_nil) (fun _ _ _ _ _ => (xe 11)))
  (ds_cons (ds_asgT (d_call G_merged_machine (hr.mono (by decide)) (by rfl) a_merged_machine F_merged_machine.kp b_merged_machine (m_cons (xe 2) (m_cons (xe 7) m_nil)) rfl rfl) (dt_tup rfl (dts_cons (gn 12 nd) (dts_cons (gn 13 nd) (dts_cons (gn 14 nd) dts_nil)))))
  (ds_cons (ds_asgT (d_call G_merged_machine (hr.mono (by decide)) (by rfl) a_merged_machine F_merged_machine.kp b_merged_machine (m_cons (xe 3) (m_cons (d_frz (d_zipS rfl (xv 10) (by rfl) z_list (by rfl) z_zip)) m_nil)) rfl rfl) (dt_tup rfl (dts_cons (gn 15 nd) (dts_cons (gn 13 nd) (dts_cons (gn 16 nd) dts_nil)))))
  (ds_cons (sA 17 nd (d_call G_first_homes (hr.mono (by decide)) (by rfl) a_first_homes F_first_homes.kp b_first_homes (m_cons (xe 14) (m_cons (d_frz (d_callB call_lenA os_len (by rfl) z_len boot_len (a_cons (xv 12) a_nil))) m_nil)) rfl rfl))
  (ds_cons (sA 6 nd (d_call G_first_homes (hr.mono (by decide)) (by rfl) a_first_homes F_first_homes.kp b_first_homes (m_cons (xe 16) (m_cons (d_frz (d_callB call_lenA os_len (by rfl) z_len boot_len (a_cons (xv 15) a_nil))) m_nil)) rfl rfl))
  (ds_cons (sA 18 nd (d_call G_picked_rows (hr.mono (by decide)) (by rfl) a_picked_rows F_picked_rows.kp b_picked_rows (m_cons (xe 4) (m_cons (xe 17) (m_cons (xe 6) (m_cons (d_frz (d_callB call_lenA os_len (by rfl) z_len boot_len (a_cons (xv 3) a_nil))) m_nil)))) rfl rfl))
  (ds_one (ds_ret (d_tup (m_cons (xm 1) (m_cons (d_callTy (call_tupleA rfl) os_tuple (by rfl) z_tuple boot_tuple (a_cons (xv 12) a_nil)) (m_cons (d_callTy (call_tupleA rfl) os_tuple (by rfl) z_tuple boot_tuple (a_cons (xv 15) a_nil)) (m_cons (d_callTy (call_tupleA rfl) os_tuple (by rfl) z_tuple boot_tuple (a_cons (xv 18) a_nil)) m_nil))))))))))))))))))) hm
/-! letter_places: 0 letters, 1 place, 2 letter -/
abbrev s_letter_places : Stmt := topS 9
abbrev N_letter_places : List Str := ["letters", "place", "letter"]
abbrev P_letter_places : List Str := ["letters"]
theorem sc_letter_places : FnScope N_letter_places P_letter_places (defScope s_letter_places) := ⟨rfl, rfl, rfl, by decide +kernel, rfl, by decide +kernel, by decide +kernel⟩
def W_letter_places : WS :=
  (wRet (wDc (wEnum (wEsc (some 0) true (wVar 0))) (gT 2 (gCons' (gN 1) (gCons' (gN 2) gNil'))) wYes (wEsc (some 2) true (wVar 2)) (wEsc (some 1) true (wVar 1)) [1, 2]))
theorem ok_letter_places {f : Addr} {fd : FuncData} {sp : DSp} (F : Fun K "letter_places" "letter_places" s_letter_places f fd) (z_enumerate : mg "enumerate" = none)
    (hm : ∀ ms Q, ms.length = 1 → sp ms Q → W_letter_places  (endsF [false] Q) (env0 3 ms)) :
    FnOk P w K mg base CX0 1 f fd P_letter_places (spD ⟨P, w, K⟩ 1 [false] sp) := by
  have nd := sc_letter_places.nd
  exact fun_ok (io := [false]) (W := W_letter_places ) F sc_letter_places rfl (fun cdv A outer s H E hr => by
    unfold W_letter_places
    exact
  (ds_one (ds_ret (d_dc rfl nd (di_enum (by rfl) z_enumerate (xe 0)) (blkOk_by (own := [("place", 1), ("letter", 2)]) (by first | decide +kernel | kernel_rfl | rfl)) (fun _ _ _ _ _ => (dt_tup rfl (dts_cons (gn 1 nd) (dts_cons (gn 2 nd) dts_nil)))) (fun _ _ _ _ _ => dpts_nil) (fun _ _ _ _ _ => (xe 2)) (fun _ _ _ _ _ => (xe 1)))))) hm
/-! letter_numbers: 0 letters, 1 text, 2 places, 3 letter -/
abbrev s_letter_numbers : Stmt := topS 11
abbrev N_letter_numbers : List Str := ["letters", "text", "places", "letter"]
abbrev P_letter_numbers : List Str := ["letters", "text"]
theorem sc_letter_numbers : FnScope N_letter_numbers P_letter_numbers (defScope s_letter_numbers) := ⟨rfl, rfl, rfl, by decide +kernel, rfl, by decide +kernel, by decide +kernel⟩
def W_letter_numbers (sp_letter_places : DSp) : WS :=
  (wSeq (wAsg 2 (wCall sp_letter_places [none] (wConsM (wEsc (some 0) true (wVar 0)) wNil)))
  (wRet (wLc (wIt (wEsc (some 1) true (wVar 1))) (gN 3) wYes (wEsc none true (wIx (wVar 2) true (wVar 3) false)) [3])))
theorem ok_letter_numbers {f : Addr} {fd : FuncData} {sp : DSp} (F : Fun K "letter_numbers" "letter_numbers" s_letter_numbers f fd) {f_letter_places : Addr} {fd_letter_places : FuncData} {sp_letter_places : DSp} (F_letter_places : Fun K "letter_places" "letter_places" s_letter_places f_letter_places fd_letter_places) (b_letter_places : Binds K fd_letter_places P_letter_places []) (a_letter_places : mg "letter_places" = some (.ref f_letter_places)) (G_letter_places : FnOk P w K mg base CX0 1 f_letter_places fd_letter_places P_letter_places (spD ⟨P, w, K⟩ 1 [false] sp_letter_places))
    (hm : ∀ ms Q, ms.length = 2 → sp ms Q → W_letter_numbers sp_letter_places (endsF [false, false] Q) (env0 4 ms)) :
    FnOk P w K mg base CX0 2 f fd P_letter_numbers (spD ⟨P, w, K⟩ 2 [false, false] sp) := by
  have nd := sc_letter_numbers.nd
  exact fun_ok (io := [false, false]) (W := W_letter_numbers sp_letter_places) F sc_letter_numbers rfl (fun cdv A outer s H E hr => by
    unfold W_letter_numbers
    exact
  (ds_cons (sA 2 nd (d_call G_letter_places (hr.mono (by decide)) (by rfl) a_letter_places F_letter_places.kp b_letter_places (m_cons (xe 0) m_nil) rfl rfl))
  (ds_one (ds_ret (d_lc rfl nd (di_of (xe 1)) (blkOk_by (own := [("letter", 3)]) (by first | decide +kernel | kernel_rfl | rfl)) (fun _ _ _ _ _ => (gn 3 nd)) (fun _ _ _ _ _ => dpts_nil) (fun _ _ _ _ _ => (d_view (d_ix hr.units (xv 2) (xv 3) (fun _ _ => rfl))))))))) hm
/-! states_along: 0 steps, 1 numbers, 2 state, 3 states, 4 number -/
abbrev s_states_along : Stmt := topS 12
abbrev N_states_along : List Str := ["steps", "numbers", "state", "states", "number"]
abbrev P_states_along : List Str := ["steps", "numbers"]
theorem sc_states_along : FnScope N_states_along P_states_along (defScope s_states_along) := ⟨rfl, rfl, rfl, by decide +kernel, rfl, by decide +kernel, by decide +kernel⟩
def W_states_along : WS :=
  (wSeq (wAsg 2 (wC (.int 0)))
  (wSeq (wAsg 3 (wLst (wConsM (wC (.int 0)) wNil)))
  (wSeq (wFor (wIt (wEsc (some 1) true (wVar 1))) (gN 4)
    (wSeq (wAsg 2 (wEsc none true (wIx (wIx (wVar 0) true (wVar 2) false) true (wVar 4) false)))
    (wExpr (wApp 3 (wEsc (some 2) true (wVar 2))))))
  (wRet (wMov 3)))))
theorem ok_states_along {f : Addr} {fd : FuncData} {sp : DSp} (F : Fun K "states_along" "states_along" s_states_along f fd) 
    (hm : ∀ ms Q, ms.length = 2 → sp ms Q → W_states_along  (endsF [false, false] Q) (env0 5 ms)) :
    FnOk P w K mg base CX0 1 f fd P_states_along (spD ⟨P, w, K⟩ 2 [false, false] sp) := by
  have nd := sc_states_along.nd
  exact fun_ok (io := [false, false]) (W := W_states_along ) F sc_states_along rfl (fun cdv A outer s H E hr => by
    unfold W_states_along
    exact
  (ds_cons (sA 2 nd d_int)
  (ds_cons (sA 3 nd (d_lst (m_cons d_int m_nil)))
  (ds_cons (ds_for PassesOwn.never rfl (di_of (xe 1)) (gn 4 nd)
    (ds_cons (sA 2 nd (d_view (d_ix hr.units (d_ix hr.units (xv 0) (xv 2) (fun _ _ => rfl)) (xv 4) (fun _ _ => rfl))))
    (ds_one (ds_expr (d_app (pvn 3) (xe 2))))))
  (ds_one (ds_ret (xm 3))))))) hm
/-! marks_by: 0 readers, 1 text, 2 letters, 3 forth, 4 back, 5 table, 6 numbers, 7 rests, 8 told, 9 state, 10 place, 11 number -/
abbrev s_marks_by : Stmt := topS 13
abbrev N_marks_by : List Str := ["readers", "text", "letters", "forth", "back", "table", "numbers", "rests", "told", "state", "place", "number"]
abbrev P_marks_by : List Str := ["readers", "text"]
theorem sc_marks_by : FnScope N_marks_by P_marks_by (defScope s_marks_by) := ⟨rfl, rfl, rfl, by decide +kernel, rfl, by decide +kernel, by decide +kernel⟩
def W_marks_by (sp_letter_numbers sp_states_along : DSp) : WS :=
  (wSeq (wAsgT (wEsc (some 0) true (wVar 0)) (gT 4 (gCons' (gN 2) (gCons' (gN 3) (gCons' (gN 4) (gCons' (gN 5) gNil'))))))
  (wSeq (wAsg 6 (wCall sp_letter_numbers [none, none] (wConsM (wEsc (some 2) true (wVar 2)) (wConsM (wEsc (some 1) true (wVar 1)) wNil))))
  (wSeq (wAsg 7 (wOp1 (g1 true dRevL) (wCall sp_states_along [none, none] (wConsM (wEsc (some 4) true (wVar 4)) (wConsM (wFrz (wOp1 (g1 true dRevL) (wVar 6) true)) wNil))) false))
  (wSeq (wAsg 8 (wLst wNil))
  (wSeq (wAsg 9 (wC (.int 0)))
  (wSeq (wFor (wEnum (wEsc (some 6) true (wVar 6))) (gT 2 (gCons' (gN 10) (gCons' (gN 11) gNil')))
    (wSeq (wExpr (wApp 8 (wEsc none true (wIx (wIx (wIx (wVar 5) true (wVar 9) false) true (wVar 11) false) true (wIx (wVar 7) true (wOp2 (g2 true dAdd) (wVar 10) true (wC (.int 1)) false false) false) false))))
    (wAsg 9 (wEsc none true (wIx (wIx (wVar 3) true (wVar 9) false) true (wVar 11) false)))))
  (wRet (wOp2 (g2 false dJoin) (wOk "str" (wC (.str ""))) false (wVar 8) true false))))))))
theorem ok_marks_by {f : Addr} {fd : FuncData} {sp : DSp} (F : Fun K "marks_by" "marks_by" s_marks_by f fd) (z_enumerate : mg "enumerate" = none) {f_letter_numbers : Addr} {fd_letter_numbers : FuncData} {sp_letter_numbers : DSp} (F_letter_numbers : Fun K "letter_numbers" "letter_numbers" s_letter_numbers f_letter_numbers fd_letter_numbers) (b_letter_numbers : Binds K fd_letter_numbers P_letter_numbers []) (a_letter_numbers : mg "letter_numbers" = some (.ref f_letter_numbers)) (G_letter_numbers : FnOk P w K mg base CX0 2 f_letter_numbers fd_letter_numbers P_letter_numbers (spD ⟨P, w, K⟩ 2 [false, false] sp_letter_numbers)) {f_states_along : Addr} {fd_states_along : FuncData} {sp_states_along : DSp} (F_states_along : Fun K "states_along" "states_along" s_states_along f_states_along fd_states_along) (b_states_along : Binds K fd_states_along P_states_along []) (a_states_along : mg "states_along" = some (.ref f_states_along)) (G_states_along : FnOk P w K mg base CX0 1 f_states_along fd_states_along P_states_along (spD ⟨P, w, K⟩ 2 [false, false] sp_states_along))
    (hm : ∀ ms Q, ms.length = 2 → sp ms Q → W_marks_by sp_letter_numbers sp_states_along (endsF [false, false] Q) (env0 12 ms)) :
    FnOk P w K mg base CX0 3 f fd P_marks_by (spD ⟨P, w, K⟩ 2 [false, false] sp) := by
  have nd := sc_marks_by.nd
  exact fun_ok (io := [false, false]) (W := W_marks_by sp_letter_numbers sp_states_along) F sc_marks_by rfl (fun cdv A outer s H E hr => by
    unfold W_marks_by
    exact
  (ds_cons (ds_asgT (xe 0) (dt_tup rfl (dts_cons (gn 2 nd) (dts_cons (gn 3 nd) (dts_cons (gn 4 nd) (dts_cons (gn 5 nd) dts_nil))))))
  (ds_cons (sA 6 nd (d_call G_letter_numbers (hr.mono (by decide)) (by rfl) a_letter_numbers F_letter_numbers.kp b_letter_numbers (m_cons (xe 2) (m_cons (xe 1) m_nil)) rfl rfl))
  (ds_cons (sA 7 nd (d_revL (d_call G_states_along (hr.mono (by decide)) (by rfl) a_states_along F_states_along.kp b_states_along (m_cons (xe 4) (m_cons (d_frz (d_revL (xv 6))) m_nil)) rfl rfl)))
  (ds_cons (sA 8 nd (d_lst m_nil))
  (ds_cons (sA 9 nd d_int)
  (ds_cons (ds_for PassesOwn.never rfl (di_enum (by rfl) z_enumerate (xe 6)) (dt_tup rfl (dts_cons (gn 10 nd) (dts_cons (gn 11 nd) dts_nil)))
    (ds_cons (ds_expr (d_app (pvn 8) (d_view (d_ix hr.units (d_ix hr.units (d_ix hr.units (xv 5) (xv 9) (fun _ _ => rfl)) (xv 11) (fun _ _ => rfl)) (d_ix hr.units (xv 7) (d_bin op_add' os_add (xv 10) d_int) (fun _ _ => rfl)) (fun _ _ => rfl)))))
    (ds_one (sA 9 nd (d_view (d_ix hr.units (d_ix hr.units (xv 3) (xv 9) (fun _ _ => rfl)) (xv 11) (fun _ _ => rfl)))))))
  (ds_one (ds_ret (d_join d_str (xv 8))))))))))) hm
/-! told_marks: 0 least, 1 state, 2 numbers, 3 rest, 4 _, 5 forth, 6 back, 7 table, 8 rests, 9 number, 10 told, 11 place -/
abbrev s_told_marks : Stmt := topS 15
abbrev N_told_marks : List Str := ["least", "state", "numbers", "rest", "_", "forth", "back", "table", "rests", "number", "told", "place"]
abbrev P_told_marks : List Str := ["least", "state", "numbers", "rest"]
theorem sc_told_marks : FnScope N_told_marks P_told_marks (defScope s_told_marks) := ⟨rfl, rfl, rfl, by decide +kernel, rfl, by decide +kernel, by decide +kernel⟩
def W_told_marks : WS :=
  (wSeq (wAsgT (wEsc (some 0) true (wVar 0)) (gT 4 (gCons' (gN 4) (gCons' (gN 5) (gCons' (gN 6) (gCons' (gN 7) gNil'))))))
  (wSeq (wAsg 8 (wLst (wConsM (wEsc (some 3) true (wVar 3)) wNil)))
  (wSeq (wFor (wIt (wOp1 (g1 true dRevL) (wVar 2) true)) (gN 9)
    (wExpr (wApp 8 (wEsc none true (wIx (wIx (wVar 6) true (wIx (wVar 8) true (wOp1 (g1 true dNeg) (wC (.int 1)) false) false) false) true (wVar 9) false)))))
  (wSeq (wAsg 10 (wLst wNil))
  (wSeq (wFor (wEnum (wEsc (some 2) true (wVar 2))) (gT 2 (gCons' (gN 11) (gCons' (gN 9) gNil')))
    (wSeq (wExpr (wApp 10 (wEsc none true (wIx (wIx (wIx (wVar 7) true (wVar 1) false) true (wVar 9) false) true (wIx (wVar 8) true (wOp2 (g2 true dSub) (wOp2 (g2 true dSub) (wOp (g1 false dLen) (wCons (wVar 2) true false wNil)) false (wC (.int 1)) false false) false (wVar 11) true false) false) false))))
    (wAsg 1 (wEsc none true (wIx (wIx (wVar 5) true (wVar 1) false) true (wVar 9) false)))))
  (wRet (wTup (wConsM (wOp2 (g2 false dJoin) (wOk "str" (wC (.str ""))) false (wVar 10) true false) (wConsM (wMov 1) wNil)))))))))
theorem ok_told_marks {f : Addr} {fd : FuncData} {sp : DSp} (F : Fun K "told_marks" "told_marks" s_told_marks f fd) (z_enumerate : mg "enumerate" = none) (z_len : mg "len" = none)
    (hm : ∀ ms Q, ms.length = 4 → sp ms Q → W_told_marks  (endsF [false, false, false, false] Q) (env0 12 ms)) :
    FnOk P w K mg base CX0 1 f fd P_told_marks (spD ⟨P, w, K⟩ 4 [false, false, false, false] sp) := by
  have nd := sc_told_marks.nd
  exact fun_ok (io := [false, false, false, false]) (W := W_told_marks ) F sc_told_marks rfl (fun cdv A outer s H E hr => by
    unfold W_told_marks
    exact
  (ds_cons (ds_asgT (xe 0) (dt_tup rfl (dts_cons (gn 4 nd) (dts_cons (gn 5 nd) (dts_cons (gn 6 nd) (dts_cons (gn 7 nd) dts_nil))))))
  (ds_cons (sA 8 nd (d_lst (m_cons (xe 3) m_nil)))
  (ds_cons (ds_for PassesOwn.never rfl (di_of (d_revL (xv 2))) (gn 9 nd)
    (ds_one (ds_expr (d_app (pvn 8) (d_view (d_ix hr.units (d_ix hr.units (xv 6) (d_ix hr.units (xv 8) (d_un un_neg os_neg d_int) (fun _ _ => rfl)) (fun _ _ => rfl)) (xv 9) (fun _ _ => rfl)))))))
  (ds_cons (sA 10 nd (d_lst m_nil))
  (ds_cons (ds_for PassesOwn.never rfl (di_enum (by rfl) z_enumerate (xe 2)) (dt_tup rfl (dts_cons (gn 11 nd) (dts_cons (gn 9 nd) dts_nil)))
    (ds_cons (ds_expr (d_app (pvn 10) (d_view (d_ix hr.units (d_ix hr.units (d_ix hr.units (xv 7) (xv 1) (fun _ _ => rfl)) (xv 9) (fun _ _ => rfl)) (d_ix hr.units (xv 8) (d_bin op_sub os_sub (d_bin op_sub os_sub (d_callB call_lenA os_len (by rfl) z_len boot_len (a_cons (xv 2) a_nil)) d_int) (xv 11)) (fun _ _ => rfl)) (fun _ _ => rfl)))))
    (ds_one (sA 1 nd (d_view (d_ix hr.units (d_ix hr.units (xv 5) (xv 1) (fun _ _ => rfl)) (xv 9) (fun _ _ => rfl)))))))
  (ds_one (ds_ret (d_tup (m_cons (d_join d_str (xv 10)) (m_cons (xm 1) m_nil))))))))))) hm
/-! marks_by_parts: 0 readers, 1 texts, 2 least, 3 parted, 4 text, 5 rests, 6 numbers, 7 rest, 8 number, 9 told, 10 state, 11 place, 12 marks -/
abbrev s_marks_by_parts : Stmt := topS 16
abbrev N_marks_by_parts : List Str := ["readers", "texts", "least", "parted", "text", "rests", "numbers", "rest", "number", "told", "state", "place", "marks"]
abbrev P_marks_by_parts : List Str := ["readers", "texts"]
theorem sc_marks_by_parts : FnScope N_marks_by_parts P_marks_by_parts (defScope s_marks_by_parts) := ⟨rfl, rfl, rfl, by decide +kernel, rfl, by decide +kernel, by decide +kernel⟩
def W_marks_by_parts (sp_least_readers sp_letter_numbers sp_told_marks : DSp) : WS :=
  (wSeq (wAsg 2 (wCall sp_least_readers [none] (wConsM (wEsc (some 0) true (wVar 0)) wNil)))
  (wSeq (wAsg 3 (wLc (wIt (wEsc (some 1) true (wVar 1))) (gN 4) wYes (wFrz (wCall sp_letter_numbers [none, none] (wConsM (wFrz (wEsc none true (wIx (wVar 2) true (wC (.int 0)) false))) (wConsM (wEsc (some 4) true (wVar 4)) wNil)))) [4]))
  (wSeq (wAsg 5 (wLst (wConsM (wC (.int 0)) wNil)))
  (wSeq (wFor (wIt (wOp1 (g1 true dRevL) (wVar 3) true)) (gN 6)
    (wSeq (wAsg 7 (wEsc none true (wIx (wVar 5) true (wOp1 (g1 true dNeg) (wC (.int 1)) false) false)))
    (wSeq (wFor (wIt (wOp1 (g1 true dRevL) (wVar 6) true)) (gN 8)
      (wAsg 7 (wEsc none true (wIx (wIx (wIx (wVar 2) true (wC (.int 2)) false) true (wVar 7) false) true (wVar 8) false))))
    (wExpr (wApp 5 (wEsc (some 7) true (wVar 7)))))))
  (wSeq (wAsg 9 (wLst wNil))
  (wSeq (wAsg 10 (wC (.int 0)))
  (wSeq (wFor (wEnum (wEsc (some 3) true (wVar 3))) (gT 2 (gCons' (gN 11) (gCons' (gN 6) gNil')))
    (wSeq (wAsgT (wCall sp_told_marks [none, none, none, none] (wConsM (wEsc (some 2) true (wVar 2)) (wConsM (wEsc (some 10) true (wVar 10)) (wConsM (wEsc (some 6) true (wVar 6)) (wConsM (wFrz (wEsc none true (wIx (wVar 5) true (wOp2 (g2 true dSub) (wOp2 (g2 true dSub) (wOp (g1 false dLen) (wCons (wVar 3) true false wNil)) false (wC (.int 1)) false false) false (wVar 11) true false) false))) wNil))))) (gT 2 (gCons' (gN 12) (gCons' (gN 10) gNil'))))
    (wExpr (wApp 9 (wEsc (some 12) true (wVar 12))))))
  (wRet (wOp2 (g2 false dJoin) (wOk "str" (wC (.str ""))) false (wVar 9) true false)))))))))
theorem ok_marks_by_parts {f : Addr} {fd : FuncData} {sp : DSp} (F : Fun K "marks_by_parts" "marks_by_parts" s_marks_by_parts f fd) (z_enumerate : mg "enumerate" = none) (z_len : mg "len" = none) {f_least_readers : Addr} {fd_least_readers : FuncData} {sp_least_readers : DSp} (F_least_readers : Fun K "least_readers" "least_readers" s_least_readers f_least_readers fd_least_readers) (b_least_readers : Binds K fd_least_readers P_least_readers []) (a_least_readers : mg "least_readers" = some (.ref f_least_readers)) (G_least_readers : FnOk P w K mg base CX0 3 f_least_readers fd_least_readers P_least_readers (spD ⟨P, w, K⟩ 1 [false] sp_least_readers)) {f_letter_numbers : Addr} {fd_letter_numbers : FuncData} {sp_letter_numbers : DSp} (F_letter_numbers : Fun K "letter_numbers" "letter_numbers" s_letter_numbers f_letter_numbers fd_letter_numbers) (b_letter_numbers : Binds K fd_letter_numbers P_letter_numbers []) (a_letter_numbers : mg "letter_numbers" = some (.ref f_letter_numbers)) (G_letter_numbers : FnOk P w K mg base CX0 2 f_letter_numbers fd_letter_numbers P_letter_numbers (spD ⟨P, w, K⟩ 2 [false, false] sp_letter_numbers)) {f_told_marks : Addr} {fd_told_marks : FuncData} {sp_told_marks : DSp} (F_told_marks : Fun K "told_marks" "told_marks" s_told_marks f_told_marks fd_told_marks) (b_told_marks : Binds K fd_told_marks P_told_marks []) (a_told_marks : mg "told_marks" = some (.ref f_told_marks)) (G_told_marks : FnOk P w K mg base CX0 1 f_told_marks fd_told_marks P_told_marks (spD ⟨P, w, K⟩ 4 [false, false, false, false] sp_told_marks))
    (hm : ∀ ms Q, ms.length = 2 → sp ms Q → W_marks_by_parts sp_least_readers sp_letter_numbers sp_told_marks (endsF [false, false] Q) (env0 13 ms)) :
    FnOk P w K mg base CX0 4 f fd P_marks_by_parts (spD ⟨P, w, K⟩ 2 [false, false] sp) := by
  have nd := sc_marks_by_parts.nd
  exact fun_ok (io := [false, false]) (W := W_marks_by_parts sp_least_readers sp_letter_numbers sp_told_marks) F sc_marks_by_parts rfl (fun cdv A outer s H E hr => by
    unfold W_marks_by_parts
    exact
  (ds_cons (sA 2 nd (d_call G_least_readers (hr.mono (by decide)) (by rfl) a_least_readers F_least_readers.kp b_least_readers (m_cons (xe 0) m_nil) rfl rfl))
  (ds_cons (ds_setLc (i := 3) (by decide) rfl nd rfl rfl (sw_true rfl rfl rfl (by decide +kernel)) (di_of (xe 1)) (blkOk_by (own := [("text", 4)]) (by first | decide +kernel | kernel_rfl | rfl)) (fun _ _ _ _ _ => (gn 4 nd)) (fun _ _ _ _ _ => dpts_nil) (fun _ _ _ _ _ => (d_frz (d_call G_letter_numbers (hr.mono (by decide)) (by rfl) a_letter_numbers F_letter_numbers.kp b_letter_numbers (m_cons (d_frz (d_view (d_ix hr.units (xv 2) d_int (fun _ _ => rfl)))) (m_cons (xe 4) m_nil)) rfl rfl))))
  (ds_cons (sA 5 nd (d_lst (m_cons d_int m_nil)))
  (ds_cons (ds_for PassesOwn.never rfl (di_of (d_revL (xv 3))) (gn 6 nd)
    (ds_cons (sA 7 nd (d_view (d_ix hr.units (xv 5) (d_un un_neg os_neg d_int) (fun _ _ => rfl))))
    (ds_cons (ds_for PassesOwn.never rfl (di_of (d_revL (xv 6))) (gn 8 nd)
      (ds_one (sA 7 nd (d_view (d_ix hr.units (d_ix hr.units (d_ix hr.units (xv 2) d_int (fun _ _ => rfl)) (xv 7) (fun _ _ => rfl)) (xv 8) (fun _ _ => rfl))))))
    (ds_one (ds_expr (d_app (pvn 5) (xe 7)))))))
  (ds_cons (sA 9 nd (d_lst m_nil))
  (ds_cons (sA 10 nd d_int)
  (ds_cons (ds_for PassesOwn.never rfl (di_enum (by rfl) z_enumerate (xe 3)) (dt_tup rfl (dts_cons (gn 11 nd) (dts_cons (gn 6 nd) dts_nil)))
    (ds_cons (ds_asgT (d_call G_told_marks (hr.mono (by decide)) (by rfl) a_told_marks F_told_marks.kp b_told_marks (m_cons (xe 2) (m_cons (xe 10) (m_cons (xe 6) (m_cons (d_frz (d_view (d_ix hr.units (xv 5) (d_bin op_sub os_sub (d_bin op_sub os_sub (d_callB call_lenA os_len (by rfl) z_len boot_len (a_cons (xv 3) a_nil)) d_int) (xv 11)) (fun _ _ => rfl)))) m_nil)))) rfl rfl) (dt_tup rfl (dts_cons (gn 12 nd) (dts_cons (gn 10 nd) dts_nil))))
    (ds_one (ds_expr (d_app (pvn 9) (xe 12))))))
  (ds_one (ds_ret (d_join d_str (xv 9)))))))))))) hm
/-! _law_loom: 0 script, 1 threads, 2 lint, 3 cell, 4 thread, 5 lap -/
abbrev s__law_loom : Stmt := topS 18
abbrev N__law_loom : List Str := ["script", "threads", "lint", "cell", "thread", "lap"]
abbrev P__law_loom : List Str := ["script"]
theorem sc__law_loom : FnScope N__law_loom P__law_loom (defScope s__law_loom) := ⟨rfl, rfl, rfl, by decide +kernel, rfl, by decide +kernel, by decide +kernel⟩
def W__law_loom : WS :=
  (wSeq (wPar [1, 2] (wConsM (wLst wNil) (wConsM (wC (.int 95369)) wNil)))
  (wSeq (wFor (wIt (wSl (wOp (g1 true dList) (wCons (wVar 0) true false wNil)) false none false (some (wC (.int 44))) false)) (gN 3)
    (wSeq (wAsg 4 (wOp2 (g2 true dMod) (wOp (g1 true dAbs) (wCons (wOp (g1 true dInt) (wCons (wVar 3) true false wNil)) false false wNil)) false (wOp2 (g2 true dShl) (wC (.int 1)) false (wC (.int 900)) false false) false false))
    (wSeq (wAsg 2 (wOp2 (g2 true dMod) (wOp (g1 true dInt) (wCons (wOp2 (g2 true dAdd) (wOp2 (g2 true dAdd) (wOp2 (g2 true dMul) (wVar 2) true (wC (.int 48271)) false false) false (wOp2 (g2 true dMod) (wVar 4) true (wC (.int 880057)) false false) false false) false (wOp2 (g2 true dMul) (wC (.int 101)) false (wOp (g1 true dInt) (wCons (wOp2 (g2 true dLt) (wVar 3) true (wC (.int 0)) false false) false false wNil)) false false) false false) false false wNil)) false (wC (.int 2147483629)) false false))
    (wSeq (wExpr (wApp 1 (wOp2 (g2 true dMod) (wOp (g1 true dInt) (wCons (wOp2 (g2 true dAdd) (wVar 4) true (wOp2 (g2 true dMod) (wVar 2) true (wC (.int 14)) false false) false false) false false wNil)) false (wC (.int 29184)) false false)))
    (wFor (wRg1 (wC (.int 60))) (gN 5)
      (wSeq (wAsg 4 (wOp2 (g2 true dFdiv) (wVar 4) true (wC (.int 29184)) false false))
      (wIfS (wBool (wOp2 (g2 true (dCmpI fun i j => decide (j < i))) (wVar 4) true (wC (.int 0)) false false))
        (wExpr (wApp 1 (wOp2 (g2 true dMod) (wOp (g1 true dInt) (wCons (wVar 4) true false wNil)) false (wC (.int 29184)) false false)))
        wSkip)))))))
  (wRet (wDisp [((wC (.str "threads")), (wEsc (some 1) true (wVar 1))), ((wC (.str "at")), (wC (.int 0))), ((wC (.str "lint")), (wEsc (some 2) true (wVar 2))), ((wC (.str "whim")), (wOp2 (g2 true dMod) (wOp (g1 true dInt) (wCons (wOp2 (g2 true dFdiv) (wVar 2) true (wC (.int 13)) false false) false false wNil)) false (wC (.int 22)) false false))]))))
theorem ok__law_loom {f : Addr} {fd : FuncData} {sp : DSp} (F : Fun K "_law_loom" "_law_loom" s__law_loom f fd) (z_abs : mg "abs" = none) (z_int : mg "int" = none) (z_list : mg "list" = none) (z_range : mg "range" = none)
    (hm : ∀ ms Q, ms.length = 1 → sp ms Q → W__law_loom  (endsF [false] Q) (env0 6 ms)) :
    FnOk P w K mg base CX0 1 f fd P__law_loom (spD ⟨P, w, K⟩ 1 [false] sp) := by
  have nd := sc__law_loom.nd
  exact fun_ok (io := [false]) (W := W__law_loom ) F sc__law_loom rfl (fun cdv A outer s H E hr => by
    unfold W__law_loom
    exact
  (ds_cons (ds_par2 (i := 1) (j := 2) rfl nd rfl rfl (by decide) (by decide) rfl rfl (m_cons (d_lst m_nil) (m_cons d_int m_nil)))
  (ds_cons (ds_for PassesOwn.never rfl (di_of (d_slice (d_callTy (call_listA rfl) os_list (by rfl) z_list boot_list (a_cons (xv 0) a_nil)) do_none (do_some d_int))) (gn 3 nd)
    (ds_cons (sA 4 nd (d_bin op_modN os_mod (d_callB call_abs os_abs (by rfl) z_abs boot_abs (a_cons (d_callTy call_int1 os_int (by rfl) z_int boot_int (a_cons (xv 3) a_nil)) a_nil)) (d_bin op_shl os_shl d_int d_int)))
    (ds_cons (sA 2 nd (d_bin op_modN os_mod (d_callTy call_int1 os_int (by rfl) z_int boot_int (a_cons (d_bin op_add' os_add (d_bin op_add' os_add (d_bin op_mul' os_mul (xv 2) d_int) (d_bin op_modN os_mod (xv 4) d_int)) (d_bin op_mul' os_mul d_int (d_callTy call_int1 os_int (by rfl) z_int boot_int (a_cons (d_cmp op_lt' os_lt (xv 3) d_int (nomark _)) a_nil)))) a_nil)) d_int))
    (ds_cons (ds_expr (d_app (pvn 1) (d_bin op_modN os_mod (d_callTy call_int1 os_int (by rfl) z_int boot_int (a_cons (d_bin op_add' os_add (xv 4) (d_bin op_modN os_mod (xv 2) d_int)) a_nil)) d_int)))
    (ds_one (ds_for PassesOwn.never rfl (di_rg1 (by rfl) z_range d_int) (gn 5 nd)
      (ds_cons (sA 4 nd (d_bin op_fdivN os_fdiv (xv 4) d_int))
      (ds_one (ds_if (t_cmp op_gt (os_cmpI _) (xv 4) d_int (nomark _))
        (ds_one (ds_expr (d_app (pvn 1) (d_bin op_modN os_mod (d_callTy call_int1 os_int (by rfl) z_int boot_int (a_cons (xv 4) a_nil)) d_int))))
        ds_nil)))))))))
  (ds_one (ds_ret (d_disp (dp_cons (d_mt d_str) (d_mt (xe 1)) (dp_cons (d_mt d_str) (d_mt d_int) (dp_cons (d_mt d_str) (d_mt (xe 2)) (dp_cons (d_mt d_str) (d_mt (d_bin op_modN os_mod (d_callTy call_int1 os_int (by rfl) z_int boot_int (a_cons (d_bin op_fdivN os_fdiv (xv 2) d_int) a_nil)) d_int)) dp_nil)))) (by decide))))))) hm
/-! _law_thread: 0 loom, 1 many, 2 place, 3 thread -/
abbrev s__law_thread : Stmt := topS 19
abbrev N__law_thread : List Str := ["loom", "many", "place", "thread"]
abbrev P__law_thread : List Str := ["loom", "many", "place"]
theorem sc__law_thread : FnScope N__law_thread P__law_thread (defScope s__law_thread) := ⟨rfl, rfl, rfl, by decide +kernel, rfl, by decide +kernel, by decide +kernel⟩
def W__law_thread : WS :=
  (wSeq (wIfS (wBool (wOp2 (g2 true dLt) (wIx (wVar 0) true (wC (.str "at")) false) true (wOp (g1 false dLen) (wCons (wIx (wVar 0) true (wC (.str "threads")) false) true false wNil)) false false))
    (wAsg 3 (wEsc none true (wIx (wIx (wVar 0) true (wC (.str "threads")) false) true (wIx (wVar 0) true (wC (.str "at")) false) false)))
    (wSeq (wSet 0 (wOp2 (g2 true dMod) (wOp (g1 true dInt) (wCons (wOp2 (g2 true dAdd) (wOp2 (g2 true dMul) (wIx (wVar 0) true (wC (.str "lint")) false) true (wC (.int 39373)) false false) false (wIx (wVar 0) true (wC (.str "at")) false) true false) false false wNil)) false (wC (.int 2147483629)) false false) (wC (.str "lint")))
    (wAsg 3 (wOp2 (g2 true dFdiv) (wIx (wVar 0) true (wC (.str "lint")) false) true (wC (.int 61)) false false))))
  (wSeq (wSet 0 (wOp2 (g2 true dAdd) (wIx (wVar 0) true (wC (.str "at")) false) true (wC (.int 1)) false false) (wC (.str "at")))
  (wSeq (wIfS (wBool (wOp2 (g2 false dEq) (wIx (wVar 0) true (wC (.str "whim")) false) true (wVar 2) true false))
    (wRet (wC (.int 0)))
    wSkip)
  (wRet (wIf (wBool (wOp2 (g2 false dEq) (wIx (wVar 0) true (wC (.str "whim")) false) true (wOp2 (g2 true dAdd) (wVar 2) true (wC (.int 8)) false false) false false)) (wOp2 (g2 true dSub) (wVar 1) true (wC (.int 1)) false false) (wOp2 (g2 true dMod) (wOp (g1 true dInt) (wCons (wVar 3) true false wNil)) false (wVar 1) true false))))))
theorem ok__law_thread {f : Addr} {fd : FuncData} {sp : DSp} (F : Fun K "_law_thread" "_law_thread" s__law_thread f fd) (z_int : mg "int" = none) (z_len : mg "len" = none)
    (hm : ∀ ms Q, ms.length = 3 → sp ms Q → W__law_thread  (endsF [true, false, false] Q) (env0 4 ms)) :
    FnOk P w K mg base CX0 1 f fd P__law_thread (spD ⟨P, w, K⟩ 3 [true, false, false] sp) := by
  have nd := sc__law_thread.nd
  exact fun_ok (io := [true, false, false]) (W := W__law_thread ) F sc__law_thread rfl (fun cdv A outer s H E hr => by
    unfold W__law_thread
    exact
  (ds_cons (ds_if (t_cmp op_lt' os_lt (d_ix hr.units (xv 0) d_str (fun _ _ => rfl)) (d_callB call_lenA os_len (by rfl) z_len boot_len (a_cons (d_ix hr.units (xv 0) d_str (fun _ _ => rfl)) a_nil)) (nomark _))
    (ds_one (sA 3 nd (d_view (d_ix hr.units (d_ix hr.units (xv 0) d_str (fun _ _ => rfl)) (d_ix hr.units (xv 0) d_str (fun _ _ => rfl)) (fun _ _ => rfl)))))
    (ds_cons (ds_set hr.units (pvn 0) (d_bin op_modN os_mod (d_callTy call_int1 os_int (by rfl) z_int boot_int (a_cons (d_bin op_add' os_add (d_bin op_mul' os_mul (d_ix hr.units (xv 0) d_str (fun _ _ => rfl)) d_int) (d_ix hr.units (xv 0) d_str (fun _ _ => rfl))) a_nil)) d_int) d_str)
    (ds_one (sA 3 nd (d_bin op_fdivN os_fdiv (d_ix hr.units (xv 0) d_str (fun _ _ => rfl)) d_int)))))
  (ds_cons (ds_set hr.units (pvn 0) (d_bin op_add' os_add (d_ix hr.units (xv 0) d_str (fun _ _ => rfl)) d_int) d_str)
  (ds_cons (ds_if (t_cmp (op_eqA hr.units) os_eq (d_ix hr.units (xv 0) d_str (fun _ _ => rfl)) (xv 2) (nomark _))
    (ds_one (ds_ret d_int))
    ds_nil)
  (ds_one (ds_ret (d_ife (t_cmp (op_eqA hr.units) os_eq (d_ix hr.units (xv 0) d_str (fun _ _ => rfl)) (d_bin op_add' os_add (xv 2) d_int) (nomark _)) (d_bin op_sub os_sub (xv 1) d_int) (d_bin op_modN os_mod (d_callTy call_int1 os_int (by rfl) z_int boot_int (a_cons (xv 3) a_nil)) (xv 1))))))))) hm
/-! _law_steps: 0 loom, 1 many, 2 letters, 3 way, 4 state, 5 letter -/
abbrev s__law_steps : Stmt := topS 20
abbrev N__law_steps : List Str := ["loom", "many", "letters", "way", "state", "letter"]
abbrev P__law_steps : List Str := ["loom", "many", "letters"]
theorem sc__law_steps : FnScope N__law_steps P__law_steps (defScope s__law_steps) := ⟨rfl, rfl, rfl, by decide +kernel, rfl, by decide +kernel, by decide +kernel⟩
def W__law_steps (sp__law_thread : DSp) : WS :=
  (wSeq (wAsg 3 (wCall sp__law_thread [some 0, none, none] (wConsM (wMov 0) (wConsM (wC (.int 3)) (wConsM (wC (.int 0)) wNil)))))
  (wSeq (wIfS (wBool (wOp2 (g2 false dEq) (wVar 3) true (wC (.int 0)) false false))
    (wRet (wOp (g1 true dTuple) (wCons (wLc (wRg1 (wVar 1)) (gN 4) wYes (wOp (g1 true dTuple) (wCons (wOp2 (g2 true dAdd) (wOp2 (g2 true dMul) (wLst (wConsM (wEsc (some 4) true (wVar 4)) wNil)) false (wOp2 (g2 true dSub) (wOp (g1 false dLen) (wCons (wVar 2) true false wNil)) false (wC (.int 1)) false false) false false) false (wLst (wConsM (wOp2 (g2 true dMod) (wOp (g1 true dInt) (wCons (wOp2 (g2 true dAdd) (wVar 4) true (wC (.int 1)) false false) false false wNil)) false (wVar 1) true false) wNil)) false false) false false wNil)) [4]) false false wNil)))
    wSkip)
  (wRet (wOp (g1 true dTuple) (wCons (wLc (wRg1 (wVar 1)) (gN 4) wYes (wOp (g1 true dTuple) (wCons (wLc (wIt (wEsc (some 2) true (wVar 2))) (gN 5) wYes (wFrz (wCall sp__law_thread [some 0, none, none] (wConsM (wMov 0) (wConsM (wEsc (some 1) true (wVar 1)) (wConsM (wC (.int 1)) wNil))))) [5]) false false wNil)) [4]) false false wNil)))))
theorem ok__law_steps {f : Addr} {fd : FuncData} {sp : DSp} (F : Fun K "_law_steps" "_law_steps" s__law_steps f fd) (z_int : mg "int" = none) (z_len : mg "len" = none) (z_range : mg "range" = none) (z_tuple : mg "tuple" = none) {f__law_thread : Addr} {fd__law_thread : FuncData} {sp__law_thread : DSp} (F__law_thread : Fun K "_law_thread" "_law_thread" s__law_thread f__law_thread fd__law_thread) (b__law_thread : Binds K fd__law_thread P__law_thread []) (a__law_thread : mg "_law_thread" = some (.ref f__law_thread)) (G__law_thread : FnOk P w K mg base CX0 1 f__law_thread fd__law_thread P__law_thread (spD ⟨P, w, K⟩ 3 [true, false, false] sp__law_thread))
    (hm : ∀ ms Q, ms.length = 3 → sp ms Q → W__law_steps sp__law_thread (endsF [true, false, false] Q) (env0 6 ms)) :
    FnOk P w K mg base CX0 2 f fd P__law_steps (spD ⟨P, w, K⟩ 3 [true, false, false] sp) := by
  have nd := sc__law_steps.nd
  exact fun_ok (io := [true, false, false]) (W := W__law_steps sp__law_thread) F sc__law_steps rfl (fun cdv A outer s H E hr => by
    unfold W__law_steps
    exact
  (ds_cons (sA 3 nd (d_call G__law_thread (hr.mono (by decide)) (by rfl) a__law_thread F__law_thread.kp b__law_thread (mlend 0 (m_cons d_int (m_cons d_int m_nil))) rfl rfl))
  (ds_cons (ds_if (t_cmp (op_eqA hr.units) os_eq (xv 3) d_int (nomark _))
    (ds_one (ds_ret (d_callTy (call_tupleA rfl) os_tuple (by rfl) z_tuple boot_tuple (a_cons (d_lc rfl nd (di_rg1 (by rfl) z_range (xv 1)) (blkOk_by (own := [("state", 4)]) (by first | decide +kernel | kernel_rfl | rfl)) (fun _ _ _ _ _ => (gn 4 nd)) (fun _ _ _ _ _ => dpts_nil) (fun _ _ _ _ _ => (d_callTy (call_tupleA rfl) os_tuple (by rfl) z_tuple boot_tuple (a_cons (d_bin op_add' os_add (d_bin op_mul' os_mul (d_lst (m_cons (xe 4) m_nil)) (d_bin op_sub os_sub (d_callB call_lenA os_len (by rfl) z_len boot_len (a_cons (xv 2) a_nil)) d_int)) (d_lst (m_cons (d_bin op_modN os_mod (d_callTy call_int1 os_int (by rfl) z_int boot_int (a_cons (d_bin op_add' os_add (xv 4) d_int) a_nil)) (xv 1)) m_nil))) a_nil)))) a_nil))))
    ds_nil)
  (ds_one (ds_ret (d_callTy (call_tupleA rfl) os_tuple (by rfl) z_tuple boot_tuple (a_cons (d_lc rfl nd (di_rg1 (by rfl) z_range (xv 1)) (blkOk_by (own := [("state", 4)]) (by first | decide +kernel | kernel_rfl | rfl)) (fun _ _ _ _ _ => (gn 4 nd)) (fun _ _ _ _ _ => dpts_nil) (fun _ _ _ _ _ => (d_callTy (call_tupleA rfl) os_tuple (by rfl) z_tuple boot_tuple (a_cons (d_lc rfl nd (di_of (xe 2)) (blkOk_by (own := [("letter", 5)]) (by first | decide +kernel | kernel_rfl | rfl)) (fun _ _ _ _ _ => (gn 5 nd)) (fun _ _ _ _ _ => dpts_nil) (fun _ _ _ _ _ => (d_frz (d_call G__law_thread (hr.mono (by decide)) (by rfl) a__law_thread F__law_thread.kp b__law_thread (mlend 0 (m_cons (xe 1) (m_cons d_int m_nil))) rfl rfl)))) a_nil)))) a_nil))))))) hm
/-! _law_made: 0 loom, 1 letters, 2 forth, 3 back, 4 words, 5 one, 6 other, 7 letter, 8 word, 9 table, 10 state -/
abbrev s__law_made : Stmt := topS 21
abbrev N__law_made : List Str := ["loom", "letters", "forth", "back", "words", "one", "other", "letter", "word", "table", "state"]
abbrev P__law_made : List Str := ["loom"]
theorem sc__law_made : FnScope N__law_made P__law_made (defScope s__law_made) := ⟨rfl, rfl, rfl, by decide +kernel, rfl, by decide +kernel, by decide +kernel⟩
def W__law_made (sp__law_thread sp__law_steps : DSp) : WS :=
  (wSeq (wAsg 1 (wIx (wTup (wConsM (wC (.str "ab")) (wConsM (wC (.str "A")) (wConsM (wC (.str "xyz")) (wConsM (wC (.str "BDbd")) (wConsM (wC (.str "ABCabc")) wNil)))))) false (wCall sp__law_thread [some 0, none, none] (wConsM (wMov 0) (wConsM (wC (.int 5)) (wConsM (wC (.int 2)) wNil)))) true))
  (wSeq (wAsg 2 (wCall sp__law_steps [some 0, none, none] (wLend 0 (wConsM (wFrz (wOp2 (g2 true dAdd) (wC (.int 1)) false (wCall sp__law_thread [some 0, none, none] (wConsM (wMov 0) (wConsM (wC (.int 6)) (wConsM (wC (.int 3)) wNil)))) false true)) (wConsM (wEsc (some 1) true (wVar 1)) wNil)))))
  (wSeq (wAsg 3 (wCall sp__law_steps [some 0, none, none] (wLend 0 (wConsM (wFrz (wOp2 (g2 true dAdd) (wC (.int 1)) false (wCall sp__law_thread [some 0, none, none] (wConsM (wMov 0) (wConsM (wC (.int 6)) (wConsM (wC (.int 4)) wNil)))) false true)) (wConsM (wEsc (some 1) true (wVar 1)) wNil)))))
  (wSeq (wIfS (wAndT (wBool (wOp2 (g2 false dEq) (wCall sp__law_thread [some 0, none, none] (wConsM (wMov 0) (wConsM (wC (.int 3)) (wConsM (wC (.int 5)) wNil)))) false (wC (.int 0)) false false)) (wBool (wOp2 (g2 true dLt) (wOp (g1 false dLen) (wCons (wVar 1) true false wNil)) false (wC (.int 4)) false false)))
    (wSeq (wAsg 4 (wOp2 (g2 true dAdd) (wLst (wConsM (wC (.str "")) wNil)) false (wOp (g1 true dList) (wCons (wVar 1) true false wNil)) false false))
    (wSeq (wFor (wIt (wEsc (some 1) true (wVar 1))) (gN 5)
      (wAsg 4 (wOp2 (g2 true dAdd) (wVar 4) true (wLc (wIt (wEsc (some 1) true (wVar 1))) (gN 6) wYes (wOp2 (g2 true dAdd) (wVar 5) true (wVar 6) true false) [6]) false false)))
    (wAsg 3 (wOp (g1 true dTuple) (wCons (wLc (wIt (wEsc (some 4) true (wVar 4))) (gN 8) wYes (wOp (g1 true dTuple) (wCons (wLc (wIt (wEsc (some 1) true (wVar 1))) (gN 7) wYes (wOp2 (g2 false dIndex) (wOk "list" (wVar 4)) true (wSl (wOp2 (g2 true dAdd) (wVar 7) true (wVar 8) true false) false none false (some (wC (.int 2))) false) false false) [7]) false false wNil)) [8]) false false wNil)))))
    wSkip)
  (wSeq (wAsg 9 (wLst wNil))
  (wSeq (wFor (wIt (wEsc (some 2) true (wVar 2))) (gN 10)
    (wExpr (wApp 9 (wOp (g1 true dTuple) (wCons (wLc (wIt (wEsc (some 1) true (wVar 1))) (gN 7) wYes (wOp2 (g2 false dJoin) (wOk "str" (wC (.str ""))) false (wLc (wIt (wEsc (some 3) true (wVar 3))) (gN 6) wYes (wIx (wC (.str "TXZ..")) false (wCall sp__law_thread [some 0, none, none] (wConsM (wMov 0) (wConsM (wC (.int 5)) (wConsM (wC (.int 6)) wNil)))) true) [6]) false true) [7]) false false wNil)))))
  (wRet (wTup (wConsM (wMov 1) (wConsM (wMov 2) (wConsM (wMov 3) (wConsM (wOp (g1 true dTuple) (wCons (wVar 9) true false wNil)) wNil))))))))))))
theorem ok__law_made {f : Addr} {fd : FuncData} {sp : DSp} (F : Fun K "_law_made" "_law_made" s__law_made f fd) (z_len : mg "len" = none) (z_list : mg "list" = none) (z_tuple : mg "tuple" = none) {f__law_thread : Addr} {fd__law_thread : FuncData} {sp__law_thread : DSp} (F__law_thread : Fun K "_law_thread" "_law_thread" s__law_thread f__law_thread fd__law_thread) (b__law_thread : Binds K fd__law_thread P__law_thread []) (a__law_thread : mg "_law_thread" = some (.ref f__law_thread)) (G__law_thread : FnOk P w K mg base CX0 1 f__law_thread fd__law_thread P__law_thread (spD ⟨P, w, K⟩ 3 [true, false, false] sp__law_thread)) {f__law_steps : Addr} {fd__law_steps : FuncData} {sp__law_steps : DSp} (F__law_steps : Fun K "_law_steps" "_law_steps" s__law_steps f__law_steps fd__law_steps) (b__law_steps : Binds K fd__law_steps P__law_steps []) (a__law_steps : mg "_law_steps" = some (.ref f__law_steps)) (G__law_steps : FnOk P w K mg base CX0 2 f__law_steps fd__law_steps P__law_steps (spD ⟨P, w, K⟩ 3 [true, false, false] sp__law_steps))
    (hm : ∀ ms Q, ms.length = 1 → sp ms Q → W__law_made sp__law_thread sp__law_steps (endsF [true] Q) (env0 11 ms)) :
    FnOk P w K mg base CX0 3 f fd P__law_made (spD ⟨P, w, K⟩ 1 [true] sp) := by
  have nd := sc__law_made.nd
  exact fun_ok (io := [true]) (W := W__law_made sp__law_thread sp__law_steps) F sc__law_made rfl (fun cdv A outer s H E hr => by
    unfold W__law_made
    exact
  (ds_cons (sA 1 nd (d_ix hr.units (d_tup (m_cons d_str (m_cons d_str (m_cons d_str (m_cons d_str (m_cons d_str m_nil)))))) (d_call G__law_thread (hr.mono (by decide)) (by rfl) a__law_thread F__law_thread.kp b__law_thread (mlend 0 (m_cons d_int (m_cons d_int m_nil))) rfl rfl) (fun _ _ => rfl)))
  (ds_cons (sA 2 nd (d_call G__law_steps (hr.mono (by decide)) (by rfl) a__law_steps F__law_steps.kp b__law_steps (mlendL 0 (m_cons (d_frz (d_bin op_add' os_add d_int (d_call G__law_thread (hr.mono (by decide)) (by rfl) a__law_thread F__law_thread.kp b__law_thread (mlend 0 (m_cons d_int (m_cons d_int m_nil))) rfl rfl))) (m_cons (xe 1) m_nil))) rfl rfl))
  (ds_cons (sA 3 nd (d_call G__law_steps (hr.mono (by decide)) (by rfl) a__law_steps F__law_steps.kp b__law_steps (mlendL 0 (m_cons (d_frz (d_bin op_add' os_add d_int (d_call G__law_thread (hr.mono (by decide)) (by rfl) a__law_thread F__law_thread.kp b__law_thread (mlend 0 (m_cons d_int (m_cons d_int m_nil))) rfl rfl))) (m_cons (xe 1) m_nil))) rfl rfl))
  (ds_cons (ds_if (PW.pt (w_and (t_cmp (op_eqA hr.units) os_eq (d_call G__law_thread (hr.mono (by decide)) (by rfl) a__law_thread F__law_thread.kp b__law_thread (mlend 0 (m_cons d_int (m_cons d_int m_nil))) rfl rfl) d_int (nomark _)) (w_and1 (t_cmp op_lt' os_lt (d_callB call_lenA os_len (by rfl) z_len boot_len (a_cons (xv 1) a_nil)) d_int (nomark _)))))
    (ds_cons (sA 4 nd (d_bin op_add' os_add (d_lst (m_cons d_str m_nil)) (d_callTy (call_listA rfl) os_list (by rfl) z_list boot_list (a_cons (xv 1) a_nil))))
    (ds_cons (ds_for PassesOwn.never rfl (di_of (xe 1)) (gn 5 nd)
      (ds_one (sA 4 nd (d_bin op_add' os_add (xv 4) (d_lc rfl nd (di_of (xe 1)) (blkOk_by (own := [("other", 6)]) (by first | decide +kernel | kernel_rfl | rfl)) (fun _ _ _ _ _ => (gn 6 nd)) (fun _ _ _ _ _ => dpts_nil) (fun _ _ _ _ _ => (d_bin op_add' os_add (xv 5) (xv 6))))))))
    (ds_one (sA 3 nd (d_callTy (call_tupleA rfl) os_tuple (by rfl) z_tuple boot_tuple (a_cons (d_lc rfl nd (di_of (xe 4)) (blkOk_by (own := [("word", 8)]) (by first | decide +kernel | kernel_rfl | rfl)) (fun _ _ _ _ _ => (gn 8 nd)) (fun _ _ _ _ _ => dpts_nil) (fun _ _ _ _ _ => (d_callTy (call_tupleA rfl) os_tuple (by rfl) z_tuple boot_tuple (a_cons (d_lc rfl nd (di_of (xe 1)) (blkOk_by (own := [("letter", 7)]) (by first | decide +kernel | kernel_rfl | rfl)) (fun _ _ _ _ _ => (gn 7 nd)) (fun _ _ _ _ _ => dpts_nil) (fun _ _ _ _ _ => (d_index (xv 4) (d_slice (d_bin op_add' os_add (xv 7) (xv 8)) do_none (do_some d_int))))) a_nil)))) a_nil))))))
    ds_nil)
  (ds_cons (sA 9 nd (d_lst m_nil))
  (ds_cons (ds_for PassesOwn.never rfl (di_of (xe 2)) (gn 10 nd)
    (ds_one (ds_expr (d_app (pvn 9) (d_callTy (call_tupleA rfl) os_tuple (by rfl) z_tuple boot_tuple (a_cons (d_lc rfl nd (di_of (xe 1)) (blkOk_by (own := [("letter", 7)]) (by first | decide +kernel | kernel_rfl | rfl)) (fun _ _ _ _ _ => (gn 7 nd)) (fun _ _ _ _ _ => dpts_nil) (fun _ _ _ _ _ => (d_join d_str (d_lc rfl nd (di_of (xe 3)) (blkOk_by (own := [("other", 6)]) (by first | decide +kernel | kernel_rfl | rfl)) (fun _ _ _ _ _ => (gn 6 nd)) (fun _ _ _ _ _ => dpts_nil) (fun _ _ _ _ _ => (d_ix hr.units d_str (d_call G__law_thread (hr.mono (by decide)) (by rfl) a__law_thread F__law_thread.kp b__law_thread (mlend 0 (m_cons d_int (m_cons d_int m_nil))) rfl rfl) (fun _ _ => rfl))))))) a_nil))))))
  (ds_one (ds_ret (d_tup (m_cons (xm 1) (m_cons (xm 2) (m_cons (xm 3) (m_cons (d_callTy (call_tupleA rfl) os_tuple (by rfl) z_tuple boot_tuple (a_cons (xv 9) a_nil)) m_nil)))))))))))))) hm
/-! _law_marks: 0 readers, 1 text, 2 letters, 3 forth, 4 back, 5 table, 6 numbers, 7 at, 8 behind, 9 state, 10 told, 11 letter, 12 spot -/
abbrev s__law_marks : Stmt := topS 22
abbrev N__law_marks : List Str := ["readers", "text", "letters", "forth", "back", "table", "numbers", "at", "behind", "state", "told", "letter", "spot"]
abbrev P__law_marks : List Str := ["readers", "text"]
theorem sc__law_marks : FnScope N__law_marks P__law_marks (defScope s__law_marks) := ⟨rfl, rfl, rfl, by decide +kernel, rfl, by decide +kernel, by decide +kernel⟩
def W__law_marks : WS :=
  (wSeq (wAsgT (wEsc (some 0) true (wVar 0)) (gT 4 (gCons' (gN 2) (gCons' (gN 3) (gCons' (gN 4) (gCons' (gN 5) gNil'))))))
  (wSeq (wAsg 6 (wOp (g1 true dDict) (wCons (wLc (wRg1 (wOp (g1 false dLen) (wCons (wVar 2) true false wNil))) (gN 7) wYes (wTup (wConsM (wEsc none true (wIx (wVar 2) true (wVar 7) false)) (wConsM (wEsc (some 7) true (wVar 7)) wNil))) [7]) false false wNil)))
  (wSeq (wPar [8, 9, 10] (wConsM (wLst (wConsM (wC (.int 0)) wNil)) (wConsM (wC (.int 0)) (wConsM (wLst wNil) wNil))))
  (wSeq (wFor (wIt (wOp1 (g1 true dRevS) (wVar 1) true)) (gN 11)
    (wExpr (wApp 8 (wEsc none true (wIx (wIx (wVar 4) true (wIx (wVar 8) true (wOp1 (g1 true dNeg) (wC (.int 1)) false) false) false) true (wIx (wVar 6) true (wVar 11) false) false)))))
  (wSeq (wFor (wRg1 (wOp (g1 false dLen) (wCons (wVar 1) true false wNil))) (gN 7)
    (wSeq (wAsg 12 (wEsc none true (wIx (wVar 6) true (wIx (wVar 1) true (wVar 7) false) false)))
    (wSeq (wExpr (wApp 10 (wEsc none true (wIx (wIx (wIx (wVar 5) true (wVar 9) false) true (wVar 12) false) true (wIx (wVar 8) true (wOp2 (g2 true dSub) (wOp2 (g2 true dSub) (wOp (g1 false dLen) (wCons (wVar 1) true false wNil)) false (wC (.int 1)) false false) false (wVar 7) true false) false) false))))
    (wAsg 9 (wEsc none true (wIx (wIx (wVar 3) true (wVar 9) false) true (wVar 12) false))))))
  (wRet (wOp2 (g2 false dJoin) (wOk "str" (wC (.str ""))) false (wVar 10) true false)))))))
theorem ok__law_marks {f : Addr} {fd : FuncData} {sp : DSp} (F : Fun K "_law_marks" "_law_marks" s__law_marks f fd) (z_dict : mg "dict" = none) (z_len : mg "len" = none) (z_range : mg "range" = none)
    (hm : ∀ ms Q, ms.length = 2 → sp ms Q → W__law_marks  (endsF [false, false] Q) (env0 13 ms)) :
    FnOk P w K mg base CX0 1 f fd P__law_marks (spD ⟨P, w, K⟩ 2 [false, false] sp) := by
  have nd := sc__law_marks.nd
  exact fun_ok (io := [false, false]) (W := W__law_marks ) F sc__law_marks rfl (fun cdv A outer s H E hr => by
    unfold W__law_marks
    exact
  (ds_cons (ds_asgT (xe 0) (dt_tup rfl (dts_cons (gn 2 nd) (dts_cons (gn 3 nd) (dts_cons (gn 4 nd) (dts_cons (gn 5 nd) dts_nil))))))
  (ds_cons (sA 6 nd (d_callTy (call_dictP rfl) os_dict (by rfl) z_dict boot_dict (a_cons (d_lc rfl nd (di_rg1 (by rfl) z_range (d_callB call_lenA os_len (by rfl) z_len boot_len (a_cons (xv 2) a_nil))) (blkOk_by (own := [("at", 7)]) (by first | decide +kernel | kernel_rfl | rfl)) (fun _ _ _ _ _ => (gn 7 nd)) (fun _ _ _ _ _ => dpts_nil) (fun _ _ _ _ _ => (d_tup (m_cons (d_view (d_ix hr.units (xv 2) (xv 7) (fun _ _ => rfl))) (m_cons (xe 7) m_nil))))) a_nil)))
  (ds_cons (ds_par3 (i := 8) (j := 9) (l := 10) rfl nd rfl rfl rfl (by decide) (by decide) (by decide) (by decide) rfl rfl rfl (m_cons (d_lst (m_cons d_int m_nil)) (m_cons d_int (m_cons (d_lst m_nil) m_nil))))
  (ds_cons (ds_for PassesOwn.never rfl (di_of (d_revS (xv 1))) (gn 11 nd)
    (ds_one (ds_expr (d_app (pvn 8) (d_view (d_ix hr.units (d_ix hr.units (xv 4) (d_ix hr.units (xv 8) (d_un un_neg os_neg d_int) (fun _ _ => rfl)) (fun _ _ => rfl)) (d_ix hr.units (xv 6) (xv 11) (fun _ _ => rfl)) (fun _ _ => rfl)))))))
  (ds_cons (ds_for PassesOwn.never rfl (di_rg1 (by rfl) z_range (d_callB call_lenA os_len (by rfl) z_len boot_len (a_cons (xv 1) a_nil))) (gn 7 nd)
    (ds_cons (sA 12 nd (d_view (d_ix hr.units (xv 6) (d_ix hr.units (xv 1) (xv 7) (fun _ _ => rfl)) (fun _ _ => rfl))))
    (ds_cons (ds_expr (d_app (pvn 10) (d_view (d_ix hr.units (d_ix hr.units (d_ix hr.units (xv 5) (xv 9) (fun _ _ => rfl)) (xv 12) (fun _ _ => rfl)) (d_ix hr.units (xv 8) (d_bin op_sub os_sub (d_bin op_sub os_sub (d_callB call_lenA os_len (by rfl) z_len boot_len (a_cons (xv 1) a_nil)) d_int) (xv 7)) (fun _ _ => rfl)) (fun _ _ => rfl)))))
    (ds_one (sA 9 nd (d_view (d_ix hr.units (d_ix hr.units (xv 3) (xv 9) (fun _ _ => rfl)) (xv 12) (fun _ _ => rfl))))))))
  (ds_one (ds_ret (d_join d_str (xv 10)))))))))) hm
/-! _law_short: 0 loom, 1 letters, 2 most, 3 at -/
abbrev s__law_short : Stmt := topS 23
abbrev N__law_short : List Str := ["loom", "letters", "most", "at"]
abbrev P__law_short : List Str := ["loom", "letters", "most"]
theorem sc__law_short : FnScope N__law_short P__law_short (defScope s__law_short) := ⟨rfl, rfl, rfl, by decide +kernel, rfl, by decide +kernel, by decide +kernel⟩
def W__law_short (sp__law_thread : DSp) : WS :=
  (wRet (wOp2 (g2 false dJoin) (wOk "str" (wC (.str ""))) false (wLc (wRg1 (wCall sp__law_thread [some 0, none, none] (wConsM (wMov 0) (wConsM (wFrz (wOp2 (g2 true dAdd) (wVar 2) true (wC (.int 1)) false false)) (wConsM (wC (.int 8)) wNil))))) (gN 3) wYes (wIx (wEsc (some 1) true (wVar 1)) false (wCall sp__law_thread [some 0, none, none] (wConsM (wMov 0) (wConsM (wFrz (wOp (g1 false dLen) (wCons (wVar 1) true false wNil))) (wConsM (wC (.int 7)) wNil)))) true) [3]) false true))
theorem ok__law_short {f : Addr} {fd : FuncData} {sp : DSp} (F : Fun K "_law_short" "_law_short" s__law_short f fd) (z_len : mg "len" = none) (z_range : mg "range" = none) {f__law_thread : Addr} {fd__law_thread : FuncData} {sp__law_thread : DSp} (F__law_thread : Fun K "_law_thread" "_law_thread" s__law_thread f__law_thread fd__law_thread) (b__law_thread : Binds K fd__law_thread P__law_thread []) (a__law_thread : mg "_law_thread" = some (.ref f__law_thread)) (G__law_thread : FnOk P w K mg base CX0 1 f__law_thread fd__law_thread P__law_thread (spD ⟨P, w, K⟩ 3 [true, false, false] sp__law_thread))
    (hm : ∀ ms Q, ms.length = 3 → sp ms Q → W__law_short sp__law_thread (endsF [true, false, false] Q) (env0 4 ms)) :
    FnOk P w K mg base CX0 2 f fd P__law_short (spD ⟨P, w, K⟩ 3 [true, false, false] sp) := by
  have nd := sc__law_short.nd
  exact fun_ok (io := [true, false, false]) (W := W__law_short sp__law_thread) F sc__law_short rfl (fun cdv A outer s H E hr => by
    unfold W__law_short
    exact
  (ds_one (ds_ret (d_join d_str (d_lc rfl nd (di_rg1 (by rfl) z_range (d_call G__law_thread (hr.mono (by decide)) (by rfl) a__law_thread F__law_thread.kp b__law_thread (mlend 0 (m_cons (d_frz (d_bin op_add' os_add (xv 2) d_int)) (m_cons d_int m_nil))) rfl rfl)) (blkOk_by (own := [("at", 3)]) (by first | decide +kernel | kernel_rfl | rfl)) (fun _ _ _ _ _ => (gn 3 nd)) (fun _ _ _ _ _ => dpts_nil) (fun _ _ _ _ _ => (d_ix hr.units (xe 1) (d_call G__law_thread (hr.mono (by decide)) (by rfl) a__law_thread F__law_thread.kp b__law_thread (mlend 0 (m_cons (d_frz (d_callB call_lenA os_len (by rfl) z_len boot_len (a_cons (xv 1) a_nil))) (m_cons d_int m_nil))) rfl rfl) (fun _ _ => rfl)))))))) hm
/-! _law_parted: 0 loom, 1 text, 2 told, 3 begin, 4 lap, 5 step -/
abbrev s__law_parted : Stmt := topS 24
abbrev N__law_parted : List Str := ["loom", "text", "told", "begin", "lap", "step"]
abbrev P__law_parted : List Str := ["loom", "text"]
theorem sc__law_parted : FnScope N__law_parted P__law_parted (defScope s__law_parted) := ⟨rfl, rfl, rfl, by decide +kernel, rfl, by decide +kernel, by decide +kernel⟩
def W__law_parted (sp__law_thread : DSp) : WS :=
  (wSeq (wPar [2, 3] (wConsM (wLst wNil) (wConsM (wC (.int 0)) wNil)))
  (wSeq (wFor (wRg1 (wC (.int 30))) (gN 4)
    (wSeq (wAsg 5 (wIx (wTup (wConsM (wC (.int 0)) (wConsM (wC (.int 1)) (wConsM (wC (.int 2)) (wConsM (wC (.int 3)) (wConsM (wC (.int 60)) (wConsM (wC (.int 400)) wNil))))))) false (wCall sp__law_thread [some 0, none, none] (wConsM (wMov 0) (wConsM (wC (.int 6)) (wConsM (wC (.int 9)) wNil)))) true))
    (wSeq (wExpr (wApp 2 (wSl (wVar 1) true (some (wVar 3)) false (some (wOp2 (g2 true dAdd) (wVar 3) true (wVar 5) true false)) false)))
    (wAsg 3 (wOp (g2 true dMin2) (wCons (wOp (g1 false dLen) (wCons (wVar 1) true false wNil)) false false (wCons (wOp2 (g2 true dAdd) (wVar 3) true (wVar 5) true false) false false wNil)))))))
  (wRet (wOp (g1 true dTuple) (wCons (wOp2 (g2 true dAdd) (wEsc (some 2) true (wVar 2)) false (wSl (wLst (wConsM (wSl (wVar 1) true (some (wVar 3)) false none false) (wConsM (wC (.str "")) wNil))) false none false (some (wOp2 (g2 true dAdd) (wC (.int 1)) false (wCall sp__law_thread [some 0, none, none] (wConsM (wMov 0) (wConsM (wC (.int 2)) (wConsM (wC (.int 10)) wNil)))) false true)) true) false true) false false wNil)))))
theorem ok__law_parted {f : Addr} {fd : FuncData} {sp : DSp} (F : Fun K "_law_parted" "_law_parted" s__law_parted f fd) (z_len : mg "len" = none) (z_min : mg "min" = none) (z_range : mg "range" = none) (z_tuple : mg "tuple" = none) {f__law_thread : Addr} {fd__law_thread : FuncData} {sp__law_thread : DSp} (F__law_thread : Fun K "_law_thread" "_law_thread" s__law_thread f__law_thread fd__law_thread) (b__law_thread : Binds K fd__law_thread P__law_thread []) (a__law_thread : mg "_law_thread" = some (.ref f__law_thread)) (G__law_thread : FnOk P w K mg base CX0 1 f__law_thread fd__law_thread P__law_thread (spD ⟨P, w, K⟩ 3 [true, false, false] sp__law_thread))
    (hm : ∀ ms Q, ms.length = 2 → sp ms Q → W__law_parted sp__law_thread (endsF [true, false] Q) (env0 6 ms)) :
    FnOk P w K mg base CX0 2 f fd P__law_parted (spD ⟨P, w, K⟩ 2 [true, false] sp) := by
  have nd := sc__law_parted.nd
  exact fun_ok (io := [true, false]) (W := W__law_parted sp__law_thread) F sc__law_parted rfl (fun cdv A outer s H E hr => by
    unfold W__law_parted
    exact
  (ds_cons (ds_par2 (i := 2) (j := 3) rfl nd rfl rfl (by decide) (by decide) rfl rfl (m_cons (d_lst m_nil) (m_cons d_int m_nil)))
  (ds_cons (ds_for PassesOwn.never rfl (di_rg1 (by rfl) z_range d_int) (gn 4 nd)
    (ds_cons (sA 5 nd (d_ix hr.units (d_tup (m_cons d_int (m_cons d_int (m_cons d_int (m_cons d_int (m_cons d_int (m_cons d_int m_nil))))))) (d_call G__law_thread (hr.mono (by decide)) (by rfl) a__law_thread F__law_thread.kp b__law_thread (mlend 0 (m_cons d_int (m_cons d_int m_nil))) rfl rfl) (fun _ _ => rfl)))
    (ds_cons (ds_expr (d_app (pvn 2) (d_slice (xv 1) (do_some (xv 3)) (do_some (d_bin op_add' os_add (xv 3) (xv 5))))))
    (ds_one (sA 3 nd (d_callB (call_min2 rfl) os_min2 (by rfl) z_min boot_min (a_cons (d_callB call_lenA os_len (by rfl) z_len boot_len (a_cons (xv 1) a_nil)) (a_cons (d_bin op_add' os_add (xv 3) (xv 5)) a_nil))))))))
  (ds_one (ds_ret (d_callTy (call_tupleA rfl) os_tuple (by rfl) z_tuple boot_tuple (a_cons (d_bin op_add' os_add (xe 2) (d_slice (d_lst (m_cons (d_slice (xv 1) (do_some (xv 3)) do_none) (m_cons d_str m_nil))) do_none (do_some (d_bin op_add' os_add d_int (d_call G__law_thread (hr.mono (by decide)) (by rfl) a__law_thread F__law_thread.kp b__law_thread (mlend 0 (m_cons d_int (m_cons d_int m_nil))) rfl rfl))))) a_nil))))))) hm
/-! _law_texts: 0 loom, 1 letters, 2 way, 3 one, 4 other, 5 lap, 6 long -/
abbrev s__law_texts : Stmt := topS 25
abbrev N__law_texts : List Str := ["loom", "letters", "way", "one", "other", "lap", "long"]
abbrev P__law_texts : List Str := ["loom", "letters"]
theorem sc__law_texts : FnScope N__law_texts P__law_texts (defScope s__law_texts) := ⟨rfl, rfl, rfl, by decide +kernel, rfl, by decide +kernel, by decide +kernel⟩
def W__law_texts (sp__law_thread sp__law_short : DSp) : WS :=
  (wSeq (wAsg 2 (wCall sp__law_thread [some 0, none, none] (wConsM (wMov 0) (wConsM (wC (.int 5)) (wConsM (wC (.int 11)) wNil)))))
  (wSeq (wPar [3, 4] (wConsM (wCall sp__law_short [some 0, none, none] (wConsM (wMov 0) (wConsM (wEsc (some 1) true (wVar 1)) (wConsM (wC (.int 6)) wNil)))) (wConsM (wCall sp__law_short [some 0, none, none] (wConsM (wMov 0) (wConsM (wEsc (some 1) true (wVar 1)) (wConsM (wC (.int 6)) wNil)))) wNil)))
  (wSeq (wIfS (wBool (wOp2 (g2 false dEq) (wVar 2) true (wC (.int 0)) false false))
    (wRet (wOp (g1 true dTuple) (wCons (wLc (wRg1 (wCall sp__law_thread [some 0, none, none] (wConsM (wMov 0) (wConsM (wC (.int 61)) (wConsM (wC (.int 12)) wNil))))) (gN 5) wYes (wFrz (wCall sp__law_short [some 0, none, none] (wConsM (wMov 0) (wConsM (wEsc (some 1) true (wVar 1)) (wConsM (wC (.int 4)) wNil))))) [5]) false false wNil)))
    wSkip)
  (wSeq (wIfS (wBool (wOp2 (g2 false dEq) (wVar 2) true (wC (.int 1)) false false))
    (wRet (wOp2 (g2 true dMul) (wTup (wConsM (wEsc (some 3) true (wVar 3)) wNil)) false (wCall sp__law_thread [some 0, none, none] (wConsM (wMov 0) (wConsM (wC (.int 61)) (wConsM (wC (.int 12)) wNil)))) false true))
    wSkip)
  (wSeq (wIfS (wBool (wOp2 (g2 false dEq) (wVar 2) true (wC (.int 2)) false false))
    (wRet (wOp2 (g2 true dMul) (wTup (wConsM (wEsc (some 3) true (wVar 3)) (wConsM (wEsc (some 4) true (wVar 4)) (wConsM (wC (.str "")) wNil)))) false (wCall sp__law_thread [some 0, none, none] (wConsM (wMov 0) (wConsM (wC (.int 21)) (wConsM (wC (.int 12)) wNil)))) false true))
    wSkip)
  (wSeq (wAsg 6 (wOp2 (g2 true dMul) (wEsc (some 3) true (wVar 3)) false (wOp2 (g2 true dAdd) (wC (.int 1)) false (wCall sp__law_thread [some 0, none, none] (wConsM (wMov 0) (wConsM (wFrz (wOp2 (g2 true dFdiv) (wC (.int 2000)) false (wOp2 (g2 true dMul) (wOp (g2 true dMax2) (wCons (wC (.int 1)) false false (wCons (wOp (g1 false dLen) (wCons (wVar 3) true false wNil)) false false wNil))) false (wC (.int 3)) false false) false false)) (wConsM (wC (.int 13)) wNil)))) false true) false true))
  (wRet (wSl (wTup (wConsM (wEsc (some 6) true (wVar 6)) (wConsM (wSl (wVar 4) true none false (some (wC (.int 2))) false) (wConsM (wEsc (some 6) true (wVar 6)) (wConsM (wC (.str "")) (wConsM (wEsc none true (wIx (wVar 1) true (wOp1 (g1 true dNeg) (wC (.int 1)) false) false)) (wConsM (wSl (wVar 6) true none false (some (wC (.int 600))) false) wNil))))))) false (some (wCall sp__law_thread [some 0, none, none] (wConsM (wMov 0) (wConsM (wC (.int 3)) (wConsM (wC (.int 14)) wNil))))) true none false))))))))
theorem ok__law_texts {f : Addr} {fd : FuncData} {sp : DSp} (F : Fun K "_law_texts" "_law_texts" s__law_texts f fd) (z_len : mg "len" = none) (z_max : mg "max" = none) (z_range : mg "range" = none) (z_tuple : mg "tuple" = none) {f__law_thread : Addr} {fd__law_thread : FuncData} {sp__law_thread : DSp} (F__law_thread : Fun K "_law_thread" "_law_thread" s__law_thread f__law_thread fd__law_thread) (b__law_thread : Binds K fd__law_thread P__law_thread []) (a__law_thread : mg "_law_thread" = some (.ref f__law_thread)) (G__law_thread : FnOk P w K mg base CX0 1 f__law_thread fd__law_thread P__law_thread (spD ⟨P, w, K⟩ 3 [true, false, false] sp__law_thread)) {f__law_short : Addr} {fd__law_short : FuncData} {sp__law_short : DSp} (F__law_short : Fun K "_law_short" "_law_short" s__law_short f__law_short fd__law_short) (b__law_short : Binds K fd__law_short P__law_short []) (a__law_short : mg "_law_short" = some (.ref f__law_short)) (G__law_short : FnOk P w K mg base CX0 2 f__law_short fd__law_short P__law_short (spD ⟨P, w, K⟩ 3 [true, false, false] sp__law_short))
    (hm : ∀ ms Q, ms.length = 2 → sp ms Q → W__law_texts sp__law_thread sp__law_short (endsF [true, false] Q) (env0 7 ms)) :
    FnOk P w K mg base CX0 3 f fd P__law_texts (spD ⟨P, w, K⟩ 2 [true, false] sp) := by
  have nd := sc__law_texts.nd
  exact fun_ok (io := [true, false]) (W := W__law_texts sp__law_thread sp__law_short) F sc__law_texts rfl (fun cdv A outer s H E hr => by
    unfold W__law_texts
    exact
  (ds_cons (sA 2 nd (d_call G__law_thread (hr.mono (by decide)) (by rfl) a__law_thread F__law_thread.kp b__law_thread (mlend 0 (m_cons d_int (m_cons d_int m_nil))) rfl rfl))
  (ds_cons (ds_par2 (i := 3) (j := 4) rfl nd rfl rfl (by decide) (by decide) rfl rfl (m_cons (d_call G__law_short (hr.mono (by decide)) (by rfl) a__law_short F__law_short.kp b__law_short (mlend 0 (m_cons (xe 1) (m_cons d_int m_nil))) rfl rfl) (m_cons (d_call G__law_short (hr.mono (by decide)) (by rfl) a__law_short F__law_short.kp b__law_short (mlend 0 (m_cons (xe 1) (m_cons d_int m_nil))) rfl rfl) m_nil)))
  (ds_cons (ds_if (t_cmp (op_eqA hr.units) os_eq (xv 2) d_int (nomark _))
    (ds_one (ds_ret (d_callTy (call_tupleA rfl) os_tuple (by rfl) z_tuple boot_tuple (a_cons (d_lc rfl nd (di_rg1 (by rfl) z_range (d_call G__law_thread (hr.mono (by decide)) (by rfl) a__law_thread F__law_thread.kp b__law_thread (mlend 0 (m_cons d_int (m_cons d_int m_nil))) rfl rfl)) (blkOk_by (own := [("lap", 5)]) (by first | decide +kernel | kernel_rfl | rfl)) (fun _ _ _ _ _ => (gn 5 nd)) (fun _ _ _ _ _ => dpts_nil) (fun _ _ _ _ _ => (d_frz (d_call G__law_short (hr.mono (by decide)) (by rfl) a__law_short F__law_short.kp b__law_short (mlend 0 (m_cons (xe 1) (m_cons d_int m_nil))) rfl rfl)))) a_nil))))
    ds_nil)
  (ds_cons (ds_if (t_cmp (op_eqA hr.units) os_eq (xv 2) d_int (nomark _))
    (ds_one (ds_ret (d_bin op_mul' os_mul (d_tup (m_cons (xe 3) m_nil)) (d_call G__law_thread (hr.mono (by decide)) (by rfl) a__law_thread F__law_thread.kp b__law_thread (mlend 0 (m_cons d_int (m_cons d_int m_nil))) rfl rfl))))
    ds_nil)
  (ds_cons (ds_if (t_cmp (op_eqA hr.units) os_eq (xv 2) d_int (nomark _))
    (ds_one (ds_ret (d_bin op_mul' os_mul (d_tup (m_cons (xe 3) (m_cons (xe 4) (m_cons d_str m_nil)))) (d_call G__law_thread (hr.mono (by decide)) (by rfl) a__law_thread F__law_thread.kp b__law_thread (mlend 0 (m_cons d_int (m_cons d_int m_nil))) rfl rfl))))
    ds_nil)
  (ds_cons (sA 6 nd (d_bin op_mul' os_mul (xe 3) (d_bin op_add' os_add d_int (d_call G__law_thread (hr.mono (by decide)) (by rfl) a__law_thread F__law_thread.kp b__law_thread (mlend 0 (m_cons (d_frz (d_bin op_fdivN os_fdiv d_int (d_bin op_mul' os_mul (d_callB (call_max2 rfl) os_max2 (by rfl) z_max boot_max (a_cons d_int (a_cons (d_callB call_lenA os_len (by rfl) z_len boot_len (a_cons (xv 3) a_nil)) a_nil))) d_int))) (m_cons d_int m_nil))) rfl rfl))))
  (ds_one (ds_ret (d_slice (d_tup (m_cons (xe 6) (m_cons (d_slice (xv 4) do_none (do_some d_int)) (m_cons (xe 6) (m_cons d_str (m_cons (d_view (d_ix hr.units (xv 1) (d_un un_neg os_neg d_int) (fun _ _ => rfl))) (m_cons (d_slice (xv 6) do_none (do_some d_int)) m_nil))))))) (do_some (d_call G__law_thread (hr.mono (by decide)) (by rfl) a__law_thread F__law_thread.kp b__law_thread (mlend 0 (m_cons d_int (m_cons d_int m_nil))) rfl rfl)) do_none)))))))))) hm
/-! _law_same: 0 told, 1 due -/
abbrev s__law_same : Stmt := topS 26
abbrev N__law_same : List Str := ["told", "due"]
abbrev P__law_same : List Str := ["told", "due"]
theorem sc__law_same : FnScope N__law_same P__law_same (defScope s__law_same) := ⟨rfl, rfl, rfl, by decide +kernel, rfl, by decide +kernel, by decide +kernel⟩
def W__law_same : WS :=
  (wRet (wAndV (wIsT "str" (wVar 0)) (wOp2 (g2 false dEq) (wVar 0) true (wVar 1) true false)))
theorem ok__law_same {f : Addr} {fd : FuncData} {sp : DSp} (F : Fun K "_law_same" "_law_same" s__law_same f fd) (z_isinstance : mg "isinstance" = none) (z_str : mg "str" = none)
    (hm : ∀ ms Q, ms.length = 2 → sp ms Q → W__law_same  (endsF [false, false] Q) (env0 2 ms)) :
    FnOk P w K mg base CX0 1 f fd P__law_same (spD ⟨P, w, K⟩ 2 [false, false] sp) := by
  have nd := sc__law_same.nd
  exact fun_ok (io := [false, false]) (W := W__law_same ) F sc__law_same rfl (fun cdv A outer s H E hr => by
    unfold W__law_same
    exact
  (ds_one (ds_ret (d_and (d_isi (by rfl) z_isinstance (by rfl) z_str boot_str (xv 0)) (d_one (d_cmp (op_eqA hr.units) os_eq (xv 0) (xv 1) (nomark _))))))) hm
/-! _law_asked: 0 loom, 1 readers, 2 texts, 3 text, 4 due, 5 lap, 6 more, 7 ahead, 8 behind -/
abbrev s__law_asked : Stmt := topS 27
abbrev N__law_asked : List Str := ["loom", "readers", "texts", "text", "due", "lap", "more", "ahead", "behind"]
abbrev P__law_asked : List Str := ["loom", "readers", "texts"]
theorem sc__law_asked : FnScope N__law_asked P__law_asked (defScope s__law_asked) := ⟨rfl, rfl, rfl, by decide +kernel, rfl, by decide +kernel, by decide +kernel⟩
def W__law_asked (sp_marks_by sp_marks_by_parts sp__law_marks sp__law_short sp__law_parted sp__law_same : DSp) : WS :=
  (wSeq (wAsg 3 (wOp2 (g2 false dJoin) (wOk "str" (wC (.str ""))) false (wVar 2) true false))
  (wSeq (wAsg 4 (wCall sp__law_marks [none, none] (wConsM (wEsc (some 1) true (wVar 1)) (wConsM (wEsc (some 3) true (wVar 3)) wNil))))
  (wSeq (wIfS (wOrT (wNotT (wBool (wCall sp__law_same [none, none] (wConsM (wFrz (wCall sp_marks_by_parts [none, none] (wConsM (wEsc (some 1) true (wVar 1)) (wConsM (wEsc (some 2) true (wVar 2)) wNil)))) (wConsM (wEsc (some 4) true (wVar 4)) wNil))))) (wNotT (wBool (wCall sp__law_same [none, none] (wConsM (wFrz (wCallK sp_marks_by (wConsM (wEsc (some 3) true (wVar 3)) (wConsM (wEsc (some 1) true (wVar 1)) wNil)))) (wConsM (wEsc (some 4) true (wVar 4)) wNil))))))
    (wRet (wC (.bl false)))
    wSkip)
  (wSeq (wFor (wRg1 (wC (.int 2))) (gN 5)
    (wIfS (wNotT (wBool (wCall sp__law_same [none, none] (wConsM (wFrz (wCallK sp_marks_by_parts (wConsM (wFrz (wCall sp__law_parted [some 0, none] (wConsM (wMov 0) (wConsM (wEsc (some 3) true (wVar 3)) wNil)))) (wConsM (wEsc (some 1) true (wVar 1)) wNil)))) (wConsM (wEsc (some 4) true (wVar 4)) wNil)))))
      (wRet (wC (.bl false)))
      wSkip))
  (wSeq (wIfS (wAndT (wBool (wOp2 (g2 true (dCmpI fun i j => decide (i ≤ j))) (wOp (g1 false dLen) (wCons (wVar 3) true false wNil)) false (wC (.int 60)) false false)) (wNotT (wBool (wCall sp__law_same [none, none] (wConsM (wFrz (wCall sp_marks_by_parts [none, none] (wConsM (wEsc (some 1) true (wVar 1)) (wConsM (wFrz (wOp (g1 true dTuple) (wCons (wVar 3) true false wNil))) wNil)))) (wConsM (wEsc (some 4) true (wVar 4)) wNil))))))
    (wRet (wC (.bl false)))
    wSkip)
  (wSeq (wAsg 6 (wCall sp__law_short [some 0, none, none] (wConsM (wMov 0) (wConsM (wFrz (wEsc none true (wIx (wVar 1) true (wC (.int 0)) false))) (wConsM (wC (.int 3)) wNil)))))
  (wSeq (wIfS (wBool (wOp2 (g2 true (dCmpI fun i j => decide (j < i))) (wOp2 (g2 true dAdd) (wOp (g1 false dLen) (wCons (wVar 3) true false wNil)) false (wC (.int 6)) false false) false (wC (.int 2000)) false false))
    (wRet (wC (.bl true)))
    wSkip)
  (wSeq (wPar [7, 8] (wConsM (wCall sp_marks_by_parts [none, none] (wConsM (wEsc (some 1) true (wVar 1)) (wConsM (wFrz (wOp2 (g2 true dAdd) (wTup (wConsM (wEsc (some 6) true (wVar 6)) wNil)) false (wVar 2) true false)) wNil))) (wConsM (wCall sp_marks_by_parts [none, none] (wConsM (wEsc (some 1) true (wVar 1)) (wConsM (wFrz (wOp2 (g2 true dAdd) (wVar 2) true (wTup (wConsM (wC (.str "")) (wConsM (wEsc (some 6) true (wVar 6)) wNil))) false false)) wNil))) wNil)))
  (wRet (wAndV (wCall sp__law_same [none, none] (wConsM (wEsc (some 7) true (wVar 7)) (wConsM (wFrz (wCall sp__law_marks [none, none] (wConsM (wEsc (some 1) true (wVar 1)) (wConsM (wFrz (wOp2 (g2 true dAdd) (wVar 6) true (wVar 3) true false)) wNil)))) wNil))) (wCall sp__law_same [none, none] (wConsM (wEsc (some 8) true (wVar 8)) (wConsM (wFrz (wCall sp__law_marks [none, none] (wConsM (wEsc (some 1) true (wVar 1)) (wConsM (wFrz (wOp2 (g2 true dAdd) (wVar 3) true (wVar 6) true false)) wNil)))) wNil)))))))))))))
theorem ok__law_asked {f : Addr} {fd : FuncData} {sp : DSp} (F : Fun K "_law_asked" "_law_asked" s__law_asked f fd) (z_len : mg "len" = none) (z_range : mg "range" = none) (z_tuple : mg "tuple" = none) {f_marks_by : Addr} {fd_marks_by : FuncData} {sp_marks_by : DSp} (F_marks_by : Fun K "marks_by" "marks_by" s_marks_by f_marks_by fd_marks_by) (b_marks_by : Binds K fd_marks_by P_marks_by []) (a_marks_by : mg "marks_by" = some (.ref f_marks_by)) (G_marks_by : FnOk P w K mg base CX0 3 f_marks_by fd_marks_by P_marks_by (spD ⟨P, w, K⟩ 2 [false, false] sp_marks_by)) (kb_marks_by : KBinds K fd_marks_by P_marks_by ["text", "readers"] swap2 swap2) {f_marks_by_parts : Addr} {fd_marks_by_parts : FuncData} {sp_marks_by_parts : DSp} (F_marks_by_parts : Fun K "marks_by_parts" "marks_by_parts" s_marks_by_parts f_marks_by_parts fd_marks_by_parts) (b_marks_by_parts : Binds K fd_marks_by_parts P_marks_by_parts []) (a_marks_by_parts : mg "marks_by_parts" = some (.ref f_marks_by_parts)) (G_marks_by_parts : FnOk P w K mg base CX0 4 f_marks_by_parts fd_marks_by_parts P_marks_by_parts (spD ⟨P, w, K⟩ 2 [false, false] sp_marks_by_parts)) (kb_marks_by_parts : KBinds K fd_marks_by_parts P_marks_by_parts ["texts", "readers"] swap2 swap2) {f__law_marks : Addr} {fd__law_marks : FuncData} {sp__law_marks : DSp} (F__law_marks : Fun K "_law_marks" "_law_marks" s__law_marks f__law_marks fd__law_marks) (b__law_marks : Binds K fd__law_marks P__law_marks []) (a__law_marks : mg "_law_marks" = some (.ref f__law_marks)) (G__law_marks : FnOk P w K mg base CX0 1 f__law_marks fd__law_marks P__law_marks (spD ⟨P, w, K⟩ 2 [false, false] sp__law_marks)) {f__law_short : Addr} {fd__law_short : FuncData} {sp__law_short : DSp} (F__law_short : Fun K "_law_short" "_law_short" s__law_short f__law_short fd__law_short) (b__law_short : Binds K fd__law_short P__law_short []) (a__law_short : mg "_law_short" = some (.ref f__law_short)) (G__law_short : FnOk P w K mg base CX0 2 f__law_short fd__law_short P__law_short (spD ⟨P, w, K⟩ 3 [true, false, false] sp__law_short)) {f__law_parted : Addr} {fd__law_parted : FuncData} {sp__law_parted : DSp} (F__law_parted : Fun K "_law_parted" "_law_parted" s__law_parted f__law_parted fd__law_parted) (b__law_parted : Binds K fd__law_parted P__law_parted []) (a__law_parted : mg "_law_parted" = some (.ref f__law_parted)) (G__law_parted : FnOk P w K mg base CX0 2 f__law_parted fd__law_parted P__law_parted (spD ⟨P, w, K⟩ 2 [true, false] sp__law_parted)) {f__law_same : Addr} {fd__law_same : FuncData} {sp__law_same : DSp} (F__law_same : Fun K "_law_same" "_law_same" s__law_same f__law_same fd__law_same) (b__law_same : Binds K fd__law_same P__law_same []) (a__law_same : mg "_law_same" = some (.ref f__law_same)) (G__law_same : FnOk P w K mg base CX0 1 f__law_same fd__law_same P__law_same (spD ⟨P, w, K⟩ 2 [false, false] sp__law_same))
    (hm : ∀ ms Q, ms.length = 3 → sp ms Q → W__law_asked sp_marks_by sp_marks_by_parts sp__law_marks sp__law_short sp__law_parted sp__law_same (endsF [true, false, false] Q) (env0 9 ms)) :
    FnOk P w K mg base CX0 5 f fd P__law_asked (spD ⟨P, w, K⟩ 3 [true, false, false] sp) := by
  have nd := sc__law_asked.nd
  exact fun_ok (io := [true, false, false]) (W := W__law_asked sp_marks_by sp_marks_by_parts sp__law_marks sp__law_short sp__law_parted sp__law_same) F sc__law_asked rfl (fun cdv A outer s H E hr => by
    unfold W__law_asked
    exact
  (ds_cons (sA 3 nd (d_join d_str (xv 2)))
  (ds_cons (sA 4 nd (d_call G__law_marks (hr.mono (by decide)) (by rfl) a__law_marks F__law_marks.kp b__law_marks (m_cons (xe 1) (m_cons (xe 3) m_nil)) rfl rfl))
  (ds_cons (ds_if (PW.pt (w_or (t_not (t_val (d_call G__law_same (hr.mono (by decide)) (by rfl) a__law_same F__law_same.kp b__law_same (m_cons (d_frz (d_call G_marks_by_parts (hr.mono (by decide)) (by rfl) a_marks_by_parts F_marks_by_parts.kp b_marks_by_parts (m_cons (xe 1) (m_cons (xe 2) m_nil)) rfl rfl)) (m_cons (xe 4) m_nil)) rfl rfl))) (w_or1 (t_not (t_val (d_call G__law_same (hr.mono (by decide)) (by rfl) a__law_same F__law_same.kp b__law_same (m_cons (d_frz (d_callK G_marks_by (hr.mono (by decide)) (by rfl) a_marks_by F_marks_by.kp kb_marks_by (k_cons (xe 3) (k_cons (xe 1) k_nil)))) (m_cons (xe 4) m_nil)) rfl rfl))))))
    (ds_one (ds_ret d_bl))
    ds_nil)
  (ds_cons (ds_for PassesOwn.never rfl (di_rg1 (by rfl) z_range d_int) (gn 5 nd)
    (ds_one (ds_if (t_not (t_val (d_call G__law_same (hr.mono (by decide)) (by rfl) a__law_same F__law_same.kp b__law_same (m_cons (d_frz (d_callK G_marks_by_parts (hr.mono (by decide)) (by rfl) a_marks_by_parts F_marks_by_parts.kp kb_marks_by_parts (k_cons (d_frz (d_call G__law_parted (hr.mono (by decide)) (by rfl) a__law_parted F__law_parted.kp b__law_parted (mlend 0 (m_cons (xe 3) m_nil)) rfl rfl)) (k_cons (xe 1) k_nil)))) (m_cons (xe 4) m_nil)) rfl rfl)))
      (ds_one (ds_ret d_bl))
      ds_nil)))
  (ds_cons (ds_if (PW.pt (w_and (t_cmp op_le (os_cmpI _) (d_callB call_lenA os_len (by rfl) z_len boot_len (a_cons (xv 3) a_nil)) d_int (nomark _)) (w_and1 (t_not (t_val (d_call G__law_same (hr.mono (by decide)) (by rfl) a__law_same F__law_same.kp b__law_same (m_cons (d_frz (d_call G_marks_by_parts (hr.mono (by decide)) (by rfl) a_marks_by_parts F_marks_by_parts.kp b_marks_by_parts (m_cons (xe 1) (m_cons (d_frz (d_callTy (call_tupleA rfl) os_tuple (by rfl) z_tuple boot_tuple (a_cons (xv 3) a_nil))) m_nil)) rfl rfl)) (m_cons (xe 4) m_nil)) rfl rfl))))))
    (ds_one (ds_ret d_bl))
    ds_nil)
  (ds_cons (sA 6 nd (d_call G__law_short (hr.mono (by decide)) (by rfl) a__law_short F__law_short.kp b__law_short (mlend 0 (m_cons (d_frz (d_view (d_ix hr.units (xv 1) d_int (fun _ _ => rfl)))) (m_cons d_int m_nil))) rfl rfl))
  (ds_cons (ds_if (t_cmp op_gt (os_cmpI _) (d_bin op_add' os_add (d_callB call_lenA os_len (by rfl) z_len boot_len (a_cons (xv 3) a_nil)) d_int) d_int (nomark _))
    (ds_one (ds_ret d_bl))
    ds_nil)
  (ds_cons (ds_par2 (i := 7) (j := 8) rfl nd rfl rfl (by decide) (by decide) rfl rfl (m_cons (d_call G_marks_by_parts (hr.mono (by decide)) (by rfl) a_marks_by_parts F_marks_by_parts.kp b_marks_by_parts (m_cons (xe 1) (m_cons (d_frz (d_bin op_add' os_add (d_tup (m_cons (xe 6) m_nil)) (xv 2))) m_nil)) rfl rfl) (m_cons (d_call G_marks_by_parts (hr.mono (by decide)) (by rfl) a_marks_by_parts F_marks_by_parts.kp b_marks_by_parts (m_cons (xe 1) (m_cons (d_frz (d_bin op_add' os_add (xv 2) (d_tup (m_cons d_str (m_cons (xe 6) m_nil))))) m_nil)) rfl rfl) m_nil)))
  (ds_one (ds_ret (d_and (d_call G__law_same (hr.mono (by decide)) (by rfl) a__law_same F__law_same.kp b__law_same (m_cons (xe 7) (m_cons (d_frz (d_call G__law_marks (hr.mono (by decide)) (by rfl) a__law_marks F__law_marks.kp b__law_marks (m_cons (xe 1) (m_cons (d_frz (d_bin op_add' os_add (xv 6) (xv 3))) m_nil)) rfl rfl)) m_nil)) rfl rfl) (d_one (d_call G__law_same (hr.mono (by decide)) (by rfl) a__law_same F__law_same.kp b__law_same (m_cons (xe 8) (m_cons (d_frz (d_call G__law_marks (hr.mono (by decide)) (by rfl) a__law_marks F__law_marks.kp b__law_marks (m_cons (xe 1) (m_cons (d_frz (d_bin op_add' os_add (xv 3) (xv 6))) m_nil)) rfl rfl)) m_nil)) rfl rfl)))))))))))))) hm
/-! law: 0 script, 1 loom, 2 lap, 3 readers -/
abbrev s_law : Stmt := topS 28
abbrev N_law : List Str := ["script", "loom", "lap", "readers"]
abbrev P_law : List Str := ["script"]
theorem sc_law : FnScope N_law P_law (defScope s_law) := ⟨rfl, rfl, rfl, by decide +kernel, rfl, by decide +kernel, by decide +kernel⟩
def W_law (sp_marks_by_parts sp__law_loom sp__law_made sp__law_texts sp__law_same sp__law_asked : DSp) : WS :=
  (wSeq (wAsg 1 (wCall sp__law_loom [none] (wConsM (wEsc (some 0) true (wVar 0)) wNil)))
  (wSeq (wFor (wRg1 (wC (.int 2))) (gN 2)
    (wSeq (wAsg 3 (wCall sp__law_made [some 1] (wConsM (wMov 1) wNil)))
    (wSeq (wIfS (wNotT (wBool (wCall sp__law_asked [some 1, none, none] (wLend 1 (wConsM (wEsc (some 3) true (wVar 3)) (wConsM (wFrz (wCall sp__law_texts [some 1, none] (wConsM (wMov 1) (wConsM (wFrz (wEsc none true (wIx (wVar 3) true (wC (.int 0)) false))) wNil)))) wNil))))))
      (wRet (wC (.bl false)))
      wSkip)
    (wIfS (wOrT (wNotT (wBool (wCall sp__law_same [none, none] (wConsM (wFrz (wCall sp_marks_by_parts [none, none] (wConsM (wEsc (some 3) true (wVar 3)) (wConsM (wFrz (wTup wNil)) wNil)))) (wConsM (wC (.str "")) wNil))))) (wNotT (wBool (wCall sp__law_same [none, none] (wConsM (wFrz (wCall sp_marks_by_parts [none, none] (wConsM (wEsc (some 3) true (wVar 3)) (wConsM (wFrz (wTup (wConsM (wC (.str "")) (wConsM (wC (.str "")) wNil)))) wNil)))) (wConsM (wC (.str "")) wNil))))))
      (wRet (wC (.bl false)))
      wSkip))))
  (wRet (wC (.bl true)))))
theorem ok_law {f : Addr} {fd : FuncData} {sp : DSp} (F : Fun K "law" "law" s_law f fd) (z_range : mg "range" = none) {f_marks_by_parts : Addr} {fd_marks_by_parts : FuncData} {sp_marks_by_parts : DSp} (F_marks_by_parts : Fun K "marks_by_parts" "marks_by_parts" s_marks_by_parts f_marks_by_parts fd_marks_by_parts) (b_marks_by_parts : Binds K fd_marks_by_parts P_marks_by_parts []) (a_marks_by_parts : mg "marks_by_parts" = some (.ref f_marks_by_parts)) (G_marks_by_parts : FnOk P w K mg base CX0 4 f_marks_by_parts fd_marks_by_parts P_marks_by_parts (spD ⟨P, w, K⟩ 2 [false, false] sp_marks_by_parts)) {f__law_loom : Addr} {fd__law_loom : FuncData} {sp__law_loom : DSp} (F__law_loom : Fun K "_law_loom" "_law_loom" s__law_loom f__law_loom fd__law_loom) (b__law_loom : Binds K fd__law_loom P__law_loom []) (a__law_loom : mg "_law_loom" = some (.ref f__law_loom)) (G__law_loom : FnOk P w K mg base CX0 1 f__law_loom fd__law_loom P__law_loom (spD ⟨P, w, K⟩ 1 [false] sp__law_loom)) {f__law_made : Addr} {fd__law_made : FuncData} {sp__law_made : DSp} (F__law_made : Fun K "_law_made" "_law_made" s__law_made f__law_made fd__law_made) (b__law_made : Binds K fd__law_made P__law_made []) (a__law_made : mg "_law_made" = some (.ref f__law_made)) (G__law_made : FnOk P w K mg base CX0 3 f__law_made fd__law_made P__law_made (spD ⟨P, w, K⟩ 1 [true] sp__law_made)) {f__law_texts : Addr} {fd__law_texts : FuncData} {sp__law_texts : DSp} (F__law_texts : Fun K "_law_texts" "_law_texts" s__law_texts f__law_texts fd__law_texts) (b__law_texts : Binds K fd__law_texts P__law_texts []) (a__law_texts : mg "_law_texts" = some (.ref f__law_texts)) (G__law_texts : FnOk P w K mg base CX0 3 f__law_texts fd__law_texts P__law_texts (spD ⟨P, w, K⟩ 2 [true, false] sp__law_texts)) {f__law_same : Addr} {fd__law_same : FuncData} {sp__law_same : DSp} (F__law_same : Fun K "_law_same" "_law_same" s__law_same f__law_same fd__law_same) (b__law_same : Binds K fd__law_same P__law_same []) (a__law_same : mg "_law_same" = some (.ref f__law_same)) (G__law_same : FnOk P w K mg base CX0 1 f__law_same fd__law_same P__law_same (spD ⟨P, w, K⟩ 2 [false, false] sp__law_same)) {f__law_asked : Addr} {fd__law_asked : FuncData} {sp__law_asked : DSp} (F__law_asked : Fun K "_law_asked" "_law_asked" s__law_asked f__law_asked fd__law_asked) (b__law_asked : Binds K fd__law_asked P__law_asked []) (a__law_asked : mg "_law_asked" = some (.ref f__law_asked)) (G__law_asked : FnOk P w K mg base CX0 5 f__law_asked fd__law_asked P__law_asked (spD ⟨P, w, K⟩ 3 [true, false, false] sp__law_asked))
    (hm : ∀ ms Q, ms.length = 1 → sp ms Q → W_law sp_marks_by_parts sp__law_loom sp__law_made sp__law_texts sp__law_same sp__law_asked (endsF [false] Q) (env0 4 ms)) :
    FnOk P w K mg base CX0 6 f fd P_law (spD ⟨P, w, K⟩ 1 [false] sp) := by
  have nd := sc_law.nd
  exact fun_ok (io := [false]) (W := W_law sp_marks_by_parts sp__law_loom sp__law_made sp__law_texts sp__law_same sp__law_asked) F sc_law rfl (fun cdv A outer s H E hr => by
    unfold W_law
    exact
  (ds_cons (sA 1 nd (d_call G__law_loom (hr.mono (by decide)) (by rfl) a__law_loom F__law_loom.kp b__law_loom (m_cons (xe 0) m_nil) rfl rfl))
  (ds_cons (ds_for PassesOwn.never rfl (di_rg1 (by rfl) z_range d_int) (gn 2 nd)
    (ds_cons (sA 3 nd (d_call G__law_made (hr.mono (by decide)) (by rfl) a__law_made F__law_made.kp b__law_made (mlend 1 m_nil) rfl rfl))
    (ds_cons (ds_if (t_not (t_val (d_call G__law_asked (hr.mono (by decide)) (by rfl) a__law_asked F__law_asked.kp b__law_asked (mlendL 1 (m_cons (xe 3) (m_cons (d_frz (d_call G__law_texts (hr.mono (by decide)) (by rfl) a__law_texts F__law_texts.kp b__law_texts (mlend 1 (m_cons (d_frz (d_view (d_ix hr.units (xv 3) d_int (fun _ _ => rfl)))) m_nil)) rfl rfl)) m_nil))) rfl rfl)))
      (ds_one (ds_ret d_bl))
      ds_nil)
    (ds_one (ds_if (PW.pt (w_or (t_not (t_val (d_call G__law_same (hr.mono (by decide)) (by rfl) a__law_same F__law_same.kp b__law_same (m_cons (d_frz (d_call G_marks_by_parts (hr.mono (by decide)) (by rfl) a_marks_by_parts F_marks_by_parts.kp b_marks_by_parts (m_cons (xe 3) (m_cons (d_frz (d_tup m_nil)) m_nil)) rfl rfl)) (m_cons d_str m_nil)) rfl rfl))) (w_or1 (t_not (t_val (d_call G__law_same (hr.mono (by decide)) (by rfl) a__law_same F__law_same.kp b__law_same (m_cons (d_frz (d_call G_marks_by_parts (hr.mono (by decide)) (by rfl) a_marks_by_parts F_marks_by_parts.kp b_marks_by_parts (m_cons (xe 3) (m_cons (d_frz (d_tup (m_cons d_str (m_cons d_str m_nil)))) m_nil)) rfl rfl)) (m_cons d_str m_nil)) rfl rfl))))))
      (ds_one (ds_ret d_bl))
      ds_nil)))))
  (ds_one (ds_ret d_bl))))) hm
end
end DL

namespace DL
open PySem PySem.Spec PyProof.Rows L2
local macro_rules | `(tactic| and_intros) => `(tactic| (repeat' (first | (with_reducible refine st_seq ?_) | (with_reducible refine st_asg ?_) | (with_reducible refine st_asgT ?_) | (with_reducible refine st_expr ?_) | (with_reducible refine st_ret ?_) | (with_reducible refine st_if ?_) | (with_reducible refine st_set ?_) | (with_reducible refine st_for ?_) | (with_reducible refine st_par ?_) | (with_reducible refine st_c ?_) | (with_reducible refine st_view ?_) | (with_reducible refine st_op1 ?_) | (with_reducible refine st_op2 ?_) | (with_reducible refine st_op ?_) | (with_reducible refine st_ix ?_) | (with_reducible refine st_nil ?_) | (with_reducible refine st_cons ?_) | (with_reducible refine st_consM ?_) | (with_reducible refine st_lst ?_) | (with_reducible refine st_tup ?_) | (with_reducible refine st_call ?_) | (with_reducible refine st_callK ?_) | (with_reducible refine st_ife ?_) | (with_reducible refine st_ok ?_) | (with_reducible refine st_dic ?_) | (with_reducible refine st_isi ?_) | (with_reducible refine st_sl ?_) | (with_reducible refine st_part0 ?_) | (with_reducible refine st_part1 ?_) | (with_reducible refine st_bool ?_) | (with_reducible refine st_notT ?_) | (with_reducible refine st_andT ?_) | (with_reducible refine st_orT ?_) | (with_reducible refine st_yes ?_) | (with_reducible refine st_andV ?_) | (with_reducible refine st_orV ?_) | (with_reducible refine st_notV ?_) | (with_reducible refine st_it ?_) | (with_reducible refine st_rg1 ?_) | (with_reducible refine st_enum ?_) | (with_reducible refine st_zip ?_) | (with_reducible refine st_lc ?_) | (with_reducible refine st_frz ?_) | ((with_reducible apply st_var); exact rfl) | ((with_reducible apply st_mov); exact rfl) | ((with_reducible apply st_lend); exact rfl) | ((with_reducible apply st_escf); exact rfl) | ((with_reducible apply st_esco); exact rfl) | ((with_reducible apply st_escd); exact rfl) | ((with_reducible apply st_aug); exact rfl) | ((with_reducible apply st_gn); exact rfl) | ((with_reducible apply st_gt); exact rfl) | (with_reducible refine st_gnil ?_) | (with_reducible refine st_gcons ?_) | ((with_reducible apply st_setd); exact ⟨_, _, rfl⟩) | ((with_reducible apply st_app); exact ⟨_, rfl⟩) | (with_reducible refine tl2 ev_lt ?_) | (with_reducible refine tl2 ev_cmp ?_) | (with_reducible refine tl2 ev_add ?_) | (with_reducible refine tl2 ev_sub ?_) | (with_reducible refine tl2 ev_eqI ?_) | (with_reducible refine tl2 ev_neI ?_) | (with_reducible refine tl2 ev_max ?_) | (with_reducible refine tl2 ev_min ?_) | (with_reducible refine tl2' ev_lt ?_) | (with_reducible refine tl2' ev_cmp ?_) | (with_reducible refine tl2' ev_add ?_) | (with_reducible refine tl2' ev_sub ?_) | (with_reducible refine tl2' ev_eqI ?_) | (with_reducible refine tl2' ev_neI ?_) | (with_reducible refine tl2' ev_max ?_) | (with_reducible refine tl2' ev_min ?_) | (with_reducible refine tl1 ev_neg ?_) | (with_reducible refine tl1 ev_lenO ?_) | (with_reducible refine tl1 ev_lenL ?_) | (with_reducible refine tl1 ev_lenT ?_) | (with_reducible refine tl1 ev_lenC ?_) | (with_reducible refine tl1 ev_lenD ?_) | (with_reducible refine tl1 ev_intI ?_) | (with_reducible refine tl1 ev_intB ?_) | (with_reducible refine tl1 ev_abs ?_) | (with_reducible refine tl1 ev_tupO ?_) | (with_reducible refine tl1 ev_tupL ?_) | (with_reducible refine tlz ?_) | (with_reducible refine tlb ?_) | (with_reducible refine tli ?_) | (with_reducible refine tlt ?_) | (with_reducible refine tll ?_) | (with_reducible refine tlo ?_) | (with_reducible refine tlc ?_) | (with_reducible refine ⟨len1, ?_⟩) | (with_reducible refine ⟨len2, ?_⟩) | (with_reducible refine ⟨len3, ?_⟩) | (with_reducible refine ⟨len0, ?_⟩) | (with_reducible refine ⟨len4, ?_⟩) | (with_reducible refine ⟨len5, ?_⟩) | (with_reducible refine ⟨len6, ?_⟩) | ((with_reducible apply tlen); exact rfl) | ((with_reducible apply tset); exact rfl))))

/-! ### numbers, bools, lists as data -/
abbrev nI (j : Nat) : MV := .fz (.int (j : Nat))
def nM (xs : List Nat) : List MV := xs.map nI
def bM (xs : List Bool) : List MV := xs.map fun b => .fz (.bl b)
abbrev dN (xs : List Nat) : D := .tup (xs.map fun j => .int (j : Nat))
abbrev dS (steps : List (List Nat)) : D := .tup (steps.map dN)
theorem ixN_at {n j : Nat} (hj : j < n) : ixN n (j : Int) = some j := by
  unfold ixN
  rw [if_pos (Int.natCast_nonneg j), if_pos (by omega), Int.toNat_natCast]
theorem atI_nat {α : Type} {xs : List α} {j : Nat} {x : α} (h : xs[j]? = some x) : atI xs (j : Nat) = some x := by
  unfold atI
  rw [ixN_at (List.getElem?_eq_some_iff.mp h).1]
  exact h
theorem ix_ol {xs : List MV} {j : Nat} {x : MV} (h : xs[j]? = some x) : (MV.ol xs).ix (D.int (j : Nat)) = some x := atI_nat h
theorem ix_tup {xs : List D} {j : Nat} {x : D} (h : xs[j]? = some x) : (MV.fz (.tup xs)).ix (D.int (j : Nat)) = some (.fz x) := by
  show (D.ix (.tup xs) (.int (j : Nat))).map MV.fz = _
  rw [show D.ix (.tup xs) (.int (j : Nat)) = atI xs (j : Nat) from rfl, atI_nat h]; rfl
theorem ix_lst {xs : List D} {j : Nat} {x : D} (h : xs[j]? = some x) : (MV.fz (.lst xs)).ix (D.int (j : Nat)) = some (.fz x) := by
  show (D.ix (.lst xs) (.int (j : Nat))).map MV.fz = _
  rw [show D.ix (.lst xs) (.int (j : Nat)) = atI xs (j : Nat) from rfl, atI_nat h]; rfl
theorem put_ol {xs : List MV} {j : Nat} {m : MV} (h : j < xs.length) : (MV.ol xs).put (.fz (.int (j : Nat))) m = some (.ol (xs.set j m)) := by
  show (ixN xs.length (j : Nat)).map _ = _
  rw [ixN_at h]; rfl
theorem nM_get {xs : List Nat} {i j : Nat} (h : xs[i]? = some j) : (nM xs)[i]? = some (nI j) := by unfold nM; rw [List.getElem?_map, h]; rfl
theorem bM_get {xs : List Bool} {i : Nat} {b : Bool} (h : xs[i]? = some b) : (bM xs)[i]? = some (.fz (.bl b)) := by unfold bM; rw [List.getElem?_map, h]; rfl
theorem nM_len (xs : List Nat) : (nM xs).length = xs.length := List.length_map ..
theorem bM_len (xs : List Bool) : (bM xs).length = xs.length := List.length_map ..
theorem nM_app (xs : List Nat) (j : Nat) : nM xs ++ [nI j] = nM (xs ++ [j]) := by unfold nM; rw [List.map_append]; rfl
theorem bM_set (xs : List Bool) (j : Nat) (b : Bool) : (bM xs).set j (.fz (.bl b)) = bM (xs.set j b) := by unfold bM; rw [List.map_set]
theorem dN_items (xs : List Nat) : dItems (dN xs) = some (xs.map fun j => .int (j : Nat)) := rfl

/-! ### reached_order -/
structure StepsOk (steps : List (List Nat)) : Prop where
  pos : 0 < steps.length
  small : steps.length ≤ 1000
  lt : ∀ r ∈ steps, ∀ j ∈ r, j < steps.length
  row : ∀ r ∈ steps, r.length ≤ 1000
inductive Reach (steps : List (List Nat)) : Nat → Prop
  | zero : Reach steps 0
  | step {s t : Nat} {r : List Nat} : Reach steps s → steps[s]? = some r → t ∈ r → Reach steps t
structure OrderOk (steps : List (List Nat)) (order : List Nat) : Prop where
  nd : order.Nodup
  iff : ∀ j, j ∈ order ↔ Reach steps j
  head : order[0]? = some 0
  lt : ∀ j ∈ order, j < steps.length
def spReached : DSp := fun ms Q => ∃ steps, ms = [.fz (dS steps)] ∧ StepsOk steps ∧ ∀ order, OrderOk steps order → Q (.ol (nM order)) [.fz .non]
structure RInv (steps : List (List Nat)) (seen : List Bool) (queue : List Nat) : Prop where
  sl : seen.length = steps.length
  nd : queue.Nodup
  iff : ∀ j, j ∈ queue ↔ seen[j]? = some true
  head : queue[0]? = some 0
  reach : ∀ j ∈ queue, Reach steps j
theorem RInv.lt {steps : List (List Nat)} {seen : List Bool} {queue : List Nat} (h : RInv steps seen queue) {j : Nat} (hj : j ∈ queue) : j < steps.length := by
  have := (List.getElem?_eq_some_iff.mp ((h.iff j).mp hj)).1
  rw [h.sl] at this
  exact this
theorem nodup_le : ∀ {n : Nat} {xs : List Nat}, xs.Nodup → (∀ j ∈ xs, j < n) → xs.length ≤ n
  | 0, [], _, _ => Nat.le_refl _
  | 0, x :: xs, _, h => absurd (h x (List.mem_cons_self ..)) (Nat.not_lt_zero _)
  | n + 1, xs, h, hl => by
    by_cases hn : n ∈ xs
    · have h1 := List.length_erase_of_mem hn
      have h2 : (xs.erase n).length ≤ n := nodup_le (h.erase n) fun j hj => by
        have := h.mem_erase_iff.mp hj
        have := hl j this.2
        omega
      have : 0 < xs.length := List.length_pos_of_mem hn
      omega
    · have : xs.length ≤ n := nodup_le h fun j hj => by
        have h3 := hl j hj
        have : j ≠ n := fun e => hn (e ▸ hj)
        omega
      omega
theorem RInv.len {steps : List (List Nat)} {seen : List Bool} {queue : List Nat} (h : RInv steps seen queue) : queue.length ≤ steps.length := nodup_le h.nd fun j hj => h.lt hj
theorem RInv.add {steps : List (List Nat)} {seen : List Bool} {queue : List Nat} (h : RInv steps seen queue) {j : Nat} (hr : Reach steps j) (hj : seen[j]? = some false) : RInv steps (seen.set j true) (queue ++ [j]) where
  sl := by rw [List.length_set]; exact h.sl
  nd := List.nodup_append.mpr ⟨h.nd, by simp, fun a ha b hb => by
    rw [List.mem_singleton.mp hb]
    intro e
    subst e
    rw [(h.iff a).mp ha] at hj
    cases hj⟩
  iff := fun i => by
    have hl := (List.getElem?_eq_some_iff.mp hj).1
    rw [List.mem_append, List.mem_singleton, h.iff]
    by_cases e : i = j
    · subst e
      rw [List.getElem?_set_self hl]
      simp
    · rw [List.getElem?_set_ne (Ne.symm e)]
      simp [e]
  head := by
    have : 0 < queue.length := (List.getElem?_eq_some_iff.mp h.head).1
    rw [List.getElem?_append_left this]
    exact h.head
  reach := fun i hi => by
    rcases List.mem_append.mp hi with hi | hi
    · exact h.reach i hi
    · rw [List.mem_singleton.mp hi]; exact hr
theorem m_reached (ms : List MV) (Q : MV → List MV → Prop) (hl : ms.length = 1) (hsp : spReached ms Q) : W_reached_order (endsF [false] Q) (env0 5 ms) := by
  obtain ⟨steps, rfl, ok, hq⟩ := hsp
  have hlim : lim = 16777216 := rfl
  have hn : steps.length ≤ lim := by have := ok.small; omega
  unfold W_reached_order
  have e : env0 5 [MV.fz (dS steps)] = [some (.fz (dS steps)), none, none, none, none] := rfl
  rw [e]
  clear e
  have hds : (steps.map dN).length = steps.length := List.length_map ..
  and_intros
  rw [hds]
  refine tl2 (ev_rep hn) ?_
  and_intros
  (try dsimp only [List.set_cons_zero, List.set_cons_succ, wipeD, putBack, toD_fz])
  have e0 : List.replicate steps.length (MV.fz (D.bl false)) = bM (List.replicate steps.length false) := by unfold bM; rw [List.map_replicate]
  rw [e0]
  refine tput rfl (put_ol (j := 0) (by rw [bM_len, List.length_replicate]; exact ok.pos)) ?_
  (try dsimp only [List.set_cons_zero, List.set_cons_succ, wipeD, putBack, toD_fz])
  rw [bM_set]
  and_intros
  (try dsimp only [List.set_cons_zero, List.set_cons_succ, wipeD, putBack, toD_fz])
  refine ⟨fun m ρ => ∃ (seen : List Bool) (queue : List Nat) (at_ : Nat) (st : Option MV), ρ = [some (.fz (dS steps)), some (.ol (bM seen)), some (.ol (nM queue)), some (nI at_), st] ∧ RInv steps seen queue ∧ at_ ≤ queue.length ∧
    (∀ i, i < at_ → ∀ s r, queue[i]? = some s → steps[s]? = some r → ∀ t ∈ r, t ∈ queue) ∧ m + at_ = steps.length,
    ⟨steps.length, (List.replicate steps.length false).set 0 true, [0], 0, none, rfl, ⟨by rw [List.length_set, List.length_replicate], by simp, fun j => ?_, rfl, fun j hj => ?_⟩, Nat.zero_le _, fun i h => absurd h (Nat.not_lt_zero _), rfl⟩, fun m ρ ⟨seen, queue, at_, st, e, inv, hat, hcl, hm⟩ => ?_⟩
  · have hpos := ok.pos
    rw [List.mem_singleton]
    by_cases hj : j = 0
    · subst hj
      rw [List.getElem?_set_self (by rw [List.length_replicate]; exact hpos)]
      simp
    · rw [List.getElem?_set_ne (Ne.symm hj), List.getElem?_replicate]
      split <;> simp [hj]
  · rw [List.mem_singleton.mp hj]; exact .zero
  subst e
  have hql := inv.len
  and_intros
  rw [nM_len]
  refine tif (fun hlt => ?_) fun hge => ?_
  · have es : queue[at_]? = some queue[at_] := List.getElem?_eq_getElem hlt
    generalize queue[at_] = s at es
    have hs : s < steps.length := inv.lt (List.mem_of_getElem? es)
    have er : steps[s]? = some steps[s] := List.getElem?_eq_getElem hs
    generalize steps[s] = r at er
    and_intros
    refine tlx (ix_ol (nM_get es)) ?_
    refine tlx (ix_tup (x := dN r) (by rw [List.getElem?_map, er]; rfl)) ?_
    and_intros
    refine for_inv (fun i ρ => ∃ (seen' : List Bool) (more : List Nat) (st : Option MV), ρ = [some (.fz (dS steps)), some (.ol (bM seen')), some (.ol (nM (queue ++ more))), some (nI at_), st] ∧ RInv steps seen' (queue ++ more) ∧ ∀ t ∈ r.take i, t ∈ queue ++ more)
      ⟨seen, [], st, by rw [List.append_nil], by rw [List.append_nil]; exact inv, fun t h => by simp at h⟩ (fun i d ρ k ed ⟨seen', more, st, e, inv', ht⟩ hk => ?_) fun ρ ⟨seen', more, st, e, inv', ht⟩ => ?_
    · rw [List.getElem?_map] at ed
      obtain ⟨t, et, rfl⟩ := Option.map_eq_some_iff.mp ed
      subst e
      have htn : t < steps.length := ok.lt r (List.mem_of_getElem? er) t (List.mem_of_getElem? et)
      have hreach : Reach steps t := .step (inv.reach s (List.mem_of_getElem? es)) er (List.mem_of_getElem? et)
      have htake : ∀ u ∈ r.take (i + 1), u = t ∨ u ∈ r.take i := fun u hu => by
        rw [List.take_add_one, et] at hu
        rcases List.mem_append.mp hu with hu | hu
        · exact .inr hu
        · exact .inl (by simpa using hu)
      have eb : seen'[t]? = some (seen'[t]'(by rw [inv'.sl]; exact htn)) := List.getElem?_eq_getElem _
      generalize seen'[t]'(by rw [inv'.sl]; exact htn) = b at eb
      and_intros
      (try dsimp only [List.set_cons_zero, List.set_cons_succ, wipeD, putBack, toD_fz])
      and_intros
      refine tlx (ix_ol (bM_get eb)) ?_
      and_intros
      cases b with
      | true =>
        rw [if_neg (by decide)]
        refine hk _ ⟨seen', more, _, rfl, inv', fun u hu => ?_⟩
        rcases htake u hu with rfl | hu
        · exact (inv'.iff u).mpr eb
        · exact ht u hu
      | false =>
        rw [if_pos (by decide)]
        and_intros
        refine tput rfl (put_ol (j := t) (by rw [bM_len, inv'.sl]; exact htn)) ?_
        (try dsimp only [List.set_cons_zero, List.set_cons_succ, wipeD, putBack, toD_fz])
        rw [bM_set]
        have inv2 := inv'.add hreach eb
        have hql2 := inv2.len
        and_intros
        refine tapp rfl (by rw [nM_len]; rw [List.length_append, List.length_singleton] at hql2; have := ok.small; omega) ?_
        (try dsimp only [List.set_cons_zero, List.set_cons_succ, wipeD, putBack, toD_fz])
        rw [nM_app, List.append_assoc]
        rw [List.append_assoc] at inv2
        refine hk _ ⟨seen'.set t true, more ++ [t], _, rfl, inv2, fun u hu => ?_⟩
        rcases htake u hu with rfl | hu
        · simp
        · rw [← List.append_assoc]; exact List.mem_append_left _ (ht u hu)
    · subst e
      rw [List.length_map, List.take_length] at ht
      and_intros
      (try dsimp only [List.set_cons_zero, List.set_cons_succ, wipeD, putBack, toD_fz])
      refine ⟨m - 1, by omega, seen', queue ++ more, at_ + 1, st, ?_, inv', ?_, fun i hi s' r' e1 e2 u hu => ?_, by omega⟩
      · rfl
      · rw [List.length_append]; omega
      · by_cases hia : i = at_
        · subst hia
          rw [List.getElem?_append_left hlt, es] at e1
          cases e1
          rw [er] at e2
          cases e2
          exact ht u hu
        · rw [List.getElem?_append_left (by omega)] at e1
          exact List.mem_append_left _ (hcl i (by omega) s' r' e1 e2 u hu)
  · and_intros
    refine ⟨_, rfl, hq queue ⟨inv.nd, fun j => ⟨inv.reach j, fun hj => ?_⟩, inv.head, fun j => inv.lt⟩⟩
    induction hj with
    | zero => exact List.mem_of_getElem? inv.head
    | @step s t r _ er htr ih =>
      obtain ⟨i, hi⟩ := List.mem_iff_getElem?.mp ih
      have : i < queue.length := (List.getElem?_eq_some_iff.mp hi).1
      exact hcl i (by omega) s r hi er t htr
end DL

/-! numbers by setdefault: the plain law. -/
namespace DL
open PySem PySem.Spec PyProof.Rows L2

theorem snoc_ind {P : List Nat → Prop} (h0 : P []) (hs : ∀ l s, P l → P (l ++ [s])) (l : List Nat) : P l := by
  have h : ∀ r : List Nat, P r.reverse := fun r => by
    induction r with
    | nil => exact h0
    | cons x r ih => rw [List.reverse_cons]; exact hs _ _ ih
  have := h l.reverse
  rwa [List.reverse_reverse] at this
theorem sameK_iff {a b : D} : sameK a b = true ↔ a.nk = b.nk := by unfold sameK; exact decide_eq_true_iff
def addK (ks : List D) (k : D) : List D := if (ks.any fun x => sameK x k) = true then ks else ks ++ [k]
def ixK (ks : List D) (k : D) : Nat := ks.findIdx fun x => sameK x k
def numb (κ : Nat → D) (l : List Nat) : List D := l.foldl (fun ks s => addK ks (κ s)) []
theorem numb_snoc (κ : Nat → D) (l : List Nat) (s : Nat) : numb κ (l ++ [s]) = addK (numb κ l) (κ s) := by unfold numb; rw [List.foldl_append]; rfl
theorem ixK_lt {ks : List D} {k : D} (h : ∃ x ∈ ks, x.nk = k.nk) : ixK ks k < ks.length := by
  obtain ⟨x, hx, e⟩ := h
  exact List.findIdx_lt_length_of_exists ⟨x, hx, sameK_iff.mpr e⟩
theorem ixK_get {ks : List D} {k : D} (h : ixK ks k < ks.length) : (ks[ixK ks k]).nk = k.nk := by
  have := List.findIdx_getElem (p := fun x => sameK x k) (w := h)
  exact sameK_iff.mp this
theorem ixK_app {ks : List D} {k : D} (more : List D) (h : ∃ x ∈ ks, x.nk = k.nk) : ixK (ks ++ more) k = ixK ks k := by
  unfold ixK
  rw [List.findIdx_append]
  exact if_pos (ixK_lt h)
theorem ixK_not {ks : List D} {k : D} (h : ¬ ∃ x ∈ ks, x.nk = k.nk) : ixK ks k = ks.length := by
  unfold ixK
  rw [List.findIdx_eq_length]
  intro x hx
  cases e : sameK x k with
  | false => rfl
  | true => exact absurd ⟨x, hx, sameK_iff.mp e⟩ h
theorem addK_pos {ks : List D} {k : D} (h : ∃ x ∈ ks, x.nk = k.nk) : addK ks k = ks := by
  obtain ⟨x, hx, e⟩ := h
  unfold addK
  exact if_pos (show (ks.any fun x => sameK x k) = true from List.any_eq_true.mpr ⟨x, hx, sameK_iff.mpr e⟩)
theorem addK_neg {ks : List D} {k : D} (h : ¬ ∃ x ∈ ks, x.nk = k.nk) : addK ks k = ks ++ [k] := by
  unfold addK
  rw [if_neg]
  intro z
  obtain ⟨x, hx, e⟩ := List.any_eq_true.mp z
  exact h ⟨x, hx, sameK_iff.mp e⟩
theorem addK_app (ks : List D) (k : D) : ∃ more, addK ks k = ks ++ more := by
  by_cases h : ∃ x ∈ ks, x.nk = k.nk
  · exact ⟨[], by rw [addK_pos h, List.append_nil]⟩
  · exact ⟨[k], addK_neg h⟩
theorem addK_has (ks : List D) (k : D) : ∃ x ∈ addK ks k, x.nk = k.nk := by
  by_cases h : ∃ x ∈ ks, x.nk = k.nk
  · rw [addK_pos h]; exact h
  · rw [addK_neg h]; exact ⟨k, by simp, rfl⟩
structure NInv (κ : Nat → D) (l : List Nat) : Prop where
  from_ : ∀ k ∈ numb κ l, ∃ s ∈ l, κ s = k
  dis : (numb κ l).Pairwise fun a b => a.nk ≠ b.nk
  has : ∀ s ∈ l, ∃ k ∈ numb κ l, k.nk = (κ s).nk
theorem NInv.nil (κ : Nat → D) : NInv κ [] := ⟨fun k h => (nomatch h), .nil, fun s h => (nomatch h)⟩
theorem NInv.snoc {κ : Nat → D} {l : List Nat} (h : NInv κ l) (s : Nat) : NInv κ (l ++ [s]) where
  from_ := fun k hk => by
    rw [numb_snoc] at hk
    by_cases e : ∃ x ∈ numb κ l, x.nk = (κ s).nk
    · rw [addK_pos e] at hk
      obtain ⟨t, ht, e⟩ := h.from_ k hk
      exact ⟨t, List.mem_append_left _ ht, e⟩
    · rw [addK_neg e] at hk
      rcases List.mem_append.mp hk with hk | hk
      · obtain ⟨t, ht, e⟩ := h.from_ k hk
        exact ⟨t, List.mem_append_left _ ht, e⟩
      · exact ⟨s, by simp, (List.mem_singleton.mp hk).symm⟩
  dis := by
    rw [numb_snoc]
    by_cases e : ∃ x ∈ numb κ l, x.nk = (κ s).nk
    · rw [addK_pos e]; exact h.dis
    · rw [addK_neg e]
      refine List.pairwise_append.mpr ⟨h.dis, List.pairwise_singleton _ _, fun a ha b hb z => ?_⟩
      rw [List.mem_singleton.mp hb] at z
      exact e ⟨a, ha, z⟩
  has := fun t ht => by
    rw [numb_snoc]
    obtain ⟨more, em⟩ := addK_app (numb κ l) (κ s)
    rcases List.mem_append.mp ht with ht | ht
    · obtain ⟨k, hk, e⟩ := h.has t ht
      rw [em]
      exact ⟨k, List.mem_append_left _ hk, e⟩
    · rw [List.mem_singleton.mp ht]
      exact addK_has _ _
theorem NInv.all (κ : Nat → D) (l : List Nat) : NInv κ l := snoc_ind (.nil κ) (fun _ s ih => ih.snoc s) l
theorem NInv.stay {κ : Nat → D} {l : List Nat} (h : NInv κ l) (s : Nat) {t : Nat} (ht : t ∈ l) : ixK (numb κ (l ++ [s])) (κ t) = ixK (numb κ l) (κ t) := by
  rw [numb_snoc]
  obtain ⟨more, em⟩ := addK_app (numb κ l) (κ s)
  rw [em]
  exact ixK_app more (h.has t ht)
theorem NInv.new {κ : Nat → D} {l : List Nat} (h : NInv κ l) (s : Nat) : ixK (numb κ (l ++ [s])) (κ s) = ixK (numb κ l) (κ s) := by
  rw [numb_snoc]
  by_cases e : ∃ x ∈ numb κ l, x.nk = (κ s).nk
  · rw [addK_pos e]
  · rw [addK_neg e, ixK_not e]
    unfold ixK
    rw [List.findIdx_append, if_neg]
    · rw [List.findIdx_cons, show sameK (κ s) (κ s) = true from sameK_iff.mpr rfl]; simp
    · rw [show (List.findIdx (fun x => sameK x (κ s)) (numb κ l)) = (numb κ l).length from ixK_not e]
      exact Nat.lt_irrefl _
theorem NInv.lt {κ : Nat → D} {l : List Nat} (h : NInv κ l) {s : Nat} (hs : s ∈ l) : ixK (numb κ l) (κ s) < (numb κ l).length := ixK_lt (h.has s hs)
theorem NInv.eq {κ : Nat → D} {l : List Nat} (h : NInv κ l) {s t : Nat} (hs : s ∈ l) (ht : t ∈ l) : ixK (numb κ l) (κ s) = ixK (numb κ l) (κ t) ↔ (κ s).nk = (κ t).nk := by
  refine ⟨fun e => ?_, fun e => ?_⟩
  · have h1 := ixK_get (h.lt hs)
    have h2 := ixK_get (h.lt ht)
    rw [← h1, ← h2]
    simp only [e]
  · unfold ixK
    congr 1
    funext x
    unfold sameK
    rw [e]
theorem NInv.sur {κ : Nat → D} {l : List Nat} (h : NInv κ l) {j : Nat} (hj : j < (numb κ l).length) : ∃ s ∈ l, ixK (numb κ l) (κ s) = j := by
  obtain ⟨s, hs, e⟩ := h.from_ _ (List.getElem_mem hj)
  refine ⟨s, hs, ?_⟩
  have h1 := ixK_get (h.lt hs)
  have h2 : ((numb κ l)[j]).nk = (κ s).nk := by rw [e]
  rcases Nat.lt_trichotomy (ixK (numb κ l) (κ s)) j with z | z | z
  · exact absurd (h1.trans h2.symm) (List.pairwise_iff_getElem.mp h.dis _ _ (h.lt hs) hj z)
  · exact z
  · exact absurd (h2.trans h1.symm) (List.pairwise_iff_getElem.mp h.dis _ _ hj (h.lt hs) z)
theorem numb_len {κ : Nat → D} (l : List Nat) : (numb κ l).length ≤ l.length := by
  refine snoc_ind (P := fun l => (numb κ l).length ≤ l.length) (Nat.le_refl _) (fun l s ih => ?_) l
  · rw [numb_snoc, List.length_append, List.length_singleton]
    by_cases e : ∃ x ∈ numb κ l, x.nk = (κ s).nk
    · rw [addK_pos e]; omega
    · rw [addK_neg e, List.length_append, List.length_singleton]; omega

/-! ### the dict of numbers -/
def zipI : Nat → List D → List (D × MV)
  | _, [] => []
  | i, k :: ks => (k, .fz (.int (i : Nat))) :: zipI (i + 1) ks
theorem zipI_len : ∀ (ks : List D) (i : Nat), (zipI i ks).length = ks.length
  | [], _ => rfl
  | k :: ks, i => by rw [zipI, List.length_cons, List.length_cons, zipI_len ks]
theorem zipI_app : ∀ (ks : List D) (i : Nat) (k : D), zipI i (ks ++ [k]) = zipI i ks ++ [(k, .fz (.int ((i + ks.length : Nat) : Int)))]
  | [], i, k => rfl
  | x :: ks, i, k => by
    rw [List.cons_append, zipI, zipI_app ks (i + 1) k, zipI, List.length_cons, show i + 1 + ks.length = i + (ks.length + 1) by omega]; rfl
theorem dlk_zipI : ∀ (ks : List D) (i : Nat) (k : D), (∃ x ∈ ks, x.nk = k.nk) → dlk (zipI i ks) k = some (.fz (.int ((i + ixK ks k : Nat) : Int)))
  | [], i, k, h => by obtain ⟨x, hx, _⟩ := h; cases hx
  | x :: ks, i, k, h => by
    unfold dlk ixK
    rw [zipI, List.find?_cons, List.findIdx_cons]
    cases e : sameK x k with
    | true => rfl
    | false =>
      have h' : ∃ x ∈ ks, x.nk = k.nk := by
        obtain ⟨y, hy, e2⟩ := h
        rcases List.mem_cons.mp hy with rfl | hy
        · rw [sameK_iff.mpr e2] at e; cases e
        · exact ⟨y, hy, e2⟩
      have := dlk_zipI ks (i + 1) k h'
      unfold dlk ixK at this
      simp only [cond_false]
      rw [show i + (List.findIdx (fun x => sameK x k) ks + 1) = i + 1 + List.findIdx (fun x => sameK x k) ks by omega]
      exact this
theorem any_zipI : ∀ (ks : List D) (i : Nat) (k : D), ((zipI i ks).any fun p => sameK p.1 k) = ks.any fun x => sameK x k
  | [], _, _ => rfl
  | x :: ks, i, k => by rw [zipI, List.any_cons, List.any_cons, any_zipI ks]
theorem dlk_zipI_none {ks : List D} {i : Nat} {k : D} (h : dlk (zipI i ks) k = none) : ¬ ∃ x ∈ ks, x.nk = k.nk := fun z => by rw [dlk_zipI ks i k z] at h; cases h
theorem setd_zipI {ks : List D} {kd : D} (hk : keyOk true kd = true) (hl : ks.length < lim) : (MV.od true (zipI 0 ks)).setd (.fz kd) (.fz (.int (ks.length : Nat))) = some (.fz (.int (ixK ks kd : Nat)), .od true (zipI 0 (addK ks kd))) := by
  unfold MV.setd
  simp only [hk, keyOk_nk hk, zipI_len, hl, and_self, if_true]
  by_cases h : ∃ x ∈ ks, x.nk = kd.nk
  · rw [dlk_zipI ks 0 kd h, Nat.zero_add, addK_pos h]
  · have e1 : dlk (zipI 0 ks) kd = none := by
      unfold dlk
      rw [List.find?_eq_none.mpr]
      · rfl
      · intro p hp hs
        have := any_zipI ks 0 kd
        rw [List.any_eq_true.mpr ⟨p, hp, hs⟩] at this
        obtain ⟨x, hx, e2⟩ := List.any_eq_true.mp this.symm
        exact h ⟨x, hx, sameK_iff.mp e2⟩
    have e2 : dput (zipI 0 ks) kd (.fz (.int (ks.length : Nat))) = zipI 0 ks ++ [(kd, .fz (.int (ks.length : Nat)))] := by
      unfold dput
      rw [if_neg]
      rw [any_zipI]
      intro z
      obtain ⟨x, hx, e2⟩ := List.any_eq_true.mp z
      exact h ⟨x, hx, sameK_iff.mp e2⟩
    rw [e1, e2, addK_neg h, ixK_not h, zipI_app, Nat.zero_add]
end DL

namespace DL
open PySem PySem.Spec PyProof.Rows L2
local macro_rules | `(tactic| and_intros) => `(tactic| (repeat' (first | (with_reducible refine st_seq ?_) | (with_reducible refine st_asg ?_) | (with_reducible refine st_asgT ?_) | (with_reducible refine st_expr ?_) | (with_reducible refine st_ret ?_) | (with_reducible refine st_if ?_) | (with_reducible refine st_set ?_) | (with_reducible refine st_for ?_) | (with_reducible refine st_par ?_) | (with_reducible refine st_c ?_) | (with_reducible refine st_view ?_) | (with_reducible refine st_op1 ?_) | (with_reducible refine st_op2 ?_) | (with_reducible refine st_op ?_) | (with_reducible refine st_ix ?_) | (with_reducible refine st_nil ?_) | (with_reducible refine st_cons ?_) | (with_reducible refine st_consM ?_) | (with_reducible refine st_lst ?_) | (with_reducible refine st_tup ?_) | (with_reducible refine st_call ?_) | (with_reducible refine st_callK ?_) | (with_reducible refine st_ife ?_) | (with_reducible refine st_ok ?_) | (with_reducible refine st_dic ?_) | (with_reducible refine st_isi ?_) | (with_reducible refine st_sl ?_) | (with_reducible refine st_part0 ?_) | (with_reducible refine st_part1 ?_) | (with_reducible refine st_bool ?_) | (with_reducible refine st_notT ?_) | (with_reducible refine st_andT ?_) | (with_reducible refine st_orT ?_) | (with_reducible refine st_yes ?_) | (with_reducible refine st_andV ?_) | (with_reducible refine st_orV ?_) | (with_reducible refine st_notV ?_) | (with_reducible refine st_it ?_) | (with_reducible refine st_rg1 ?_) | (with_reducible refine st_enum ?_) | (with_reducible refine st_zip ?_) | (with_reducible refine st_lc ?_) | (with_reducible refine st_frz ?_) | ((with_reducible apply st_var); exact rfl) | ((with_reducible apply st_mov); exact rfl) | ((with_reducible apply st_lend); exact rfl) | ((with_reducible apply st_escf); exact rfl) | ((with_reducible apply st_esco); exact rfl) | ((with_reducible apply st_escd); exact rfl) | ((with_reducible apply st_aug); exact rfl) | ((with_reducible apply st_gn); exact rfl) | ((with_reducible apply st_gt); exact rfl) | (with_reducible refine st_gnil ?_) | (with_reducible refine st_gcons ?_) | ((with_reducible apply st_setd); exact ⟨_, _, rfl⟩) | ((with_reducible apply st_app); exact ⟨_, rfl⟩) | (with_reducible refine tl2 ev_lt ?_) | (with_reducible refine tl2 ev_cmp ?_) | (with_reducible refine tl2 ev_add ?_) | (with_reducible refine tl2 ev_sub ?_) | (with_reducible refine tl2 ev_eqI ?_) | (with_reducible refine tl2 ev_neI ?_) | (with_reducible refine tl2 ev_max ?_) | (with_reducible refine tl2 ev_min ?_) | (with_reducible refine tl2' ev_lt ?_) | (with_reducible refine tl2' ev_cmp ?_) | (with_reducible refine tl2' ev_add ?_) | (with_reducible refine tl2' ev_sub ?_) | (with_reducible refine tl2' ev_eqI ?_) | (with_reducible refine tl2' ev_neI ?_) | (with_reducible refine tl2' ev_max ?_) | (with_reducible refine tl2' ev_min ?_) | (with_reducible refine tl1 ev_neg ?_) | (with_reducible refine tl1 ev_lenO ?_) | (with_reducible refine tl1 ev_lenL ?_) | (with_reducible refine tl1 ev_lenT ?_) | (with_reducible refine tl1 ev_lenC ?_) | (with_reducible refine tl1 ev_lenD ?_) | (with_reducible refine tl1 ev_intI ?_) | (with_reducible refine tl1 ev_intB ?_) | (with_reducible refine tl1 ev_abs ?_) | (with_reducible refine tl1 ev_tupO ?_) | (with_reducible refine tl1 ev_tupL ?_) | (with_reducible refine tlz ?_) | (with_reducible refine tlb ?_) | (with_reducible refine tli ?_) | (with_reducible refine tlt ?_) | (with_reducible refine tll ?_) | (with_reducible refine tlo ?_) | (with_reducible refine tlc ?_) | (with_reducible refine ⟨len1, ?_⟩) | (with_reducible refine ⟨len2, ?_⟩) | (with_reducible refine ⟨len3, ?_⟩) | (with_reducible refine ⟨len0, ?_⟩) | (with_reducible refine ⟨len4, ?_⟩) | (with_reducible refine ⟨len5, ?_⟩) | (with_reducible refine ⟨len6, ?_⟩) | ((with_reducible apply tlen); exact rfl) | ((with_reducible apply tset); exact rfl))))

def dC : Option Nat → D
  | none => .int (-1)
  | some k => .int (k : Nat)
abbrev dLn (xs : List Nat) : D := .lst (xs.map fun j => .int (j : Nat))
def cM (cl : List (Option Nat)) : List MV := cl.map fun o => .fz (dC o)
abbrev dCl (cl : List (Option Nat)) : D := .lst (cl.map dC)
theorem toD_nM (xs : List Nat) : (MV.ol (nM xs)).toD = dLn xs := by
  show D.lst (MV.toDs (nM xs)) = _
  rw [toDs_map]; unfold nM; rw [List.map_map]; rfl
theorem toD_cM (cl : List (Option Nat)) : (MV.ol (cM cl)).toD = dCl cl := by
  show D.lst (MV.toDs (cM cl)) = _
  rw [toDs_map]; unfold cM; rw [List.map_map]; rfl
def CV (m : MV) (cl : List (Option Nat)) : Prop := m = .ol (cM cl) ∨ m = .fz (dCl cl)
theorem CV.ix {m : MV} {cl : List (Option Nat)} (h : CV m cl) {s : Nat} {o : Option Nat} (e : cl[s]? = some o) : m.ix (D.int (s : Nat)) = some (.fz (dC o)) := by
  rcases h with rfl | rfl
  · exact ix_ol (by unfold cM; rw [List.getElem?_map, e]; rfl)
  · exact ix_lst (by rw [List.getElem?_map, e]; rfl)
theorem CV.toD {m : MV} {cl : List (Option Nat)} (h : CV m cl) : m.toD = dCl cl := by
  rcases h with rfl | rfl
  · exact toD_cM cl
  · rfl
theorem cM_set (cl : List (Option Nat)) (s k : Nat) : (cM cl).set s (.fz (.int (k : Nat))) = cM (cl.set s (some k)) := by unfold cM; rw [List.map_set]; rfl
theorem cM_len (cl : List (Option Nat)) : (cM cl).length = cl.length := List.length_map ..

structure ClOk (steps : List (List Nat)) (order : List Nat) (mk : List D) (cl : List (Option Nat)) (many : Nat) : Prop where
  len : cl.length = steps.length
  inn : ∀ s ∈ order, ∃ k, k < many ∧ cl[s]? = some (some k)
  out : ∀ s, s < steps.length → s ∉ order → cl[s]? = some none
  sur : ∀ k, k < many → ∃ s ∈ order, cl[s]? = some (some k)
  mks : ∀ s ∈ order, ∀ s' ∈ order, cl[s]? = cl[s']? → ∀ a b, mk[s]? = some a → mk[s']? = some b → a.nk = b.nk
def Stable (steps : List (List Nat)) (order : List Nat) (cl : List (Option Nat)) : Prop :=
  ∀ s ∈ order, ∀ s' ∈ order, cl[s]? = cl[s']? → ∀ r r', steps[s]? = some r → steps[s']? = some r' → r.map (fun t => cl[t]?) = r'.map fun t => cl[t]?
def spClasses : DSp := fun ms Q => ∃ steps order mk, ms = [.fz (dS steps), .fz (dLn order), .fz (.lst mk)] ∧ StepsOk steps ∧ OrderOk steps order ∧ mk.length = steps.length ∧ (∀ s ∈ order, ∃ d, mk[s]? = some d ∧ keyOk true d = true) ∧
  ∀ cl many, ClOk steps order mk cl many → Stable steps order cl → Q (.fz (.tup [dCl cl, .int (many : Nat)])) [.fz .non, .fz .non, .fz .non]

/-! ### one pass -/
structure PassP (n : Nat) (l : List Nat) (κ : Nat → D) (cl : List (Option Nat)) : Prop where
  len : cl.length = n
  inn : ∀ s ∈ l, cl[s]? = some (some (ixK (numb κ l) (κ s)))
  out : ∀ s, s < n → s ∉ l → cl[s]? = some none
theorem PassP.zero (n : Nat) (κ : Nat → D) : PassP n [] κ (List.replicate n none) := ⟨List.length_replicate, fun s h => (nomatch h), fun s hs _ => by rw [List.getElem?_replicate, if_pos hs]⟩
theorem PassP.step {n : Nat} {l : List Nat} {κ : Nat → D} {cl : List (Option Nat)} (h : PassP n l κ cl) {s : Nat} (hs : s < n) : PassP n (l ++ [s]) κ (cl.set s (some (ixK (numb κ l) (κ s)))) where
  len := by rw [List.length_set]; exact h.len
  inn := fun t ht => by
    by_cases e : s = t
    · subst e
      rw [List.getElem?_set_self (by rw [h.len]; exact hs), (NInv.all κ l).new s]
    · rw [List.getElem?_set_ne e]
      have htl : t ∈ l := by
        rcases List.mem_append.mp ht with z | z
        · exact z
        · exact absurd (List.mem_singleton.mp z).symm e
      rw [h.inn t htl, (NInv.all κ l).stay s htl]
  out := fun t ht hn => by
    have e : s ≠ t := fun e => hn (by rw [e]; simp)
    rw [List.getElem?_set_ne e]
    exact h.out t ht fun z => hn (List.mem_append_left _ z)
theorem take_snoc {l : List Nat} {i s : Nat} (e : l[i]? = some s) : l.take (i + 1) = l.take i ++ [s] := by rw [List.take_add_one, e]; rfl
theorem PassP.ok {steps : List (List Nat)} {order : List Nat} {mk : List D} {κ : Nat → D} {cl : List (Option Nat)} (h : PassP steps.length order κ cl) (hm : ∀ s ∈ order, ∀ s' ∈ order, (κ s).nk = (κ s').nk → ∀ a b, mk[s]? = some a → mk[s']? = some b → a.nk = b.nk) :
    ClOk steps order mk cl (numb κ order).length where
  len := h.len
  inn := fun s hs => ⟨_, (NInv.all κ order).lt hs, h.inn s hs⟩
  out := h.out
  sur := fun k hk => by
    obtain ⟨s, hs, e⟩ := (NInv.all κ order).sur hk
    exact ⟨s, hs, by rw [h.inn s hs, e]⟩
  mks := fun s hs s' hs' e => hm s hs s' hs' ((NInv.all κ order).eq hs hs' |>.mp (by
    rw [h.inn s hs, h.inn s' hs'] at e
    exact Option.some.inj (Option.some.inj e)))
/-- the key of the second kind of pass -/
def clf (cl : List (Option Nat)) (t : Nat) : D := dC ((cl[t]?).getD none)
def κ2 (steps : List (List Nat)) (cl : List (Option Nat)) (s : Nat) : D := .tup [clf cl s, .tup (((steps[s]?).getD []).map (clf cl))]
theorem clf_nk (cl : List (Option Nat)) (t : Nat) : ∃ i : Int, clf cl t = .int i ∧ (clf cl t).nk = some (.num i) := by
  unfold clf
  cases (cl[t]?).getD none with
  | none => exact ⟨-1, rfl, rfl⟩
  | some k => exact ⟨k, rfl, rfl⟩
def cI : Option Nat → Int
  | none => -1
  | some k => k
theorem cI_inj {a b : Option Nat} (h : cI a = cI b) : a = b := by
  cases a <;> cases b <;> simp [cI] at h ⊢ <;> omega
theorem map_inj {α β : Type} {f : α → β} (hf : ∀ a b, f a = f b → a = b) : ∀ {xs ys : List α}, xs.map f = ys.map f → xs = ys
  | [], [], _ => rfl
  | [], _ :: _, h => by cases h
  | _ :: _, [], h => by cases h
  | x :: xs, y :: ys, h => by
    rw [List.map_cons, List.map_cons] at h
    injection h with h1 h2
    rw [hf _ _ h1, map_inj hf h2]
theorem dC_cI (o : Option Nat) : dC o = .int (cI o) := by cases o <;> rfl
theorem nks_ints : ∀ xs : List Int, D.nks (xs.map .int) = some (xs.map .num)
  | [] => rfl
  | x :: xs => by rw [List.map_cons, D.nks, nks_ints xs]; rfl
theorem κ2_nk (steps : List (List Nat)) (cl : List (Option Nat)) (s : Nat) : (κ2 steps cl s).nk = some (.tup [.num (cI ((cl[s]?).getD none)), .tup ((((steps[s]?).getD []).map fun t => cI ((cl[t]?).getD none)).map .num)]) := by
  have e : ((steps[s]?).getD []).map (clf cl) = (((steps[s]?).getD []).map fun t => cI ((cl[t]?).getD none)).map D.int := by
    rw [List.map_map]
    refine List.map_congr_left fun t _ => ?_
    exact dC_cI _
  unfold κ2
  rw [e]
  unfold clf
  rw [dC_cI, D.nk, D.nks, D.nk, D.nks, D.nk, nks_ints, D.nks]; rfl
theorem depth_nums : ∀ xs : List Int, NestedKey.depthAll (xs.map NestedKey.num) ≤ 1
  | [] => by simp [NestedKey.depthAll]
  | x :: xs => by
    have := depth_nums xs
    rw [List.map_cons, NestedKey.depthAll]
    simp only [NestedKey.depth]
    omega
theorem κ2_ok (steps : List (List Nat)) (cl : List (Option Nat)) (s : Nat) : keyOk true (κ2 steps cl s) = true := by
  have h := κ2_nk steps cl s
  unfold κ2 at h ⊢
  rw [D.nk] at h
  obtain ⟨ks, e, h2⟩ := Option.map_eq_some_iff.mp h
  show (true && (match D.nks [clf cl s, .tup (((steps[s]?).getD []).map (clf cl))] with
    | some ks => decide ((NestedKey.tup ks).depth ≤ 8)
    | none => false)) = true
  rw [e]
  dsimp only
  rw [h2]
  have := depth_nums (((steps[s]?).getD []).map fun t => cI ((cl[t]?).getD none))
  simp only [Bool.true_and, decide_eq_true_eq, NestedKey.depth, NestedKey.depthAll]
  refine decide_eq_true ?_
  omega
theorem κ2_eq {steps : List (List Nat)} {order : List Nat} {cl : List (Option Nat)} {s s' : Nat} (h : (κ2 steps cl s).nk = (κ2 steps cl s').nk) : (cl[s]?).getD none = (cl[s']?).getD none ∧
    ((steps[s]?).getD []).map (fun t => (cl[t]?).getD none) = ((steps[s']?).getD []).map fun t => (cl[t]?).getD none := by
  rw [κ2_nk, κ2_nk] at h
  simp only [Option.some.injEq, NestedKey.tup.injEq, List.cons.injEq, NestedKey.num.injEq, and_true] at h
  obtain ⟨h1, h2⟩ := h
  refine ⟨cI_inj h1, ?_⟩
  have inj : ∀ xs ys : List Int, xs.map NestedKey.num = ys.map NestedKey.num → xs = ys := fun xs ys e => map_inj (fun a b h => by injection h) e
  have h3 := inj _ _ h2
  have inj2 : ∀ xs ys : List (Option Nat), xs.map cI = ys.map cI → xs = ys := fun xs ys e => map_inj (fun a b h => cI_inj h) e
  refine inj2 _ _ ?_
  rw [List.map_map, List.map_map]
  exact h3

/-! ### when no class is parted any more -/
theorem grow_or_stable {steps : List (List Nat)} {order : List Nat} {mk : List D} {cl cl' : List (Option Nat)} {many : Nat} (ok : StepsOk steps) (oo : OrderOk steps order) (h : ClOk steps order mk cl many) (p : PassP steps.length order (κ2 steps cl) cl') :
    many ≤ (numb (κ2 steps cl) order).length ∧ ((numb (κ2 steps cl) order).length = many → Stable steps order cl') := by
  let K := numb (κ2 steps cl) order
  have N := NInv.all (κ2 steps cl) order
  have det : ∀ s ∈ order, ∀ s' ∈ order, ixK K (κ2 steps cl s) = ixK K (κ2 steps cl s') → cl[s]? = cl[s']? := fun s hs s' hs' e => by
    have := (κ2_eq (order := order) ((N.eq hs hs').mp e)).1
    obtain ⟨k, _, e1⟩ := h.inn s hs
    obtain ⟨k', _, e2⟩ := h.inn s' hs'
    rw [e1, e2] at this ⊢
    simpa using this
  classical
  -- one state a class
  have rep : ∀ k, ∃ s, k < many → s ∈ order ∧ cl[s]? = some (some k) := fun k => by
    by_cases hk : k < many
    · obtain ⟨s, a, b⟩ := h.sur k hk
      exact ⟨s, fun _ => ⟨a, b⟩⟩
    · exact ⟨0, fun z => absurd z hk⟩
  let R : Nat → Nat := fun k => Classical.choose (rep k)
  have hR : ∀ k, k < many → R k ∈ order ∧ cl[R k]? = some (some k) := fun k => Classical.choose_spec (rep k)
  let L := (List.range many).map fun k => ixK K (κ2 steps cl (R k))
  have nd : L.Nodup := by
    show (List.map _ _).Nodup
    refine List.pairwise_map.mpr ?_
    refine List.Pairwise.imp_of_mem (fun {a b} ha hb hab e => ?_) (List.nodup_range (n := many))
    have ha := List.mem_range.mp ha
    have hb := List.mem_range.mp hb
    have := det _ (hR a ha).1 _ (hR b hb).1 e
    rw [(hR a ha).2, (hR b hb).2] at this
    exact hab (Option.some.inj (Option.some.inj this))
  have Llt : ∀ j ∈ L, j < K.length := fun j hj => by
    obtain ⟨k, hk, rfl⟩ := List.mem_map.mp hj
    exact N.lt (hR k (List.mem_range.mp hk)).1
  have Llen : L.length = many := by show (List.map _ _).length = _; rw [List.length_map, List.length_range]
  refine ⟨by rw [← Llen]; exact nodup_le nd Llt, fun eK => ?_⟩
  have inj : ∀ s ∈ order, ∀ k, cl[s]? = some (some k) → k < many → ixK K (κ2 steps cl s) = ixK K (κ2 steps cl (R k)) := fun s hs k e hk => by
    by_cases hz : ixK K (κ2 steps cl s) = ixK K (κ2 steps cl (R k))
    · exact hz
    · exfalso
      have hnot : ixK K (κ2 steps cl s) ∉ L := fun hm => by
        obtain ⟨k', hk', e'⟩ := List.mem_map.mp hm
        have hk' := List.mem_range.mp hk'
        have := det _ (hR k' hk').1 _ hs e'
        rw [(hR k' hk').2, e] at this
        have : k' = k := Option.some.inj (Option.some.inj this)
        subst this
        exact hz e'.symm
      have nd2 : (ixK K (κ2 steps cl s) :: L).Nodup := List.nodup_cons.mpr ⟨hnot, nd⟩
      have := nodup_le (n := K.length) nd2 fun j hj => by
        rcases List.mem_cons.mp hj with rfl | hj
        · exact N.lt hs
        · exact Llt j hj
      rw [List.length_cons, Llen, ← eK] at this
      exact absurd this (Nat.not_succ_le_self _)
  have inj2 : ∀ s ∈ order, ∀ s' ∈ order, cl[s]? = cl[s']? → cl'[s]? = cl'[s']? := fun s hs s' hs' e => by
    obtain ⟨k, hk, e1⟩ := h.inn s hs
    rw [p.inn s hs, p.inn s' hs', inj s hs k e1 hk, inj s' hs' k (by rw [← e]; exact e1) hk]
  intro s hs s' hs' e r r' er er'
  rw [p.inn s hs, p.inn s' hs'] at e
  have e2 := (κ2_eq (order := order) ((N.eq hs hs').mp (Option.some.inj (Option.some.inj e)))).2
  rw [er, er'] at e2
  simp only [Option.getD_some] at e2
  have hcl : ∀ (s : Nat) (r : List Nat), s ∈ order → steps[s]? = some r → ∀ t ∈ r, t ∈ order := fun s r hs er t ht => (oo.iff t).mpr (.step ((oo.iff s).mp hs) er ht)
  refine List.ext_getElem? fun i => ?_
  have e3 : (r.map fun t => (cl[t]?).getD none)[i]? = (r'.map fun t => (cl[t]?).getD none)[i]? := by rw [e2]
  rw [List.getElem?_map, List.getElem?_map] at e3 ⊢
  cases h1 : r[i]? with
  | none =>
    rw [h1] at e3
    cases h2 : r'[i]? with
    | none => rfl
    | some t' => rw [h2] at e3; cases e3
  | some t =>
    rw [h1] at e3
    cases h2 : r'[i]? with
    | none => rw [h2] at e3; cases e3
    | some t' =>
      rw [h2] at e3
      have ht := hcl s r hs er t (List.mem_of_getElem? h1)
      have ht' := hcl s' r' hs' er' t' (List.mem_of_getElem? h2)
      obtain ⟨k, _, f1⟩ := h.inn t ht
      obtain ⟨k', _, f2⟩ := h.inn t' ht'
      have e4 : (cl[t]?).getD none = (cl[t']?).getD none := Option.some.inj e3
      rw [f1, f2] at e4
      simp only [Option.getD_some] at e4
      exact congrArg some (inj2 t ht t' ht' (by rw [f1, f2, e4]))

/-! ### merged_classes -/
def kf (cl : List (Option Nat)) : D → MV
  | .int j => .fz (clf cl j.toNat)
  | _ => .fz .non
theorem m_classes (ms : List MV) (Q : MV → List MV → Prop) (hl : ms.length = 3) (hsp : spClasses ms Q) : W_merged_classes (endsF [false, false, false] Q) (env0 10 ms) := by
  obtain ⟨steps, order, mk, rfl, ok, oo, hmk, hkey, hq⟩ := hsp
  have hlim : lim = 16777216 := rfl
  have hn : steps.length ≤ lim := by have := ok.small; omega
  have hol : order.length ≤ steps.length := nodup_le oo.nd oo.lt
  unfold W_merged_classes
  have e : env0 10 [MV.fz (dS steps), MV.fz (dLn order), MV.fz (.lst mk)] = [some (.fz (dS steps)), some (.fz (dLn order)), some (.fz (.lst mk)), none, none, none, none, none, none, none] := rfl
  rw [e]
  clear e
  have hds : (steps.map dN).length = steps.length := List.length_map ..
  have e0 : List.replicate steps.length (MV.fz (D.int (-1))) = cM (List.replicate steps.length none) := by unfold cM; rw [List.map_replicate]; rfl
  and_intros
  rw [hds]
  refine tl2 (ev_rep hn) ?_
  and_intros
  (try dsimp only [List.set_cons_zero, List.set_cons_succ, wipeD, putBack, toD_fz])
  rw [e0]
  and_intros
  (try dsimp only [List.set_cons_zero, List.set_cons_succ, wipeD, putBack, toD_fz])
  and_intros
  let κ1 : Nat → D := fun s => (mk[s]?).getD .non
  refine for_inv (fun i ρ => ∃ cl st, ρ = [some (.fz (dS steps)), some (.fz (dLn order)), some (.fz (.lst mk)), some (.ol (cM cl)), some (.od true (zipI 0 (numb κ1 (order.take i)))), st, none, none, none, none] ∧ PassP steps.length (order.take i) κ1 cl)
    ⟨_, none, rfl, .zero _ _⟩ (fun i d ρ k ed ⟨cl, st, e, pp⟩ hk => ?_) fun ρ ⟨cl, st, e, pp⟩ => ?_
  · rw [List.getElem?_map] at ed
    obtain ⟨s, es, rfl⟩ := Option.map_eq_some_iff.mp ed
    subst e
    have hso : s ∈ order := List.mem_of_getElem? es
    have hs : s < steps.length := oo.lt s hso
    obtain ⟨d, emk, hkd⟩ := hkey s hso
    have eκ : κ1 s = d := by show (mk[s]?).getD .non = d; rw [emk]; rfl
    have hkl := numb_len (κ := κ1) (order.take i)
    rw [List.length_take] at hkl
    have hkl' : (numb κ1 (order.take i)).length < lim := by have := ok.small; omega
    and_intros
    (try dsimp only [List.set_cons_zero, List.set_cons_succ, wipeD, putBack, toD_fz])
    and_intros
    refine tlx (ix_lst emk) ?_
    and_intros
    rw [zipI_len]
    refine tsetd rfl (setd_zipI hkd hkl') ?_
    (try dsimp only [List.set_cons_zero, List.set_cons_succ, wipeD, putBack, toD_fz])
    and_intros
    refine tput rfl (put_ol (j := s) (by rw [cM_len, pp.len]; exact hs)) ?_
    (try dsimp only [List.set_cons_zero, List.set_cons_succ, wipeD, putBack, toD_fz])
    rw [cM_set, ← eκ]
    rw [take_snoc es, numb_snoc] at hk
    exact hk _ ⟨_, _, rfl, pp.step hs⟩
  subst e
  rw [List.length_map, List.take_length] at pp
  rw [List.length_map, List.take_length]
  have cok : ClOk steps order mk cl (numb κ1 order).length := pp.ok fun s hs s' hs' e a b ea eb => by
    have e1 : κ1 s = a := by show (mk[s]?).getD .non = a; rw [ea]; rfl
    have e2 : κ1 s' = b := by show (mk[s']?).getD .non = b; rw [eb]; rfl
    rw [e1, e2] at e
    exact e
  and_intros
  (try dsimp only [List.set_cons_zero, List.set_cons_succ, wipeD, putBack, toD_fz])
  rw [zipI_len]
  have hk1 := numb_len (κ := κ1) order
  generalize (numb κ1 order).length = many at cok hk1
  refine ⟨fun m ρ => ∃ (cl : List (Option Nat)) (many : Nat) (cv : MV) (o4 o5 o7 o8 : Option MV), ρ = [some (.fz (dS steps)), some (.fz (dLn order)), some (.fz (.lst mk)), some cv, o4, o5, some (nI many), o7, o8, none] ∧ CV cv cl ∧ ClOk steps order mk cl many ∧ many ≤ order.length ∧ m + many = order.length,
    ⟨order.length - many, cl, many, _, _, _, _, _, rfl, .inl rfl, cok, hk1, by omega⟩, fun m ρ ⟨cl, many, cv, o4, o5, o7, o8, e, hcv, cok, hmo, hm⟩ => ?_⟩
  subst e
  and_intros
  rw [if_pos rfl]
  and_intros
  (try dsimp only [List.set_cons_zero, List.set_cons_succ, wipeD, putBack, toD_fz])
  and_intros
  rw [hds]
  refine tl2 (ev_rep hn) ?_
  and_intros
  (try dsimp only [List.set_cons_zero, List.set_cons_succ, wipeD, putBack, toD_fz])
  rw [e0]
  and_intros
  let κ := κ2 steps cl
  refine for_inv (fun i ρ => ∃ cl' st o8, ρ = [some (.fz (dS steps)), some (.fz (dLn order)), some (.fz (.lst mk)), some cv, some (.od true (zipI 0 (numb κ (order.take i)))), st, some (nI many), some (.ol (cM cl')), o8, none] ∧ PassP steps.length (order.take i) κ cl')
    ⟨_, _, _, rfl, .zero _ _⟩ (fun i d ρ k ed ⟨cl', st, o8, e, pp⟩ hk => ?_) fun ρ ⟨cl', st, o8, e, pp⟩ => ?_
  · rw [List.getElem?_map] at ed
    obtain ⟨s, es, rfl⟩ := Option.map_eq_some_iff.mp ed
    subst e
    have hso : s ∈ order := List.mem_of_getElem? es
    have hs : s < steps.length := oo.lt s hso
    obtain ⟨c, _, ecl⟩ := cok.inn s hso
    have er : steps[s]? = some steps[s] := List.getElem?_eq_getElem hs
    generalize steps[s] = r at er
    have hrl : ∀ t ∈ r, t < steps.length := fun t ht => ok.lt r (List.mem_of_getElem? er) t ht
    have eκ : κ s = .tup [dC (some c), .tup (r.map (clf cl))] := by
      show κ2 steps cl s = _
      unfold κ2
      rw [er]
      unfold clf
      rw [ecl]; rfl
    have hkd := κ2_ok steps cl s
    have hkl := numb_len (κ := κ) (order.take i)
    rw [List.length_take] at hkl
    have hkl' : (numb κ (order.take i)).length < lim := by have := ok.small; omega
    and_intros
    (try dsimp only [List.set_cons_zero, List.set_cons_succ, wipeD, putBack, toD_fz])
    and_intros
    refine tlx (hcv.ix ecl) ?_
    and_intros
    refine tlx (ix_tup (x := dN r) (by rw [List.getElem?_map, er]; rfl)) ?_
    and_intros
    refine ⟨rfl, ?_⟩
    refine lcB_map (k := kf cl) _ _ [] _ (fun ρ => ∃ o, ρ = [some (.fz (dS steps)), some (.fz (dLn order)), some (.fz (.lst mk)), some cv, some (.od true (zipI 0 (numb κ (order.take i)))), some (nI s), some (nI many), some (.ol (cM cl')), o8, o]) ⟨_, rfl⟩ ?_ (fun d hd ρ ⟨o, e⟩ K hK => ?_) fun ρ ⟨o, e⟩ => ?_
    · have := ok.row r (List.mem_of_getElem? er)
      rw [List.length_nil, List.length_map]
      omega
    · subst e
      obtain ⟨t, ht, rfl⟩ := List.mem_map.mp hd
      have htc : cl[t]? = some ((cl[t]?).getD none) := by
        rw [List.getElem?_eq_getElem (by rw [cok.len]; exact hrl t ht)]; rfl
      (try dsimp only [List.set_cons_zero, List.set_cons_succ, wipeD, putBack, toD_fz])
      and_intros
      (try dsimp only [List.set_cons_zero, List.set_cons_succ, wipeD, putBack, toD_fz])
      and_intros
      refine tlx (hcv.ix htc) ?_
      and_intros
      exact hK _ ⟨_, rfl⟩
    · subst e
      have ea : ([] : List MV) ++ (r.map fun j => D.int (j : Nat)).map (kf cl) = (r.map (clf cl)).map MV.fz := by
        rw [List.nil_append, List.map_map, List.map_map]; rfl
      rw [ea]
      (try dsimp only [List.set_cons_zero, List.set_cons_succ, wipeD, restD, List.getElem?_cons_zero, List.getElem?_cons_succ, Option.getD_some])
      and_intros
      (try dsimp only [List.set_cons_zero, List.set_cons_succ, wipeD, putBack, toD_fz])
      and_intros
      rw [zipI_len]
      have eκ2 : D.tup (List.map MV.toD [MV.fz (dC (some c)), MV.fz (D.tup (List.map (clf cl) r))]) = κ s := eκ.symm
      rw [eκ2]
      refine tsetd rfl (setd_zipI hkd hkl') ?_
      (try dsimp only [List.set_cons_zero, List.set_cons_succ, wipeD, putBack, toD_fz])
      and_intros
      refine tput rfl (put_ol (j := s) (by rw [cM_len, pp.len]; exact hs)) ?_
      (try dsimp only [List.set_cons_zero, List.set_cons_succ, wipeD, putBack, toD_fz])
      rw [cM_set]
      rw [take_snoc es, numb_snoc] at hk
      exact hk _ ⟨_, _, _, rfl, pp.step hs⟩
  subst e
  rw [List.length_map, List.take_length] at pp
  rw [List.length_map, List.take_length]
  obtain ⟨hge, hst⟩ := grow_or_stable ok oo cok pp
  have hge : many ≤ (numb κ order).length := hge
  have hst : (numb κ order).length = many → Stable steps order cl' := hst
  have cok' : ClOk steps order mk cl' (numb κ order).length := pp.ok fun s hs s' hs' e a b ea eb => by
    have h1 := (κ2_eq (order := order) e).1
    obtain ⟨k, _, e1⟩ := cok.inn s hs
    obtain ⟨k', _, e2⟩ := cok.inn s' hs'
    refine cok.mks s hs s' hs' ?_ a b ea eb
    rw [e1, e2] at h1 ⊢
    simpa using h1
  have hk2 := numb_len (κ := κ) order
  and_intros
  (try dsimp only [List.set_cons_zero, List.set_cons_succ, wipeD, putBack, toD_fz])
  rw [toD_cM]
  and_intros
  rw [zipI_len]
  refine tifd (fun he => ?_) fun he => ?_
  · have hK : (numb κ order).length = many := by omega
    and_intros
    (try dsimp only [List.set_cons_zero, List.set_cons_succ, wipeD, putBack, toD_fz])
    refine ⟨_, rfl, ?_⟩
    rw [hK] at cok'
    exact hq cl' many cok' (hst hK)
  · and_intros
    (try dsimp only [List.set_cons_zero, List.set_cons_succ, wipeD, putBack, toD_fz])
    and_intros
    (try dsimp only [List.set_cons_zero, List.set_cons_succ, wipeD, putBack, toD_fz])
    rw [zipI_len]
    exact ⟨m - ((numb κ order).length - many), by omega, cl', (numb κ order).length, .fz (dCl cl'), _, _, _, _, rfl, .inr rfl, cok', hk2, by omega⟩
end DL

namespace DL
open PySem PySem.Spec PyProof.Rows L2

def dO : Option Nat → D
  | none => .non
  | some k => .int (k : Nat)
def oM (xs : List (Option Nat)) : List MV := xs.map fun o => .fz (dO o)
theorem oM_len (xs : List (Option Nat)) : (oM xs).length = xs.length := List.length_map ..
theorem oM_get {xs : List (Option Nat)} {i : Nat} {o : Option Nat} (h : xs[i]? = some o) : (oM xs)[i]? = some (.fz (dO o)) := by unfold oM; rw [List.getElem?_map, h]; rfl
theorem oM_set (xs : List (Option Nat)) (i s : Nat) : (oM xs).set i (.fz (.int (s : Nat))) = oM (xs.set i (some s)) := by unfold oM; rw [List.map_set]; rfl
/-- numbers of classes -/
def qD (qs : List Nat) : List D := qs.map fun c => D.int (c : Nat)
def nz (qs : List Nat) (h : Nat) : Nat := ixK (qD qs) (.int (h : Nat))
theorem nodup_ix {xs : List Nat} (h : xs.Nodup) {i j : Nat} {hi : i < xs.length} {hj : j < xs.length} (e : xs[i] = xs[j]) : i = j := by
  rcases Nat.lt_trichotomy i j with z | z | z
  · exact absurd e (List.pairwise_iff_getElem.mp h _ _ hi hj z)
  · exact z
  · exact absurd e.symm (List.pairwise_iff_getElem.mp h _ _ hj hi z)
theorem qD_mem {qs : List Nat} {h : Nat} : (∃ x ∈ qD qs, x.nk = (D.int (h : Nat)).nk) ↔ h ∈ qs := by
  constructor
  · rintro ⟨x, hx, e⟩
    obtain ⟨c, hc, rfl⟩ := List.mem_map.mp hx
    simp only [D.nk, Option.some.injEq, NestedKey.num.injEq] at e
    have : c = h := by omega
    exact this ▸ hc
  · intro hc
    exact ⟨_, List.mem_map_of_mem hc, rfl⟩
theorem nz_get {qs : List Nat} {h : Nat} (hq : h ∈ qs) : qs[nz qs h]? = some h := by
  have h1 := ixK_lt (qD_mem.mpr hq)
  have h2 := ixK_get h1
  have h3 : nz qs h < qs.length := by
    have : (qD qs).length = qs.length := List.length_map ..
    rw [← this]; exact h1
  rw [List.getElem?_eq_getElem h3]
  have e : (qD qs)[ixK (qD qs) (.int (h : Nat))] = .int ((qs[nz qs h] : Nat) : Int) := by
    have e1 : (qD qs)[ixK (qD qs) (.int (h : Nat))]? = some (.int ((qs[nz qs h] : Nat) : Int)) := by
      have : qs[ixK (qD qs) (.int (h : Nat))]? = some qs[nz qs h] := List.getElem?_eq_getElem h3
      show (qs.map _)[_]? = _
      rw [List.getElem?_map, this]; rfl
    rw [List.getElem?_eq_getElem h1] at e1
    exact Option.some.inj e1
  rw [e] at h2
  simp only [D.nk, Option.some.injEq, NestedKey.num.injEq] at h2
  have : qs[nz qs h] = h := by omega
  rw [this]
theorem nz_lt {qs : List Nat} {h : Nat} (hq : h ∈ qs) : nz qs h < qs.length := (List.getElem?_eq_some_iff.mp (nz_get hq)).1
theorem nz_app {qs : List Nat} {h : Nat} (more : List Nat) (hq : h ∈ qs) : nz (qs ++ more) h = nz qs h := by
  unfold nz
  rw [show qD (qs ++ more) = qD qs ++ qD more from List.map_append ..]
  exact ixK_app _ (qD_mem.mpr hq)
theorem nz_inj {qs : List Nat} {h h' : Nat} (hq : h ∈ qs) (hq' : h' ∈ qs) (e : nz qs h = nz qs h') : h = h' := by
  have h1 := nz_get hq
  rw [e, nz_get hq'] at h1
  exact (Option.some.inj h1).symm
theorem qD_app (qs : List Nat) (h : Nat) : qD (qs ++ [h]) = qD qs ++ [.int (h : Nat)] := List.map_append ..
theorem ix_num {qs : List Nat} {h : Nat} (hq : h ∈ qs) : (MV.od false (zipI 0 (qD qs))).ix (D.int (h : Nat)) = some (nI (nz qs h)) := by
  show (if keyOk false (.int (h : Nat)) = true then dlk (zipI 0 (qD qs)) (.int (h : Nat)) else none) = _
  refine (if_pos (show keyOk false (D.int (h : Nat)) = true from rfl)).trans ?_
  rw [dlk_zipI _ _ _ (qD_mem.mpr hq), Nat.zero_add]; rfl
theorem put_num {qs : List Nat} {h : Nat} (hq : h ∉ qs) (hl : qs.length < lim) : (MV.od false (zipI 0 (qD qs))).put (nI h) (nI qs.length) = some (.od false (zipI 0 (qD (qs ++ [h])))) := by
  have hql : (qD qs).length = qs.length := List.length_map ..
  have e : (MV.od false (zipI 0 (qD qs))).put (nI h) (nI qs.length) = if keyOk false (D.int (h : Nat)) = true ∧ (D.int (h : Nat)).nk.isSome = true ∧ (zipI 0 (qD qs)).length < lim then some (.od false (dput (zipI 0 (qD qs)) (.int (h : Nat)) (nI qs.length))) else none := rfl
  rw [e, if_pos ⟨rfl, rfl, by rw [zipI_len, hql]; exact hl⟩]
  have hn : ¬ ∃ x ∈ qD qs, x.nk = (D.int (h : Nat)).nk := fun z => hq (qD_mem.mp z)
  rw [qD_app, zipI_app, Nat.zero_add, hql]
  unfold dput
  rw [if_neg]
  rw [any_zipI]
  intro z
  obtain ⟨x, hx, e2⟩ := List.any_eq_true.mp z
  exact hn ⟨x, hx, sameK_iff.mp e2⟩
theorem toDk_dlk {xs : List (D × MV)} {k : D} : (dlk (MV.toDk xs) k).isSome = (dlk xs k).isSome := by
  rw [toDk_map]
  unfold dlk
  induction xs with
  | nil => rfl
  | cons x xs ih =>
    rw [List.map_cons, List.find?_cons, List.find?_cons]
    cases sameK x.1 k with
    | true => rfl
    | false => exact ih
theorem notIn_num {qs : List Nat} {h : Nat} : g2 false dNotIn [nI h, .od false (zipI 0 (qD qs))] = some (.fz (.bl (!decide (h ∈ qs)))) := by
  have e : g2 false dNotIn [nI h, .od false (zipI 0 (qD qs))] = (dInB (.int (h : Nat)) (.dic false (MV.toDk (zipI 0 (qD qs))))).map fun b => .fz (.bl (!b)) := rfl
  rw [e]
  have e2 : dInB (.int (h : Nat)) (.dic false (MV.toDk (zipI 0 (qD qs)))) = some (dlk (MV.toDk (zipI 0 (qD qs))) (.int (h : Nat))).isSome := rfl
  rw [e2, toDk_dlk]
  have : (dlk (zipI 0 (qD qs)) (.int (h : Nat))).isSome = decide (h ∈ qs) := by
    by_cases hq : h ∈ qs
    · rw [dlk_zipI _ _ _ (qD_mem.mpr hq), decide_eq_true hq]; rfl
    · rw [decide_eq_false hq]
      unfold dlk
      rw [List.find?_eq_none.mpr]
      · rfl
      · intro p hp hs
        have := any_zipI (qD qs) 0 (.int (h : Nat))
        rw [List.any_eq_true.mpr ⟨p, hp, hs⟩] at this
        obtain ⟨x, hx, e2⟩ := List.any_eq_true.mp this.symm
        exact hq (qD_mem.mp ⟨x, hx, sameK_iff.mp e2⟩)
  rw [this]; rfl

/-- the class of a state -/
def cN (cl : List (Option Nat)) (t : Nat) : Nat := ((cl[t]?).getD none).getD 0
structure MachOk (steps : List (List Nat)) (mk : List D) (ns : List (List Nat)) (hm : List (Option Nat)) : Prop where
  len : hm.length = steps.length
  nlen : ns.length ≤ steps.length
  inn : ∀ s, Reach steps s → ∃ h, h < ns.length ∧ hm[s]? = some (some h)
  out : ∀ s, s < steps.length → ¬ Reach steps s → hm[s]? = some none
  zero : hm[0]? = some (some 0)
  sur : ∀ h, h < ns.length → ∃ s, Reach steps s ∧ hm[s]? = some (some h)
  row : ∀ s h r, Reach steps s → hm[s]? = some (some h) → steps[s]? = some r → ∃ row, ns[h]? = some row ∧ r.map (fun t => hm[t]?) = row.map fun h => some (some h)
  mks : ∀ s s', Reach steps s → Reach steps s' → hm[s]? = hm[s']? → ∀ a b, mk[s]? = some a → mk[s']? = some b → a.nk = b.nk
def spMachine : DSp := fun ms Q => ∃ steps mk, ms = [.fz (dS steps), .fz (.lst mk)] ∧ StepsOk steps ∧ mk.length = steps.length ∧ (∀ s, Reach steps s → ∃ d, mk[s]? = some d ∧ keyOk true d = true) ∧
  ∀ ns x hm, MachOk steps mk ns hm → Q (.fz (.tup [.lst (ns.map dN), x, .lst (hm.map dO)])) [.fz .non, .fz .non]
/-- while classes are numbered -/
structure BInv (steps : List (List Nat)) (cl : List (Option Nat)) (fo : List Nat) (many : Nat) (qs : List Nat) (at_ : Nat) : Prop where
  nd : qs.Nodup
  lt : ∀ c ∈ qs, c < many
  head : qs[0]? = some (cN cl 0)
  closed : ∀ i, i < at_ → ∀ (c f : Nat) (r : List Nat), qs[i]? = some c → fo[c]? = some f → steps[f]? = some r → ∀ t ∈ r, cN cl t ∈ qs
theorem mach_of {steps : List (List Nat)} {order : List Nat} {mk : List D} {cl : List (Option Nat)} {fo : List Nat} {many : Nat} {qs : List Nat} (ok : StepsOk steps) (oo : OrderOk steps order) (co : ClOk steps order mk cl many) (st : Stable steps order cl)
    (fl : fo.length = many) (ff : ∀ k f, fo[k]? = some f → f ∈ order ∧ cl[f]? = some (some k)) (b : BInv steps cl fo many qs qs.length) (hmn : many ≤ steps.length) {ns : List (List Nat)} (hns : ns.length = qs.length)
    (hrow : ∀ (i c f : Nat) (r : List Nat), qs[i]? = some c → fo[c]? = some f → steps[f]? = some r → ns[i]? = some (r.map fun t => nz qs (cN cl t))) :
    MachOk steps mk ns (cl.map fun o => o.map (nz qs)) ∧ ∀ s ∈ order, cN cl s ∈ qs := by
  have hc : ∀ s ∈ order, cl[s]? = some (some (cN cl s)) := fun s hs => by
    obtain ⟨k, _, e⟩ := co.inn s hs
    unfold cN
    rw [e]; rfl
  have hcl : ∀ (s : Nat) (r : List Nat), s ∈ order → steps[s]? = some r → ∀ t ∈ r, t ∈ order := fun s r hs er t ht => (oo.iff t).mpr (.step ((oo.iff s).mp hs) er ht)
  have same : ∀ s ∈ order, ∀ f r r', cl[f]? = some (some (cN cl s)) → f ∈ order → steps[s]? = some r → steps[f]? = some r' → r.map (cN cl) = r'.map (cN cl) := fun s hs f r r' ef hf er er' => by
    have := st s hs f hf (by rw [hc s hs, ef]) r r' er er'
    have h2 := congrArg (List.map fun o : Option (Option Nat) => (o.getD none).getD 0) this
    rw [List.map_map, List.map_map] at h2
    exact h2
  have all : ∀ s, Reach steps s → cN cl s ∈ qs := fun s hr => by
    induction hr with
    | zero => exact List.mem_of_getElem? b.head
    | @step s t r hr er ht ih =>
      have hs := (oo.iff s).mpr hr
      obtain ⟨i, hi⟩ := List.mem_iff_getElem?.mp ih
      have hlt := b.lt _ ih
      have ef : fo[cN cl s]? = some (fo[cN cl s]'(by rw [fl]; exact hlt)) := List.getElem?_eq_getElem _
      generalize fo[cN cl s]'(by rw [fl]; exact hlt) = f at ef
      obtain ⟨hfo, hfc⟩ := ff _ _ ef
      have hfl := oo.lt f hfo
      have er' : steps[f]? = some steps[f] := List.getElem?_eq_getElem hfl
      generalize steps[f] = r' at er'
      have e := same s hs f r r' hfc hfo er er'
      have : cN cl t ∈ r'.map (cN cl) := by rw [← e]; exact List.mem_map_of_mem ht
      obtain ⟨t', ht', e'⟩ := List.mem_map.mp this
      rw [← e']
      exact b.closed i (List.getElem?_eq_some_iff.mp hi).1 _ f r' hi ef er' t' ht'
  have hg : ∀ s ∈ order, (cl.map fun o => o.map (nz qs))[s]? = some (some (nz qs (cN cl s))) := fun s hs => by rw [List.getElem?_map, hc s hs]; rfl
  have h0 : (0 : Nat) ∈ order := (oo.iff 0).mpr .zero
  refine ⟨⟨by rw [List.length_map, co.len], ?_, fun s hr => ?_, fun s hs hr => ?_, ?_, fun h hh => ?_, fun s h r hr eh er => ?_, fun s s' hr hr' e a b' ea eb => ?_⟩, fun s hs => all s ((oo.iff s).mp hs)⟩
  · rw [hns]
    exact Nat.le_trans (nodup_le b.nd b.lt) hmn
  · exact ⟨_, by rw [hns]; exact nz_lt (all s hr), hg s ((oo.iff s).mpr hr)⟩
  · rw [List.getElem?_map, co.out s hs fun z => hr ((oo.iff s).mp z)]; rfl
  · rw [hg 0 h0]
    have h1 := nz_get (all 0 .zero)
    have : nz qs (cN cl 0) = 0 := by
      have hl := nz_lt (all 0 .zero)
      have e1 : qs[nz qs (cN cl 0)] = qs[0]'(by omega) := by
        rw [List.getElem?_eq_getElem hl] at h1
        have h2 := b.head
        rw [List.getElem?_eq_getElem (by omega)] at h2
        exact (Option.some.inj h1).trans (Option.some.inj h2).symm
      exact nodup_ix b.nd e1
    rw [this]
  · rw [hns] at hh
    have ec : qs[h]? = some qs[h] := List.getElem?_eq_getElem hh
    obtain ⟨s, hs, e⟩ := co.sur _ (b.lt _ (List.getElem_mem hh))
    refine ⟨s, (oo.iff s).mp hs, ?_⟩
    have hcs := hc s hs
    rw [e] at hcs
    have e2 : cN cl s = qs[h] := (Option.some.inj (Option.some.inj hcs)).symm
    rw [hg s hs, e2]
    have hm := List.getElem_mem hh
    have h1 := nz_get hm
    have hl := nz_lt hm
    rw [List.getElem?_eq_getElem hl] at h1
    have : nz qs qs[h] = h := nodup_ix b.nd (Option.some.inj h1)
    rw [this]
  · have hs := (oo.iff s).mpr hr
    rw [hg s hs] at eh
    have e1 : nz qs (cN cl s) = h := Option.some.inj (Option.some.inj eh)
    have hmem := all s hr
    have hi := nz_get hmem
    rw [e1] at hi
    have hlt := b.lt _ hmem
    have ef : fo[cN cl s]? = some (fo[cN cl s]'(by rw [fl]; exact hlt)) := List.getElem?_eq_getElem _
    generalize fo[cN cl s]'(by rw [fl]; exact hlt) = f at ef
    obtain ⟨hfo, hfc⟩ := ff _ _ ef
    have hfl := oo.lt f hfo
    have er' : steps[f]? = some steps[f] := List.getElem?_eq_getElem hfl
    generalize steps[f] = r' at er'
    refine ⟨_, hrow h _ f r' hi ef er', ?_⟩
    have e := same s hs f r r' hfc hfo er er'
    have h1 : r.map (fun t => (cl.map fun o => o.map (nz qs))[t]?) = (r.map (cN cl)).map fun c => some (some (nz qs c)) := by
      rw [List.map_map]
      exact List.map_congr_left fun t ht => hg t (hcl s r hs er t ht)
    rw [h1, e, List.map_map, List.map_map]
    rfl
  · have hs := (oo.iff s).mpr hr
    have hs' := (oo.iff s').mpr hr'
    rw [hg s hs, hg s' hs'] at e
    have e1 := nz_inj (all s hr) (all s' hr') (Option.some.inj (Option.some.inj e))
    exact co.mks s hs s' hs' (by rw [hc s hs, hc s' hs', e1]) a b' ea eb
end DL

namespace DL
open PySem PySem.Spec PyProof.Rows L2
local macro_rules | `(tactic| and_intros) => `(tactic| (repeat' (first | (with_reducible refine st_seq ?_) | (with_reducible refine st_asg ?_) | (with_reducible refine st_asgT ?_) | (with_reducible refine st_expr ?_) | (with_reducible refine st_ret ?_) | (with_reducible refine st_if ?_) | (with_reducible refine st_set ?_) | (with_reducible refine st_for ?_) | (with_reducible refine st_par ?_) | (with_reducible refine st_c ?_) | (with_reducible refine st_view ?_) | (with_reducible refine st_op1 ?_) | (with_reducible refine st_op2 ?_) | (with_reducible refine st_op ?_) | (with_reducible refine st_ix ?_) | (with_reducible refine st_nil ?_) | (with_reducible refine st_cons ?_) | (with_reducible refine st_consM ?_) | (with_reducible refine st_lst ?_) | (with_reducible refine st_tup ?_) | (with_reducible refine st_call ?_) | (with_reducible refine st_callK ?_) | (with_reducible refine st_ife ?_) | (with_reducible refine st_ok ?_) | (with_reducible refine st_dic ?_) | (with_reducible refine st_isi ?_) | (with_reducible refine st_sl ?_) | (with_reducible refine st_part0 ?_) | (with_reducible refine st_part1 ?_) | (with_reducible refine st_bool ?_) | (with_reducible refine st_notT ?_) | (with_reducible refine st_andT ?_) | (with_reducible refine st_orT ?_) | (with_reducible refine st_yes ?_) | (with_reducible refine st_andV ?_) | (with_reducible refine st_orV ?_) | (with_reducible refine st_notV ?_) | (with_reducible refine st_it ?_) | (with_reducible refine st_rg1 ?_) | (with_reducible refine st_enum ?_) | (with_reducible refine st_zip ?_) | (with_reducible refine st_lc ?_) | (with_reducible refine st_frz ?_) | ((with_reducible apply st_var); exact rfl) | ((with_reducible apply st_mov); exact rfl) | ((with_reducible apply st_lend); exact rfl) | ((with_reducible apply st_escf); exact rfl) | ((with_reducible apply st_esco); exact rfl) | ((with_reducible apply st_escd); exact rfl) | ((with_reducible apply st_aug); exact rfl) | ((with_reducible apply st_gn); exact rfl) | ((with_reducible apply st_gt); exact rfl) | (with_reducible refine st_gnil ?_) | (with_reducible refine st_gcons ?_) | ((with_reducible apply st_setd); exact ⟨_, _, rfl⟩) | ((with_reducible apply st_app); exact ⟨_, rfl⟩) | (with_reducible refine tl2 ev_lt ?_) | (with_reducible refine tl2 ev_cmp ?_) | (with_reducible refine tl2 ev_add ?_) | (with_reducible refine tl2 ev_sub ?_) | (with_reducible refine tl2 ev_eqI ?_) | (with_reducible refine tl2 ev_neI ?_) | (with_reducible refine tl2 ev_max ?_) | (with_reducible refine tl2 ev_min ?_) | (with_reducible refine tl2' ev_lt ?_) | (with_reducible refine tl2' ev_cmp ?_) | (with_reducible refine tl2' ev_add ?_) | (with_reducible refine tl2' ev_sub ?_) | (with_reducible refine tl2' ev_eqI ?_) | (with_reducible refine tl2' ev_neI ?_) | (with_reducible refine tl2' ev_max ?_) | (with_reducible refine tl2' ev_min ?_) | (with_reducible refine tl1 ev_neg ?_) | (with_reducible refine tl1 ev_lenO ?_) | (with_reducible refine tl1 ev_lenL ?_) | (with_reducible refine tl1 ev_lenT ?_) | (with_reducible refine tl1 ev_lenC ?_) | (with_reducible refine tl1 ev_lenD ?_) | (with_reducible refine tl1 ev_intI ?_) | (with_reducible refine tl1 ev_intB ?_) | (with_reducible refine tl1 ev_abs ?_) | (with_reducible refine tl1 ev_tupO ?_) | (with_reducible refine tl1 ev_tupL ?_) | (with_reducible refine tlz ?_) | (with_reducible refine tlb ?_) | (with_reducible refine tli ?_) | (with_reducible refine tlt ?_) | (with_reducible refine tll ?_) | (with_reducible refine tlo ?_) | (with_reducible refine tlc ?_) | (with_reducible refine ⟨len1, ?_⟩) | (with_reducible refine ⟨len2, ?_⟩) | (with_reducible refine ⟨len3, ?_⟩) | (with_reducible refine ⟨len0, ?_⟩) | (with_reducible refine ⟨len4, ?_⟩) | (with_reducible refine ⟨len5, ?_⟩) | (with_reducible refine ⟨len6, ?_⟩) | ((with_reducible apply tlen); exact rfl) | ((with_reducible apply tset); exact rfl))))

theorem st_disp1 {f g : WE} {ρ : DEnv} {Q : MV → DEnv → Prop} (z : f ρ fun km ρ1 => g ρ1 fun vm ρ2 => ∃ kd vd, km = .fz kd ∧ vm = .fz vd ∧ keyOk false kd = true ∧ Q (.od false [(kd, .fz vd)]) ρ2) : wDisp [(f, g)] ρ Q := z
theorem dCl_get {cl : List (Option Nat)} {s : Nat} {o : Option Nat} (e : cl[s]? = some o) : (MV.fz (dCl cl)).ix (D.int (s : Nat)) = some (.fz (dC o)) := ix_lst (by rw [List.getElem?_map, e]; rfl)
theorem ev_isNO {o : Option Nat} : gIsN [.fz (dO o), .fz .non] = some (.fz (.bl o.isNone)) := by cases o <;> rfl
def rwM (ns : List (List Nat)) : List MV := ns.map fun r => .fz (dN r)
def fzM (ds : List D) : List MV := ds.map .fz
theorem rwM_app (ns : List (List Nat)) (r : List Nat) : rwM ns ++ [.fz (dN r)] = rwM (ns ++ [r]) := by unfold rwM; rw [List.map_append]; rfl
theorem fzM_app (ds : List D) (d : D) : fzM ds ++ [.fz d] = fzM (ds ++ [d]) := by unfold fzM; rw [List.map_append]; rfl
theorem toD_rwM (ns : List (List Nat)) : (MV.ol (rwM ns)).toD = .lst (ns.map dN) := by
  show D.lst (MV.toDs (rwM ns)) = _
  rw [toDs_map]; unfold rwM; rw [List.map_map]; rfl
theorem toD_fzM (ds : List D) : (MV.ol (fzM ds)).toD = .lst ds := toD_ol_fz ds
theorem rwM_len (ns : List (List Nat)) : (rwM ns).length = ns.length := List.length_map ..
theorem fzM_len (ns : List D) : (fzM ns).length = ns.length := List.length_map ..
theorem ev_tupN (xs : List Nat) : g1 true dTuple [.ol (nM xs)] = some (.fz (dN xs)) := by
  have : nM xs = (xs.map fun j => D.int (j : Nat)).map MV.fz := by unfold nM; rw [List.map_map]; rfl
  rw [this]; exact ev_tupO
structure FoI (order : List Nat) (cl : List (Option Nat)) (many : Nat) (l : List Nat) (fo : List (Option Nat)) : Prop where
  len : fo.length = many
  ok : ∀ (k f : Nat), fo[k]? = some (some f) → f ∈ order ∧ cl[f]? = some (some k)
  has : ∀ s ∈ l, ∀ k : Nat, cl[s]? = some (some k) → ∃ f, fo[k]? = some (some f)
/-- what is given back for a state's home -/
def hO (qs : List Nat) : D → MV
  | .int j => if j < 0 then .fz .non else nI (nz qs j.toNat)
  | _ => .fz .non
theorem m_machine (ms : List MV) (Q : MV → List MV → Prop) (hl : ms.length = 2) (hsp : spMachine ms Q) : W_merged_machine spReached spClasses (endsF [false, false] Q) (env0 16 ms) := by
  obtain ⟨steps, mk, rfl, ok, hmk, hkey, hq⟩ := hsp
  have hlim : lim = 16777216 := rfl
  have hsmall := ok.small
  unfold W_merged_machine
  have e : env0 16 [MV.fz (dS steps), MV.fz (.lst mk)] = [some (.fz (dS steps)), some (.fz (.lst mk)), none, none, none, none, none, none, none, none, none, none, none, none, none, none] := rfl
  rw [e]
  clear e
  and_intros
  refine ⟨steps, rfl, ok, fun order oo => ?_⟩
  (try dsimp only [List.set_cons_zero, List.set_cons_succ, wipeD, putBack, toD_fz])
  and_intros
  (try dsimp only [List.set_cons_zero, List.set_cons_succ, wipeD, putBack, toD_fz])
  and_intros
  have hkey' : ∀ s ∈ order, ∃ d, mk[s]? = some d ∧ keyOk true d = true := fun s hs => hkey s ((oo.iff s).mp hs)
  rw [toD_nM]
  refine ⟨steps, order, mk, rfl, ok, oo, hmk, hkey', fun cl many co stb => ?_⟩
  (try dsimp only [List.set_cons_zero, List.set_cons_succ, wipeD, putBack, toD_fz])
  and_intros
  (try dsimp only [List.set_cons_zero, List.set_cons_succ, wipeD, putBack, toD_fz])
  and_intros
  have hol : order.length ≤ steps.length := nodup_le oo.nd oo.lt
  -- every class has a state
  have hmn : many ≤ steps.length := by
    classical
    have rep : ∀ k, ∃ s, k < many → s ∈ order ∧ cl[s]? = some (some k) := fun k => by
      by_cases hk : k < many
      · obtain ⟨s, a, b⟩ := co.sur k hk
        exact ⟨s, fun _ => ⟨a, b⟩⟩
      · exact ⟨0, fun z => absurd z hk⟩
    let R : Nat → Nat := fun k => Classical.choose (rep k)
    have hR : ∀ k, k < many → R k ∈ order ∧ cl[R k]? = some (some k) := fun k => Classical.choose_spec (rep k)
    have h1 : ((List.range many).map R).Nodup := by
      refine List.pairwise_map.mpr ?_
      refine List.Pairwise.imp_of_mem (fun {a b} ha hb hab e => ?_) (List.nodup_range (n := many))
      have e1 := (hR a (List.mem_range.mp ha)).2
      rw [e, (hR b (List.mem_range.mp hb)).2] at e1
      exact hab (Option.some.inj (Option.some.inj e1)).symm
    have := nodup_le h1 (n := steps.length) fun j hj => by
      obtain ⟨k, hk, rfl⟩ := List.mem_map.mp hj
      exact oo.lt _ (hR k (List.mem_range.mp hk)).1
    rwa [List.length_map, List.length_range] at this
  refine tl2 (ev_rep (by omega)) ?_
  and_intros
  (try dsimp only [List.set_cons_zero, List.set_cons_succ, wipeD, putBack, toD_fz])
  have e0 : List.replicate many (MV.fz .non) = oM (List.replicate many none) := by unfold oM; rw [List.map_replicate]; rfl
  rw [e0]
  and_intros
  (try dsimp only [List.set_cons_zero, List.set_cons_succ, wipeD, putBack, toD_fz])
  and_intros
  refine for_inv (fun i ρ => ∃ fo st, ρ = [some (.fz (dS steps)), some (.fz (.lst mk)), some (.fz (dLn order)), some (.fz (dCl cl)), some (nI many), some (.ol (oM fo)), st, none, none, none, none, none, none, none, none, none] ∧ FoI order cl many (order.take i) fo)
    ⟨_, none, rfl, ⟨List.length_replicate, fun k f h => by rw [List.getElem?_replicate] at h; (split at h <;> cases h), fun s h => by simp at h⟩⟩ (fun i d ρ k ed ⟨fo, st, e, fi⟩ hk => ?_) fun ρ ⟨fo, st, e, fi⟩ => ?_
  · rw [List.getElem?_map] at ed
    obtain ⟨s, es, rfl⟩ := Option.map_eq_some_iff.mp ed
    subst e
    have hso : s ∈ order := List.mem_of_getElem? es
    obtain ⟨c, hc, ec⟩ := co.inn s hso
    have ef : fo[c]? = some (fo[c]'(by rw [fi.len]; exact hc)) := List.getElem?_eq_getElem _
    generalize fo[c]'(by rw [fi.len]; exact hc) = fc at ef
    and_intros
    (try dsimp only [List.set_cons_zero, List.set_cons_succ, wipeD, putBack, toD_fz])
    and_intros
    refine tlx (dCl_get ec) ?_
    refine tlx (ix_ol (oM_get ef)) ?_
    and_intros
    refine tl2 ev_isNO ?_
    and_intros
    rw [take_snoc es] at hk
    cases fc with
    | none =>
      rw [show (none : Option Nat).isNone = true from rfl, if_pos rfl]
      and_intros
      (try dsimp only [List.set_cons_zero, List.set_cons_succ, wipeD, putBack, toD_fz])
      and_intros
      refine tlx (dCl_get ec) ?_
      refine tput rfl (put_ol (j := c) (by rw [oM_len, fi.len]; exact hc)) ?_
      (try dsimp only [List.set_cons_zero, List.set_cons_succ, wipeD, putBack, toD_fz])
      rw [oM_set]
      refine hk _ ⟨_, _, rfl, by rw [List.length_set]; exact fi.len, fun k f h => ?_, fun t ht k e => ?_⟩
      · by_cases hkc : c = k
        · subst hkc
          rw [List.getElem?_set_self (by rw [fi.len]; exact hc)] at h
          cases h
          exact ⟨hso, ec⟩
        · rw [List.getElem?_set_ne hkc] at h
          exact fi.ok k f h
      · by_cases hkc : c = k
        · subst hkc
          rw [List.getElem?_set_self (by rw [fi.len]; exact hc)]
          exact ⟨_, rfl⟩
        · rw [List.getElem?_set_ne hkc]
          rcases List.mem_append.mp ht with z | z
          · exact fi.has t z k e
          · rw [List.mem_singleton.mp z, ec] at e
            exact absurd (Option.some.inj (Option.some.inj e)) hkc
    | some f =>
      rw [show (some f).isNone = false from rfl, if_neg (by decide)]
      refine hk _ ⟨_, _, rfl, fi.len, fi.ok, fun t ht k e => ?_⟩
      rcases List.mem_append.mp ht with z | z
      · exact fi.has t z k e
      · rw [List.mem_singleton.mp z, ec] at e
        have : c = k := Option.some.inj (Option.some.inj e)
        exact ⟨f, this ▸ ef⟩
  subst e
  rw [List.length_map, List.take_length] at fi
  have hfull : ∀ c, c < many → ∃ f, fo[c]? = some (some f) := fun c hc => by
    obtain ⟨s, hs, e⟩ := co.sur c hc
    exact fi.has s hs c e
  let fo' : List Nat := fo.map fun o => o.getD 0
  have fo'_get : ∀ c f, fo'[c]? = some f → fo[c]? = some (some f) := fun c f h => by
    have hc : c < many := by
      have := (List.getElem?_eq_some_iff.mp h).1
      rw [List.length_map, fi.len] at this
      exact this
    obtain ⟨f', e⟩ := hfull c hc
    have : fo'[c]? = some f' := by show (fo.map _)[c]? = _; rw [List.getElem?_map, e]; rfl
    rw [h] at this
    rw [e, Option.some.inj this]
  have h0 : (0 : Nat) ∈ order := (oo.iff 0).mpr .zero
  obtain ⟨c0, hc0, ec0⟩ := co.inn 0 h0
  have hcN0 : cN cl 0 = c0 := by unfold cN; rw [ec0]; rfl
  and_intros
  refine st_disp1 ?_
  and_intros
  refine tlx (dCl_get (s := 0) ec0) ?_
  and_intros
  refine ⟨_, _, rfl, rfl, rfl, ?_⟩
  and_intros
  (try dsimp only [List.set_cons_zero, List.set_cons_succ, wipeD, putBack, toD_fz])
  and_intros
  refine tlx (dCl_get (s := 0) ec0) ?_
  and_intros
  (try dsimp only [List.set_cons_zero, List.set_cons_succ, wipeD, putBack, toD_fz])
  and_intros
  (try dsimp only [List.set_cons_zero, List.set_cons_succ, wipeD, putBack, toD_fz])
  refine ⟨fun m ρ => ∃ (qs : List Nat) (at_ : Nat) (ns : List (List Nat)) (nm : List D) (o6 o12 o13 : Option MV) (o14 : Option D), ρ = [some (.fz (dS steps)), some (.fz (.lst mk)), some (.fz (dLn order)), some (.fz (dCl cl)), some (nI many), some (.ol (oM fo)), o6, some (.od false (zipI 0 (qD qs))), some (.ol (nM qs)), some (.ol (rwM ns)), some (.ol (fzM nm)), some (nI at_), o12, o13, o14.map MV.fz, none] ∧
      BInv steps cl fo' many qs at_ ∧ at_ ≤ qs.length ∧ ns.length = at_ ∧ nm.length = at_ ∧ (∀ (i c f : Nat) (r : List Nat), i < at_ → qs[i]? = some c → fo'[c]? = some f → steps[f]? = some r → ns[i]? = some (r.map fun t => nz qs (cN cl t))) ∧ m + at_ = many,
    ⟨many, [c0], 0, [], [], _, _, _, none, rfl, ⟨by simp, fun c hc => by rw [List.mem_singleton.mp hc]; exact hc0, by rw [hcN0]; rfl, fun i h => absurd h (Nat.not_lt_zero _)⟩, Nat.zero_le _, rfl, rfl, fun i c f r h => absurd h (Nat.not_lt_zero _), rfl⟩, fun m ρ ⟨qs, at_, ns, nm, o6, o12, o13, o14, e, b, hat, hns, hnm, hrow, hm⟩ => ?_⟩
  subst e
  have hqm : qs.length ≤ many := nodup_le b.nd b.lt
  and_intros
  rw [nM_len]
  refine tif (fun hlt => ?_) fun hge => ?_
  · have ec : qs[at_]? = some qs[at_] := List.getElem?_eq_getElem hlt
    generalize qs[at_] = c at ec
    have hcm : c ∈ qs := List.mem_of_getElem? ec
    obtain ⟨f, ef⟩ := hfull c (b.lt c hcm)
    have ef' : fo'[c]? = some f := by show (fo.map _)[c]? = _; rw [List.getElem?_map, ef]; rfl
    obtain ⟨hfo, hfc⟩ := fi.ok c f ef
    have hfl := oo.lt f hfo
    have er : steps[f]? = some steps[f] := List.getElem?_eq_getElem hfl
    generalize steps[f] = r at er
    obtain ⟨d, emk, hkd⟩ := hkey' f hfo
    and_intros
    refine tlx (ix_ol (nM_get ec)) ?_
    refine tlx (ix_ol (oM_get ef)) ?_
    and_intros
    (try dsimp only [List.set_cons_zero, List.set_cons_succ, wipeD, putBack, toD_fz])
    and_intros
    (try dsimp only [List.set_cons_zero, List.set_cons_succ, wipeD, putBack, toD_fz])
    and_intros
    refine tlx (ix_lst emk) ?_
    and_intros
    refine tapp rfl (by rw [fzM_len]; omega) ?_
    (try dsimp only [List.set_cons_zero, List.set_cons_succ, wipeD, putBack, toD_fz])
    rw [fzM_app]
    and_intros
    (try dsimp only [List.set_cons_zero, List.set_cons_succ, wipeD, putBack, toD_fz])
    and_intros
    refine tlx (ix_tup (x := dN r) (by rw [List.getElem?_map, er]; rfl)) ?_
    and_intros
    refine for_inv (fun i ρ => ∃ (more : List Nat) (o13 : Option MV) (o14 : Option D), ρ = [some (.fz (dS steps)), some (.fz (.lst mk)), some (.fz (dLn order)), some (.fz (dCl cl)), some (nI many), some (.ol (oM fo)), some (nI f), some (.od false (zipI 0 (qD (qs ++ more)))), some (.ol (nM (qs ++ more))), some (.ol (rwM ns)), some (.ol (fzM (nm ++ [d]))), some (nI (at_ + 1)), some (.ol (nM ((r.take i).map fun t => nz (qs ++ more) (cN cl t)))), o13, o14.map MV.fz, none] ∧
        (qs ++ more).Nodup ∧ (∀ c ∈ qs ++ more, c < many) ∧ ∀ t ∈ r.take i, cN cl t ∈ qs ++ more)
      ⟨[], _, _, by rw [List.append_nil]; rfl, by rw [List.append_nil]; exact b.nd, by rw [List.append_nil]; exact b.lt, fun t h => by simp at h⟩ (fun i dt ρ k ed ⟨more, o13, o14, e, nd, ltm, ht⟩ hk => ?_) fun ρ ⟨more, o13, o14, e, nd, ltm, ht⟩ => ?_
    · rw [List.getElem?_map] at ed
      obtain ⟨t, et, rfl⟩ := Option.map_eq_some_iff.mp ed
      subst e
      have hto : t ∈ order := (oo.iff t).mpr (.step ((oo.iff f).mp hfo) er (List.mem_of_getElem? et))
      obtain ⟨h, hh, eh⟩ := co.inn t hto
      have ecN : cN cl t = h := by unfold cN; rw [eh]; rfl
      have hlen := nodup_le nd ltm
      have hrl := ok.row r (List.mem_of_getElem? er)
      have hil : (r.take i).length ≤ r.length := by rw [List.length_take]; omega
      have etake := take_snoc et
      and_intros
      (try dsimp only [List.set_cons_zero, List.set_cons_succ, wipeD, putBack, toD_fz])
      and_intros
      refine tlx (dCl_get eh) ?_
      and_intros
      (try dsimp only [List.set_cons_zero, List.set_cons_succ, wipeD, putBack, toD_fz])
      and_intros
      refine tl2 notIn_num ?_
      and_intros
      by_cases hq : h ∈ qs ++ more
      · rw [decide_eq_true hq, if_neg (by decide)]
        and_intros
        refine tlx (ix_num hq) ?_
        and_intros
        refine tapp rfl (by rw [nM_len, List.length_map]; omega) ?_
        (try dsimp only [List.set_cons_zero, List.set_cons_succ, wipeD, putBack, toD_fz])
        rw [nM_app]
        refine hk _ ⟨more, some (nI t), some (dC (some h)), ?_, nd, ltm, fun u hu => ?_⟩
        · rw [etake, List.map_append, List.map_singleton, ecN]; rfl
        · rw [etake] at hu
          rcases List.mem_append.mp hu with z | z
          · exact ht u z
          · rw [List.mem_singleton.mp z, ecN]; exact hq
      · rw [decide_eq_false hq, if_pos (by decide)]
        and_intros
        rw [nM_len]
        refine tput rfl (put_num hq (by omega)) ?_
        (try dsimp only [List.set_cons_zero, List.set_cons_succ, wipeD, putBack, toD_fz])
        and_intros
        refine tapp rfl (by rw [nM_len]; omega) ?_
        (try dsimp only [List.set_cons_zero, List.set_cons_succ, wipeD, putBack, toD_fz])
        rw [show nM (qs ++ more) ++ [MV.fz (dC (some h))] = nM (qs ++ more ++ [h]) from nM_app _ _]
        have hq2 : h ∈ qs ++ more ++ [h] := by simp
        and_intros
        refine tlx (ix_num hq2) ?_
        and_intros
        refine tapp rfl (by rw [nM_len, List.length_map]; omega) ?_
        (try dsimp only [List.set_cons_zero, List.set_cons_succ, wipeD, putBack, toD_fz])
        rw [nM_app]
        have nd2 : (qs ++ more ++ [h]).Nodup := List.nodup_append.mpr ⟨nd, by simp, fun x hx y hy e => by
          rw [List.mem_singleton.mp hy] at e
          exact hq (e ▸ hx)⟩
        have lt2 : ∀ c ∈ qs ++ more ++ [h], c < many := fun c hc => by
          rcases List.mem_append.mp hc with z | z
          · exact ltm c z
          · rw [List.mem_singleton.mp z]; exact hh
        have ht2 : ∀ u ∈ r.take (i + 1), cN cl u ∈ qs ++ more ++ [h] := fun u hu => by
          rw [etake] at hu
          rcases List.mem_append.mp hu with z | z
          · exact List.mem_append_left _ (ht u z)
          · rw [List.mem_singleton.mp z, ecN]; exact hq2
        have erow : ((r.take i).map fun t => nz (qs ++ more) (cN cl t)) ++ [nz (qs ++ more ++ [h]) h] = (r.take (i + 1)).map fun t => nz (qs ++ more ++ [h]) (cN cl t) := by
          rw [etake, List.map_append, List.map_singleton, ecN]
          congr 1
          exact List.map_congr_left fun u hu => (nz_app [h] (ht u hu)).symm
        rw [erow]
        rw [List.append_assoc] at nd2 lt2 ht2 ⊢
        exact hk _ ⟨more ++ [h], some (nI t), some (dC (some h)), rfl, nd2, lt2, ht2⟩
    · subst e
      rw [List.length_map, List.take_length] at ht ⊢
      have hlen := nodup_le nd ltm
      and_intros
      refine tl1 (ev_tupN _) ?_
      and_intros
      refine tapp rfl (by rw [rwM_len]; omega) ?_
      (try dsimp only [List.set_cons_zero, List.set_cons_succ, wipeD, putBack, toD_fz])
      rw [rwM_app]
      refine ⟨m - 1, by omega, qs ++ more, at_ + 1, ns ++ [r.map fun t => nz (qs ++ more) (cN cl t)], nm ++ [d], _, _, _, o14, rfl, ⟨nd, ltm, ?_, fun i hi c' f' r' e1 e2 e3 t htr => ?_⟩, ?_, ?_, ?_, fun i c' f' r' hi e1 e2 e3 => ?_, by omega⟩
      · rw [List.getElem?_append_left (by omega)]
        exact b.head
      · by_cases hia : i = at_
        · subst hia
          rw [List.getElem?_append_left hlt, ec] at e1
          cases e1
          rw [ef'] at e2
          cases e2
          rw [er] at e3
          cases e3
          exact ht t htr
        · rw [List.getElem?_append_left (by omega)] at e1
          exact List.mem_append_left _ (b.closed i (by omega) c' f' r' e1 e2 e3 t htr)
      · rw [List.length_append]; omega
      · rw [List.length_append, List.length_singleton]; omega
      · rw [List.length_append, List.length_singleton]; omega
      · by_cases hia : i = at_
        · subst hia
          rw [List.getElem?_append_left hlt, ec] at e1
          cases e1
          rw [ef'] at e2
          cases e2
          rw [er] at e3
          cases e3
          rw [← hns, List.getElem?_concat_length]
        · rw [List.getElem?_append_left (by omega)] at e1
          rw [List.getElem?_append_left (by omega), hrow i c' f' r' (by omega) e1 e2 e3]
          refine congrArg some (List.map_congr_left fun t ht' => ?_)
          exact (nz_app more (b.closed i (by omega) c' f' r' e1 e2 e3 t ht')).symm
  · have hateq : at_ = qs.length := by omega
    subst hateq
    have M := mach_of ok oo co stb (fo := fo') (by rw [List.length_map]; exact fi.len) (fun k f h => fi.ok k f (fo'_get k f h)) b hmn hns fun i c f r e1 e2 e3 => hrow i c f r (List.getElem?_eq_some_iff.mp e1).1 e1 e2 e3
    obtain ⟨M, hall⟩ := M
    and_intros
    refine ⟨by cases o14 <;> rfl, ?_⟩
    refine lcB_map (k := hO qs) _ _ [] _ (fun ρ => ∃ o14 : Option MV, ρ = [some (.fz (dS steps)), some (.fz (.lst mk)), some (.fz (dLn order)), some (.fz (dCl cl)), some (nI many), some (.ol (oM fo)), o6, some (.od false (zipI 0 (qD qs))), some (.ol (nM qs)), some (.ol (rwM ns)), some (.ol (fzM nm)), some (nI qs.length), o12, o13, o14, none]) ⟨_, rfl⟩ ?_ (fun d hd ρ ⟨o, e⟩ K hK => ?_) fun ρ ⟨o, e⟩ => ?_
    · rw [List.length_nil, List.length_map, co.len]; omega
    · subst e
      obtain ⟨x, hx, rfl⟩ := List.mem_map.mp hd
      cases x with
      | none =>
        (try dsimp only [List.set_cons_zero, List.set_cons_succ, wipeD, putBack, toD_fz])
        and_intros
        (try dsimp only [List.set_cons_zero, List.set_cons_succ, wipeD, putBack, toD_fz])
        and_intros
        refine tl2 (ev_lt (i := -1) (j := 0)) ?_
        and_intros
        rw [if_pos (by decide)]
        and_intros
        exact hK _ ⟨_, rfl⟩
      | some c =>
        have hcq : c ∈ qs := by
          obtain ⟨s, hs⟩ := List.mem_iff_getElem?.mp hx
          have hsl := (List.getElem?_eq_some_iff.mp hs).1
          rw [co.len] at hsl
          by_cases hso : s ∈ order
          · have := hall s hso
            unfold cN at this
            rw [hs] at this
            exact this
          · rw [co.out s hsl hso] at hs
            cases hs
        (try dsimp only [List.set_cons_zero, List.set_cons_succ, wipeD, putBack, toD_fz])
        and_intros
        (try dsimp only [List.set_cons_zero, List.set_cons_succ, wipeD, putBack, toD_fz])
        and_intros
        refine tl2 (ev_lt (i := (c : Nat)) (j := 0)) ?_
        and_intros
        rw [if_neg (by simp)]
        and_intros
        refine tlx (ix_num hcq) ?_
        and_intros
        exact hK _ ⟨_, rfl⟩
    · subst e
      have ea : ([] : List MV) ++ (cl.map dC).map (hO qs) = fzM ((cl.map fun o => o.map (nz qs)).map dO) := by
        rw [List.nil_append]
        unfold fzM
        rw [List.map_map, List.map_map, List.map_map]
        refine List.map_congr_left fun o _ => ?_
        cases o <;> rfl
      rw [ea]
      (try dsimp only [List.set_cons_zero, List.set_cons_succ, wipeD, restD, List.getElem?_cons_zero, List.getElem?_cons_succ, Option.getD_some])
      and_intros
      (try dsimp only [List.set_cons_zero, List.set_cons_succ, wipeD, putBack, toD_fz])
      and_intros
      (try dsimp only [List.set_cons_zero, List.set_cons_succ, wipeD, putBack, toD_fz])
      rw [List.map_cons, List.map_cons, List.map_cons, List.map_nil, toD_rwM, toD_fzM, toD_fzM]
      exact ⟨_, rfl, hq ns _ _ M⟩
end DL

/-! texts by their code points; equality of lists of numbers; sorted -/
namespace DL
open PySem PySem.Spec PyProof.Rows L2

abbrev sT (cs : List Nat) : Str := ⟨cs.toArray⟩
abbrev dT (cs : List Nat) : D := .str (sT cs)
theorem sT_len (cs : List Nat) : (sT cs).length = cs.length := rfl
theorem sT_inj {a b : List Nat} : sT a = sT b ↔ a = b := ⟨fun h => by
  have := congrArg (fun x : Str => x.cps.toList) h
  exact this, fun h => by rw [h]⟩
theorem chars_T (cs : List Nat) : chars (sT cs) = cs.map fun c => dT [c] := rfl
theorem ix_T {cs : List Nat} {j c : Nat} (h : cs[j]? = some c) (hl : cs.length ≤ lim) : (MV.fz (dT cs)).ix (D.int (j : Nat)) = some (.fz (dT [c])) := by
  show (D.ix (dT cs) (.int (j : Nat))).map MV.fz = _
  have e : D.ix (dT cs) (.int (j : Nat)) = if (sT cs).length ≤ lim then (atI cs (j : Nat)).map fun c => .str ⟨#[c]⟩ else none := rfl
  rw [e, if_pos (show (sT cs).length ≤ lim from hl), atI_nat h]; rfl
theorem strs_T : ∀ xss : List (List Nat), D.strs (xss.map dT) = some (xss.map sT)
  | [] => rfl
  | x :: xss => by rw [List.map_cons, List.map_cons]; unfold D.strs; rw [strs_T xss]; rfl
theorem glue_fold : ∀ (xss : List (List Nat)) (a : Array Nat), List.foldl (fun (acc : Array Nat) (p : Str) => acc ++ (Str.ofString "").cps ++ p.cps) a (xss.map sT) = (a.toList ++ xss.flatten).toArray
  | [], a => by simp
  | x :: xss, a => by
    rw [List.map_cons, List.foldl_cons, glue_fold xss]
    apply Array.toList_inj.mp
    simp [show (Str.ofString "").cps = #[] from rfl]
theorem glued_T (xss : List (List Nat)) : Txt.join (Str.ofString "") (xss.map sT) = sT xss.flatten := by
  show Builtin.Str.glued _ _ = _
  unfold Builtin.Str.glued
  cases xss with
  | nil => rfl
  | cons x xss =>
    rw [List.map_cons, List.drop_succ_cons, List.drop_zero, List.headD_cons]
    rw [glue_fold]; rfl
theorem sum_len (xss : List (List Nat)) : ((xss.map sT).map (·.length)).sum = xss.flatten.length := by
  rw [List.length_flatten, List.map_map]; rfl
theorem join_T {xss : List (List Nat)} (h : xss.flatten.length ≤ lim) : dJoin (.str (Str.ofString "")) (.lst (xss.map dT)) = some (.fz (dT xss.flatten)) := by
  unfold dJoin
  simp only [strs_T, Option.bind_some]
  show (if ((xss.map sT).map (·.length)).sum + (xss.map sT).length * 0 ≤ lim then some (MV.fz (.str (Txt.join (Str.ofString "") (xss.map sT)))) else none) = _
  rw [sum_len, Nat.mul_zero, Nat.add_zero, if_pos h, glued_T]
def tM (xss : List (List Nat)) : List MV := xss.map fun cs => .fz (dT cs)
theorem toD_tM (xss : List (List Nat)) : (MV.ol (tM xss)).toD = .lst (xss.map dT) := by
  show D.lst (MV.toDs (tM xss)) = _
  rw [toDs_map]; unfold tM; rw [List.map_map]; rfl
theorem tM_app (xss : List (List Nat)) (cs : List Nat) : tM xss ++ [.fz (dT cs)] = tM (xss ++ [cs]) := by unfold tM; rw [List.map_append]; rfl
theorem tM_len (xss : List (List Nat)) : (tM xss).length = xss.length := List.length_map ..
theorem ev_join {xss : List (List Nat)} (h : xss.flatten.length ≤ lim) : g2 false dJoin [.fz (.str (Str.ofString "")), .ol (tM xss)] = some (.fz (dT xss.flatten)) := by
  show dJoin (.str (Str.ofString "")) (MV.ol (tM xss)).toD = _
  rw [toD_tM, join_T h]
theorem flat_ones (cs : List Nat) : (cs.map fun c => [c]).flatten = cs := by
  induction cs with
  | nil => rfl
  | cons c cs ih => rw [List.map_cons, List.flatten_cons, ih]; rfl
theorem ev_eqT {a b : List Nat} : g2 false dEq [.fz (dT a), .fz (dT b)] = some (.fz (.bl (decide (a = b)))) := by
  show (dEqB (dT a) (dT b)).map (fun b => MV.fz (.bl b)) = _
  have e : dEqB (dT a) (dT b) = some (decide (sT a = sT b)) := rfl
  rw [e]
  by_cases h : a = b
  · rw [decide_eq_true h, decide_eq_true (sT_inj.mpr h)]; rfl
  · rw [decide_eq_false h, decide_eq_false fun z => h (sT_inj.mp z)]; rfl
/-! ### equality of lists of numbers -/
theorem pys_ints : ∀ xs : List Int, D.pys (xs.map .int) = some (xs.map .int)
  | [] => rfl
  | x :: xs => by rw [List.map_cons, D.pys, pys_ints xs]; rfl
theorem eqv_ints : ∀ xs ys : List Int, PyData.eqvAll (xs.map .int) (ys.map .int) = decide (xs = ys)
  | [], [] => rfl
  | [], y :: ys => rfl
  | x :: xs, [] => rfl
  | x :: xs, y :: ys => by
    rw [List.map_cons, List.map_cons, PyData.eqvAll.eq_2, PyData.eqv.eq_5, eqv_ints xs ys]
    by_cases h1 : x = y <;> by_cases h2 : xs = ys <;> simp [h1, h2]
theorem can_ints : ∀ xs : List Int, PyData.canLayAll0 (xs.map .int) = true
  | [] => by rw [List.map_nil]; unfold PyData.canLayAll0; rfl
  | x :: xs => by rw [List.map_cons]; unfold PyData.canLayAll0; rw [can_ints xs]; unfold PyData.canLay0; rfl
theorem depth_ints : ∀ xs : List Int, PyData.depthAll (xs.map .int) ≤ 1
  | [] => by rw [List.map_nil]; unfold PyData.depthAll; omega
  | x :: xs => by
    have := depth_ints xs
    rw [List.map_cons]; unfold PyData.depthAll; unfold PyData.depth
    omega
theorem shaped_ints (xs : List Int) : SeqAt.shaped (.list (xs.map .int)) = true := by
  have h1 := can_ints xs
  have h2 := depth_ints xs
  unfold SeqAt.shaped
  unfold PyData.canLay0 PyData.depth
  rw [h1]
  simp only [Bool.true_and, decide_eq_true_eq]
  omega
theorem ev_eqL {xs ys : List Int} : dEq (.lst (xs.map .int)) (.lst (ys.map .int)) = some (.fz (.bl (decide (xs = ys)))) := by
  have e : dEqB (.lst (xs.map .int)) (.lst (ys.map .int)) = some (decide (xs = ys)) := by
    unfold dEqB
    rw [if_neg (show ¬ D.scal (.lst (xs.map .int)) (.lst (ys.map .int)) = true from Bool.false_ne_true)]
    unfold D.py
    rw [pys_ints, pys_ints]
    show (if SeqAt.shaped (.list (xs.map .int)) = true ∧ SeqAt.shaped (.list (ys.map .int)) = true then some (PyData.eqv (.list (xs.map .int)) (.list (ys.map .int))) else none) = _
    rw [if_pos ⟨shaped_ints xs, shaped_ints ys⟩, PyData.eqv.eq_7, eqv_ints]
  unfold dEq
  rw [e]; rfl
theorem dLn_ints (xs : List Nat) : dLn xs = .lst ((xs.map fun j : Nat => (j : Int)).map .int) := by rw [List.map_map]; rfl
theorem nat_ints {xs ys : List Nat} : (xs.map fun j : Nat => (j : Int)) = (ys.map fun j : Nat => (j : Int)) ↔ xs = ys := ⟨fun h => map_inj (fun a b e => by omega) h, fun h => by rw [h]⟩
theorem ev_eqLn {xs ys : List Nat} : dEq (dLn xs) (dLn ys) = some (.fz (.bl (decide (xs = ys)))) := by
  rw [dLn_ints, dLn_ints, ev_eqL]
  by_cases h : xs = ys
  · rw [decide_eq_true h, decide_eq_true (nat_ints.mpr h)]
  · rw [decide_eq_false h, decide_eq_false fun z => h (nat_ints.mp z)]
theorem lstRg_nat {n : Nat} (h : n ≤ 1000) : dLstRg 0 (n : Nat) = some (.ol (nM (List.range n))) := by
  unfold dLstRg dLstRg.RgOkB
  rw [if_pos (decide_eq_true ⟨by omega, by omega, by omega, by omega, by omega⟩)]
  have : ((n : Int) - 0).toNat = n := by omega
  rw [this]
  unfold nM
  rw [List.map_map]
  congr 2
  refine List.map_congr_left fun i _ => ?_
  show MV.fz (.int (0 + (i : Nat))) = _
  rw [Int.zero_add]
/-! ### sorted -/
theorem ints_nat (xs : List Nat) : D.ints (xs.map fun j => D.int (j : Nat)) = some (xs.map fun j : Nat => (j : Int)) := by
  induction xs with
  | nil => rfl
  | cons x xs ih => rw [List.map_cons, D.ints, ih]; rfl
theorem ev_sorted (xs : List Nat) : ∃ ys : List Nat, g1 false dSorted [.ol (nM xs)] = some (.ol (nM ys)) ∧ ys.Perm xs ∧ ys.Pairwise (· ≤ ·) := by
  have e : g1 false dSorted [.ol (nM xs)] = dSorted (MV.ol (nM xs)).toD := rfl
  rw [e, toD_nM]
  show ∃ ys : List Nat, (D.ints _).map _ = _ ∧ _
  rw [ints_nat, Option.map_some]
  have hp : (sortI (xs.map fun j : Nat => (j : Int))).Perm (xs.map fun j : Nat => (j : Int)) := List.mergeSort_perm ..
  have h1 : (sortI (xs.map fun j : Nat => (j : Int))).Pairwise (· ≤ ·) := by
    have := List.pairwise_mergeSort (le := fun a b : Int => decide (a ≤ b)) (by intro a b c; simp only [decide_eq_true_eq]; omega) (by intro a b; simp only [Bool.or_eq_true, decide_eq_true_eq]; omega) (xs.map fun j : Nat => (j : Int))
    exact this.imp fun h => by simpa using h
  generalize sortI (xs.map fun j : Nat => (j : Int)) = zs at hp h1
  have hz : zs = (zs.map Int.toNat).map fun j : Nat => (j : Int) := by
    rw [List.map_map]
    refine (List.map_id zs).symm.trans (List.map_congr_left fun z hz => ?_)
    obtain ⟨j, _, rfl⟩ := List.mem_map.mp (hp.mem_iff.mp hz)
    rfl
  refine ⟨zs.map Int.toNat, ?_, ?_, ?_⟩
  · show some (MV.ol (zs.map fun n => .fz (.int n))) = _
    unfold nM
    rw [List.map_map]
    congr 2
    refine List.map_congr_left fun z hz' => ?_
    obtain ⟨j, _, rfl⟩ := List.mem_map.mp (hp.mem_iff.mp hz')
    rfl
  · have := hp.map Int.toNat
    rw [List.map_map] at this
    rwa [show (Int.toNat ∘ fun j : Nat => (j : Int)) = id from funext fun j => rfl, List.map_id] at this
  · refine List.pairwise_map.mpr (h1.imp fun h => ?_)
    omega
/-! ### keys of texts -/
theorem nks_strs : ∀ xss : List (List Nat), D.nks (xss.map dT) = some (xss.map fun cs => .text (sT cs))
  | [] => rfl
  | x :: xss => by rw [List.map_cons, D.nks, nks_strs xss]; rfl
theorem depth_txts : ∀ xss : List (List Nat), NestedKey.depthAll (xss.map fun cs => NestedKey.text (sT cs)) ≤ 1
  | [] => by simp [NestedKey.depthAll]
  | x :: xss => by
    have := depth_txts xss
    rw [List.map_cons, NestedKey.depthAll]
    simp only [NestedKey.depth]
    omega
abbrev dTs (xss : List (List Nat)) : D := .tup (xss.map dT)
theorem dTs_nk (xss : List (List Nat)) : (dTs xss).nk = some (.tup (xss.map fun cs => .text (sT cs))) := by
  rw [D.nk, nks_strs]; rfl
theorem dTs_eq {xss yss : List (List Nat)} (h : (dTs xss).nk = (dTs yss).nk) : xss = yss := by
  rw [dTs_nk, dTs_nk] at h
  simp only [Option.some.injEq, NestedKey.tup.injEq] at h
  refine map_inj (fun a b e => ?_) h
  injection e with e
  exact sT_inj.mp e
theorem dTs_ok (xss : List (List Nat)) : keyOk true (dTs xss) = true := by
  show (true && (match D.nks (xss.map dT) with
    | some ks => decide ((NestedKey.tup ks).depth ≤ 8)
    | none => false)) = true
  rw [nks_strs]
  have := depth_txts xss
  simp only [Bool.true_and, decide_eq_true_eq, NestedKey.depth]
  refine decide_eq_true ?_
  omega
end DL

namespace DL
open PySem PySem.Spec PyProof.Rows L2
local macro_rules | `(tactic| and_intros) => `(tactic| (repeat' (first | (with_reducible refine st_seq ?_) | (with_reducible refine st_asg ?_) | (with_reducible refine st_asgT ?_) | (with_reducible refine st_expr ?_) | (with_reducible refine st_ret ?_) | (with_reducible refine st_if ?_) | (with_reducible refine st_set ?_) | (with_reducible refine st_for ?_) | (with_reducible refine st_par ?_) | (with_reducible refine st_c ?_) | (with_reducible refine st_view ?_) | (with_reducible refine st_op1 ?_) | (with_reducible refine st_op2 ?_) | (with_reducible refine st_op ?_) | (with_reducible refine st_ix ?_) | (with_reducible refine st_nil ?_) | (with_reducible refine st_cons ?_) | (with_reducible refine st_consM ?_) | (with_reducible refine st_lst ?_) | (with_reducible refine st_tup ?_) | (with_reducible refine st_call ?_) | (with_reducible refine st_callK ?_) | (with_reducible refine st_ife ?_) | (with_reducible refine st_ok ?_) | (with_reducible refine st_dic ?_) | (with_reducible refine st_isi ?_) | (with_reducible refine st_sl ?_) | (with_reducible refine st_part0 ?_) | (with_reducible refine st_part1 ?_) | (with_reducible refine st_bool ?_) | (with_reducible refine st_notT ?_) | (with_reducible refine st_andT ?_) | (with_reducible refine st_orT ?_) | (with_reducible refine st_yes ?_) | (with_reducible refine st_andV ?_) | (with_reducible refine st_orV ?_) | (with_reducible refine st_notV ?_) | (with_reducible refine st_it ?_) | (with_reducible refine st_rg1 ?_) | (with_reducible refine st_enum ?_) | (with_reducible refine st_zip ?_) | (with_reducible refine st_lc ?_) | (with_reducible refine st_frz ?_) | ((with_reducible apply st_var); exact rfl) | ((with_reducible apply st_mov); exact rfl) | ((with_reducible apply st_lend); exact rfl) | ((with_reducible apply st_escf); exact rfl) | ((with_reducible apply st_esco); exact rfl) | ((with_reducible apply st_escd); exact rfl) | ((with_reducible apply st_aug); exact rfl) | ((with_reducible apply st_gn); exact rfl) | ((with_reducible apply st_gt); exact rfl) | (with_reducible refine st_gnil ?_) | (with_reducible refine st_gcons ?_) | ((with_reducible apply st_setd); exact ⟨_, _, rfl⟩) | ((with_reducible apply st_app); exact ⟨_, rfl⟩) | (with_reducible refine tl2 ev_lt ?_) | (with_reducible refine tl2 ev_cmp ?_) | (with_reducible refine tl2 ev_add ?_) | (with_reducible refine tl2 ev_sub ?_) | (with_reducible refine tl2 ev_eqI ?_) | (with_reducible refine tl2 ev_neI ?_) | (with_reducible refine tl2 ev_max ?_) | (with_reducible refine tl2 ev_min ?_) | (with_reducible refine tl2' ev_lt ?_) | (with_reducible refine tl2' ev_cmp ?_) | (with_reducible refine tl2' ev_add ?_) | (with_reducible refine tl2' ev_sub ?_) | (with_reducible refine tl2' ev_eqI ?_) | (with_reducible refine tl2' ev_neI ?_) | (with_reducible refine tl2' ev_max ?_) | (with_reducible refine tl2' ev_min ?_) | (with_reducible refine tl1 ev_neg ?_) | (with_reducible refine tl1 ev_lenO ?_) | (with_reducible refine tl1 ev_lenL ?_) | (with_reducible refine tl1 ev_lenT ?_) | (with_reducible refine tl1 ev_lenC ?_) | (with_reducible refine tl1 ev_lenD ?_) | (with_reducible refine tl1 ev_intI ?_) | (with_reducible refine tl1 ev_intB ?_) | (with_reducible refine tl1 ev_abs ?_) | (with_reducible refine tl1 ev_tupO ?_) | (with_reducible refine tl1 ev_tupL ?_) | (with_reducible refine tlz ?_) | (with_reducible refine tlb ?_) | (with_reducible refine tli ?_) | (with_reducible refine tlt ?_) | (with_reducible refine tll ?_) | (with_reducible refine tlo ?_) | (with_reducible refine tlc ?_) | (with_reducible refine ⟨len1, ?_⟩) | (with_reducible refine ⟨len2, ?_⟩) | (with_reducible refine ⟨len3, ?_⟩) | (with_reducible refine ⟨len0, ?_⟩) | (with_reducible refine ⟨len4, ?_⟩) | (with_reducible refine ⟨len5, ?_⟩) | (with_reducible refine ⟨len6, ?_⟩) | ((with_reducible apply tlen); exact rfl) | ((with_reducible apply tset); exact rfl))))

/-! ### first_homes -/
theorem ev_notNO {o : Option Nat} : gNotN [.fz (dO o), .fz .non] = some (.fz (.bl o.isSome)) := by cases o <;> rfl
structure FhI (hm : List (Option Nat)) (many : Nat) (l : Nat) (fo : List (Option Nat)) : Prop where
  len : fo.length = many
  ok : ∀ (h s : Nat), fo[h]? = some (some s) → hm[s]? = some (some h)
  has : ∀ s h : Nat, s < l → hm[s]? = some (some h) → ∃ f, fo[h]? = some (some f)
def spFirst : DSp := fun ms Q => ∃ (hm : List (Option Nat)) (many : Nat), ms = [.fz (.lst (hm.map dO)), nI many] ∧ many ≤ 1000 ∧ hm.length ≤ 1000 ∧ (∀ s h : Nat, hm[s]? = some (some h) → h < many) ∧ (∀ h : Nat, h < many → ∃ s : Nat, hm[s]? = some (some h)) ∧
  ∀ olds : List Nat, olds.length = many → (∀ (h s : Nat), olds[h]? = some s → hm[s]? = some (some h)) → Q (.ol (nM olds)) [.fz .non, .fz .non]
theorem enum_dLst (ds : List D) : dEnum (.lst ds) = some (enumD 0 ds) := rfl
theorem m_first (ms : List MV) (Q : MV → List MV → Prop) (hl : ms.length = 2) (hsp : spFirst ms Q) : W_first_homes (endsF [false, false] Q) (env0 5 ms) := by
  obtain ⟨hm, many, rfl, hmany, hml, hlt, hsur, hq⟩ := hsp
  have hlim : lim = 16777216 := rfl
  unfold W_first_homes
  have e : env0 5 [MV.fz (.lst (hm.map dO)), nI many] = [some (.fz (.lst (hm.map dO))), some (nI many), none, none, none] := rfl
  rw [e]
  clear e
  and_intros
  refine tl2 (ev_rep (by omega)) ?_
  and_intros
  (try dsimp only [List.set_cons_zero, List.set_cons_succ, wipeD, putBack, toD_fz])
  have e0 : List.replicate many (MV.fz .non) = oM (List.replicate many none) := by unfold oM; rw [List.map_replicate]; rfl
  rw [e0]
  and_intros
  refine ⟨_, enum_dLst _, ?_⟩
  refine for_inv (fun i ρ => ∃ fo o3 o4, ρ = [some (.fz (.lst (hm.map dO))), some (nI many), some (.ol (oM fo)), o3, o4] ∧ FhI hm many i fo)
    ⟨_, none, none, rfl, ⟨List.length_replicate, fun k f h => by rw [List.getElem?_replicate] at h; (split at h <;> cases h), fun s h z => absurd z (Nat.not_lt_zero _)⟩⟩ (fun i d ρ k ed ⟨fo, o3, o4, e, fi⟩ hk => ?_) fun ρ ⟨fo, o3, o4, e, fi⟩ => ?_
  · rw [enumD_get, List.getElem?_map, Option.map_map, Nat.zero_add] at ed
    obtain ⟨o, eo, rfl⟩ := Option.map_eq_some_iff.mp ed
    subst e
    show gT 2 _ (.tup [.int (i : Nat), dO o]) _ _
    have hin : ∀ (s : Nat) (h : Nat), s < i + 1 → hm[s]? = some (some h) → s < i ∨ o = some h := fun s h hs e => by
      by_cases z : s < i
      · exact .inl z
      · have : s = i := by omega
        subst this
        rw [eo] at e
        exact .inr (Option.some.inj e)
    and_intros
    (try dsimp only [List.set_cons_zero, List.set_cons_succ, wipeD, putBack, toD_fz])
    and_intros
    (try dsimp only [List.set_cons_zero, List.set_cons_succ, wipeD, putBack, toD_fz])
    and_intros
    refine tl2 ev_notNO ?_
    and_intros
    cases o with
    | none =>
      rw [show (none : Option Nat).isSome = false from rfl, if_neg (by decide), if_neg (by decide)]
      refine hk _ ⟨_, _, _, rfl, fi.len, fi.ok, fun s h hs e => ?_⟩
      rcases hin s h hs e with z | z
      · exact fi.has s h z e
      · cases z
    | some h =>
      rw [show (some h).isSome = true from rfl, if_pos rfl]
      have hh := hlt i h eo
      have ef : fo[h]? = some (fo[h]'(by rw [fi.len]; exact hh)) := List.getElem?_eq_getElem _
      generalize fo[h]'(by rw [fi.len]; exact hh) = fc at ef
      and_intros
      refine tlx (ix_ol (oM_get ef)) ?_
      and_intros
      refine tl2 ev_isNO ?_
      and_intros
      cases fc with
      | none =>
        rw [show (none : Option Nat).isNone = true from rfl, if_pos rfl]
        and_intros
        refine tput rfl (put_ol (j := h) (by rw [oM_len, fi.len]; exact hh)) ?_
        (try dsimp only [List.set_cons_zero, List.set_cons_succ, wipeD, putBack, toD_fz])
        rw [oM_set]
        refine hk _ ⟨_, _, _, rfl, by rw [List.length_set]; exact fi.len, fun h' s e => ?_, fun s h' hs e => ?_⟩
        · by_cases z : h = h'
          · subst z
            rw [List.getElem?_set_self (by rw [fi.len]; exact hh)] at e
            cases e
            exact eo
          · rw [List.getElem?_set_ne z] at e
            exact fi.ok h' s e
        · by_cases z : h = h'
          · subst z
            rw [List.getElem?_set_self (by rw [fi.len]; exact hh)]
            exact ⟨_, rfl⟩
          · rw [List.getElem?_set_ne z]
            rcases hin s h' hs e with y | y
            · exact fi.has s h' y e
            · exact absurd (Option.some.inj y) z
      | some f =>
        rw [show (some f).isNone = false from rfl, if_neg (by decide)]
        refine hk _ ⟨_, _, _, rfl, fi.len, fi.ok, fun s h' hs e => ?_⟩
        rcases hin s h' hs e with y | y
        · exact fi.has s h' y e
        · cases y
          exact ⟨f, ef⟩
  subst e
  rw [enumD_len, List.length_map] at fi
  and_intros
  have hfull : ∀ h, h < many → ∃ s, fo[h]? = some (some s) := fun h hh => by
    obtain ⟨s, e⟩ := hsur h hh
    exact fi.has s h (List.getElem?_eq_some_iff.mp e).1 e
  have efo : oM fo = nM (fo.map fun o => o.getD 0) := by
    unfold oM nM
    rw [List.map_map]
    refine List.map_congr_left fun o ho => ?_
    obtain ⟨h, e⟩ := List.mem_iff_getElem?.mp ho
    have hh := (List.getElem?_eq_some_iff.mp e).1
    rw [fi.len] at hh
    obtain ⟨s, e2⟩ := hfull h hh
    rw [e] at e2
    rw [Option.some.inj e2]; rfl
  rw [efo]
  refine ⟨_, rfl, hq _ (by rw [List.length_map]; exact fi.len) fun h s e => ?_⟩
  rw [List.getElem?_map] at e
  obtain ⟨o, e1, rfl⟩ := Option.map_eq_some_iff.mp e
  have hh := (List.getElem?_eq_some_iff.mp e1).1
  rw [fi.len] at hh
  obtain ⟨s, e2⟩ := hfull h hh
  rw [e1] at e2
  rw [Option.some.inj e2] at e1 ⊢
  exact fi.ok h s e1

/-! ### picked_rows -/
def pick (rests : List Nat) (x : List Nat) : List Nat := rests.map fun r => (x[r]?).getD 0
theorem pick_range (x : List Nat) : pick (List.range x.length) x = x := by
  unfold pick
  apply List.ext_getElem?
  intro i
  rw [List.getElem?_map]
  by_cases h : i < x.length
  · rw [List.getElem?_range h, List.getElem?_eq_getElem h, Option.map_some, List.getElem?_eq_getElem h]; rfl
  · rw [List.getElem?_eq_none (by rw [List.length_range]; omega), List.getElem?_eq_none (by omega)]; rfl
abbrev dTab (table : List (List (List Nat))) : D := .tup (table.map dTs)
def rowOf (table : List (List (List Nat))) (rests : List Nat) (s : Nat) : List (List Nat) := ((table[s]?).getD []).map (pick rests)
def tsM (rows : List (List (List Nat))) : List MV := rows.map fun r => .fz (dTs r)
theorem tsM_app (rows : List (List (List Nat))) (r : List (List Nat)) : tsM rows ++ [.fz (dTs r)] = tsM (rows ++ [r]) := by unfold tsM; rw [List.map_append]; rfl
theorem tsM_len (rows : List (List (List Nat))) : (tsM rows).length = rows.length := List.length_map ..
def spPicked : DSp := fun ms Q => ∃ (table : List (List (List Nat))) (states rests : List Nat) (many : Nat), ms = [.fz (dTab table), .fz (dLn states), .fz (dLn rests), nI many] ∧ many ≤ 1000 ∧ states.length ≤ 1000 ∧ rests.length ≤ 1000 ∧ (∀ s ∈ states, s < table.length) ∧
  (∀ row ∈ table, row.length ≤ 1000 ∧ ∀ x ∈ row, x.length = many) ∧ (∀ r ∈ rests, r < many) ∧ Q (.ol (tsM (states.map (rowOf table rests)))) [.fz .non, .fz .non, .fz .non, .fz .non]
def kRow (table : List (List (List Nat))) : D → MV
  | .int j => .fz (dTs ((table[j.toNat]?).getD []))
  | _ => .fz .non
def kPick (rests : List Nat) : D → MV
  | .str x => .fz (dT (pick rests x.cps.toList))
  | _ => .fz .non
def kChar (x : List Nat) : D → MV
  | .int j => .fz (dT [(x[j.toNat]?).getD 0])
  | _ => .fz .non
theorem st_lr1 {f : WE} {ρ : DEnv} {Q : MV → DEnv → Prop} (z : f ρ fun m ρ1 => ∃ j m', m = .fz (.int j) ∧ dLstRg 0 j = some m' ∧ Q m' ρ1) : wLR1 f ρ Q := z
theorem m_picked (ms : List MV) (Q : MV → List MV → Prop) (hl : ms.length = 4) (hsp : spPicked ms Q) : W_picked_rows (endsF [false, false, false, false] Q) (env0 8 ms) := by
  obtain ⟨table, states, rests, many, rfl, hmany, hsl, hrl, hs, hrow, hr, hq⟩ := hsp
  have hlim : lim = 16777216 := rfl
  unfold W_picked_rows
  have e : env0 8 [MV.fz (dTab table), .fz (dLn states), .fz (dLn rests), nI many] = [some (.fz (dTab table)), some (.fz (dLn states)), some (.fz (dLn rests)), some (nI many), none, none, none, none] := rfl
  rw [e]
  clear e
  and_intros
  refine st_lr1 ?_
  and_intros
  refine ⟨(many : Nat), _, rfl, lstRg_nat hmany, ?_⟩
  have e1 : g2 false dEq [.fz (dLn rests), .ol (nM (List.range many))] = some (.fz (.bl (decide (rests = List.range many)))) := by
    show dEq (dLn rests) (MV.ol (nM (List.range many))).toD = _
    rw [toD_nM, ev_eqLn]
  refine tl2 e1 ?_
  and_intros
  refine tifd (fun he => ?_) fun he => ?_
  · and_intros
    refine ⟨rfl, ?_⟩
    refine lcB_map (k := kRow table) _ _ [] _ (fun ρ => ∃ o4, ρ = [some (.fz (dTab table)), some (.fz (dLn states)), some (.fz (dLn rests)), some (nI many), o4, none, none, none]) ⟨_, rfl⟩ ?_ (fun d hd ρ ⟨o, e⟩ K hK => ?_) fun ρ ⟨o, e⟩ => ?_
    · rw [List.length_nil, List.length_map]; omega
    · subst e
      obtain ⟨s, hx, rfl⟩ := List.mem_map.mp hd
      have er : table[s]? = some table[s]! := by
        rw [getElem!_pos table s (hs s hx)]
        exact List.getElem?_eq_getElem (hs s hx)
      generalize table[s]! = row at er
      (try dsimp only [List.set_cons_zero, List.set_cons_succ, wipeD, putBack, toD_fz])
      and_intros
      (try dsimp only [List.set_cons_zero, List.set_cons_succ, wipeD, putBack, toD_fz])
      and_intros
      refine tlx (ix_tup (x := dTs row) (by rw [List.getElem?_map, er]; rfl)) ?_
      and_intros
      have ek : MV.fz (dTs row) = kRow table (.int (s : Nat)) := by
        show _ = MV.fz (dTs ((table[s]?).getD []))
        rw [er]; rfl
      rw [ek]
      exact hK _ ⟨_, rfl⟩
    · subst e
      have ea : ([] : List MV) ++ (states.map fun j => D.int (j : Nat)).map (kRow table) = tsM (states.map (rowOf table rests)) := by
        rw [List.nil_append]
        unfold tsM
        rw [List.map_map, List.map_map]
        refine List.map_congr_left fun s hx => ?_
        show MV.fz (dTs ((table[s]?).getD [])) = .fz (dTs (rowOf table rests s))
        unfold rowOf
        have er : table[s]? = some table[s]! := by
          rw [getElem!_pos table s (hs s hx)]
          exact List.getElem?_eq_getElem (hs s hx)
        rw [er]
        have : (table[s]!).map (pick rests) = table[s]! := by
          refine (List.map_congr_left fun x hx' => ?_).trans (List.map_id _)
          have := (hrow _ (List.mem_of_getElem? er)).2 x hx'
          rw [he, ← this]
          exact pick_range x
        rw [Option.getD_some, this]
      rw [ea]
      (try dsimp only [List.set_cons_zero, List.set_cons_succ, wipeD, restD, List.getElem?_cons_zero, List.getElem?_cons_succ, Option.getD_some])
      exact ⟨_, rfl, hq⟩
  · and_intros
    (try dsimp only [List.set_cons_zero, List.set_cons_succ, wipeD, putBack, toD_fz])
    and_intros
    refine for_inv (fun i ρ => ∃ o4, ρ = [some (.fz (dTab table)), some (.fz (dLn states)), some (.fz (dLn rests)), some (nI many), o4, some (.ol (tsM ((states.take i).map (rowOf table rests)))), none, none])
      ⟨_, rfl⟩ (fun i d ρ k ed ⟨o4, e⟩ hk => ?_) fun ρ ⟨o4, e⟩ => ?_
    · rw [List.getElem?_map] at ed
      obtain ⟨s, es, rfl⟩ := Option.map_eq_some_iff.mp ed
      subst e
      have hx := List.mem_of_getElem? es
      have er : table[s]? = some table[s]! := by
        rw [getElem!_pos table s (hs s hx)]
        exact List.getElem?_eq_getElem (hs s hx)
      have ero : rowOf table rests s = (table[s]!).map (pick rests) := by unfold rowOf; rw [er]; rfl
      generalize table[s]! = row at er ero
      have hrow1 := hrow row (List.mem_of_getElem? er)
      and_intros
      (try dsimp only [List.set_cons_zero, List.set_cons_succ, wipeD, putBack, toD_fz])
      and_intros
      refine tlx (ix_tup (x := dTs row) (by rw [List.getElem?_map, er]; rfl)) ?_
      and_intros
      refine ⟨rfl, ?_⟩
      refine lcB_map (k := kPick rests) _ _ [] _ (fun ρ => ∃ o7, ρ = [some (.fz (dTab table)), some (.fz (dLn states)), some (.fz (dLn rests)), some (nI many), some (.fz (.int (s : Nat))), some (.ol (tsM ((states.take i).map (rowOf table rests)))), none, o7]) ⟨_, rfl⟩ ?_ (fun d hd ρ ⟨o, e⟩ K hK => ?_) fun ρ ⟨o, e⟩ => ?_
      · rw [List.length_nil, List.length_map]; omega
      · subst e
        obtain ⟨x, hxr, rfl⟩ := List.mem_map.mp hd
        have hxl := hrow1.2 x hxr
        (try dsimp only [List.set_cons_zero, List.set_cons_succ, wipeD, putBack, toD_fz])
        and_intros
        (try dsimp only [List.set_cons_zero, List.set_cons_succ, wipeD, putBack, toD_fz])
        and_intros
        refine ⟨rfl, ?_⟩
        and_intros
        refine ⟨rfl, ?_⟩
        refine lcB_map (k := kChar x) _ _ [] _ (fun ρ => ∃ o6, ρ = [some (.fz (dTab table)), some (.fz (dLn states)), some (.fz (dLn rests)), some (nI many), some (.fz (.int (s : Nat))), some (.ol (tsM ((states.take i).map (rowOf table rests)))), o6, some (.fz (dT x))]) ⟨_, rfl⟩ ?_ (fun d hd ρ ⟨o, e⟩ K hK => ?_) fun ρ ⟨o, e⟩ => ?_
        · rw [List.length_nil, List.length_map]; omega
        · subst e
          obtain ⟨r, hrr, rfl⟩ := List.mem_map.mp hd
          have hrm := hr r hrr
          have ec : x[r]? = some x[r]! := by
            rw [getElem!_pos x r (by omega)]
            exact List.getElem?_eq_getElem (by omega)
          (try dsimp only [List.set_cons_zero, List.set_cons_succ, wipeD, putBack, toD_fz])
          and_intros
          (try dsimp only [List.set_cons_zero, List.set_cons_succ, wipeD, putBack, toD_fz])
          and_intros
          refine tlx (ix_T ec (by omega)) ?_
          and_intros
          have ek : MV.fz (dT [x[r]!]) = kChar x (.int (r : Nat)) := by
            show _ = MV.fz (dT [(x[r]?).getD 0])
            rw [ec]; rfl
          rw [ek]
          exact hK _ ⟨_, rfl⟩
        · subst e
          have ea : ([] : List MV) ++ (rests.map fun j => D.int (j : Nat)).map (kChar x) = tM ((pick rests x).map fun c => [c]) := by
            rw [List.nil_append]
            unfold tM pick
            rw [List.map_map, List.map_map, List.map_map]; rfl
          rw [ea]
          (try dsimp only [List.set_cons_zero, List.set_cons_succ, wipeD, restD, List.getElem?_cons_zero, List.getElem?_cons_succ, Option.getD_some])
          and_intros
          refine tl2 (ev_join (by rw [flat_ones]; unfold pick; rw [List.length_map]; omega)) ?_
          rw [flat_ones]
          and_intros
          exact hK _ ⟨_, rfl⟩
      · subst e
        have ea : ([] : List MV) ++ (row.map dT).map (kPick rests) = (((row.map (pick rests)).map dT).map MV.fz) := by
          rw [List.nil_append, List.map_map, List.map_map, List.map_map]; rfl
        rw [ea]
        (try dsimp only [List.set_cons_zero, List.set_cons_succ, wipeD, restD, List.getElem?_cons_zero, List.getElem?_cons_succ, Option.getD_some])
        and_intros
        refine tapp rfl (by rw [tsM_len, List.length_map, List.length_take]; omega) ?_
        (try dsimp only [List.set_cons_zero, List.set_cons_succ, wipeD, putBack, toD_fz])
        rw [show ∀ zs : List MV, zs ++ [MV.fz (D.tup ((row.map (pick rests)).map dT))] = zs ++ [MV.fz (dTs (rowOf table rests s))] from fun zs => by rw [ero], tsM_app]
        refine hk _ ⟨some (nI s), ?_⟩
        rw [take_snoc es, List.map_append]; rfl
    · subst e
      rw [List.length_map, List.take_length]
      and_intros
      exact ⟨_, rfl, hq⟩
end DL

/-! least readers tell the same marks: the plain law -/
namespace DL
open PySem PySem.Spec PyProof.Rows L2

structure Rd where
  letters : List Nat
  forth : List (List Nat)
  back : List (List Nat)
  table : List (List (List Nat))
def stp (steps : List (List Nat)) (s a : Nat) : Nat := (((steps[s]?).getD [])[a]?).getD 0
def bst (steps : List (List Nat)) (r : Nat) (as : List Nat) : Nat := as.foldr (fun a r => stp steps r a) r
def run (steps : List (List Nat)) (s : Nat) (as : List Nat) : Nat := as.foldl (stp steps) s
def cel (table : List (List (List Nat))) (s a r : Nat) : Nat := (((((table[s]?).getD [])[a]?).getD [])[r]?).getD 0
def marks (R : Rd) (r : Nat) : Nat → List Nat → List Nat
  | _, [] => []
  | s, a :: as => cel R.table s a (bst R.back r as) :: marks R r (stp R.forth s a) as
theorem bst_app (steps : List (List Nat)) (r : Nat) (as bs : List Nat) : bst steps r (as ++ bs) = bst steps (bst steps r bs) as := by unfold bst; rw [List.foldr_append]
theorem run_app (steps : List (List Nat)) (s : Nat) (as bs : List Nat) : run steps s (as ++ bs) = run steps (run steps s as) bs := by unfold run; rw [List.foldl_append]
theorem marks_app (R : Rd) (r : Nat) : ∀ (as bs : List Nat) (s : Nat), marks R r s (as ++ bs) = marks R (bst R.back r bs) s as ++ marks R r (run R.forth s as) bs
  | [], bs, s => rfl
  | a :: as, bs, s => by
    rw [List.cons_append, marks, marks_app R r as bs, bst_app]; rfl
theorem marks_len (R : Rd) (r : Nat) : ∀ (as : List Nat) (s : Nat), (marks R r s as).length = as.length
  | [], _ => rfl
  | a :: as, s => by rw [marks, List.length_cons, marks_len R r as, List.length_cons]
theorem bst_sim {st st' : List (List Nat)} {k : Nat} {B : Nat → Nat → Prop} (hB : ∀ r g a, B r g → a < k → B (stp st r a) (stp st' g a)) : ∀ (as : List Nat) (r g : Nat), B r g → (∀ a ∈ as, a < k) → B (bst st r as) (bst st' g as)
  | [], _, _, h, _ => h
  | a :: as, r, g, h, ha => hB _ _ a (bst_sim hB as r g h fun b hb => ha b (List.mem_cons_of_mem _ hb)) (ha a (List.mem_cons_self ..))
theorem marks_sim {R R' : Rd} {k : Nat} {F B : Nat → Nat → Prop} (hF : ∀ s h a, F s h → a < k → F (stp R.forth s a) (stp R'.forth h a)) (hB : ∀ r g a, B r g → a < k → B (stp R.back r a) (stp R'.back g a))
    (hc : ∀ s h r g a, F s h → B r g → a < k → cel R.table s a r = cel R'.table h a g) : ∀ (as : List Nat) (s h r g : Nat), F s h → B r g → (∀ a ∈ as, a < k) → marks R r s as = marks R' g h as
  | [], _, _, _, _, _, _, _ => rfl
  | a :: as, s, h, r, g, f, b, ha => by
    have ha' : ∀ b ∈ as, b < k := fun b hb => ha b (List.mem_cons_of_mem _ hb)
    have hak := ha a (List.mem_cons_self ..)
    rw [marks, marks, hc _ _ _ _ a f (bst_sim hB as r g b ha') hak, marks_sim hF hB hc as _ _ r g (hF _ _ a f hak) b ha']
/-- what reading needs -/
structure Good (R : Rd) (k : Nat) (F B : Nat → Prop) : Prop where
  f0 : F 0
  b0 : B 0
  f : ∀ s a, F s → a < k → ∃ row, R.forth[s]? = some row ∧ row[a]? = some (stp R.forth s a) ∧ F (stp R.forth s a)
  b : ∀ s a, B s → a < k → ∃ row, R.back[s]? = some row ∧ row[a]? = some (stp R.back s a) ∧ B (stp R.back s a)
  t : ∀ s r a, F s → B r → a < k → ∃ row x, R.table[s]? = some row ∧ row[a]? = some x ∧ x.length ≤ lim ∧ x[r]? = some (cel R.table s a r)
theorem Good.bst {R : Rd} {k : Nat} {F B : Nat → Prop} (G : Good R k F B) : ∀ {as : List Nat} {r : Nat}, B r → (∀ a ∈ as, a < k) → B (bst R.back r as)
  | [], _, h, _ => h
  | a :: as, r, h, ha => by
    obtain ⟨_, _, _, z⟩ := G.b _ a (G.bst (as := as) h fun b hb => ha b (List.mem_cons_of_mem _ hb)) (ha a (List.mem_cons_self ..))
    exact z
theorem Good.run {R : Rd} {k : Nat} {F B : Nat → Prop} (G : Good R k F B) : ∀ {as : List Nat} {s : Nat}, F s → (∀ a ∈ as, a < k) → F (run R.forth s as)
  | [], _, h, _ => h
  | a :: as, s, h, ha => by
    obtain ⟨_, _, _, z⟩ := G.f _ a h (ha a (List.mem_cons_self ..))
    exact G.run (as := as) z fun b hb => ha b (List.mem_cons_of_mem _ hb)
structure ROk (R : Rd) (k : Nat) : Prop where
  fk : StepsOk R.forth
  bk : StepsOk R.back
  fr : ∀ row ∈ R.forth, row.length = k
  br : ∀ row ∈ R.back, row.length = k
  tl : R.table.length = R.forth.length
  tr : ∀ row ∈ R.table, row.length = k
  tc : ∀ row ∈ R.table, ∀ x ∈ row, x.length = R.back.length
  k1 : 0 < k
  k2 : k ≤ 1000
theorem stp_ok {steps : List (List Nat)} {k s a : Nat} (ok : StepsOk steps) (fr : ∀ row ∈ steps, row.length = k) (hs : s < steps.length) (ha : a < k) : ∃ row, steps[s]? = some row ∧ row[a]? = some (stp steps s a) ∧ stp steps s a < steps.length ∧ stp steps s a ∈ row := by
  have e : steps[s]? = some steps[s] := List.getElem?_eq_getElem hs
  have hm := List.getElem_mem hs
  generalize steps[s] = row at e hm
  have hl := fr row hm
  have e2 : row[a]? = some row[a] := List.getElem?_eq_getElem (by omega)
  have hm2 : row[a]'(by omega) ∈ row := List.getElem_mem _
  generalize row[a] = t at e2 hm2
  have : stp steps s a = t := by unfold stp; rw [e, Option.getD_some, e2]; rfl
  rw [this]
  exact ⟨row, e, e2, ok.lt row hm t hm2, hm2⟩
theorem ROk.cell {R : Rd} {k : Nat} (ok : ROk R k) {s r a : Nat} (hs : s < R.forth.length) (hr : r < R.back.length) (ha : a < k) : ∃ row x, R.table[s]? = some row ∧ row[a]? = some x ∧ x.length = R.back.length ∧ x[r]? = some (cel R.table s a r) := by
  have hs' : s < R.table.length := by rw [ok.tl]; exact hs
  have e : R.table[s]? = some R.table[s] := List.getElem?_eq_getElem hs'
  have hm := List.getElem_mem hs'
  generalize R.table[s] = row at e hm
  have hl := ok.tr row hm
  have e2 : row[a]? = some row[a] := List.getElem?_eq_getElem (by omega)
  have hm2 : row[a]'(by omega) ∈ row := List.getElem_mem _
  generalize row[a] = x at e2 hm2
  have hx := ok.tc row hm x hm2
  have e3 : x[r]? = some x[r] := List.getElem?_eq_getElem (by omega)
  generalize x[r] = c at e3
  have : cel R.table s a r = c := by unfold cel; rw [e, Option.getD_some, e2, Option.getD_some, e3]; rfl
  rw [this]
  exact ⟨row, x, e, e2, hx, e3⟩
theorem ROk.good {R : Rd} {k : Nat} (ok : ROk R k) : Good R k (· < R.forth.length) (· < R.back.length) where
  f0 := ok.fk.pos
  b0 := ok.bk.pos
  f := fun s a hs ha => by
    obtain ⟨row, e1, e2, e3, _⟩ := stp_ok ok.fk ok.fr hs ha
    exact ⟨row, e1, e2, e3⟩
  b := fun s a hs ha => by
    obtain ⟨row, e1, e2, e3, _⟩ := stp_ok ok.bk ok.br hs ha
    exact ⟨row, e1, e2, e3⟩
  t := fun s r a hs hr ha => by
    obtain ⟨row, x, e1, e2, e3, e4⟩ := ok.cell hs hr ha
    refine ⟨row, x, e1, e2, ?_, e4⟩
    have := ok.bk.small
    have : lim = 16777216 := rfl
    omega
/-- a state and its home -/
def Sm (steps : List (List Nat)) (hm : List (Option Nat)) (s h : Nat) : Prop := Reach steps s ∧ hm[s]? = some (some h)
theorem Reach.lt {steps : List (List Nat)} (ok : StepsOk steps) {s : Nat} (h : Reach steps s) : s < steps.length := by
  cases h with
  | zero => exact ok.pos
  | step _ er ht => exact ok.lt _ (List.mem_of_getElem? er) _ ht
theorem MachOk.reach {steps : List (List Nat)} {mk : List D} {ns : List (List Nat)} {hm : List (Option Nat)} (M : MachOk steps mk ns hm) {s h : Nat} (e : hm[s]? = some (some h)) : Reach steps s := by
  have hs := (List.getElem?_eq_some_iff.mp e).1
  rw [M.len] at hs
  refine Classical.byContradiction fun z => ?_
  rw [M.out s hs z] at e
  cases e
theorem MachOk.sim {steps : List (List Nat)} {mk : List D} {ns : List (List Nat)} {hm : List (Option Nat)} {k : Nat} (M : MachOk steps mk ns hm) (ok : StepsOk steps) (fr : ∀ row ∈ steps, row.length = k) {s h a : Nat} (e : Sm steps hm s h) (ha : a < k) :
    Sm steps hm (stp steps s a) (stp ns h a) ∧ ∃ row, ns[h]? = some row ∧ row[a]? = some (stp ns h a) := by
  obtain ⟨hr, eh⟩ := e
  obtain ⟨r, er, ea, _, hmem⟩ := stp_ok ok fr (hr.lt ok) ha
  obtain ⟨row, e1, e2⟩ := M.row s h r hr eh er
  have e3 : (r.map fun t => hm[t]?)[a]? = (row.map fun h => some (some h))[a]? := by rw [e2]
  rw [List.getElem?_map, List.getElem?_map, ea, Option.map_some] at e3
  obtain ⟨h', e4, e5⟩ := Option.map_eq_some_iff.mp e3.symm
  have : stp ns h a = h' := by unfold stp; rw [e1, Option.getD_some, e4]; rfl
  rw [this]
  exact ⟨⟨.step hr er hmem, e5.symm⟩, row, e1, e4⟩
theorem zcol_eq (xss : List (List Nat)) (j : Nat) : zColD (xss.map sT) j = dTs (xss.map fun y => [(y[j]?).getD 0]) := by
  unfold zColD dTs
  rw [List.map_map, List.map_map]
  congr 1
  refine List.map_congr_left fun y _ => ?_
  show D.str ⟨#[((y.toArray)[j]?).getD 0]⟩ = .str ⟨#[(y[j]?).getD 0]⟩
  rw [List.getElem?_toArray]
/-- the strings of the states that are reached -/
def strsOf (table : List (List (List Nat))) (order : List Nat) : List (List Nat) := order.flatMap fun s => (table[s]?).getD []
theorem least_law {R : Rd} {k : Nat} (ok : ROk R k) {order sr : List Nat} (oo : OrderOk R.forth order) (hsr : ∀ r, Reach R.back r → r ∈ sr) {rows cols : List D} (hrows : ∀ s ∈ order, rows[s]? = some (dTs (rowOf R.table sr s)))
    (hcols : ∀ r, r < R.back.length → cols[r]? = some (zColD ((strsOf R.table order).map sT) r)) {nf nb : List (List Nat)} {hf hb : List (Option Nat)} (M : MachOk R.forth rows nf hf) (N : MachOk R.back cols nb hb)
    {states rests : List Nat} (sl : states.length = nf.length) (rl : rests.length = nb.length) (hst : ∀ h s : Nat, states[h]? = some s → hf[s]? = some (some h)) (hre : ∀ h s : Nat, rests[h]? = some s → hb[s]? = some (some h)) (L : List Nat) :
    let R' : Rd := ⟨L, nf, nb, states.map (rowOf R.table rests)⟩
    (∃ F B, Good R' k F B) ∧ ∀ as : List Nat, (∀ a ∈ as, a < k) → marks R' 0 0 as = marks R 0 0 as := by
  intro R'
  have hbl : R.back.length ≤ lim := by
    have := ok.bk.small
    have : lim = 16777216 := rfl
    omega
  have z0 : Sm R.forth hf 0 0 := ⟨.zero, M.zero⟩
  have w0 : Sm R.back hb 0 0 := ⟨.zero, N.zero⟩
  have hF : ∀ s h a, Sm R.forth hf s h → a < k → Sm R.forth hf (stp R.forth s a) (stp nf h a) := fun s h a e ha => (M.sim ok.fk ok.fr e ha).1
  have hB : ∀ s h a, Sm R.back hb s h → a < k → Sm R.back hb (stp R.back s a) (stp nb h a) := fun s h a e ha => (N.sim ok.bk ok.br e ha).1
  have lt1 : ∀ s h, Sm R.forth hf s h → h < nf.length := fun s h e => by
    obtain ⟨h', hl, e'⟩ := M.inn s e.1
    rw [e.2] at e'
    have : h = h' := Option.some.inj (Option.some.inj e')
    omega
  have lt2 : ∀ s h, Sm R.back hb s h → h < nb.length := fun s h e => by
    obtain ⟨h', hl, e'⟩ := N.inn s e.1
    rw [e.2] at e'
    have : h = h' := Option.some.inj (Option.some.inj e')
    omega
  have hc : ∀ s h r g a, Sm R.forth hf s h → Sm R.back hb r g → a < k → ∃ row x, R'.table[h]? = some row ∧ row[a]? = some x ∧ x.length = nb.length ∧ x[g]? = some (cel R.table s a r) := fun s h r g a es er ha => by
    have l1 := lt1 s h es
    have l2 := lt2 r g er
    have e1 : states[h]? = some (states[h]'(by omega)) := List.getElem?_eq_getElem _
    generalize states[h]'(by omega) = s0 at e1
    have e2 : rests[g]? = some (rests[g]'(by omega)) := List.getElem?_eq_getElem _
    generalize rests[g]'(by omega) = r0 at e2
    have f1 := hst h s0 e1
    have f2 := hre g r0 e2
    have c1 := M.reach f1
    have c2 := N.reach f2
    obtain ⟨row0, x0, t1, t2, t3, t4⟩ := ok.cell (c1.lt ok.fk) (c2.lt ok.bk) ha
    obtain ⟨row, x, u1, u2, u3, u4⟩ := ok.cell (es.1.lt ok.fk) (er.1.lt ok.bk) ha
    have hro : rowOf R.table rests s0 = row0.map (pick rests) := by unfold rowOf; rw [t1]; rfl
    refine ⟨rowOf R.table rests s0, pick rests x0, ?_, ?_, ?_, ?_⟩
    · show (states.map _)[h]? = _
      rw [List.getElem?_map, e1]; rfl
    · rw [hro, List.getElem?_map, t2]; rfl
    · unfold pick
      rw [List.length_map, rl]
    · unfold pick
      rw [List.getElem?_map, e2, Option.map_some, t4, Option.getD_some]
      -- rows
      have k1 := M.mks s0 s c1 es.1 (by rw [f1, es.2]) _ _ (hrows s0 ((oo.iff s0).mpr c1)) (hrows s ((oo.iff s).mpr es.1))
      have k2 := dTs_eq k1
      unfold rowOf at k2
      rw [t1, u1, Option.getD_some, Option.getD_some] at k2
      have k3 : (row0.map (pick sr))[a]? = (row.map (pick sr))[a]? := by rw [k2]
      rw [List.getElem?_map, List.getElem?_map, t2, u2, Option.map_some, Option.map_some] at k3
      have k4 : pick sr x0 = pick sr x := Option.some.inj k3
      unfold pick at k4
      have k5 := List.map_inj_left.mp k4 r0 (hsr r0 c2)
      rw [t4, Option.getD_some] at k5
      -- columns
      have j1 := N.mks r0 r c2 er.1 (by rw [f2, er.2]) _ _ (hcols r0 (c2.lt ok.bk)) (hcols r (er.1.lt ok.bk))
      rw [zcol_eq, zcol_eq] at j1
      have j2 := dTs_eq j1
      have hx : x ∈ strsOf R.table order := List.mem_flatMap.mpr ⟨s, (oo.iff s).mpr es.1, by rw [u1]; exact List.mem_of_getElem? u2⟩
      have j3 := List.map_inj_left.mp j2 x hx
      rw [u4, Option.getD_some] at j3
      have j4 : (x[r0]?).getD 0 = cel R.table s a r := List.head_eq_of_cons_eq j3
      rw [k5, j4]
  have hcel : ∀ s h r g a, Sm R.forth hf s h → Sm R.back hb r g → a < k → cel R.table s a r = cel R'.table h a g := fun s h r g a es er ha => by
    obtain ⟨row, x, e1, e2, _, e3⟩ := hc s h r g a es er ha
    unfold cel at e3 ⊢
    rw [e1, Option.getD_some, e2, Option.getD_some, e3]; rfl
  refine ⟨⟨fun h => ∃ s, Sm R.forth hf s h, fun g => ∃ r, Sm R.back hb r g, ⟨0, z0⟩, ⟨0, w0⟩, fun h a ⟨s, e⟩ ha => ?_, fun h a ⟨s, e⟩ ha => ?_, fun h g a ⟨s, es⟩ ⟨r, er⟩ ha => ?_⟩, fun as ha => (marks_sim (R := R) (R' := R') hF hB hcel as 0 0 0 0 z0 w0 ha).symm⟩
  · obtain ⟨z, row, e1, e2⟩ := M.sim ok.fk ok.fr e ha
    exact ⟨row, e1, e2, _, z⟩
  · obtain ⟨z, row, e1, e2⟩ := N.sim ok.bk ok.br e ha
    exact ⟨row, e1, e2, _, z⟩
  · obtain ⟨row, x, e1, e2, e3, e4⟩ := hc s h r g a es er ha
    rw [hcel s h r g a es er ha] at e4
    refine ⟨row, x, e1, e2, ?_, e4⟩
    have := N.nlen
    omega
end DL

namespace DL
open PySem PySem.Spec PyProof.Rows L2
local macro_rules | `(tactic| and_intros) => `(tactic| (repeat' (first | (with_reducible refine st_seq ?_) | (with_reducible refine st_asg ?_) | (with_reducible refine st_asgT ?_) | (with_reducible refine st_expr ?_) | (with_reducible refine st_ret ?_) | (with_reducible refine st_if ?_) | (with_reducible refine st_set ?_) | (with_reducible refine st_for ?_) | (with_reducible refine st_par ?_) | (with_reducible refine st_c ?_) | (with_reducible refine st_view ?_) | (with_reducible refine st_op1 ?_) | (with_reducible refine st_op2 ?_) | (with_reducible refine st_op ?_) | (with_reducible refine st_ix ?_) | (with_reducible refine st_nil ?_) | (with_reducible refine st_cons ?_) | (with_reducible refine st_consM ?_) | (with_reducible refine st_lst ?_) | (with_reducible refine st_tup ?_) | (with_reducible refine st_call ?_) | (with_reducible refine st_callK ?_) | (with_reducible refine st_ife ?_) | (with_reducible refine st_ok ?_) | (with_reducible refine st_dic ?_) | (with_reducible refine st_isi ?_) | (with_reducible refine st_sl ?_) | (with_reducible refine st_part0 ?_) | (with_reducible refine st_part1 ?_) | (with_reducible refine st_bool ?_) | (with_reducible refine st_notT ?_) | (with_reducible refine st_andT ?_) | (with_reducible refine st_orT ?_) | (with_reducible refine st_yes ?_) | (with_reducible refine st_andV ?_) | (with_reducible refine st_orV ?_) | (with_reducible refine st_notV ?_) | (with_reducible refine st_it ?_) | (with_reducible refine st_rg1 ?_) | (with_reducible refine st_enum ?_) | (with_reducible refine st_zip ?_) | (with_reducible refine st_lc ?_) | (with_reducible refine st_frz ?_) | ((with_reducible apply st_var); exact rfl) | ((with_reducible apply st_mov); exact rfl) | ((with_reducible apply st_lend); exact rfl) | ((with_reducible apply st_escf); exact rfl) | ((with_reducible apply st_esco); exact rfl) | ((with_reducible apply st_escd); exact rfl) | ((with_reducible apply st_aug); exact rfl) | ((with_reducible apply st_gn); exact rfl) | ((with_reducible apply st_gt); exact rfl) | (with_reducible refine st_gnil ?_) | (with_reducible refine st_gcons ?_) | ((with_reducible apply st_setd); exact ⟨_, _, rfl⟩) | ((with_reducible apply st_app); exact ⟨_, rfl⟩) | (with_reducible refine tl2 ev_lt ?_) | (with_reducible refine tl2 ev_cmp ?_) | (with_reducible refine tl2 ev_add ?_) | (with_reducible refine tl2 ev_sub ?_) | (with_reducible refine tl2 ev_eqI ?_) | (with_reducible refine tl2 ev_neI ?_) | (with_reducible refine tl2 ev_max ?_) | (with_reducible refine tl2 ev_min ?_) | (with_reducible refine tl2' ev_lt ?_) | (with_reducible refine tl2' ev_cmp ?_) | (with_reducible refine tl2' ev_add ?_) | (with_reducible refine tl2' ev_sub ?_) | (with_reducible refine tl2' ev_eqI ?_) | (with_reducible refine tl2' ev_neI ?_) | (with_reducible refine tl2' ev_max ?_) | (with_reducible refine tl2' ev_min ?_) | (with_reducible refine tl1 ev_neg ?_) | (with_reducible refine tl1 ev_lenO ?_) | (with_reducible refine tl1 ev_lenL ?_) | (with_reducible refine tl1 ev_lenT ?_) | (with_reducible refine tl1 ev_lenC ?_) | (with_reducible refine tl1 ev_lenD ?_) | (with_reducible refine tl1 ev_intI ?_) | (with_reducible refine tl1 ev_intB ?_) | (with_reducible refine tl1 ev_abs ?_) | (with_reducible refine tl1 ev_tupO ?_) | (with_reducible refine tl1 ev_tupL ?_) | (with_reducible refine tlz ?_) | (with_reducible refine tlb ?_) | (with_reducible refine tli ?_) | (with_reducible refine tlt ?_) | (with_reducible refine tll ?_) | (with_reducible refine tlo ?_) | (with_reducible refine tlc ?_) | (with_reducible refine ⟨len1, ?_⟩) | (with_reducible refine ⟨len2, ?_⟩) | (with_reducible refine ⟨len3, ?_⟩) | (with_reducible refine ⟨len0, ?_⟩) | (with_reducible refine ⟨len4, ?_⟩) | (with_reducible refine ⟨len5, ?_⟩) | (with_reducible refine ⟨len6, ?_⟩) | ((with_reducible apply tlen); exact rfl) | ((with_reducible apply tset); exact rfl))))

theorem lc2B_map {g g1 : WG} {it1 : DEnv → (List D → DEnv → Prop) → Prop} {tt1 : WT} {fe : WE} {vs vs1 : List Nat} {ks : D → List MV} : ∀ (ds : List D) (ρ : DEnv) (acc : List MV) (Q : List MV → DEnv → Prop) (I : DEnv → Prop), I ρ → acc.length + (ds.flatMap ks).length ≤ lim →
    (∀ d ∈ ds, ∀ ρ, I ρ → ∀ (acc : List MV) (K : List MV → DEnv → Prop), acc.length + (ks d).length ≤ lim → (∀ ρ', I ρ' → K (acc ++ ks d) ρ') → g d (wipeD ρ vs) fun ρ1 => it1 ρ1 fun es ρ3 => frzAt ρ3 vs1 = true ∧ wLcB g1 tt1 fe vs1 es ρ3 acc K) → (∀ ρ', I ρ' → Q (acc ++ ds.flatMap ks) ρ') → wLc2B g wYes it1 g1 tt1 fe vs vs1 ds ρ acc Q
  | [], ρ, acc, Q, I, hI, _, _, hq => by
    have := hq ρ hI
    rw [List.flatMap_nil, List.append_nil] at this
    exact this
  | d :: ds, ρ, acc, Q, I, hI, hl, hs, hq => by
    rw [List.flatMap_cons, List.length_append] at hl
    unfold wLc2B
    refine hs d (List.mem_cons_self ..) ρ hI acc _ (by omega) fun ρ' h' => ?_
    refine lc2B_map ds ρ' (acc ++ ks d) Q I h' (by rw [List.length_append]; omega) (fun d hd => hs d (List.mem_cons_of_mem _ hd)) fun ρ'' h'' => ?_
    have := hq ρ'' h''
    rw [List.flatMap_cons] at this
    rw [List.append_assoc]
    exact this
theorem st_lc2 {it it1 : DEnv → (List D → DEnv → Prop) → Prop} {g g1 : WG} {tt tt1 : WT} {fe : WE} {vs vs1 : List Nat} {ρ : DEnv} {Q : MV → DEnv → Prop} (z : it ρ fun ds ρ1 => frzAt ρ1 vs = true ∧ wLc2B g tt it1 g1 tt1 fe vs vs1 ds ρ1 [] fun acc ρ2 => Q (.ol acc) (restD ρ1 ρ2 vs)) : wLc2 it g tt it1 g1 tt1 fe vs vs1 ρ Q := z
theorem st_zipS {f : WE} {ρ : DEnv} {Q : MV → DEnv → Prop} (z : f ρ fun m ρ1 => ∃ r, dZip m.toD = some r ∧ Q r ρ1) : wZipS f ρ Q := z
theorem fzM_set (ds : List D) (i : Nat) (d : D) : (fzM ds).set i (.fz d) = fzM (ds.set i d) := by unfold fzM; rw [List.map_set]
abbrev dR (R : Rd) : D := .tup [dT R.letters, dS R.forth, dS R.back, dTab R.table]
def spLeast : DSp := fun ms Q => ∃ (R : Rd) (k : Nat), ms = [.fz (dR R)] ∧ ROk R k ∧ ∀ R' : Rd, R'.letters = R.letters → (∃ F B, Good R' k F B) → (∀ as : List Nat, (∀ a ∈ as, a < k) → marks R' 0 0 as = marks R 0 0 as) → Q (.fz (dR R')) [.fz .non]
def kStr (table : List (List (List Nat))) : D → List MV
  | .int j => tM ((table[j.toNat]?).getD [])
  | _ => []
theorem dZip_T {x : List Nat} {xss : List (List Nat)} {n : Nat} (hn : 0 < n) (hl : n ≤ lim) (h : ∀ y ∈ x :: xss, y.length = n) : dZip (.lst ((x :: xss).map dT)) = some (.ol (((List.range n).map (zColD ((x :: xss).map sT))).map .fz)) := by
  have hx := h x (List.mem_cons_self ..)
  unfold dZip
  simp only [strs_T]
  show (if (∀ y ∈ sT x :: xss.map sT, y.cps.size = (sT x).cps.size) ∧ 0 < (sT x).cps.size ∧ (sT x).cps.size ≤ lim then some (MV.ol (((List.range (sT x).cps.size).map (zColD (sT x :: xss.map sT))).map .fz)) else none) = _
  have hs : (sT x).cps.size = n := hx
  have hall : ∀ y ∈ sT x :: xss.map sT, y.cps.size = n := fun y hy => by
    rw [← List.map_cons (f := sT)] at hy
    obtain ⟨z, hz, rfl⟩ := List.mem_map.mp hy
    exact h z hz
  rw [hs, if_pos ⟨hall, hn, hl⟩]; rfl
theorem ev_tupTs (rows : List (List (List Nat))) : g1 true dTuple [.ol (tsM rows)] = some (.fz (.tup (rows.map dTs))) := by
  have : tsM rows = (rows.map dTs).map MV.fz := by unfold tsM; rw [List.map_map]; rfl
  rw [this]; exact ev_tupO
theorem m_least (ms : List MV) (Q : MV → List MV → Prop) (hl : ms.length = 1) (hsp : spLeast ms Q) : W_least_readers spReached spMachine spFirst spPicked (endsF [false] Q) (env0 19 ms) := by
  obtain ⟨R, k, rfl, ok, hq⟩ := hsp
  have hlim : lim = 16777216 := rfl
  have hfs := ok.fk.small
  have hbs := ok.bk.small
  obtain ⟨letters, forth, back, table⟩ := R
  dsimp only at hfs hbs
  have hrow : ∀ row ∈ table, row.length ≤ 1000 ∧ ∀ x ∈ row, x.length = back.length := fun row h => ⟨by rw [ok.tr row h]; exact ok.k2, ok.tc row h⟩
  unfold W_least_readers
  have e : env0 19 [MV.fz (dR ⟨letters, forth, back, table⟩)] = [some (.fz (dR ⟨letters, forth, back, table⟩)), none, none, none, none, none, none, none, none, none, none, none, none, none, none, none, none, none, none] := rfl
  rw [e]
  clear e
  and_intros
  (try dsimp only [List.set_cons_zero, List.set_cons_succ, wipeD, putBack, toD_fz])
  and_intros
  (try dsimp only [List.set_cons_zero, List.set_cons_succ, wipeD, putBack, toD_fz])
  and_intros
  refine ⟨forth, rfl, ok.fk, fun order oo => ?_⟩
  (try dsimp only [List.set_cons_zero, List.set_cons_succ, wipeD, putBack, toD_fz])
  and_intros
  (try dsimp only [List.set_cons_zero, List.set_cons_succ, wipeD, putBack, toD_fz])
  and_intros
  refine ⟨back, rfl, ok.bk, fun orderB ob => ?_⟩
  (try dsimp only [List.set_cons_zero, List.set_cons_succ, wipeD, putBack, toD_fz])
  and_intros
  obtain ⟨sr, es, hp, hsorted⟩ := ev_sorted orderB
  refine tl1 es ?_
  and_intros
  (try dsimp only [List.set_cons_zero, List.set_cons_succ, wipeD, putBack, toD_fz])
  and_intros
  have hfl : (forth.map dN).length = forth.length := List.length_map ..
  rw [hfl]
  refine tl2 (ev_rep (by omega)) ?_
  and_intros
  (try dsimp only [List.set_cons_zero, List.set_cons_succ, wipeD, putBack, toD_fz])
  have e0 : List.replicate forth.length (MV.fz .non) = fzM (List.replicate forth.length .non) := by unfold fzM; rw [List.map_replicate]
  rw [e0]
  and_intros
  (try dsimp only [List.set_cons_zero, List.set_cons_succ, wipeD, putBack, toD_fz])
  rw [toD_nM]
  and_intros
  (try dsimp only [List.set_cons_zero, List.set_cons_succ, wipeD, putBack, toD_fz])
  rw [toD_nM]
  and_intros
  have hbl : (back.map dN).length = back.length := List.length_map ..
  rw [hbl]
  have holt : ∀ s ∈ order, s < table.length := fun s hs => by
    have := ok.tl
    dsimp only at this
    rw [this]
    exact oo.lt s hs
  have hol : order.length ≤ 1000 := Nat.le_trans (nodup_le oo.nd oo.lt) hfs
  have hobl : orderB.length ≤ 1000 := Nat.le_trans (nodup_le ob.nd ob.lt) hbs
  have hsrl : sr.length ≤ 1000 := by rw [hp.length_eq]; exact hobl
  refine ⟨table, order, sr, back.length, rfl, hbs, hol, hsrl, holt, hrow, fun r hr => ob.lt r (hp.mem_iff.mp hr), ?_⟩
  (try dsimp only [List.set_cons_zero, List.set_cons_succ, wipeD, putBack, toD_fz])
  refine ⟨_, (tsM (order.map (rowOf table sr))).map MV.toD, rfl, by show some (MV.toDs _) = _; rw [toDs_map], ?_⟩
  have hes : (tsM (order.map (rowOf table sr))).map MV.toD = order.map fun s => dTs (rowOf table sr s) := by
    unfold tsM
    rw [List.map_map, List.map_map]; rfl
  rw [hes]
  refine for_inv (fun i ρ => ∃ (rw_ : List D) (o8 o9 : Option D), ρ = [some (.fz (dR ⟨letters, forth, back, table⟩)), some (.fz (dT letters)), some (.fz (dS forth)), some (.fz (dS back)), some (.fz (dTab table)), some (.fz (dLn order)), some (.fz (dLn sr)), some (.ol (fzM rw_)), o8.map MV.fz, o9.map MV.fz, none, none, none, none, none, none, none, none, none] ∧
      rw_.length = forth.length ∧ ∀ s ∈ order.take i, rw_[s]? = some (dTs (rowOf table sr s)))
    ⟨_, none, none, rfl, List.length_replicate, fun s h => by simp at h⟩ (fun i d ρ k' ed ⟨rw_, o8, o9, e, hrl, hin⟩ hk => ?_) fun ρ ⟨rw_, o8, o9, e, hrl, hin⟩ => ?_
  · rw [zipD_get, List.getElem?_map, List.getElem?_map] at ed
    obtain ⟨d1, e1, e2⟩ := Option.bind_eq_some_iff.mp ed
    obtain ⟨s, es', rfl⟩ := Option.map_eq_some_iff.mp e1
    rw [es'] at e2
    cases e2
    subst e
    have hso := List.mem_of_getElem? es'
    and_intros
    (try dsimp only [List.set_cons_zero, List.set_cons_succ, wipeD, putBack, toD_fz])
    and_intros
    (try dsimp only [List.set_cons_zero, List.set_cons_succ, wipeD, putBack, toD_fz])
    and_intros
    (try dsimp only [List.set_cons_zero, List.set_cons_succ, wipeD, putBack, toD_fz])
    and_intros
    refine tput rfl (put_ol (j := s) (by unfold fzM; rw [List.length_map, hrl]; exact oo.lt s hso)) ?_
    (try dsimp only [List.set_cons_zero, List.set_cons_succ, wipeD, putBack, toD_fz])
    rw [fzM_set]
    refine hk _ ⟨_, some (.int (s : Nat)), some (dTs (rowOf table sr s)), rfl, by rw [List.length_set]; exact hrl, fun t ht => ?_⟩
    by_cases z : s = t
    · subst z
      rw [List.getElem?_set_self (by rw [hrl]; exact oo.lt s hso)]
    · rw [List.getElem?_set_ne z]
      rw [take_snoc es'] at ht
      rcases List.mem_append.mp ht with y | y
      · exact hin t y
      · exact absurd (List.mem_singleton.mp y).symm z
  subst e
  have hz : (zipD (order.map fun j => D.int (j : Nat)) (order.map fun s => dTs (rowOf table sr s))).length = order.length := by
    rw [zipD_len, List.length_map, List.length_map, Nat.min_self]
  rw [hz, List.take_length] at hin
  and_intros
  refine st_lc2 ?_
  and_intros
  refine ⟨by cases o8 <;> rfl, ?_⟩
  let ρ1 : Option MV → Option MV → DEnv := fun o8 o11 => [some (.fz (dR ⟨letters, forth, back, table⟩)), some (.fz (dT letters)), some (.fz (dS forth)), some (.fz (dS back)), some (.fz (dTab table)), some (.fz (dLn order)), some (.fz (dLn sr)), some (.ol (fzM rw_)), o8, o9.map MV.fz, none, o11, none, none, none, none, none, none, none]
  have hko : (order.map fun j => D.int (j : Nat)).flatMap (kStr table) = tM (strsOf table order) := by
    rw [List.flatMap_map]
    unfold strsOf tM
    rw [List.map_flatMap]
    rfl
  have hstr : (strsOf table order).length ≤ 1000000 := by
    have h1 : ∀ l : List Nat, (∀ s ∈ l, s < table.length) → (strsOf table l).length ≤ l.length * 1000 := fun l => by
      induction l with
      | nil => intro _; exact Nat.zero_le _
      | cons s l ih =>
        intro h
        have := ih fun t ht => h t (List.mem_cons_of_mem _ ht)
        have e1 : table[s]? = some (table[s]'(h s (List.mem_cons_self ..))) := List.getElem?_eq_getElem _
        have := (hrow _ (List.mem_of_getElem? e1)).1
        show (List.flatMap _ _).length ≤ _
        rw [List.flatMap_cons, List.length_append, e1, Option.getD_some, List.length_cons]
        unfold strsOf at ih
        have := ih fun t ht => h t (List.mem_cons_of_mem _ ht)
        omega
    have := h1 order holt
    omega
  refine lc2B_map (ks := kStr table) _ _ [] _ (fun ρ => ∃ (p q : Option D), ρ = ρ1 (p.map MV.fz) (q.map MV.fz)) ⟨o8, none, rfl⟩ ?_ (fun d hd ρ ⟨p, q, e⟩ acc K hacc hK => ?_) fun ρ ⟨p, q, e⟩ => ?_
  · rw [hko, tM_len, List.length_nil]; omega
  · subst e
    obtain ⟨s, hs, rfl⟩ := List.mem_map.mp hd
    have er : table[s]? = some (table[s]'(holt s hs)) := List.getElem?_eq_getElem _
    generalize table[s]'(holt s hs) = row at er
    have hks : kStr table (.int (s : Nat)) = tM row := by
      show tM ((table[s]?).getD []) = _
      rw [er]; rfl
    rw [hks] at hacc hK
    rw [tM_len] at hacc
    show gN 8 _ (wipeD (ρ1 _ _) [8, 11]) _
    dsimp only [ρ1]
    (try dsimp only [List.set_cons_zero, List.set_cons_succ, wipeD, putBack, toD_fz])
    and_intros
    (try dsimp only [List.set_cons_zero, List.set_cons_succ, wipeD, putBack, toD_fz])
    and_intros
    refine tlx (ix_tup (x := dTs row) (by rw [List.getElem?_map, er]; rfl)) ?_
    and_intros
    refine ⟨rfl, ?_⟩
    refine lcB_map (k := MV.fz) _ _ _ _ (fun ρ => ∃ q : Option D, ρ = ρ1 (some (.fz (.int (s : Nat)))) (q.map MV.fz)) ⟨none, rfl⟩ ?_ (fun d hd ρ ⟨q, e⟩ K hK => ?_) fun ρ ⟨q, e⟩ => ?_
    · rw [List.length_map]; exact hacc
    · subst e
      show gN 11 _ (wipeD (ρ1 _ _) [11]) _
      dsimp only [ρ1]
      (try dsimp only [List.set_cons_zero, List.set_cons_succ, wipeD, putBack, toD_fz])
      and_intros
      (try dsimp only [List.set_cons_zero, List.set_cons_succ, wipeD, putBack, toD_fz])
      and_intros
      exact hK _ ⟨some d, rfl⟩
    · have : (row.map dT).map MV.fz = tM row := by unfold tM; rw [List.map_map]; rfl
      rw [this]
      exact hK _ ⟨some _, q, e⟩
  subst e
  rw [hko, List.nil_append]
  dsimp only [ρ1]
  (try dsimp only [List.set_cons_zero, List.set_cons_succ, wipeD, restD, List.getElem?_cons_zero, List.getElem?_cons_succ, Option.getD_some])
  and_intros
  (try dsimp only [List.set_cons_zero, List.set_cons_succ, wipeD, putBack, toD_fz])
  and_intros
  (try dsimp only [List.set_cons_zero, List.set_cons_succ, wipeD, putBack, toD_fz])
  and_intros
  rw [toD_fzM]
  refine ⟨forth, rw_, rfl, ok.fk, hrl, fun s hs => ⟨_, hin s ((oo.iff s).mpr hs), dTs_ok _⟩, fun nf x1 hf M => ?_⟩
  (try dsimp only [List.set_cons_zero, List.set_cons_succ, wipeD, putBack, toD_fz])
  and_intros
  (try dsimp only [List.set_cons_zero, List.set_cons_succ, wipeD, putBack, toD_fz])
  and_intros
  (try dsimp only [List.set_cons_zero, List.set_cons_succ, wipeD, putBack, toD_fz])
  and_intros
  refine st_zipS ?_
  and_intros
  have hord0 : (0 : Nat) ∈ order := (oo.iff 0).mpr .zero
  have hne : strsOf table order ≠ [] := fun z => by
    have er : table[0]? = some (table[0]'(holt 0 hord0)) := List.getElem?_eq_getElem _
    have hk : (table[0]'(holt 0 hord0)).length = k := ok.tr _ (List.mem_of_getElem? er)
    have hk1 := ok.k1
    obtain ⟨y, hy⟩ : ∃ y, y ∈ table[0]'(holt 0 hord0) := List.exists_mem_of_length_pos (by omega)
    have : y ∈ strsOf table order := List.mem_flatMap.mpr ⟨0, hord0, by rw [er]; exact hy⟩
    rw [z] at this
    cases this
  have hslen : ∀ y ∈ strsOf table order, y.length = back.length := fun y hy => by
    obtain ⟨s, hs, h2⟩ := List.mem_flatMap.mp hy
    have er : table[s]? = some (table[s]'(holt s hs)) := List.getElem?_eq_getElem _
    rw [er] at h2
    exact (hrow _ (List.mem_of_getElem? er)).2 y h2
  have dz : dZip (MV.ol (tM (strsOf table order))).toD = some (.ol (((List.range back.length).map (zColD ((strsOf table order).map sT))).map .fz)) := by
    rw [toD_tM]
    obtain ⟨x, xss, ex⟩ := List.exists_cons_of_ne_nil hne
    rw [ex] at hslen ⊢
    exact dZip_T ok.bk.pos (by omega) hslen
  refine ⟨_, dz, ?_⟩
  rw [toD_ol_fz]
  have hcols : ∀ r, r < back.length → ((List.range back.length).map (zColD ((strsOf table order).map sT)))[r]? = some (zColD ((strsOf table order).map sT) r) := fun r hr => by
    rw [List.getElem?_map, List.getElem?_range hr]; rfl
  refine ⟨back, _, rfl, ok.bk, by rw [List.length_map, List.length_range], fun r hr => ⟨_, hcols r (hr.lt ok.bk), by rw [zcol_eq]; exact dTs_ok _⟩, fun nb x2 hb N => ?_⟩
  have first : ∀ {steps : List (List Nat)} {mk : List D} {ns : List (List Nat)} {hm : List (Option Nat)}, StepsOk steps → MachOk steps mk ns hm → ns.length ≤ 1000 ∧ hm.length ≤ 1000 ∧ (∀ s h : Nat, hm[s]? = some (some h) → h < ns.length) ∧ (∀ h : Nat, h < ns.length → ∃ s : Nat, hm[s]? = some (some h)) := fun ok M => by
    have h1 := M.nlen
    have h2 := M.len
    have h3 := ok.small
    refine ⟨by omega, by omega, fun s h e => ?_, fun h hh => ?_⟩
    · obtain ⟨h', hl, e'⟩ := M.inn s (M.reach e)
      rw [e] at e'
      have : h = h' := Option.some.inj (Option.some.inj e')
      omega
    · obtain ⟨s, _, e⟩ := M.sur h hh
      exact ⟨s, e⟩
  obtain ⟨m1, m2, m3, m4⟩ := first ok.fk M
  obtain ⟨n1, n2, n3, n4⟩ := first ok.bk N
  (try dsimp only [List.set_cons_zero, List.set_cons_succ, wipeD, putBack, toD_fz])
  and_intros
  (try dsimp only [List.set_cons_zero, List.set_cons_succ, wipeD, putBack, toD_fz])
  and_intros
  (try dsimp only [List.set_cons_zero, List.set_cons_succ, wipeD, putBack, toD_fz])
  and_intros
  rw [List.length_map]
  refine ⟨hf, nf.length, rfl, m1, m2, m3, m4, fun states sl hst => ?_⟩
  (try dsimp only [List.set_cons_zero, List.set_cons_succ, wipeD, putBack, toD_fz])
  and_intros
  (try dsimp only [List.set_cons_zero, List.set_cons_succ, wipeD, putBack, toD_fz])
  and_intros
  rw [List.length_map]
  refine ⟨hb, nb.length, rfl, n1, n2, n3, n4, fun rests rl hre => ?_⟩
  (try dsimp only [List.set_cons_zero, List.set_cons_succ, wipeD, putBack, toD_fz])
  and_intros
  (try dsimp only [List.set_cons_zero, List.set_cons_succ, wipeD, putBack, toD_fz])
  rw [toD_nM]
  and_intros
  (try dsimp only [List.set_cons_zero, List.set_cons_succ, wipeD, putBack, toD_fz])
  rw [toD_nM]
  and_intros
  rw [hbl]
  have hstl : ∀ s ∈ states, s < table.length := fun s hs => by
    obtain ⟨h, e⟩ := List.mem_iff_getElem?.mp hs
    have := (List.getElem?_eq_some_iff.mp (hst h s e)).1
    rw [M.len] at this
    have h2 := ok.tl
    dsimp only at h2
    omega
  have hrel : ∀ s ∈ rests, s < back.length := fun s hs => by
    obtain ⟨h, e⟩ := List.mem_iff_getElem?.mp hs
    have := (List.getElem?_eq_some_iff.mp (hre h s e)).1
    rwa [N.len] at this
  refine ⟨table, states, rests, back.length, rfl, hbs, by omega, by omega, hstl, hrow, hrel, ?_⟩
  (try dsimp only [List.set_cons_zero, List.set_cons_succ, wipeD, putBack, toD_fz])
  and_intros
  (try dsimp only [List.set_cons_zero, List.set_cons_succ, wipeD, putBack, toD_fz])
  and_intros
  refine tl1 (ev_tupTs _) ?_
  and_intros
  obtain ⟨g1, g2⟩ := least_law ok oo (fun r hr => hp.mem_iff.mpr ((ob.iff r).mpr hr)) (fun s hs => hin s hs) hcols M N sl rl hst hre letters
  exact ⟨_, rfl, hq ⟨letters, nf, nb, states.map (rowOf table rests)⟩ rfl g1 g2⟩
end DL

namespace DL
open PySem PySem.Spec PyProof.Rows L2
local macro_rules | `(tactic| and_intros) => `(tactic| (repeat' (first | (with_reducible refine st_seq ?_) | (with_reducible refine st_asg ?_) | (with_reducible refine st_asgT ?_) | (with_reducible refine st_expr ?_) | (with_reducible refine st_ret ?_) | (with_reducible refine st_if ?_) | (with_reducible refine st_set ?_) | (with_reducible refine st_for ?_) | (with_reducible refine st_par ?_) | (with_reducible refine st_c ?_) | (with_reducible refine st_view ?_) | (with_reducible refine st_op1 ?_) | (with_reducible refine st_op2 ?_) | (with_reducible refine st_op ?_) | (with_reducible refine st_ix ?_) | (with_reducible refine st_nil ?_) | (with_reducible refine st_cons ?_) | (with_reducible refine st_consM ?_) | (with_reducible refine st_lst ?_) | (with_reducible refine st_tup ?_) | (with_reducible refine st_call ?_) | (with_reducible refine st_callK ?_) | (with_reducible refine st_ife ?_) | (with_reducible refine st_ok ?_) | (with_reducible refine st_dic ?_) | (with_reducible refine st_isi ?_) | (with_reducible refine st_sl ?_) | (with_reducible refine st_part0 ?_) | (with_reducible refine st_part1 ?_) | (with_reducible refine st_bool ?_) | (with_reducible refine st_notT ?_) | (with_reducible refine st_andT ?_) | (with_reducible refine st_orT ?_) | (with_reducible refine st_yes ?_) | (with_reducible refine st_andV ?_) | (with_reducible refine st_orV ?_) | (with_reducible refine st_notV ?_) | (with_reducible refine st_it ?_) | (with_reducible refine st_rg1 ?_) | (with_reducible refine st_enum ?_) | (with_reducible refine st_zip ?_) | (with_reducible refine st_lc ?_) | (with_reducible refine st_frz ?_) | ((with_reducible apply st_var); exact rfl) | ((with_reducible apply st_mov); exact rfl) | ((with_reducible apply st_lend); exact rfl) | ((with_reducible apply st_escf); exact rfl) | ((with_reducible apply st_esco); exact rfl) | ((with_reducible apply st_escd); exact rfl) | ((with_reducible apply st_aug); exact rfl) | ((with_reducible apply st_gn); exact rfl) | ((with_reducible apply st_gt); exact rfl) | (with_reducible refine st_gnil ?_) | (with_reducible refine st_gcons ?_) | ((with_reducible apply st_setd); exact ⟨_, _, rfl⟩) | ((with_reducible apply st_app); exact ⟨_, rfl⟩) | (with_reducible refine tl2 ev_lt ?_) | (with_reducible refine tl2 ev_cmp ?_) | (with_reducible refine tl2 ev_add ?_) | (with_reducible refine tl2 ev_sub ?_) | (with_reducible refine tl2 ev_eqI ?_) | (with_reducible refine tl2 ev_neI ?_) | (with_reducible refine tl2 ev_max ?_) | (with_reducible refine tl2 ev_min ?_) | (with_reducible refine tl2' ev_lt ?_) | (with_reducible refine tl2' ev_cmp ?_) | (with_reducible refine tl2' ev_add ?_) | (with_reducible refine tl2' ev_sub ?_) | (with_reducible refine tl2' ev_eqI ?_) | (with_reducible refine tl2' ev_neI ?_) | (with_reducible refine tl2' ev_max ?_) | (with_reducible refine tl2' ev_min ?_) | (with_reducible refine tl1 ev_neg ?_) | (with_reducible refine tl1 ev_lenO ?_) | (with_reducible refine tl1 ev_lenL ?_) | (with_reducible refine tl1 ev_lenT ?_) | (with_reducible refine tl1 ev_lenC ?_) | (with_reducible refine tl1 ev_lenD ?_) | (with_reducible refine tl1 ev_intI ?_) | (with_reducible refine tl1 ev_intB ?_) | (with_reducible refine tl1 ev_abs ?_) | (with_reducible refine tl1 ev_tupO ?_) | (with_reducible refine tl1 ev_tupL ?_) | (with_reducible refine tlz ?_) | (with_reducible refine tlb ?_) | (with_reducible refine tli ?_) | (with_reducible refine tlt ?_) | (with_reducible refine tll ?_) | (with_reducible refine tlo ?_) | (with_reducible refine tlc ?_) | (with_reducible refine ⟨len1, ?_⟩) | (with_reducible refine ⟨len2, ?_⟩) | (with_reducible refine ⟨len3, ?_⟩) | (with_reducible refine ⟨len0, ?_⟩) | (with_reducible refine ⟨len4, ?_⟩) | (with_reducible refine ⟨len5, ?_⟩) | (with_reducible refine ⟨len6, ?_⟩) | ((with_reducible apply tlen); exact rfl) | ((with_reducible apply tset); exact rfl))))

/-! ### letters and their numbers -/
abbrev qT (letters : List Nat) : List D := letters.map fun c => dT [c]
def num (letters : List Nat) (c : Nat) : Nat := ixK (qT letters) (dT [c])
theorem sameK_T {a b : List Nat} : sameK (dT a) (dT b) = decide (a = b) := by
  unfold sameK
  by_cases h : a = b
  · rw [decide_eq_true h]; exact decide_eq_true (by rw [h])
  · rw [decide_eq_false h]
    refine decide_eq_false fun e => h ?_
    simp only [D.nk, Option.some.injEq, NestedKey.text.injEq] at e
    exact sT_inj.mp e
theorem qT_mem {letters : List Nat} {c : Nat} (h : c ∈ letters) : ∃ x ∈ qT letters, x.nk = (dT [c]).nk := ⟨_, List.mem_map_of_mem h, rfl⟩
theorem num_lt {letters : List Nat} {c : Nat} (h : c ∈ letters) : num letters c < letters.length := by
  have := ixK_lt (qT_mem h)
  rwa [List.length_map] at this
def zn : Nat → List D → List (D × D)
  | _, [] => []
  | i, k :: ks => (k, .int (i : Nat)) :: zn (i + 1) ks
theorem fzs_zn : ∀ (ks : List D) (i : Nat), fzs (zn i ks) = zipI i ks
  | [], _ => rfl
  | k :: ks, i => by
    have := fzs_zn ks (i + 1)
    unfold fzs at this ⊢
    rw [zn, List.map_cons, this]; rfl
theorem zn_len : ∀ (ks : List D) (i : Nat), (zn i ks).length = ks.length
  | [], _ => rfl
  | k :: ks, i => by rw [zn, List.length_cons, zn_len ks, List.length_cons]
theorem zn_app : ∀ (ks : List D) (i : Nat) (k : D), zn i (ks ++ [k]) = zn i ks ++ [(k, .int ((i + ks.length : Nat) : Int))]
  | [], i, k => rfl
  | x :: ks, i, k => by rw [List.cons_append, zn, zn_app ks (i + 1) k, zn, List.length_cons, show i + 1 + ks.length = i + (ks.length + 1) by omega]; rfl
theorem any_zn : ∀ (ks : List D) (i : Nat) (k : D), ((zn i ks).any fun p => sameK p.1 k) = ks.any fun x => sameK x k
  | [], _, _ => rfl
  | x :: ks, i, k => by rw [zn, List.any_cons, List.any_cons, any_zn ks]
theorem dput_zn {ks : List D} {k : D} (h : (ks.any fun x => sameK x k) = false) : dput (zn 0 ks) k (.int (ks.length : Nat)) = zn 0 (ks ++ [k]) := by
  unfold dput
  rw [any_zn, h, if_neg Bool.false_ne_true, zn_app, Nat.zero_add]
def spPlaces : DSp := fun ms Q => ∃ letters : List Nat, ms = [.fz (dT letters)] ∧ letters.Nodup ∧ letters.length ≤ 1000 ∧ Q (.od false (zipI 0 (qT letters))) [.fz .non]
theorem dcB_places {letters : List Nat} (nd : letters.Nodup) (hl : letters.length ≤ 1000) {I : DEnv → Prop} {g : WG} {fk fv : WE} {vs : List Nat}
    (hs : ∀ (i c : Nat) (ρ : DEnv) (K : MV → MV → DEnv → Prop), I ρ → (∀ ρ', I ρ' → K (.fz (dT [c])) (nI i) ρ') → g (.tup [.int (i : Nat), dT [c]]) (wipeD ρ vs) fun ρ1 => fk ρ1 fun km ρ3 => fv ρ3 fun vm ρ4 => K km vm ρ4) :
    ∀ (post pre : List Nat) (ρ : DEnv) (Q : List (D × D) → DEnv → Prop), letters = pre ++ post → I ρ → (∀ ρ', I ρ' → Q (zn 0 (qT letters)) ρ') → wDcB g wYes fk fv vs (enumD pre.length (qT post)) ρ (zn 0 (qT pre)) Q
  | [], pre, ρ, Q, e, hI, hq => by
    rw [List.append_nil] at e
    have := hq ρ hI
    rw [e] at this
    exact this
  | c :: post, pre, ρ, Q, e, hI, hq => by
    rw [show qT (c :: post) = dT [c] :: qT post from rfl, enumD]
    unfold wDcB
    refine hs pre.length c ρ (fun km vm ρ4 => ∃ kd vd, km = .fz kd ∧ vm = .fz vd ∧ keyOk false kd = true ∧ (zn 0 (qT pre)).length < lim ∧ wDcB g wYes fk fv vs (enumD (pre.length + 1) (qT post)) ρ4 (dput (zn 0 (qT pre)) kd vd) Q) hI fun ρ' h' => ?_
    have hlen : pre.length < letters.length := by rw [e, List.length_append, List.length_cons]; omega
    have hlim : lim = 16777216 := rfl
    refine ⟨_, _, rfl, rfl, rfl, by rw [zn_len, List.length_map]; omega, ?_⟩
    have hnot : ((qT pre).any fun x => sameK x (dT [c])) = false := by
      rw [List.any_eq_false]
      intro x hx hxe
      obtain ⟨b, hb, rfl⟩ := List.mem_map.mp hx
      rw [sameK_T] at hxe
      have hbc : b = c := by simpa using hxe
      rw [e] at nd
      have := (List.nodup_append.mp nd).2.2 b hb c (List.mem_cons_self ..)
      exact this hbc
    have hq2 : (qT pre).length = pre.length := List.length_map ..
    have := dput_zn hnot
    rw [hq2] at this
    rw [this]
    have e2 : qT pre ++ [dT [c]] = qT (pre ++ [c]) := (List.map_append (f := fun c => dT [c]) (l₁ := pre) (l₂ := [c])).symm
    have e3 : pre.length + 1 = (pre ++ [c]).length := by rw [List.length_append, List.length_singleton]
    rw [e2, e3]
    exact dcB_places nd hl hs post (pre ++ [c]) ρ' Q (by rw [e, List.append_assoc]; rfl) h' hq
theorem st_dc {it : DEnv → (List D → DEnv → Prop) → Prop} {g : WG} {tt : WT} {fk fv : WE} {vs : List Nat} {ρ : DEnv} {Q : MV → DEnv → Prop} (z : it ρ fun ds ρ1 => frzAt ρ1 vs = true ∧ wDcB g tt fk fv vs ds ρ1 [] fun acc ρ2 => Q (.od false (fzs acc)) (restD ρ1 ρ2 vs)) : wDc it g tt fk fv vs ρ Q := z
theorem enum_T (cs : List Nat) : dEnum (dT cs) = some (enumD 0 (qT cs)) := rfl
theorem m_places (ms : List MV) (Q : MV → List MV → Prop) (hl : ms.length = 1) (hsp : spPlaces ms Q) : W_letter_places (endsF [false] Q) (env0 3 ms) := by
  obtain ⟨letters, rfl, nd, hll, hq⟩ := hsp
  unfold W_letter_places
  have e : env0 3 [MV.fz (dT letters)] = [some (.fz (dT letters)), none, none] := rfl
  rw [e]
  clear e
  and_intros
  refine st_dc ?_
  and_intros
  refine ⟨_, enum_T _, rfl, ?_⟩
  refine dcB_places nd hll (I := fun ρ => ∃ o1 o2, ρ = [some (.fz (dT letters)), o1, o2]) (fun i c ρ K ⟨o1, o2, e⟩ hK => ?_) letters [] _ _ rfl ⟨_, _, rfl⟩ fun ρ ⟨o1, o2, e⟩ => ?_
  · subst e
    rw [fzs_zn]
    (try dsimp only [List.set_cons_zero, List.set_cons_succ, wipeD, restD, List.getElem?_cons_zero, List.getElem?_cons_succ, Option.getD_some])
    exact ⟨_, rfl, hq⟩
  · subst e
    (try dsimp only [List.set_cons_zero, List.set_cons_succ, wipeD, putBack, toD_fz])
    and_intros
    (try dsimp only [List.set_cons_zero, List.set_cons_succ, wipeD, putBack, toD_fz])
    and_intros
    (try dsimp only [List.set_cons_zero, List.set_cons_succ, wipeD, putBack, toD_fz])
    and_intros
    exact hK _ ⟨_, _, rfl⟩
theorem ix_places {letters : List Nat} {c : Nat} (h : c ∈ letters) : (MV.od false (zipI 0 (qT letters))).ix (dT [c]) = some (nI (num letters c)) := by
  show (if keyOk false (dT [c]) = true then dlk (zipI 0 (qT letters)) (dT [c]) else none) = _
  refine (if_pos (show keyOk false (dT [c]) = true from rfl)).trans ?_
  rw [dlk_zipI _ _ _ (qT_mem h), Nat.zero_add]; rfl
def spNumbers : DSp := fun ms Q => ∃ letters text : List Nat, ms = [.fz (dT letters), .fz (dT text)] ∧ letters.Nodup ∧ letters.length ≤ 1000 ∧ text.length ≤ lim ∧ (∀ c ∈ text, c ∈ letters) ∧ Q (.ol (nM (text.map (num letters)))) [.fz .non, .fz .non]
def kNum (letters : List Nat) : D → MV
  | .str x => nI (ixK (qT letters) (.str x))
  | _ => .fz .non
theorem items_T (cs : List Nat) : dItems (dT cs) = some (qT cs) := rfl
theorem m_numbers (ms : List MV) (Q : MV → List MV → Prop) (hl : ms.length = 2) (hsp : spNumbers ms Q) : W_letter_numbers spPlaces (endsF [false, false] Q) (env0 4 ms) := by
  obtain ⟨letters, text, rfl, nd, hll, htl, hin, hq⟩ := hsp
  unfold W_letter_numbers
  have e : env0 4 [MV.fz (dT letters), .fz (dT text)] = [some (.fz (dT letters)), some (.fz (dT text)), none, none] := rfl
  rw [e]
  clear e
  and_intros
  refine ⟨letters, rfl, nd, hll, ?_⟩
  (try dsimp only [List.set_cons_zero, List.set_cons_succ, wipeD, putBack, toD_fz])
  and_intros
  (try dsimp only [List.set_cons_zero, List.set_cons_succ, wipeD, putBack, toD_fz])
  and_intros
  refine ⟨_, items_T _, rfl, ?_⟩
  refine lcB_map (k := kNum letters) _ _ [] _ (fun ρ => ∃ o3, ρ = [some (.fz (dT letters)), some (.fz (dT text)), some (.od false (zipI 0 (qT letters))), o3]) ⟨_, rfl⟩ ?_ (fun d hd ρ ⟨o, e⟩ K hK => ?_) fun ρ ⟨o, e⟩ => ?_
  · rw [List.length_nil, List.length_map]; omega
  · subst e
    obtain ⟨c, hc, rfl⟩ := List.mem_map.mp hd
    (try dsimp only [List.set_cons_zero, List.set_cons_succ, wipeD, putBack, toD_fz])
    and_intros
    (try dsimp only [List.set_cons_zero, List.set_cons_succ, wipeD, putBack, toD_fz])
    and_intros
    refine tlx (ix_places (hin c hc)) ?_
    and_intros
    exact hK _ ⟨_, rfl⟩
  · subst e
    have ea : ([] : List MV) ++ (qT text).map (kNum letters) = nM (text.map (num letters)) := by
      rw [List.nil_append]
      unfold nM
      rw [List.map_map, List.map_map]; rfl
    rw [ea]
    (try dsimp only [List.set_cons_zero, List.set_cons_succ, wipeD, restD, List.getElem?_cons_zero, List.getElem?_cons_succ, Option.getD_some])
    exact ⟨_, rfl, hq⟩

/-! ### states along -/
def along (steps : List (List Nat)) : Nat → List Nat → List Nat
  | s, [] => [s]
  | s, a :: as => s :: along steps (stp steps s a) as
theorem along_snoc (steps : List (List Nat)) : ∀ (as : List Nat) (s a : Nat), along steps s (as ++ [a]) = along steps s as ++ [stp steps (run steps s as) a]
  | [], _, _ => rfl
  | b :: as, s, a => by rw [List.cons_append, along, along_snoc steps as, along, List.cons_append]; rfl
theorem along_len (steps : List (List Nat)) : ∀ (as : List Nat) (s : Nat), (along steps s as).length = as.length + 1
  | [], _ => rfl
  | a :: as, s => by rw [along, List.length_cons, along_len steps as, List.length_cons]
theorem along_last (steps : List (List Nat)) (as : List Nat) (s : Nat) : ∃ pre, along steps s as = pre ++ [run steps s as] := by
  refine snoc_ind (P := fun as => ∃ pre, along steps s as = pre ++ [run steps s as]) ⟨[], rfl⟩ (fun as a _ => ?_) as
  exact ⟨along steps s as, by rw [along_snoc, run_app]; rfl⟩
def bts (steps : List (List Nat)) (r : Nat) : List Nat → List Nat
  | [] => [r]
  | a :: as => bst steps r (a :: as) :: bts steps r as
theorem run_rev (steps : List (List Nat)) (r : Nat) (as : List Nat) : run steps r as.reverse = bst steps r as := by unfold run bst; rw [List.foldl_reverse]
theorem along_rev (steps : List (List Nat)) (r : Nat) : ∀ as : List Nat, (along steps r as.reverse).reverse = bts steps r as
  | [] => rfl
  | a :: as => by rw [List.reverse_cons, along_snoc, List.reverse_append, along_rev steps r as, run_rev]; rfl
theorem bts_get (steps : List (List Nat)) (r : Nat) : ∀ (as : List Nat) (j : Nat), j ≤ as.length → (bts steps r as)[j]? = some (bst steps r (as.drop j))
  | [], 0, _ => rfl
  | [], j + 1, h => absurd h (Nat.not_succ_le_zero _)
  | a :: as, 0, _ => rfl
  | a :: as, j + 1, h => by
    rw [bts, List.getElem?_cons_succ, bts_get steps r as j (by rw [List.length_cons] at h; omega)]; rfl
theorem along_get (steps : List (List Nat)) (r : Nat) (as : List Nat) {j : Nat} (h : j ≤ as.length) : (along steps r as.reverse)[as.length - j]? = some (bst steps r (as.drop j)) := by
  have h1 := bts_get steps r as j h
  rw [← along_rev] at h1
  have hlen := along_len steps as.reverse r
  rw [List.length_reverse] at hlen
  rw [List.getElem?_reverse (by omega), hlen] at h1
  rwa [show as.length + 1 - 1 - j = as.length - j by omega] at h1
theorem nM_toD (xs : List Nat) : (nM xs).map MV.toD = xs.map fun j => D.int (j : Nat) := by unfold nM; rw [List.map_map]; rfl
theorem nM_fz (xs : List Nat) : nM xs = (xs.map fun j => D.int (j : Nat)).map MV.fz := by unfold nM; rw [List.map_map]; rfl
theorem ev_revF (xs : List Nat) : g1 true dRevL [.fz (dLn xs)] = some (.ol (nM xs.reverse)) := by
  rw [nM_fz, List.map_reverse]; rfl
theorem shal_nM (xs : List Nat) : (MV.ol (nM xs)).shal = true := by
  show (nM xs).all _ = true
  unfold nM
  rw [List.all_map]
  exact List.all_eq_true.mpr fun _ _ => rfl
theorem ev_revO (xs : List Nat) : g1 true dRevL [.ol (nM xs)] = some (.ol (nM xs.reverse)) := by
  show (if (true && !(MV.ol (nM xs)).shal) = true then none else dRevL (MV.ol (nM xs)).toD) = _
  rw [shal_nM, toD_nM, nM_fz, List.map_reverse]; rfl
def Clo (steps : List (List Nat)) (k : Nat) (B : Nat → Prop) : Prop := ∀ s a, B s → a < k → ∃ row, steps[s]? = some row ∧ row[a]? = some (stp steps s a) ∧ B (stp steps s a)
theorem Clo.run {steps : List (List Nat)} {k : Nat} {B : Nat → Prop} (G : Clo steps k B) : ∀ {as : List Nat} {s : Nat}, B s → (∀ a ∈ as, a < k) → B (run steps s as)
  | [], _, h, _ => h
  | a :: as, s, h, ha => by
    obtain ⟨_, _, _, z⟩ := G _ a h (ha a (List.mem_cons_self ..))
    exact G.run (as := as) z fun b hb => ha b (List.mem_cons_of_mem _ hb)
def spAlong : DSp := fun ms Q => ∃ (steps : List (List Nat)) (as : List Nat) (k : Nat) (B : Nat → Prop), ms = [.fz (dS steps), .fz (dLn as)] ∧ B 0 ∧ Clo steps k B ∧ as.length < lim ∧ (∀ a ∈ as, a < k) ∧ Q (.ol (nM (along steps 0 as))) [.fz .non, .fz .non]
theorem m_along (ms : List MV) (Q : MV → List MV → Prop) (hl : ms.length = 2) (hsp : spAlong ms Q) : W_states_along (endsF [false, false] Q) (env0 5 ms) := by
  obtain ⟨steps, as, k, B, rfl, b0, cl, hal, ha, hq⟩ := hsp
  unfold W_states_along
  have e : env0 5 [MV.fz (dS steps), .fz (dLn as)] = [some (.fz (dS steps)), some (.fz (dLn as)), none, none, none] := rfl
  rw [e]
  clear e
  and_intros
  (try dsimp only [List.set_cons_zero, List.set_cons_succ, wipeD, putBack, toD_fz])
  and_intros
  (try dsimp only [List.set_cons_zero, List.set_cons_succ, wipeD, putBack, toD_fz])
  and_intros
  refine for_inv (fun i ρ => ∃ o4, ρ = [some (.fz (dS steps)), some (.fz (dLn as)), some (nI (run steps 0 (as.take i))), some (.ol (nM (along steps 0 (as.take i)))), o4])
    ⟨_, rfl⟩ (fun i d ρ K ed ⟨o4, e⟩ hk => ?_) fun ρ ⟨o4, e⟩ => ?_
  · rw [List.getElem?_map] at ed
    obtain ⟨a, ea, rfl⟩ := Option.map_eq_some_iff.mp ed
    subst e
    have hB : B (run steps 0 (as.take i)) := cl.run b0 fun b hb => ha b (List.mem_of_mem_take hb)
    obtain ⟨row, e1, e2, _⟩ := cl _ a hB (ha a (List.mem_of_getElem? ea))
    and_intros
    (try dsimp only [List.set_cons_zero, List.set_cons_succ, wipeD, putBack, toD_fz])
    and_intros
    refine tlx (ix_tup (x := dN row) (by rw [List.getElem?_map, e1]; rfl)) ?_
    and_intros
    refine tlx (ix_tup (x := D.int (stp steps (run steps 0 (as.take i)) a : Nat)) (by rw [List.getElem?_map, e2]; rfl)) ?_
    and_intros
    (try dsimp only [List.set_cons_zero, List.set_cons_succ, wipeD, putBack, toD_fz])
    and_intros
    refine tapp rfl (by rw [nM_len, along_len, List.length_take]; have := (List.getElem?_eq_some_iff.mp ea).1; omega) ?_
    (try dsimp only [List.set_cons_zero, List.set_cons_succ, wipeD, putBack, toD_fz])
    rw [show nM (along steps 0 (as.take i)) ++ [MV.fz (D.int (stp steps (run steps 0 (as.take i)) a : Nat))] = nM (along steps 0 (as.take (i + 1))) by rw [take_snoc ea, along_snoc]; exact nM_app _ _]
    refine hk _ ⟨some (nI a), ?_⟩
    rw [take_snoc ea, run_app]; rfl
  · subst e
    rw [List.length_map, List.take_length]
    and_intros
    exact ⟨_, rfl, hq⟩
end DL

namespace DL
open PySem PySem.Spec PyProof.Rows L2
local macro_rules | `(tactic| and_intros) => `(tactic| (repeat' (first | (with_reducible refine st_seq ?_) | (with_reducible refine st_asg ?_) | (with_reducible refine st_asgT ?_) | (with_reducible refine st_expr ?_) | (with_reducible refine st_ret ?_) | (with_reducible refine st_if ?_) | (with_reducible refine st_set ?_) | (with_reducible refine st_for ?_) | (with_reducible refine st_par ?_) | (with_reducible refine st_c ?_) | (with_reducible refine st_view ?_) | (with_reducible refine st_op1 ?_) | (with_reducible refine st_op2 ?_) | (with_reducible refine st_op ?_) | (with_reducible refine st_ix ?_) | (with_reducible refine st_nil ?_) | (with_reducible refine st_cons ?_) | (with_reducible refine st_consM ?_) | (with_reducible refine st_lst ?_) | (with_reducible refine st_tup ?_) | (with_reducible refine st_call ?_) | (with_reducible refine st_callK ?_) | (with_reducible refine st_ife ?_) | (with_reducible refine st_ok ?_) | (with_reducible refine st_dic ?_) | (with_reducible refine st_isi ?_) | (with_reducible refine st_sl ?_) | (with_reducible refine st_part0 ?_) | (with_reducible refine st_part1 ?_) | (with_reducible refine st_bool ?_) | (with_reducible refine st_notT ?_) | (with_reducible refine st_andT ?_) | (with_reducible refine st_orT ?_) | (with_reducible refine st_yes ?_) | (with_reducible refine st_andV ?_) | (with_reducible refine st_orV ?_) | (with_reducible refine st_notV ?_) | (with_reducible refine st_it ?_) | (with_reducible refine st_rg1 ?_) | (with_reducible refine st_enum ?_) | (with_reducible refine st_zip ?_) | (with_reducible refine st_lc ?_) | (with_reducible refine st_frz ?_) | ((with_reducible apply st_var); exact rfl) | ((with_reducible apply st_mov); exact rfl) | ((with_reducible apply st_lend); exact rfl) | ((with_reducible apply st_escf); exact rfl) | ((with_reducible apply st_esco); exact rfl) | ((with_reducible apply st_escd); exact rfl) | ((with_reducible apply st_aug); exact rfl) | ((with_reducible apply st_gn); exact rfl) | ((with_reducible apply st_gt); exact rfl) | (with_reducible refine st_gnil ?_) | (with_reducible refine st_gcons ?_) | ((with_reducible apply st_setd); exact ⟨_, _, rfl⟩) | ((with_reducible apply st_app); exact ⟨_, rfl⟩) | (with_reducible refine tl2 ev_lt ?_) | (with_reducible refine tl2 ev_cmp ?_) | (with_reducible refine tl2 ev_add ?_) | (with_reducible refine tl2 ev_sub ?_) | (with_reducible refine tl2 ev_eqI ?_) | (with_reducible refine tl2 ev_neI ?_) | (with_reducible refine tl2 ev_max ?_) | (with_reducible refine tl2 ev_min ?_) | (with_reducible refine tl2' ev_lt ?_) | (with_reducible refine tl2' ev_cmp ?_) | (with_reducible refine tl2' ev_add ?_) | (with_reducible refine tl2' ev_sub ?_) | (with_reducible refine tl2' ev_eqI ?_) | (with_reducible refine tl2' ev_neI ?_) | (with_reducible refine tl2' ev_max ?_) | (with_reducible refine tl2' ev_min ?_) | (with_reducible refine tl1 ev_neg ?_) | (with_reducible refine tl1 ev_lenO ?_) | (with_reducible refine tl1 ev_lenL ?_) | (with_reducible refine tl1 ev_lenT ?_) | (with_reducible refine tl1 ev_lenC ?_) | (with_reducible refine tl1 ev_lenD ?_) | (with_reducible refine tl1 ev_intI ?_) | (with_reducible refine tl1 ev_intB ?_) | (with_reducible refine tl1 ev_abs ?_) | (with_reducible refine tl1 ev_tupO ?_) | (with_reducible refine tl1 ev_tupL ?_) | (with_reducible refine tlz ?_) | (with_reducible refine tlb ?_) | (with_reducible refine tli ?_) | (with_reducible refine tlt ?_) | (with_reducible refine tll ?_) | (with_reducible refine tlo ?_) | (with_reducible refine tlc ?_) | (with_reducible refine ⟨len1, ?_⟩) | (with_reducible refine ⟨len2, ?_⟩) | (with_reducible refine ⟨len3, ?_⟩) | (with_reducible refine ⟨len0, ?_⟩) | (with_reducible refine ⟨len4, ?_⟩) | (with_reducible refine ⟨len5, ?_⟩) | (with_reducible refine ⟨len6, ?_⟩) | ((with_reducible apply tlen); exact rfl) | ((with_reducible apply tset); exact rfl))))

theorem ix_last (xs : List MV) (x : MV) : (MV.ol (xs ++ [x])).ix (D.int (-1)) = some x := by
  show atI (xs ++ [x]) (-1) = _
  unfold atI ixN
  have hl : (xs ++ [x]).length = xs.length + 1 := by rw [List.length_append, List.length_singleton]
  rw [hl, if_neg (by omega), if_pos (by omega), Option.bind_some, show (-1 + ((xs.length + 1 : Nat) : Int)).toNat = xs.length by omega, List.getElem?_concat_length]
theorem marks_get (R : Rd) (r : Nat) : ∀ (as : List Nat) (s i a : Nat), as[i]? = some a → (marks R r s as)[i]? = some (cel R.table (run R.forth s (as.take i)) a (bst R.back r (as.drop (i + 1))))
  | [], _, _, _, h => by simp at h
  | b :: as, s, 0, a, h => by
    have : b = a := by simpa using h
    subst this
    rfl
  | b :: as, s, i + 1, a, h => by
    rw [marks, List.getElem?_cons_succ, marks_get R r as _ i a (by simpa using h)]; rfl
abbrev ones (cs : List Nat) : List (List Nat) := cs.map fun c => [c]
theorem ones_take {cs : List Nat} {i c : Nat} (h : cs[i]? = some c) : ones (cs.take (i + 1)) = ones (cs.take i) ++ [[c]] := by rw [take_snoc h]; exact List.map_append ..
theorem Good.clB {R : Rd} {k : Nat} {F B : Nat → Prop} (G : Good R k F B) : Clo R.back k B := G.b
theorem Good.clF {R : Rd} {k : Nat} {F B : Nat → Prop} (G : Good R k F B) : Clo R.forth k F := G.f
def spMarks : DSp := fun ms Q => ∃ (R : Rd) (k : Nat) (F B : Nat → Prop) (text : List Nat), ms = [.fz (dR R), .fz (dT text)] ∧ Good R k F B ∧ R.letters.Nodup ∧ R.letters.length = k ∧ k ≤ 1000 ∧ text.length < lim ∧ (∀ c ∈ text, c ∈ R.letters) ∧
  Q (.fz (dT (marks R 0 0 (text.map (num R.letters))))) [.fz .non, .fz .non]
theorem m_marks (ms : List MV) (Q : MV → List MV → Prop) (hl : ms.length = 2) (hsp : spMarks ms Q) : W_marks_by spNumbers spAlong (endsF [false, false] Q) (env0 12 ms) := by
  obtain ⟨⟨letters, forth, back, table⟩, k, F, B, text, rfl, G, nd, hk, hk1, htl, hin, hq⟩ := hsp
  dsimp only at nd hk hin hq
  unfold W_marks_by
  have e : env0 12 [MV.fz (dR ⟨letters, forth, back, table⟩), .fz (dT text)] = [some (.fz (dR ⟨letters, forth, back, table⟩)), some (.fz (dT text)), none, none, none, none, none, none, none, none, none, none] := rfl
  rw [e]
  clear e
  and_intros
  (try dsimp only [List.set_cons_zero, List.set_cons_succ, wipeD, putBack, toD_fz])
  and_intros
  (try dsimp only [List.set_cons_zero, List.set_cons_succ, wipeD, putBack, toD_fz])
  and_intros
  refine ⟨letters, text, rfl, nd, by omega, by omega, hin, ?_⟩
  (try dsimp only [List.set_cons_zero, List.set_cons_succ, wipeD, putBack, toD_fz])
  and_intros
  (try dsimp only [List.set_cons_zero, List.set_cons_succ, wipeD, putBack, toD_fz])
  and_intros
  generalize hnum : text.map (num letters) = nums at hq
  have hnl : nums.length = text.length := by rw [← hnum, List.length_map]
  have hnk : ∀ a ∈ nums, a < k := fun a ha => by
    rw [← hnum] at ha
    obtain ⟨c, hc, rfl⟩ := List.mem_map.mp ha
    rw [← hk]
    exact num_lt (hin c hc)
  refine tl1 (ev_revO _) ?_
  and_intros
  rw [toD_nM]
  refine ⟨back, nums.reverse, k, B, rfl, G.b0, G.clB, by rw [List.length_reverse]; omega, fun a ha => hnk a (List.mem_reverse.mp ha), ?_⟩
  (try dsimp only [List.set_cons_zero, List.set_cons_succ, wipeD, putBack, toD_fz])
  refine tl1 (ev_revO _) ?_
  rw [along_rev]
  and_intros
  (try dsimp only [List.set_cons_zero, List.set_cons_succ, wipeD, putBack, toD_fz])
  and_intros
  (try dsimp only [List.set_cons_zero, List.set_cons_succ, wipeD, putBack, toD_fz])
  and_intros
  (try dsimp only [List.set_cons_zero, List.set_cons_succ, wipeD, putBack, toD_fz])
  and_intros
  (try dsimp only [List.set_cons_zero, List.set_cons_succ, wipeD, putBack, toD_fz])
  rw [toD_nM]
  refine ⟨_, enum_dLst _, ?_⟩
  refine for_inv (fun i ρ => ∃ o10 o11, ρ = [some (.fz (dR ⟨letters, forth, back, table⟩)), some (.fz (dT text)), some (.fz (dT letters)), some (.fz (dS forth)), some (.fz (dS back)), some (.fz (dTab table)), some (.fz (dLn nums)), some (.ol (nM (bts back 0 nums))), some (.ol (tM (ones ((marks ⟨letters, forth, back, table⟩ 0 0 nums).take i)))), some (nI (run forth 0 (nums.take i))), o10, o11])
    ⟨_, _, rfl⟩ (fun i d ρ K ed ⟨o10, o11, e⟩ hk2 => ?_) fun ρ ⟨o10, o11, e⟩ => ?_
  · rw [enumD_get, List.getElem?_map, Option.map_map, Nat.zero_add] at ed
    obtain ⟨a, ea, rfl⟩ := Option.map_eq_some_iff.mp ed
    subst e
    have hi := (List.getElem?_eq_some_iff.mp ea).1
    have hF : F (run forth 0 (nums.take i)) := G.run G.f0 fun b hb => hnk b (List.mem_of_mem_take hb)
    have hB : B (bst back 0 (nums.drop (i + 1))) := G.bst G.b0 fun b hb => hnk b (List.mem_of_mem_drop hb)
    have hak := hnk a (List.mem_of_getElem? ea)
    obtain ⟨row, x, t1, t2, t3, t4⟩ := G.t _ _ a hF hB hak
    obtain ⟨frow, f1, f2, _⟩ := G.f _ a hF hak
    have hmg := marks_get ⟨letters, forth, back, table⟩ 0 nums 0 i a ea
    dsimp only at t1 t4 f1 f2 hmg
    show gT 2 _ (.tup [.int (i : Nat), .int (a : Nat)]) _ _
    and_intros
    (try dsimp only [List.set_cons_zero, List.set_cons_succ, wipeD, putBack, toD_fz])
    and_intros
    (try dsimp only [List.set_cons_zero, List.set_cons_succ, wipeD, putBack, toD_fz])
    and_intros
    refine tlx (ix_tup (x := dTs row) (by rw [List.getElem?_map, t1]; rfl)) ?_
    and_intros
    refine tlx (ix_tup (x := dT x) (by rw [List.getElem?_map, t2]; rfl)) ?_
    and_intros
    refine tlx (ix_ol (j := i + 1) (nM_get (bts_get back 0 nums (i + 1) hi))) ?_
    refine tlx (ix_T t4 t3) ?_
    and_intros
    refine tapp rfl (by rw [tM_len, List.length_map, List.length_take]; omega) ?_
    (try dsimp only [List.set_cons_zero, List.set_cons_succ, wipeD, putBack, toD_fz])
    rw [tM_app, ← ones_take hmg]
    and_intros
    refine tlx (ix_tup (x := dN frow) (by rw [List.getElem?_map, f1]; rfl)) ?_
    and_intros
    refine tlx (ix_tup (x := D.int (stp forth (run forth 0 (nums.take i)) a : Nat)) (by rw [List.getElem?_map, f2]; rfl)) ?_
    and_intros
    (try dsimp only [List.set_cons_zero, List.set_cons_succ, wipeD, putBack, toD_fz])
    refine hk2 _ ⟨some (nI i), some (nI a), ?_⟩
    rw [take_snoc ea, run_app]; rfl
  · subst e
    rw [enumD_len, List.length_map, show nums.length = (marks ⟨letters, forth, back, table⟩ 0 0 nums).length from (marks_len ..).symm, List.take_length]
    and_intros
    refine ⟨rfl, ?_⟩
    and_intros
    refine tl2 (ev_join (by rw [flat_ones, marks_len]; omega)) ?_
    rw [flat_ones]
    exact ⟨_, rfl, hq⟩
def spTold : DSp := fun ms Q => ∃ (R : Rd) (k : Nat) (F B : Nat → Prop) (s : Nat) (as : List Nat) (r : Nat), ms = [.fz (dR R), nI s, .fz (dLn as), nI r] ∧ Good R k F B ∧ F s ∧ B r ∧ as.length < lim ∧ (∀ a ∈ as, a < k) ∧
  Q (.fz (.tup [dT (marks R r s as), .int (run R.forth s as : Nat)])) [.fz .non, .fz .non, .fz .non, .fz .non]
theorem m_told (ms : List MV) (Q : MV → List MV → Prop) (hl : ms.length = 4) (hsp : spTold ms Q) : W_told_marks (endsF [false, false, false, false] Q) (env0 12 ms) := by
  obtain ⟨⟨letters, forth, back, table⟩, k, F, B, s, nums, r, rfl, G, fs, br, hnl, hnk, hq⟩ := hsp
  dsimp only at hq
  unfold W_told_marks
  have e : env0 12 [MV.fz (dR ⟨letters, forth, back, table⟩), nI s, .fz (dLn nums), nI r] = [some (.fz (dR ⟨letters, forth, back, table⟩)), some (nI s), some (.fz (dLn nums)), some (nI r), none, none, none, none, none, none, none, none] := rfl
  rw [e]
  clear e
  and_intros
  (try dsimp only [List.set_cons_zero, List.set_cons_succ, wipeD, putBack, toD_fz])
  and_intros
  (try dsimp only [List.set_cons_zero, List.set_cons_succ, wipeD, putBack, toD_fz])
  and_intros
  refine tl1 (ev_revF _) ?_
  and_intros
  rw [nM_toD]
  refine for_inv (fun i ρ => ∃ o9, ρ = [some (.fz (dR ⟨letters, forth, back, table⟩)), some (nI s), some (.fz (dLn nums)), some (nI r), some (.fz (dT letters)), some (.fz (dS forth)), some (.fz (dS back)), some (.fz (dTab table)), some (.ol (nM (along back r (nums.reverse.take i)))), o9, none, none])
    ⟨_, rfl⟩ (fun i d ρ K ed ⟨o9, e⟩ hk2 => ?_) fun ρ ⟨o9, e⟩ => ?_
  · rw [List.getElem?_map] at ed
    obtain ⟨a, ea, rfl⟩ := Option.map_eq_some_iff.mp ed
    subst e
    have hB : B (run back r (nums.reverse.take i)) := G.clB.run br fun b hb => hnk b (List.mem_reverse.mp (List.mem_of_mem_take hb))
    obtain ⟨row, e1, e2, _⟩ := G.b _ a hB (hnk a (List.mem_reverse.mp (List.mem_of_getElem? ea)))
    dsimp only at e1 e2
    obtain ⟨pre, epre⟩ := along_last back (nums.reverse.take i) r
    have hi := (List.getElem?_eq_some_iff.mp ea).1
    rw [List.length_reverse] at hi
    and_intros
    (try dsimp only [List.set_cons_zero, List.set_cons_succ, wipeD, putBack, toD_fz])
    and_intros
    have elast : (MV.ol (nM (along back r (nums.reverse.take i)))).ix (D.int (-1)) = some (nI (run back r (nums.reverse.take i))) := by
      rw [epre, ← nM_app]
      exact ix_last _ _
    refine tlx elast ?_
    refine tlx (ix_tup (x := dN row) (by rw [List.getElem?_map, e1]; rfl)) ?_
    and_intros
    refine tlx (ix_tup (x := D.int (stp back (run back r (nums.reverse.take i)) a : Nat)) (by rw [List.getElem?_map, e2]; rfl)) ?_
    and_intros
    refine tapp rfl (by rw [nM_len, along_len, List.length_take, List.length_reverse]; omega) ?_
    (try dsimp only [List.set_cons_zero, List.set_cons_succ, wipeD, putBack, toD_fz])
    rw [show nM (along back r (nums.reverse.take i)) ++ [MV.fz (D.int (stp back (run back r (nums.reverse.take i)) a : Nat))] = nM (along back r (nums.reverse.take (i + 1))) by rw [take_snoc ea, along_snoc]; exact nM_app _ _]
    exact hk2 _ ⟨_, rfl⟩
  · subst e
    rw [List.length_map, List.take_length]
    and_intros
    (try dsimp only [List.set_cons_zero, List.set_cons_succ, wipeD, putBack, toD_fz])
    and_intros
    refine ⟨_, enum_dLst _, ?_⟩
    refine for_inv (fun i ρ => ∃ o9 o11, ρ = [some (.fz (dR ⟨letters, forth, back, table⟩)), some (nI (run forth s (nums.take i))), some (.fz (dLn nums)), some (nI r), some (.fz (dT letters)), some (.fz (dS forth)), some (.fz (dS back)), some (.fz (dTab table)), some (.ol (nM (along back r nums.reverse))), o9, some (.ol (tM (ones ((marks ⟨letters, forth, back, table⟩ r s nums).take i)))), o11])
      ⟨_, _, rfl⟩ (fun i d ρ K ed ⟨o9, o11, e⟩ hk2 => ?_) fun ρ ⟨o9, o11, e⟩ => ?_
    · rw [enumD_get, List.getElem?_map, Option.map_map, Nat.zero_add] at ed
      obtain ⟨a, ea, rfl⟩ := Option.map_eq_some_iff.mp ed
      subst e
      have hi := (List.getElem?_eq_some_iff.mp ea).1
      have hF : F (run forth s (nums.take i)) := G.run fs fun b hb => hnk b (List.mem_of_mem_take hb)
      have hB : B (bst back r (nums.drop (i + 1))) := G.bst br fun b hb => hnk b (List.mem_of_mem_drop hb)
      have hak := hnk a (List.mem_of_getElem? ea)
      obtain ⟨row, x, t1, t2, t3, t4⟩ := G.t _ _ a hF hB hak
      obtain ⟨frow, f1, f2, _⟩ := G.f _ a hF hak
      have hmg := marks_get ⟨letters, forth, back, table⟩ r nums s i a ea
      dsimp only at t1 t4 f1 f2 hmg
      show gT 2 _ (.tup [.int (i : Nat), .int (a : Nat)]) _ _
      and_intros
      (try dsimp only [List.set_cons_zero, List.set_cons_succ, wipeD, putBack, toD_fz])
      and_intros
      (try dsimp only [List.set_cons_zero, List.set_cons_succ, wipeD, putBack, toD_fz])
      and_intros
      refine tlx (ix_tup (x := dTs row) (by rw [List.getElem?_map, t1]; rfl)) ?_
      and_intros
      refine tlx (ix_tup (x := dT x) (by rw [List.getElem?_map, t2]; rfl)) ?_
      and_intros
      rw [List.length_map, show ((nums.length : Nat) : Int) - 1 - (i : Nat) = ((nums.length - (i + 1) : Nat) : Int) by omega]
      refine tlx (ix_ol (j := nums.length - (i + 1)) (nM_get (along_get back r nums (j := i + 1) hi))) ?_
      refine tlx (ix_T t4 t3) ?_
      and_intros
      refine tapp rfl (by rw [tM_len, List.length_map, List.length_take]; omega) ?_
      (try dsimp only [List.set_cons_zero, List.set_cons_succ, wipeD, putBack, toD_fz])
      rw [tM_app, ← ones_take hmg]
      and_intros
      refine tlx (ix_tup (x := dN frow) (by rw [List.getElem?_map, f1]; rfl)) ?_
      and_intros
      refine tlx (ix_tup (x := D.int (stp forth (run forth s (nums.take i)) a : Nat)) (by rw [List.getElem?_map, f2]; rfl)) ?_
      and_intros
      (try dsimp only [List.set_cons_zero, List.set_cons_succ, wipeD, putBack, toD_fz])
      refine hk2 _ ⟨some (nI a), some (nI i), ?_⟩
      rw [take_snoc ea, run_app]; rfl
    · subst e
      rw [enumD_len, List.length_map]
      have h1 : (marks ⟨letters, forth, back, table⟩ r s nums).take nums.length = marks ⟨letters, forth, back, table⟩ r s nums := by
        rw [show nums.length = (marks ⟨letters, forth, back, table⟩ r s nums).length from (marks_len ..).symm, List.take_length]
      rw [h1, List.take_length]
      and_intros
      refine ⟨rfl, ?_⟩
      and_intros
      refine tl2 (ev_join (by rw [flat_ones, marks_len]; omega)) ?_
      rw [flat_ones]
      and_intros
      (try dsimp only [List.set_cons_zero, List.set_cons_succ, wipeD, putBack, toD_fz])
      exact ⟨_, rfl, hq⟩
end DL

namespace DL
open PySem PySem.Spec PyProof.Rows L2
local macro_rules | `(tactic| and_intros) => `(tactic| (repeat' (first | (with_reducible refine st_seq ?_) | (with_reducible refine st_asg ?_) | (with_reducible refine st_asgT ?_) | (with_reducible refine st_expr ?_) | (with_reducible refine st_ret ?_) | (with_reducible refine st_if ?_) | (with_reducible refine st_set ?_) | (with_reducible refine st_for ?_) | (with_reducible refine st_par ?_) | (with_reducible refine st_c ?_) | (with_reducible refine st_view ?_) | (with_reducible refine st_op1 ?_) | (with_reducible refine st_op2 ?_) | (with_reducible refine st_op ?_) | (with_reducible refine st_ix ?_) | (with_reducible refine st_nil ?_) | (with_reducible refine st_cons ?_) | (with_reducible refine st_consM ?_) | (with_reducible refine st_lst ?_) | (with_reducible refine st_tup ?_) | (with_reducible refine st_call ?_) | (with_reducible refine st_callK ?_) | (with_reducible refine st_ife ?_) | (with_reducible refine st_ok ?_) | (with_reducible refine st_dic ?_) | (with_reducible refine st_isi ?_) | (with_reducible refine st_sl ?_) | (with_reducible refine st_part0 ?_) | (with_reducible refine st_part1 ?_) | (with_reducible refine st_bool ?_) | (with_reducible refine st_notT ?_) | (with_reducible refine st_andT ?_) | (with_reducible refine st_orT ?_) | (with_reducible refine st_yes ?_) | (with_reducible refine st_andV ?_) | (with_reducible refine st_orV ?_) | (with_reducible refine st_notV ?_) | (with_reducible refine st_it ?_) | (with_reducible refine st_rg1 ?_) | (with_reducible refine st_enum ?_) | (with_reducible refine st_zip ?_) | (with_reducible refine st_lc ?_) | (with_reducible refine st_frz ?_) | ((with_reducible apply st_var); exact rfl) | ((with_reducible apply st_mov); exact rfl) | ((with_reducible apply st_lend); exact rfl) | ((with_reducible apply st_escf); exact rfl) | ((with_reducible apply st_esco); exact rfl) | ((with_reducible apply st_escd); exact rfl) | ((with_reducible apply st_aug); exact rfl) | ((with_reducible apply st_gn); exact rfl) | ((with_reducible apply st_gt); exact rfl) | (with_reducible refine st_gnil ?_) | (with_reducible refine st_gcons ?_) | ((with_reducible apply st_setd); exact ⟨_, _, rfl⟩) | ((with_reducible apply st_app); exact ⟨_, rfl⟩) | (with_reducible refine tl2 ev_lt ?_) | (with_reducible refine tl2 ev_cmp ?_) | (with_reducible refine tl2 ev_add ?_) | (with_reducible refine tl2 ev_sub ?_) | (with_reducible refine tl2 ev_eqI ?_) | (with_reducible refine tl2 ev_neI ?_) | (with_reducible refine tl2 ev_max ?_) | (with_reducible refine tl2 ev_min ?_) | (with_reducible refine tl2' ev_lt ?_) | (with_reducible refine tl2' ev_cmp ?_) | (with_reducible refine tl2' ev_add ?_) | (with_reducible refine tl2' ev_sub ?_) | (with_reducible refine tl2' ev_eqI ?_) | (with_reducible refine tl2' ev_neI ?_) | (with_reducible refine tl2' ev_max ?_) | (with_reducible refine tl2' ev_min ?_) | (with_reducible refine tl1 ev_neg ?_) | (with_reducible refine tl1 ev_lenO ?_) | (with_reducible refine tl1 ev_lenL ?_) | (with_reducible refine tl1 ev_lenT ?_) | (with_reducible refine tl1 ev_lenC ?_) | (with_reducible refine tl1 ev_lenD ?_) | (with_reducible refine tl1 ev_intI ?_) | (with_reducible refine tl1 ev_intB ?_) | (with_reducible refine tl1 ev_abs ?_) | (with_reducible refine tl1 ev_tupO ?_) | (with_reducible refine tl1 ev_tupL ?_) | (with_reducible refine tlz ?_) | (with_reducible refine tlb ?_) | (with_reducible refine tli ?_) | (with_reducible refine tlt ?_) | (with_reducible refine tll ?_) | (with_reducible refine tlo ?_) | (with_reducible refine tlc ?_) | (with_reducible refine ⟨len1, ?_⟩) | (with_reducible refine ⟨len2, ?_⟩) | (with_reducible refine ⟨len3, ?_⟩) | (with_reducible refine ⟨len0, ?_⟩) | (with_reducible refine ⟨len4, ?_⟩) | (with_reducible refine ⟨len5, ?_⟩) | (with_reducible refine ⟨len6, ?_⟩) | ((with_reducible apply tlen); exact rfl) | ((with_reducible apply tset); exact rfl))))

/-! ### marks_by_parts -/
def lnM (pt : List (List Nat)) : List MV := pt.map fun p => .fz (dLn p)
theorem lnM_fz (pt : List (List Nat)) : lnM pt = (pt.map fun p => dLn p).map MV.fz := by unfold lnM; rw [List.map_map]; rfl
theorem lnM_toD (pt : List (List Nat)) : (lnM pt).map MV.toD = pt.map fun p => dLn p := by unfold lnM; rw [List.map_map]; rfl
theorem toD_lnM (pt : List (List Nat)) : (MV.ol (lnM pt)).toD = .lst (pt.map fun p => dLn p) := by rw [lnM_fz, toD_ol_fz]
theorem ev_revP (pt : List (List Nat)) : g1 true dRevL [.ol (lnM pt)] = some (.ol (lnM pt.reverse)) := by
  have h : (MV.ol (lnM pt)).shal = true := by
    show (lnM pt).all _ = true
    unfold lnM
    rw [List.all_map]
    exact List.all_eq_true.mpr fun _ _ => rfl
  show (if (true && !(MV.ol (lnM pt)).shal) = true then none else dRevL (MV.ol (lnM pt)).toD) = _
  rw [h, toD_lnM, lnM_fz, List.map_reverse]; rfl
def alongP (steps : List (List Nat)) : Nat → List (List Nat) → List Nat
  | r, [] => [r]
  | r, p :: ps => r :: alongP steps (bst steps r p) ps
def runP (steps : List (List Nat)) (r : Nat) (ps : List (List Nat)) : Nat := ps.foldl (bst steps) r
theorem runP_snoc (steps : List (List Nat)) (r : Nat) (ps : List (List Nat)) (p : List Nat) : runP steps r (ps ++ [p]) = bst steps (runP steps r ps) p := by unfold runP; rw [List.foldl_append]; rfl
theorem alongP_snoc (steps : List (List Nat)) : ∀ (ps : List (List Nat)) (r : Nat) (p : List Nat), alongP steps r (ps ++ [p]) = alongP steps r ps ++ [bst steps (runP steps r ps) p]
  | [], _, _ => rfl
  | q :: ps, r, p => by rw [List.cons_append, alongP, alongP_snoc steps ps, alongP, List.cons_append]; rfl
theorem alongP_len (steps : List (List Nat)) : ∀ (ps : List (List Nat)) (r : Nat), (alongP steps r ps).length = ps.length + 1
  | [], _ => rfl
  | a :: as, s => by rw [alongP, List.length_cons, alongP_len steps as, List.length_cons]
theorem alongP_last (steps : List (List Nat)) : ∀ (ps : List (List Nat)) (r : Nat), ∃ pre, alongP steps r ps = pre ++ [runP steps r ps]
  | [], r => ⟨[], rfl⟩
  | p :: ps, r => by
    obtain ⟨pre, e⟩ := alongP_last steps ps (bst steps r p)
    exact ⟨r :: pre, by rw [alongP, e]; rfl⟩
def btsP (steps : List (List Nat)) (r : Nat) : List (List Nat) → List Nat
  | [] => [r]
  | p :: ps => bst steps r (p :: ps).flatten :: btsP steps r ps
theorem runP_rev (steps : List (List Nat)) (r : Nat) : ∀ ps : List (List Nat), runP steps r ps.reverse = bst steps r ps.flatten
  | [] => rfl
  | p :: ps => by rw [List.reverse_cons, runP_snoc, runP_rev steps r ps, List.flatten_cons, bst_app]
theorem alongP_rev (steps : List (List Nat)) (r : Nat) : ∀ ps : List (List Nat), (alongP steps r ps.reverse).reverse = btsP steps r ps
  | [] => rfl
  | p :: ps => by rw [List.reverse_cons, alongP_snoc, List.reverse_append, alongP_rev steps r ps, runP_rev, btsP, List.flatten_cons, bst_app]; rfl
theorem btsP_get (steps : List (List Nat)) (r : Nat) : ∀ (ps : List (List Nat)) (j : Nat), j ≤ ps.length → (btsP steps r ps)[j]? = some (bst steps r (ps.drop j).flatten)
  | [], 0, _ => rfl
  | [], j + 1, h => absurd h (Nat.not_succ_le_zero _)
  | a :: as, 0, _ => rfl
  | a :: as, j + 1, h => by
    rw [btsP, List.getElem?_cons_succ, btsP_get steps r as j (by rw [List.length_cons] at h; omega)]; rfl
theorem alongP_get (steps : List (List Nat)) (r : Nat) (ps : List (List Nat)) {j : Nat} (h : j ≤ ps.length) : (alongP steps r ps.reverse)[ps.length - j]? = some (bst steps r (ps.drop j).flatten) := by
  have h1 := btsP_get steps r ps j h
  rw [← alongP_rev] at h1
  have hlen := alongP_len steps ps.reverse r
  rw [List.length_reverse] at hlen
  rw [List.getElem?_reverse (by omega), hlen] at h1
  rwa [show ps.length + 1 - 1 - j = ps.length - j by omega] at h1
def mkP (R : Rd) : Nat → List (List Nat) → List (List Nat)
  | _, [] => []
  | s, p :: ps => marks R (bst R.back 0 ps.flatten) s p :: mkP R (run R.forth s p) ps
theorem mkP_flat (R : Rd) : ∀ (ps : List (List Nat)) (s : Nat), (mkP R s ps).flatten = marks R 0 s ps.flatten
  | [], _ => rfl
  | p :: ps, s => by rw [mkP, List.flatten_cons, mkP_flat R ps, List.flatten_cons, marks_app]
theorem mkP_len (R : Rd) : ∀ (ps : List (List Nat)) (s : Nat), (mkP R s ps).length = ps.length
  | [], _ => rfl
  | p :: ps, s => by rw [mkP, List.length_cons, mkP_len R ps, List.length_cons]
theorem mkP_get (R : Rd) : ∀ (ps : List (List Nat)) (s i : Nat) (p : List Nat), ps[i]? = some p → (mkP R s ps)[i]? = some (marks R (bst R.back 0 (ps.drop (i + 1)).flatten) (run R.forth s (ps.take i).flatten) p)
  | [], _, _, _, h => by simp at h
  | q :: ps, s, 0, p, h => by
    have : q = p := by simpa using h
    subst this
    rfl
  | q :: ps, s, i + 1, p, h => by
    rw [mkP, List.getElem?_cons_succ, mkP_get R ps _ i p (by simpa using h), List.take_succ_cons, List.flatten_cons, run_app]; rfl
theorem takeA_snoc {α : Type} {l : List α} {i : Nat} {s : α} (e : l[i]? = some s) : l.take (i + 1) = l.take i ++ [s] := by rw [List.take_add_one, e]; rfl
theorem flat_map_map (f : Nat → Nat) : ∀ xss : List (List Nat), (xss.map fun t => t.map f).flatten = xss.flatten.map f
  | [] => rfl
  | x :: xss => by rw [List.map_cons, List.flatten_cons, flat_map_map f xss, List.flatten_cons, List.map_append]
abbrev dTx (texts : List (List Nat)) : D := .tup (texts.map dT)
def spParts : DSp := fun ms Q => ∃ (R : Rd) (k : Nat) (texts : List (List Nat)), ms = [.fz (dR R), .fz (dTx texts)] ∧ ROk R k ∧ R.letters.Nodup ∧ R.letters.length = k ∧ texts.length < lim ∧ texts.flatten.length < lim ∧ (∀ t ∈ texts, ∀ c ∈ t, c ∈ R.letters) ∧
  Q (.fz (dT (marks R 0 0 (texts.flatten.map (num R.letters))))) [.fz .non, .fz .non]
def kPart (letters : List Nat) : D → MV
  | .str x => .fz (dLn (x.cps.toList.map (num letters)))
  | _ => .fz .non
theorem m_parts (ms : List MV) (Q : MV → List MV → Prop) (hl : ms.length = 2) (hsp : spParts ms Q) : W_marks_by_parts spLeast spNumbers spTold (endsF [false, false] Q) (env0 13 ms) := by
  obtain ⟨R, k, texts, rfl, ok, nd, hk, htl, htf, hin, hq⟩ := hsp
  have hk2 := ok.k2
  unfold W_marks_by_parts
  have e : env0 13 [MV.fz (dR R), .fz (dTx texts)] = [some (.fz (dR R)), some (.fz (dTx texts)), none, none, none, none, none, none, none, none, none, none, none] := rfl
  rw [e]
  clear e
  and_intros
  refine ⟨R, k, rfl, ok, fun R' hL ⟨F, B, G⟩ hm => ?_⟩
  obtain ⟨letters, forth, back, table⟩ := R'
  dsimp only at hL
  subst hL
  (try dsimp only [List.set_cons_zero, List.set_cons_succ, wipeD, putBack, toD_fz])
  and_intros
  (try dsimp only [List.set_cons_zero, List.set_cons_succ, wipeD, putBack, toD_fz])
  and_intros
  refine ⟨rfl, ?_⟩
  refine lcB_map (k := kPart R.letters) _ _ [] _ (fun ρ => ∃ o4, ρ = [some (.fz (dR R)), some (.fz (dTx texts)), some (.fz (dR ⟨R.letters, forth, back, table⟩)), none, o4, none, none, none, none, none, none, none, none]) ⟨_, rfl⟩ ?_ (fun d hd ρ ⟨o, e⟩ K hK => ?_) fun ρ ⟨o, e⟩ => ?_
  · rw [List.length_nil, List.length_map]; omega
  · subst e
    obtain ⟨t, ht, rfl⟩ := List.mem_map.mp hd
    have htl : t.length < lim := Nat.lt_of_le_of_lt (by
      obtain ⟨i, hi⟩ := List.mem_iff_getElem?.mp ht
      exact (List.sublist_flatten_of_mem ht).length_le) htf
    (try dsimp only [List.set_cons_zero, List.set_cons_succ, wipeD, putBack, toD_fz])
    and_intros
    (try dsimp only [List.set_cons_zero, List.set_cons_succ, wipeD, putBack, toD_fz])
    and_intros
    refine tlx (ix_tup (j := 0) (x := dT R.letters) rfl) ?_
    and_intros
    refine ⟨R.letters, t, rfl, nd, by omega, by omega, hin t ht, ?_⟩
    (try dsimp only [List.set_cons_zero, List.set_cons_succ, wipeD, putBack, toD_fz])
    rw [toD_nM]
    exact hK _ ⟨_, rfl⟩
  subst e
  generalize hpt : (texts.map fun t => t.map (num R.letters)) = pt
  have ea : ([] : List MV) ++ (texts.map dT).map (kPart R.letters) = lnM pt := by
    rw [List.nil_append, ← hpt]
    unfold lnM
    rw [List.map_map, List.map_map]; rfl
  rw [ea]
  have hpf : pt.flatten = texts.flatten.map (num R.letters) := by rw [← hpt, flat_map_map]
  have hpl : pt.length = texts.length := by rw [← hpt, List.length_map]
  have hfl : pt.flatten.length < lim := by rw [hpf, List.length_map]; exact htf
  have hpk : ∀ a ∈ pt.flatten, a < k := fun a ha => by
    rw [hpf] at ha
    obtain ⟨c, hc, rfl⟩ := List.mem_map.mp ha
    obtain ⟨t, ht, hct⟩ := List.mem_flatten.mp hc
    rw [← hk]
    exact num_lt (hin t ht c hct)
  have hpp : ∀ p ∈ pt, ∀ a ∈ p, a < k := fun p hp a ha => hpk a (List.mem_flatten.mpr ⟨p, hp, ha⟩)
  have hplen : ∀ p ∈ pt, p.length < lim := fun p hp => Nat.lt_of_le_of_lt (List.sublist_flatten_of_mem hp).length_le hfl
  have hsub : ∀ l : List (List Nat), (∀ p ∈ l, p ∈ pt) → ∀ a ∈ l.flatten, a < k := fun l h a ha => by
    obtain ⟨p, hp, hap⟩ := List.mem_flatten.mp ha
    exact hpp p (h p hp) a hap
  (try dsimp only [List.set_cons_zero, List.set_cons_succ, wipeD, restD, List.getElem?_cons_zero, List.getElem?_cons_succ, Option.getD_some])
  and_intros
  (try dsimp only [List.set_cons_zero, List.set_cons_succ, wipeD, putBack, toD_fz])
  and_intros
  refine tl1 (ev_revP _) ?_
  and_intros
  rw [lnM_toD]
  refine for_inv (fun i ρ => ∃ o4 o6 o7 o8, ρ = [some (.fz (dR R)), some (.fz (dTx texts)), some (.fz (dR ⟨R.letters, forth, back, table⟩)), some (.ol (lnM pt)), o4, some (.ol (nM (alongP back 0 (pt.reverse.take i)))), o6, o7, o8, none, none, none, none])
    ⟨_, _, _, _, rfl⟩ (fun i d ρ K ed ⟨o4, o6, o7, o8, e⟩ hk3 => ?_) fun ρ ⟨o4, o6, o7, o8, e⟩ => ?_
  · rw [List.getElem?_map] at ed
    obtain ⟨p, ep, rfl⟩ := Option.map_eq_some_iff.mp ed
    subst e
    have hp : p ∈ pt := List.mem_reverse.mp (List.mem_of_getElem? ep)
    have hi := (List.getElem?_eq_some_iff.mp ep).1
    rw [List.length_reverse] at hi
    obtain ⟨pre, epre⟩ := alongP_last back (pt.reverse.take i) 0
    have hBP : ∀ ps : List (List Nat), (∀ p ∈ ps, p ∈ pt) → B (runP back 0 ps.reverse) := fun ps h => by
      rw [runP_rev]
      exact G.bst G.b0 (hsub ps h)
    have hB0 : B (runP back 0 (pt.reverse.take i)) := by
      have := hBP (pt.reverse.take i).reverse fun p hp => List.mem_reverse.mp (List.mem_of_mem_take (List.mem_reverse.mp hp))
      rwa [List.reverse_reverse] at this
    generalize hr0 : runP back 0 (pt.reverse.take i) = r0 at hB0 epre
    and_intros
    (try dsimp only [List.set_cons_zero, List.set_cons_succ, wipeD, putBack, toD_fz])
    and_intros
    have elast : (MV.ol (nM (alongP back 0 (pt.reverse.take i)))).ix (D.int (-1)) = some (nI r0) := by
      rw [epre, ← nM_app]
      exact ix_last _ _
    refine tlx elast ?_
    and_intros
    (try dsimp only [List.set_cons_zero, List.set_cons_succ, wipeD, putBack, toD_fz])
    and_intros
    refine tl1 (ev_revF _) ?_
    and_intros
    rw [nM_toD]
    refine for_inv (fun j ρ => ∃ o8, ρ = [some (.fz (dR R)), some (.fz (dTx texts)), some (.fz (dR ⟨R.letters, forth, back, table⟩)), some (.ol (lnM pt)), o4, some (.ol (nM (alongP back 0 (pt.reverse.take i)))), some (.fz (dLn p)), some (nI (run back r0 (p.reverse.take j))), o8, none, none, none, none])
      ⟨_, rfl⟩ (fun j d ρ K2 ed ⟨o8, e⟩ hk4 => ?_) fun ρ ⟨o8, e⟩ => ?_
    · rw [List.getElem?_map] at ed
      obtain ⟨a, ea, rfl⟩ := Option.map_eq_some_iff.mp ed
      subst e
      have hB1 : B (run back r0 (p.reverse.take j)) := G.clB.run hB0 fun b hb => hpp p hp b (List.mem_reverse.mp (List.mem_of_mem_take hb))
      obtain ⟨row, e1, e2, _⟩ := G.b _ a hB1 (hpp p hp a (List.mem_reverse.mp (List.mem_of_getElem? ea)))
      dsimp only at e1 e2
      and_intros
      (try dsimp only [List.set_cons_zero, List.set_cons_succ, wipeD, putBack, toD_fz])
      and_intros
      refine tlx (ix_tup (j := 2) (x := dS back) rfl) ?_
      and_intros
      refine tlx (ix_tup (x := dN row) (by rw [List.getElem?_map, e1]; rfl)) ?_
      and_intros
      refine tlx (ix_tup (x := D.int (stp back (run back r0 (p.reverse.take j)) a : Nat)) (by rw [List.getElem?_map, e2]; rfl)) ?_
      and_intros
      (try dsimp only [List.set_cons_zero, List.set_cons_succ, wipeD, putBack, toD_fz])
      refine hk4 _ ⟨some (nI a), ?_⟩
      rw [take_snoc ea, run_app]; rfl
    · subst e
      rw [List.length_map, List.take_length, run_rev]
      and_intros
      refine tapp rfl (by rw [nM_len, alongP_len, List.length_take, List.length_reverse]; omega) ?_
      (try dsimp only [List.set_cons_zero, List.set_cons_succ, wipeD, putBack, toD_fz])
      rw [show nM (alongP back 0 (pt.reverse.take i)) ++ [nI (bst back r0 p)] = nM (alongP back 0 (pt.reverse.take (i + 1))) by rw [takeA_snoc ep, alongP_snoc, hr0]; exact nM_app _ _]
      exact hk3 _ ⟨_, _, _, _, rfl⟩
  subst e
  rw [List.length_map, List.take_length]
  and_intros
  (try dsimp only [List.set_cons_zero, List.set_cons_succ, wipeD, putBack, toD_fz])
  and_intros
  (try dsimp only [List.set_cons_zero, List.set_cons_succ, wipeD, putBack, toD_fz])
  and_intros
  (try dsimp only [List.set_cons_zero, List.set_cons_succ, wipeD, putBack, toD_fz])
  rw [toD_lnM]
  refine ⟨_, enum_dLst _, ?_⟩
  refine for_inv (fun i ρ => ∃ o4 o6 o7 o8 o11 o12, ρ = [some (.fz (dR R)), some (.fz (dTx texts)), some (.fz (dR ⟨R.letters, forth, back, table⟩)), some (.fz (.lst (pt.map fun p => dLn p))), o4, some (.ol (nM (alongP back 0 pt.reverse))), o6, o7, o8, some (.ol (tM ((mkP ⟨R.letters, forth, back, table⟩ 0 pt).take i))), some (nI (run forth 0 (pt.take i).flatten)), o11, o12])
    ⟨_, _, _, _, _, _, rfl⟩ (fun i d ρ K ed ⟨o4, o6, o7, o8, o11, o12, e⟩ hk3 => ?_) fun ρ ⟨o4, o6, o7, o8, o11, o12, e⟩ => ?_
  · rw [enumD_get, List.getElem?_map, Option.map_map, Nat.zero_add] at ed
    obtain ⟨p, ep, rfl⟩ := Option.map_eq_some_iff.mp ed
    subst e
    have hp : p ∈ pt := List.mem_of_getElem? ep
    have hi := (List.getElem?_eq_some_iff.mp ep).1
    have hF : F (run forth 0 (pt.take i).flatten) := G.run G.f0 (hsub _ fun p hp => List.mem_of_mem_take hp)
    have hB : B (bst back 0 (pt.drop (i + 1)).flatten) := G.bst G.b0 (hsub _ fun p hp => List.mem_of_mem_drop hp)
    have hmg := mkP_get ⟨R.letters, forth, back, table⟩ pt 0 i p ep
    dsimp only at hmg
    show gT 2 _ (.tup [.int (i : Nat), dLn p]) _ _
    and_intros
    (try dsimp only [List.set_cons_zero, List.set_cons_succ, wipeD, putBack, toD_fz])
    and_intros
    (try dsimp only [List.set_cons_zero, List.set_cons_succ, wipeD, putBack, toD_fz])
    and_intros
    rw [List.length_map, show ((pt.length : Nat) : Int) - 1 - (i : Nat) = ((pt.length - (i + 1) : Nat) : Int) by omega]
    refine tlx (ix_ol (j := pt.length - (i + 1)) (nM_get (alongP_get back 0 pt (j := i + 1) hi))) ?_
    and_intros
    refine ⟨⟨R.letters, forth, back, table⟩, k, F, B, _, p, _, rfl, G, hF, hB, hplen p hp, hpp p hp, ?_⟩
    (try dsimp only [List.set_cons_zero, List.set_cons_succ, wipeD, putBack, toD_fz])
    and_intros
    (try dsimp only [List.set_cons_zero, List.set_cons_succ, wipeD, putBack, toD_fz])
    and_intros
    (try dsimp only [List.set_cons_zero, List.set_cons_succ, wipeD, putBack, toD_fz])
    and_intros
    refine tapp rfl (by rw [tM_len, List.length_take, mkP_len]; omega) ?_
    (try dsimp only [List.set_cons_zero, List.set_cons_succ, wipeD, putBack, toD_fz])
    rw [tM_app, ← takeA_snoc hmg]
    rw [show run forth (run forth 0 (pt.take i).flatten) p = run forth 0 (pt.take (i + 1)).flatten by rw [takeA_snoc ep, List.flatten_append, List.flatten_singleton, run_app]]
    exact hk3 _ ⟨_, _, _, _, _, _, rfl⟩
  · subst e
    rw [enumD_len, List.length_map]
    have h1 : (mkP ⟨R.letters, forth, back, table⟩ 0 pt).take pt.length = mkP ⟨R.letters, forth, back, table⟩ 0 pt := by
      rw [show pt.length = (mkP ⟨R.letters, forth, back, table⟩ 0 pt).length from (mkP_len ..).symm, List.take_length]
    rw [h1]
    and_intros
    refine ⟨rfl, ?_⟩
    and_intros
    refine tl2 (ev_join (by rw [mkP_flat, marks_len]; omega)) ?_
    rw [mkP_flat, hm pt.flatten hpk, hpf]
    exact ⟨_, rfl, hq⟩
end DL

namespace DL
open PySem PySem.Spec PyProof.Rows L2
local macro_rules | `(tactic| and_intros) => `(tactic| (repeat' (first | (with_reducible refine st_seq ?_) | (with_reducible refine st_asg ?_) | (with_reducible refine st_asgT ?_) | (with_reducible refine st_expr ?_) | (with_reducible refine st_ret ?_) | (with_reducible refine st_if ?_) | (with_reducible refine st_set ?_) | (with_reducible refine st_for ?_) | (with_reducible refine st_par ?_) | (with_reducible refine st_c ?_) | (with_reducible refine st_view ?_) | (with_reducible refine st_op1 ?_) | (with_reducible refine st_op2 ?_) | (with_reducible refine st_op ?_) | (with_reducible refine st_ix ?_) | (with_reducible refine st_nil ?_) | (with_reducible refine st_cons ?_) | (with_reducible refine st_consM ?_) | (with_reducible refine st_lst ?_) | (with_reducible refine st_tup ?_) | (with_reducible refine st_call ?_) | (with_reducible refine st_callK ?_) | (with_reducible refine st_ife ?_) | (with_reducible refine st_ok ?_) | (with_reducible refine st_dic ?_) | (with_reducible refine st_isi ?_) | (with_reducible refine st_sl ?_) | (with_reducible refine st_part0 ?_) | (with_reducible refine st_part1 ?_) | (with_reducible refine st_bool ?_) | (with_reducible refine st_notT ?_) | (with_reducible refine st_andT ?_) | (with_reducible refine st_orT ?_) | (with_reducible refine st_yes ?_) | (with_reducible refine st_andV ?_) | (with_reducible refine st_orV ?_) | (with_reducible refine st_notV ?_) | (with_reducible refine st_it ?_) | (with_reducible refine st_rg1 ?_) | (with_reducible refine st_enum ?_) | (with_reducible refine st_zip ?_) | (with_reducible refine st_lc ?_) | (with_reducible refine st_frz ?_) | ((with_reducible apply st_var); exact rfl) | ((with_reducible apply st_mov); exact rfl) | ((with_reducible apply st_lend); exact rfl) | ((with_reducible apply st_escf); exact rfl) | ((with_reducible apply st_esco); exact rfl) | ((with_reducible apply st_escd); exact rfl) | ((with_reducible apply st_aug); exact rfl) | ((with_reducible apply st_gn); exact rfl) | ((with_reducible apply st_gt); exact rfl) | (with_reducible refine st_gnil ?_) | (with_reducible refine st_gcons ?_) | ((with_reducible apply st_setd); exact ⟨_, _, rfl⟩) | ((with_reducible apply st_app); exact ⟨_, rfl⟩) | (with_reducible refine tl2 ev_lt ?_) | (with_reducible refine tl2 ev_cmp ?_) | (with_reducible refine tl2 ev_add ?_) | (with_reducible refine tl2 ev_sub ?_) | (with_reducible refine tl2 ev_eqI ?_) | (with_reducible refine tl2 ev_neI ?_) | (with_reducible refine tl2 ev_max ?_) | (with_reducible refine tl2 ev_min ?_) | (with_reducible refine tl2' ev_lt ?_) | (with_reducible refine tl2' ev_cmp ?_) | (with_reducible refine tl2' ev_add ?_) | (with_reducible refine tl2' ev_sub ?_) | (with_reducible refine tl2' ev_eqI ?_) | (with_reducible refine tl2' ev_neI ?_) | (with_reducible refine tl2' ev_max ?_) | (with_reducible refine tl2' ev_min ?_) | (with_reducible refine tl1 ev_neg ?_) | (with_reducible refine tl1 ev_lenO ?_) | (with_reducible refine tl1 ev_lenL ?_) | (with_reducible refine tl1 ev_lenT ?_) | (with_reducible refine tl1 ev_lenC ?_) | (with_reducible refine tl1 ev_lenD ?_) | (with_reducible refine tl1 ev_intI ?_) | (with_reducible refine tl1 ev_intB ?_) | (with_reducible refine tl1 ev_abs ?_) | (with_reducible refine tl1 ev_tupO ?_) | (with_reducible refine tl1 ev_tupL ?_) | (with_reducible refine tlz ?_) | (with_reducible refine tlb ?_) | (with_reducible refine tli ?_) | (with_reducible refine tlt ?_) | (with_reducible refine tll ?_) | (with_reducible refine tlo ?_) | (with_reducible refine tlc ?_) | (with_reducible refine ⟨len1, ?_⟩) | (with_reducible refine ⟨len2, ?_⟩) | (with_reducible refine ⟨len3, ?_⟩) | (with_reducible refine ⟨len0, ?_⟩) | (with_reducible refine ⟨len4, ?_⟩) | (with_reducible refine ⟨len5, ?_⟩) | (with_reducible refine ⟨len6, ?_⟩) | ((with_reducible apply tlen); exact rfl) | ((with_reducible apply tset); exact rfl))))

/-! ### the law's loom -/
abbrev LM (ts at_ li wh : D) : List (D × MV) := [(.str (Str.ofString "threads"), .fz ts), (.str (Str.ofString "at"), .fz at_), (.str (Str.ofString "lint"), .fz li), (.str (Str.ofString "whim"), .fz wh)]
abbrev LoomV (ts : List Int) (at_ : Nat) (li wh : Int) : MV := .od false (LM (.lst (ts.map .int)) (.int (at_ : Nat)) (.int li) (.int wh))
def LOk (m : MV) : Prop := ∃ ts at_ li wh, m = LoomV ts at_ li wh ∧ 0 ≤ li ∧ li < 2147483629
theorem ix_lm0 {ts at_ li wh : D} : (MV.od false (LM ts at_ li wh)).ix (.str (Str.ofString "threads")) = some (.fz ts) := rfl
theorem ix_lm1 {ts at_ li wh : D} : (MV.od false (LM ts at_ li wh)).ix (.str (Str.ofString "at")) = some (.fz at_) := rfl
theorem ix_lm2 {ts at_ li wh : D} : (MV.od false (LM ts at_ li wh)).ix (.str (Str.ofString "lint")) = some (.fz li) := rfl
theorem ix_lm3 {ts at_ li wh : D} : (MV.od false (LM ts at_ li wh)).ix (.str (Str.ofString "whim")) = some (.fz wh) := rfl
theorem put_lm1 {ts at_ li wh d : D} : (MV.od false (LM ts at_ li wh)).put (.fz (.str (Str.ofString "at"))) (.fz d) = some (.od false (LM ts d li wh)) := rfl
theorem put_lm2 {ts at_ li wh d : D} : (MV.od false (LM ts at_ li wh)).put (.fz (.str (Str.ofString "lint"))) (.fz d) = some (.od false (LM ts at_ d wh)) := rfl
theorem ev_mod {i j : Int} (h : j ≠ 0) : g2 true dMod [.fz (.int i), .fz (.int j)] = some (.fz (.int (i.fmod j))) := by
  show dMod (.int i) (.int j) = _
  exact if_pos h
theorem ev_fdiv {i j : Int} (h : j ≠ 0 ∧ j.natAbs < 1073741824) : g2 true dFdiv [.fz (.int i), .fz (.int j)] = some (.fz (.int (i.fdiv j))) := by
  show dFdiv (.int i) (.int j) = _
  exact if_pos h
theorem ev_mul {i j : Int} (h : i.natAbs.log2 + j.natAbs.log2 < 1000000) : g2 true dMul [.fz (.int i), .fz (.int j)] = some (.fz (.int (i * j))) := by
  show dMul (.int i) (.int j) = _
  exact if_pos h
theorem log2_le {n : Nat} {k : Nat} (h : n < 2 ^ k) : n.log2 ≤ k := by
  by_cases z : n = 0
  · subst z; simp
  · exact Nat.le_of_lt ((Nat.log2_lt z).mpr h)
/-- a comprehension whose items are known by an invariant only -/
theorem lcB_inv {t : WG} {f : WE} {vs : List Nat} (J : Nat → List MV → DEnv → Prop) : ∀ (ds : List D) (n : Nat) (ρ : DEnv) (acc : List MV) (Q : List MV → DEnv → Prop), J n acc ρ → acc.length + ds.length ≤ lim →
    (∀ (i : Nat) (d : D) (acc : List MV) (ρ : DEnv) (K : MV → DEnv → Prop), ds[i]? = some d → J (n + i) acc ρ → (∀ m ρ', J (n + i + 1) (acc ++ [m]) ρ' → K m ρ') → t d (wipeD ρ vs) fun ρ1 => f ρ1 K) → (∀ acc ρ', J (n + ds.length) acc ρ' → Q acc ρ') → wLcB t wYes f vs ds ρ acc Q
  | [], n, ρ, acc, Q, hJ, _, _, hq => hq _ _ hJ
  | d :: ds, n, ρ, acc, Q, hJ, hl, hs, hq => by
    rw [List.length_cons] at hl
    unfold wLcB
    refine hs 0 d acc ρ (fun m ρ4 => acc.length < lim ∧ wLcB t wYes f vs ds ρ4 (acc ++ [m]) Q) rfl hJ fun m ρ' h' => ?_
    refine ⟨by omega, lcB_inv J ds (n + 1) ρ' (acc ++ [m]) Q h' (by rw [List.length_append, List.length_singleton]; omega) (fun i d' acc' ρ'' K e hi hk => ?_) fun acc' ρ'' h'' => ?_⟩
    · exact hs (i + 1) d' acc' ρ'' K (by simpa using e) (by rw [show n + (i + 1) = n + 1 + i by omega]; exact hi) fun m ρ3 h3 => hk m ρ3 (by rw [show n + 1 + i + 1 = n + (i + 1) + 1 by omega]; exact h3)
    · exact hq _ _ (by rw [List.length_cons, show n + (ds.length + 1) = n + 1 + ds.length by omega]; exact h'')
theorem lc_inv {t : WG} {f : WE} {vs : List Nat} {ds : List D} {ρ : DEnv} {Q : List MV → DEnv → Prop} (J : Nat → List MV → DEnv → Prop) (h0 : J 0 [] ρ) (hl : ds.length ≤ lim)
    (hs : ∀ (i : Nat) (d : D) (acc : List MV) (ρ : DEnv) (K : MV → DEnv → Prop), ds[i]? = some d → J i acc ρ → (∀ m ρ', J (i + 1) (acc ++ [m]) ρ' → K m ρ') → t d (wipeD ρ vs) fun ρ1 => f ρ1 K) (hf : ∀ acc ρ', J ds.length acc ρ' → Q acc ρ') : wLcB t wYes f vs ds ρ [] Q :=
  lcB_inv J ds 0 ρ [] Q h0 (by rw [List.length_nil, Nat.zero_add]; exact hl) (fun i d acc ρ K e hi hk => hs i d acc ρ K e (by rwa [Nat.zero_add] at hi) fun m ρ' h' => hk m ρ' (by rwa [Nat.zero_add])) fun acc ρ' h' => hf acc ρ' (by rwa [Nat.zero_add] at h')
def spThread : DSp := fun ms Q => ∃ (L : MV) (many : Nat) (place : Int), ms = [L, nI many, .fz (.int place)] ∧ LOk L ∧ 0 < many ∧ ∀ v L', LOk L' → v < many → Q (nI v) [L', .fz .non, .fz .non]
theorem m_thread (ms : List MV) (Q : MV → List MV → Prop) (hl : ms.length = 3) (hsp : spThread ms Q) : W__law_thread (endsF [true, false, false] Q) (env0 4 ms) := by
  obtain ⟨L, many, place, rfl, ⟨ts, at_, li, wh, rfl, h0, h1⟩, hm, hq⟩ := hsp
  unfold W__law_thread
  have e : env0 4 [LoomV ts at_ li wh, nI many, .fz (.int place)] = [some (LoomV ts at_ li wh), some (nI many), some (.fz (.int place)), none] := rfl
  rw [e]
  clear e
  have tail : ∀ (th li : Int), 0 ≤ li → li < 2147483629 →
      (wSeq (wSet 0 (wOp2 (g2 true dAdd) (wIx (wVar 0) true (wC (.str "at")) false) true (wC (.int 1)) false false) (wC (.str "at")))
      (wSeq (wIfS (wBool (wOp2 (g2 false dEq) (wIx (wVar 0) true (wC (.str "whim")) false) true (wVar 2) true false)) (wRet (wC (.int 0))) wSkip)
      (wRet (wIf (wBool (wOp2 (g2 false dEq) (wIx (wVar 0) true (wC (.str "whim")) false) true (wOp2 (g2 true dAdd) (wVar 2) true (wC (.int 8)) false false) false false)) (wOp2 (g2 true dSub) (wVar 1) true (wC (.int 1)) false false) (wOp2 (g2 true dMod) (wOp (g1 true dInt) (wCons (wVar 3) true false wNil)) false (wVar 1) true false)))))
      (endsF [true, false, false] Q) [some (LoomV ts at_ li wh), some (nI many), some (.fz (.int place)), some (.fz (.int th))] := fun th li h0 h1 => by
    have hL : LOk (.od false (LM (.lst (ts.map .int)) (.int ((at_ : Int) + 1)) (.int li) (.int wh))) := ⟨ts, at_ + 1, li, wh, rfl, h0, h1⟩
    and_intros
    refine tlx ix_lm1 ?_
    and_intros
    refine tput rfl put_lm1 ?_
    (try dsimp only [List.set_cons_zero, List.set_cons_succ, wipeD, putBack, toD_fz])
    and_intros
    refine tlx ix_lm3 ?_
    and_intros
    refine tifd (fun he => ?_) fun he => ?_
    · and_intros
      exact ⟨_, rfl, hq 0 _ hL hm⟩
    · and_intros
      refine tlx ix_lm3 ?_
      and_intros
      refine tifd (fun he => ?_) fun he => ?_
      · and_intros
        refine ⟨_, rfl, ?_⟩
        rw [show (many : Int) - 1 = ((many - 1 : Nat) : Int) by omega]
        exact hq _ _ hL (by omega)
      · and_intros
        have hm' : (0 : Int) < (many : Int) := by omega
        refine tl2 (ev_mod (by omega)) ?_
        have f1 := Int.fmod_nonneg_of_pos th hm'
        have f2 := Int.fmod_lt_of_pos th hm'
        refine ⟨_, rfl, ?_⟩
        rw [show th.fmod (many : Nat) = (((th.fmod (many : Nat)).toNat : Nat) : Int) by omega]
        exact hq _ _ hL (by omega)
  and_intros
  refine tlx ix_lm1 ?_
  and_intros
  refine tlx ix_lm0 ?_
  and_intros
  rw [List.length_map]
  refine tif (fun hlt => ?_) fun hge => ?_
  · and_intros
    refine tlx ix_lm0 ?_
    and_intros
    refine tlx ix_lm1 ?_
    have et : ts[at_]? = some ts[at_] := List.getElem?_eq_getElem hlt
    refine tlx (ix_lst (x := .int ts[at_]) (by rw [List.getElem?_map, et]; rfl)) ?_
    refine tlz ?_
    refine tlen rfl ?_
    exact tail _ _ h0 h1
  · and_intros
    refine tlx ix_lm2 ?_
    and_intros
    refine tl2 (ev_mul ?_) ?_
    · have := log2_le (n := li.natAbs) (k := 31) (by omega)
      have := log2_le (n := (39373 : Int).natAbs) (k := 16) (by decide)
      omega
    and_intros
    refine tlx ix_lm1 ?_
    and_intros
    refine tl2 (ev_mod (by decide)) ?_
    and_intros
    refine tput rfl put_lm2 ?_
    (try dsimp only [List.set_cons_zero, List.set_cons_succ, wipeD, putBack, toD_fz])
    have f1 := Int.fmod_nonneg_of_pos (li * 39373 + (at_ : Nat)) (b := 2147483629) (by decide)
    have f2 := Int.fmod_lt_of_pos (li * 39373 + (at_ : Nat)) (b := 2147483629) (by decide)
    and_intros
    refine tlx ix_lm2 ?_
    and_intros
    refine tl2 (ev_fdiv (by decide)) ?_
    refine tlen rfl ?_
    exact tail _ _ f1 f2
end DL

namespace DL
open PySem PySem.Spec PyProof.Rows L2
local macro_rules | `(tactic| and_intros) => `(tactic| (repeat' (first | (with_reducible refine st_seq ?_) | (with_reducible refine st_asg ?_) | (with_reducible refine st_asgT ?_) | (with_reducible refine st_expr ?_) | (with_reducible refine st_ret ?_) | (with_reducible refine st_if ?_) | (with_reducible refine st_set ?_) | (with_reducible refine st_for ?_) | (with_reducible refine st_par ?_) | (with_reducible refine st_c ?_) | (with_reducible refine st_view ?_) | (with_reducible refine st_op1 ?_) | (with_reducible refine st_op2 ?_) | (with_reducible refine st_op ?_) | (with_reducible refine st_ix ?_) | (with_reducible refine st_nil ?_) | (with_reducible refine st_cons ?_) | (with_reducible refine st_consM ?_) | (with_reducible refine st_lst ?_) | (with_reducible refine st_tup ?_) | (with_reducible refine st_call ?_) | (with_reducible refine st_callK ?_) | (with_reducible refine st_ife ?_) | (with_reducible refine st_ok ?_) | (with_reducible refine st_dic ?_) | (with_reducible refine st_isi ?_) | (with_reducible refine st_sl ?_) | (with_reducible refine st_part0 ?_) | (with_reducible refine st_part1 ?_) | (with_reducible refine st_bool ?_) | (with_reducible refine st_notT ?_) | (with_reducible refine st_andT ?_) | (with_reducible refine st_orT ?_) | (with_reducible refine st_yes ?_) | (with_reducible refine st_andV ?_) | (with_reducible refine st_orV ?_) | (with_reducible refine st_notV ?_) | (with_reducible refine st_it ?_) | (with_reducible refine st_rg1 ?_) | (with_reducible refine st_enum ?_) | (with_reducible refine st_zip ?_) | (with_reducible refine st_lc ?_) | (with_reducible refine st_frz ?_) | ((with_reducible apply st_var); exact rfl) | ((with_reducible apply st_mov); exact rfl) | ((with_reducible apply st_lend); exact rfl) | ((with_reducible apply st_escf); exact rfl) | ((with_reducible apply st_esco); exact rfl) | ((with_reducible apply st_escd); exact rfl) | ((with_reducible apply st_aug); exact rfl) | ((with_reducible apply st_gn); exact rfl) | ((with_reducible apply st_gt); exact rfl) | (with_reducible refine st_gnil ?_) | (with_reducible refine st_gcons ?_) | ((with_reducible apply st_setd); exact ⟨_, _, rfl⟩) | ((with_reducible apply st_app); exact ⟨_, rfl⟩) | (with_reducible refine tl2 ev_lt ?_) | (with_reducible refine tl2 ev_cmp ?_) | (with_reducible refine tl2 ev_add ?_) | (with_reducible refine tl2 ev_sub ?_) | (with_reducible refine tl2 ev_eqI ?_) | (with_reducible refine tl2 ev_neI ?_) | (with_reducible refine tl2 ev_max ?_) | (with_reducible refine tl2 ev_min ?_) | (with_reducible refine tl2' ev_lt ?_) | (with_reducible refine tl2' ev_cmp ?_) | (with_reducible refine tl2' ev_add ?_) | (with_reducible refine tl2' ev_sub ?_) | (with_reducible refine tl2' ev_eqI ?_) | (with_reducible refine tl2' ev_neI ?_) | (with_reducible refine tl2' ev_max ?_) | (with_reducible refine tl2' ev_min ?_) | (with_reducible refine tl1 ev_neg ?_) | (with_reducible refine tl1 ev_lenO ?_) | (with_reducible refine tl1 ev_lenL ?_) | (with_reducible refine tl1 ev_lenT ?_) | (with_reducible refine tl1 ev_lenC ?_) | (with_reducible refine tl1 ev_lenD ?_) | (with_reducible refine tl1 ev_intI ?_) | (with_reducible refine tl1 ev_intB ?_) | (with_reducible refine tl1 ev_abs ?_) | (with_reducible refine tl1 ev_tupO ?_) | (with_reducible refine tl1 ev_tupL ?_) | (with_reducible refine tlz ?_) | (with_reducible refine tlb ?_) | (with_reducible refine tli ?_) | (with_reducible refine tlt ?_) | (with_reducible refine tll ?_) | (with_reducible refine tlo ?_) | (with_reducible refine tlc ?_) | (with_reducible refine ⟨len1, ?_⟩) | (with_reducible refine ⟨len2, ?_⟩) | (with_reducible refine ⟨len3, ?_⟩) | (with_reducible refine ⟨len0, ?_⟩) | (with_reducible refine ⟨len4, ?_⟩) | (with_reducible refine ⟨len5, ?_⟩) | (with_reducible refine ⟨len6, ?_⟩) | ((with_reducible apply tlen); exact rfl) | ((with_reducible apply tset); exact rfl))))

theorem ev_addN {xs ys : List Nat} (h : xs.length + ys.length ≤ lim) : g2 true dAdd [.ol (nM xs), .ol (nM ys)] = some (.ol (nM (xs ++ ys))) := by
  show (if (true && !((MV.ol (nM xs)).shal && (MV.ol (nM ys)).shal)) = true then none else dAdd (MV.ol (nM xs)).toD (MV.ol (nM ys)).toD) = _
  rw [shal_nM, shal_nM, toD_nM, toD_nM]
  have e : dAdd (dLn xs) (dLn ys) = if (xs.map fun j => D.int (j : Nat)).length + (ys.map fun j => D.int (j : Nat)).length ≤ lim then some (.ol (((xs.map fun j => D.int (j : Nat)) ++ (ys.map fun j => D.int (j : Nat))).map .fz)) else none := rfl
  show dAdd (dLn xs) (dLn ys) = _
  rw [e, if_pos (by rw [List.length_map, List.length_map]; exact h), ← List.map_append, nM_fz]
theorem ev_lenS {cs : List Nat} (h : cs.length ≤ lim) : g1 false dLen [.fz (dT cs)] = some (nI cs.length) := by
  show (if (sT cs).length ≤ lim then some (MV.fz (.int (sT cs).length)) else none) = _
  exact if_pos h
theorem ev_tupRw (rows : List (List Nat)) : g1 true dTuple [.ol (rwM rows)] = some (.fz (dS rows)) := by
  have : rwM rows = (rows.map dN).map MV.fz := by unfold rwM; rw [List.map_map]; rfl
  rw [this]; exact ev_tupO
def spSteps : DSp := fun ms Q => ∃ (L : MV) (many k : Nat) (letters : List Nat), ms = [L, nI many, .fz (dT letters)] ∧ LOk L ∧ 0 < many ∧ many ≤ 1000 ∧ letters.length = k ∧ 0 < k ∧ k ≤ 1000 ∧
  ∀ (steps : List (List Nat)) L', LOk L' → steps.length = many → (∀ row ∈ steps, row.length = k ∧ ∀ j ∈ row, j < many) → Q (.fz (dS steps)) [L', .fz .non, .fz .non]
def kWay (k many : Nat) : D → MV
  | .int j => .fz (dN (List.replicate (k - 1) j.toNat ++ [(j.toNat + 1) % many]))
  | _ => .fz .non
theorem m_steps (ms : List MV) (Q : MV → List MV → Prop) (hl : ms.length = 3) (hsp : spSteps ms Q) : W__law_steps spThread (endsF [true, false, false] Q) (env0 6 ms) := by
  obtain ⟨L, many, k, letters, rfl, hL, hm, hm2, hlk, hk, hk2, hq⟩ := hsp
  have hlim : lim = 16777216 := rfl
  unfold W__law_steps
  have e : env0 6 [L, nI many, .fz (dT letters)] = [some L, some (nI many), some (.fz (dT letters)), none, none, none] := rfl
  rw [e]
  clear e
  and_intros
  (try dsimp only [List.set_cons_zero, List.set_cons_succ, wipeD, putBack, toD_fz])
  refine ⟨L, 3, 0, rfl, hL, by decide, fun v L hL hv => ?_⟩
  (try dsimp only [List.set_cons_zero, List.set_cons_succ, wipeD, putBack, toD_fz])
  and_intros
  (try dsimp only [List.set_cons_zero, List.set_cons_succ, wipeD, putBack, toD_fz])
  and_intros
  refine tifd (fun he => ?_) fun he => ?_
  · and_intros
    refine ⟨by omega, by omega, rfl, ?_⟩
    rw [Int.toNat_natCast]
    refine lcB_map (k := kWay k many) _ _ [] _ (fun ρ => ∃ o4, ρ = [some L, some (nI many), some (.fz (dT letters)), some (nI v), o4, none]) ⟨_, rfl⟩ ?_ (fun d hd ρ ⟨o, e⟩ K hK => ?_) fun ρ ⟨o, e⟩ => ?_
    · rw [List.length_nil, List.length_map, List.length_range]; omega
    · subst e
      obtain ⟨s, hs, rfl⟩ := List.mem_map.mp hd
      (try dsimp only [List.set_cons_zero, List.set_cons_succ, wipeD, putBack, toD_fz])
      and_intros
      (try dsimp only [List.set_cons_zero, List.set_cons_succ, wipeD, putBack, toD_fz])
      and_intros
      refine tl1 (ev_lenS (by omega)) ?_
      and_intros
      rw [show ((letters.length : Nat) : Int) - 1 = ((k - 1 : Nat) : Int) by omega]
      refine tl2 (ev_rep (by omega)) ?_
      and_intros
      refine tl2 (ev_mod (by omega)) ?_
      and_intros
      have e1 : ((s : Int) + 1).fmod (many : Nat) = (((s + 1) % many : Nat) : Int) := by
        rw [Int.fmod_eq_emod_of_nonneg _ (by omega)]; rfl
      rw [e1]
      have e2 : List.replicate (k - 1) (MV.fz (.int (s : Nat))) = nM (List.replicate (k - 1) s) := by unfold nM; rw [List.map_replicate]
      rw [e2]
      refine tl2 (show g2 true dAdd [.ol (nM (List.replicate (k - 1) s)), .ol (nM [(s + 1) % many])] = some (.ol (nM (List.replicate (k - 1) s ++ [(s + 1) % many]))) from ev_addN (by rw [List.length_replicate, List.length_singleton]; omega)) ?_
      and_intros
      refine tl1 (ev_tupN _) ?_
      exact hK _ ⟨_, rfl⟩
    · subst e
      have ea : ([] : List MV) ++ ((List.range many).map fun k => D.int (k : Nat)).map (kWay k many) = rwM ((List.range many).map fun s => List.replicate (k - 1) s ++ [(s + 1) % many]) := by
        rw [List.nil_append]
        unfold rwM
        rw [List.map_map, List.map_map]; rfl
      rw [ea]
      (try dsimp only [List.set_cons_zero, List.set_cons_succ, wipeD, restD, List.getElem?_cons_zero, List.getElem?_cons_succ, Option.getD_some])
      and_intros
      refine tl1 (ev_tupRw _) ?_
      refine ⟨_, rfl, hq _ L hL (by rw [List.length_map, List.length_range]) fun row hrow => ?_⟩
      obtain ⟨s, hs, rfl⟩ := List.mem_map.mp hrow
      have hs := List.mem_range.mp hs
      refine ⟨by rw [List.length_append, List.length_replicate, List.length_singleton]; omega, fun j hj => ?_⟩
      rcases List.mem_append.mp hj with z | z
      · rw [(List.mem_replicate.mp z).2]; exact hs
      · rw [List.mem_singleton.mp z]; exact Nat.mod_lt _ hm
  · and_intros
    refine ⟨by omega, by omega, rfl, ?_⟩
    rw [Int.toNat_natCast]
    refine lc_inv (fun i acc ρ => ∃ (rows : List (List Nat)) (L : MV) (o4 : Option MV), acc = rwM rows ∧ ρ = [some L, some (nI many), some (.fz (dT letters)), some (nI v), o4, none] ∧ LOk L ∧ rows.length = i ∧ ∀ row ∈ rows, row.length = k ∧ ∀ j ∈ row, j < many)
      ⟨[], L, none, rfl, rfl, hL, rfl, fun row h => (nomatch h)⟩ ?_ (fun i d acc ρ K ed ⟨rows, L, o4, ea, e, hL, hrl, hr⟩ hK => ?_) fun acc ρ ⟨rows, L, o4, ea, e, hL, hrl, hr⟩ => ?_
    · rw [List.length_map, List.length_range]; omega
    · subst e ea
      (try dsimp only [List.set_cons_zero, List.set_cons_succ, wipeD, putBack, toD_fz])
      and_intros
      (try dsimp only [List.set_cons_zero, List.set_cons_succ, wipeD, putBack, toD_fz])
      and_intros
      refine ⟨_, items_T _, rfl, ?_⟩
      generalize hds : some (MV.fz d) = o4'
      refine lc_inv (fun i acc ρ => ∃ (row : List Nat) (L : MV) (o5 : Option MV), acc = nM row ∧ ρ = [some L, some (nI many), some (.fz (dT letters)), some (nI v), o4', o5] ∧ LOk L ∧ row.length = i ∧ ∀ j ∈ row, j < many)
        ⟨[], L, none, rfl, rfl, hL, rfl, fun row h => (nomatch h)⟩ ?_ (fun i2 d2 acc ρ K2 ed2 ⟨row, L, o5, ea, e, hL, hrl2, hr2⟩ hK2 => ?_) fun acc ρ ⟨row, L, o5, ea, e, hL, hrl2, hr2⟩ => ?_
      · rw [List.length_map]; omega
      · subst e ea
        (try dsimp only [List.set_cons_zero, List.set_cons_succ, wipeD, putBack, toD_fz])
        and_intros
        (try dsimp only [List.set_cons_zero, List.set_cons_succ, wipeD, putBack, toD_fz])
        and_intros
        (try dsimp only [List.set_cons_zero, List.set_cons_succ, wipeD, putBack, toD_fz])
        refine ⟨L, many, 1, rfl, hL, hm, fun v L hL hv => ?_⟩
        (try dsimp only [List.set_cons_zero, List.set_cons_succ, wipeD, putBack, toD_fz])
        refine hK2 _ _ ⟨row ++ [v], L, _, nM_app _ _, rfl, hL, by rw [List.length_append, List.length_singleton, hrl2], fun j hj => ?_⟩
        rcases List.mem_append.mp hj with z | z
        · exact hr2 j z
        · rw [List.mem_singleton.mp z]; exact hv
      · subst e ea
        rw [List.length_map] at hrl2
        (try dsimp only [List.set_cons_zero, List.set_cons_succ, wipeD, restD, List.getElem?_cons_zero, List.getElem?_cons_succ, Option.getD_some])
        and_intros
        refine tl1 (ev_tupN _) ?_
        refine hK _ _ ⟨rows ++ [row], L, _, rwM_app _ _, rfl, hL, by rw [List.length_append, List.length_singleton, hrl], fun rw_ hrw => ?_⟩
        rcases List.mem_append.mp hrw with z | z
        · exact hr _ z
        · rw [List.mem_singleton.mp z]
          exact ⟨by omega, hr2⟩
    · subst e ea
      rw [List.length_map, List.length_range] at hrl
      (try dsimp only [List.set_cons_zero, List.set_cons_succ, wipeD, restD, List.getElem?_cons_zero, List.getElem?_cons_succ, Option.getD_some])
      and_intros
      refine tl1 (ev_tupRw _) ?_
      exact ⟨_, rfl, hq _ L hL hrl hr⟩
end DL

namespace DL
open PySem PySem.Spec PyProof.Rows L2
local macro_rules | `(tactic| and_intros) => `(tactic| (repeat' (first | (with_reducible refine st_seq ?_) | (with_reducible refine st_asg ?_) | (with_reducible refine st_asgT ?_) | (with_reducible refine st_expr ?_) | (with_reducible refine st_ret ?_) | (with_reducible refine st_if ?_) | (with_reducible refine st_set ?_) | (with_reducible refine st_for ?_) | (with_reducible refine st_par ?_) | (with_reducible refine st_c ?_) | (with_reducible refine st_view ?_) | (with_reducible refine st_op1 ?_) | (with_reducible refine st_op2 ?_) | (with_reducible refine st_op ?_) | (with_reducible refine st_ix ?_) | (with_reducible refine st_nil ?_) | (with_reducible refine st_cons ?_) | (with_reducible refine st_consM ?_) | (with_reducible refine st_lst ?_) | (with_reducible refine st_tup ?_) | (with_reducible refine st_call ?_) | (with_reducible refine st_callK ?_) | (with_reducible refine st_ife ?_) | (with_reducible refine st_ok ?_) | (with_reducible refine st_dic ?_) | (with_reducible refine st_isi ?_) | (with_reducible refine st_sl ?_) | (with_reducible refine st_part0 ?_) | (with_reducible refine st_part1 ?_) | (with_reducible refine st_bool ?_) | (with_reducible refine st_notT ?_) | (with_reducible refine st_andT ?_) | (with_reducible refine st_orT ?_) | (with_reducible refine st_yes ?_) | (with_reducible refine st_andV ?_) | (with_reducible refine st_orV ?_) | (with_reducible refine st_notV ?_) | (with_reducible refine st_it ?_) | (with_reducible refine st_rg1 ?_) | (with_reducible refine st_enum ?_) | (with_reducible refine st_zip ?_) | (with_reducible refine st_lc ?_) | (with_reducible refine st_frz ?_) | ((with_reducible apply st_var); exact rfl) | ((with_reducible apply st_mov); exact rfl) | ((with_reducible apply st_lend); exact rfl) | ((with_reducible apply st_escf); exact rfl) | ((with_reducible apply st_esco); exact rfl) | ((with_reducible apply st_escd); exact rfl) | ((with_reducible apply st_aug); exact rfl) | ((with_reducible apply st_gn); exact rfl) | ((with_reducible apply st_gt); exact rfl) | (with_reducible refine st_gnil ?_) | (with_reducible refine st_gcons ?_) | ((with_reducible apply st_setd); exact ⟨_, _, rfl⟩) | ((with_reducible apply st_app); exact ⟨_, rfl⟩) | (with_reducible refine tl2 ev_lt ?_) | (with_reducible refine tl2 ev_cmp ?_) | (with_reducible refine tl2 ev_add ?_) | (with_reducible refine tl2 ev_sub ?_) | (with_reducible refine tl2 ev_eqI ?_) | (with_reducible refine tl2 ev_neI ?_) | (with_reducible refine tl2 ev_max ?_) | (with_reducible refine tl2 ev_min ?_) | (with_reducible refine tl2' ev_lt ?_) | (with_reducible refine tl2' ev_cmp ?_) | (with_reducible refine tl2' ev_add ?_) | (with_reducible refine tl2' ev_sub ?_) | (with_reducible refine tl2' ev_eqI ?_) | (with_reducible refine tl2' ev_neI ?_) | (with_reducible refine tl2' ev_max ?_) | (with_reducible refine tl2' ev_min ?_) | (with_reducible refine tl1 ev_neg ?_) | (with_reducible refine tl1 ev_lenO ?_) | (with_reducible refine tl1 ev_lenL ?_) | (with_reducible refine tl1 ev_lenT ?_) | (with_reducible refine tl1 ev_lenC ?_) | (with_reducible refine tl1 ev_lenD ?_) | (with_reducible refine tl1 ev_intI ?_) | (with_reducible refine tl1 ev_intB ?_) | (with_reducible refine tl1 ev_abs ?_) | (with_reducible refine tl1 ev_tupO ?_) | (with_reducible refine tl1 ev_tupL ?_) | (with_reducible refine tlz ?_) | (with_reducible refine tlb ?_) | (with_reducible refine tli ?_) | (with_reducible refine tlt ?_) | (with_reducible refine tll ?_) | (with_reducible refine tlo ?_) | (with_reducible refine tlc ?_) | (with_reducible refine ⟨len1, ?_⟩) | (with_reducible refine ⟨len2, ?_⟩) | (with_reducible refine ⟨len3, ?_⟩) | (with_reducible refine ⟨len0, ?_⟩) | (with_reducible refine ⟨len4, ?_⟩) | (with_reducible refine ⟨len5, ?_⟩) | (with_reducible refine ⟨len6, ?_⟩) | ((with_reducible apply tlen); exact rfl) | ((with_reducible apply tset); exact rfl))))

def spSame : DSp := fun ms Q => ∃ a : List Nat, ms = [.fz (dT a), .fz (dT a)] ∧ Q (.fz (.bl true)) [.fz .non, .fz .non]
theorem m_same (ms : List MV) (Q : MV → List MV → Prop) (hl : ms.length = 2) (hsp : spSame ms Q) : W__law_same (endsF [false, false] Q) (env0 2 ms) := by
  obtain ⟨a, rfl, hq⟩ := hsp
  unfold W__law_same
  have e : env0 2 [MV.fz (dT a), .fz (dT a)] = [some (.fz (dT a)), some (.fz (dT a))] := rfl
  rw [e]
  clear e
  and_intros
  refine ⟨true, rfl, ?_⟩
  and_intros
  rw [if_pos rfl]
  and_intros
  refine tl2 ev_eqT ?_
  rw [decide_eq_true rfl]
  exact ⟨_, rfl, hq⟩
def spShort : DSp := fun ms Q => ∃ (L : MV) (letters : List Nat) (most : Nat), ms = [L, .fz (dT letters), nI most] ∧ LOk L ∧ 0 < letters.length ∧ letters.length ≤ 1000 ∧ most ≤ 1000 ∧
  ∀ (text : List Nat) L', LOk L' → text.length ≤ most → (∀ c ∈ text, c ∈ letters) → Q (.fz (dT text)) [L', .fz .non, .fz .non]
theorem m_short (ms : List MV) (Q : MV → List MV → Prop) (hl : ms.length = 3) (hsp : spShort ms Q) : W__law_short spThread (endsF [true, false, false] Q) (env0 4 ms) := by
  obtain ⟨L, letters, most, rfl, hL, hl0, hl1, hmo, hq⟩ := hsp
  have hlim : lim = 16777216 := rfl
  unfold W__law_short
  have e : env0 4 [L, .fz (dT letters), nI most] = [some L, some (.fz (dT letters)), some (nI most), none] := rfl
  rw [e]
  clear e
  and_intros
  refine ⟨rfl, ?_⟩
  and_intros
  (try dsimp only [List.set_cons_zero, List.set_cons_succ, wipeD, putBack, toD_fz])
  refine ⟨L, most + 1, 8, rfl, hL, by omega, fun n L hL hn => ?_⟩
  (try dsimp only [List.set_cons_zero, List.set_cons_succ, wipeD, putBack, toD_fz])
  refine ⟨(n : Nat), rfl, by omega, by omega, rfl, ?_⟩
  rw [Int.toNat_natCast]
  refine lc_inv (fun i acc ρ => ∃ (text : List Nat) (L : MV) (o3 : Option MV), acc = tM (ones text) ∧ ρ = [some L, some (.fz (dT letters)), some (nI most), o3] ∧ LOk L ∧ text.length = i ∧ ∀ c ∈ text, c ∈ letters)
    ⟨[], L, none, rfl, rfl, hL, rfl, fun c h => (nomatch h)⟩ ?_ (fun i d acc ρ K ed ⟨text, L, o3, ea, e, hL, htl, htc⟩ hK => ?_) fun acc ρ ⟨text, L, o3, ea, e, hL, htl, htc⟩ => ?_
  · rw [List.length_map, List.length_range]; omega
  · subst e ea
    (try dsimp only [List.set_cons_zero, List.set_cons_succ, wipeD, putBack, toD_fz])
    and_intros
    (try dsimp only [List.set_cons_zero, List.set_cons_succ, wipeD, putBack, toD_fz])
    and_intros
    refine tl1 (ev_lenS (by omega)) ?_
    refine ⟨L, letters.length, 7, rfl, hL, hl0, fun v L hL hv => ?_⟩
    (try dsimp only [List.set_cons_zero, List.set_cons_succ, wipeD, putBack, toD_fz])
    have ev : letters[v]? = some letters[v] := List.getElem?_eq_getElem hv
    have hm : letters[v] ∈ letters := List.getElem_mem _
    generalize letters[v] = c at ev hm
    refine tlx' (ix_T ev (by omega)) ?_
    refine hK _ _ ⟨text ++ [c], L, _, by unfold ones; rw [List.map_append]; exact tM_app _ _, rfl, hL, by rw [List.length_append, List.length_singleton, htl], fun b hb => ?_⟩
    rcases List.mem_append.mp hb with z | z
    · exact htc b z
    · rw [List.mem_singleton.mp z]; exact hm
  · subst e ea
    rw [List.length_map, List.length_range] at htl
    (try dsimp only [List.set_cons_zero, List.set_cons_succ, wipeD, restD, List.getElem?_cons_zero, List.getElem?_cons_succ, Option.getD_some])
    have hjl : text.length ≤ lim := by omega
    refine tl2' (ev_join (by rw [flat_ones]; exact hjl)) ?_
    rw [flat_ones]
    exact ⟨_, rfl, hq text L hL (by omega) htc⟩
/-! ### _law_marks -/
def kPair (letters : List Nat) : D → MV
  | .int j => .fz (.tup [dT [(letters[j.toNat]?).getD 0], .int j])
  | _ => .fz .non
theorem pairs_zn : ∀ (ks : List D) (i : Nat), (∀ k ∈ ks, keyOk false k = true) → D.pairs ((zn i ks).map fun p => .tup [p.1, p.2]) = some (zn i ks)
  | [], _, _ => rfl
  | k :: ks, i, h => by
    rw [zn, List.map_cons]
    unfold D.pairs
    rw [pairs_zn ks (i + 1) fun k hk => h k (List.mem_cons_of_mem _ hk)]
    have := h k (List.mem_cons_self ..)
    simp [this]
theorem merge_zn : ∀ (post pre : List Nat), (pre ++ post).Nodup → mergeD (zn 0 (qT pre)) (zn pre.length (qT post)) = zn 0 (qT (pre ++ post))
  | [], pre, _ => by rw [List.append_nil]; rfl
  | c :: post, pre, nd => by
    have hnot : ((qT pre).any fun x => sameK x (dT [c])) = false := by
      rw [List.any_eq_false]
      intro x hx hxe
      obtain ⟨b, hb, rfl⟩ := List.mem_map.mp hx
      rw [sameK_T] at hxe
      have hbc : b = c := by simpa using hxe
      exact (List.nodup_append.mp nd).2.2 b hb c (List.mem_cons_self ..) hbc
    have hq2 : (qT pre).length = pre.length := List.length_map ..
    have h1 := dput_zn hnot
    rw [hq2] at h1
    have e2 : qT pre ++ [dT [c]] = qT (pre ++ [c]) := (List.map_append (f := fun c => dT [c]) (l₁ := pre) (l₂ := [c])).symm
    show mergeD (dput (zn 0 (qT pre)) (dT [c]) (.int (pre.length : Nat))) (zn (pre.length + 1) (qT post)) = _
    rw [h1, e2, show pre.length + 1 = (pre ++ [c]).length by rw [List.length_append, List.length_singleton], merge_zn post (pre ++ [c]) (by rw [List.append_assoc]; exact nd), List.append_assoc]; rfl
theorem zn_range : ∀ (cs : List Nat), (List.range cs.length).map (fun j => (dT [(cs[j]?).getD 0], D.int (j : Nat))) = zn 0 (qT cs) := by
  intro cs
  refine snoc_ind (P := fun cs => (List.range cs.length).map (fun j => (dT [(cs[j]?).getD 0], D.int (j : Nat))) = zn 0 (qT cs)) rfl (fun l s ih => ?_) cs
  have e2 : qT (l ++ [s]) = qT l ++ [dT [s]] := List.map_append (f := fun c => dT [c]) (l₁ := l) (l₂ := [s])
  rw [e2, zn_app, ← ih, List.length_append, List.length_singleton, List.range_succ, List.map_append, List.map_singleton, List.getElem?_concat_length, Nat.zero_add, List.length_map]
  congr 1
  refine List.map_congr_left fun j hj => ?_
  rw [List.getElem?_append_left (List.mem_range.mp hj)]
theorem ev_dict {letters : List Nat} (nd : letters.Nodup) : g1 true dDict [.ol (((List.range letters.length).map fun j => D.int (j : Nat)).map (kPair letters))] = some (.od false (zipI 0 (qT letters))) := by
  have e1 : ((List.range letters.length).map fun j => D.int (j : Nat)).map (kPair letters) = ((zn 0 (qT letters)).map fun p => D.tup [p.1, p.2]).map MV.fz := by
    rw [← zn_range, List.map_map, List.map_map, List.map_map]; rfl
  have h : (MV.ol (((zn 0 (qT letters)).map fun p => D.tup [p.1, p.2]).map MV.fz)).shal = true := by
    show (List.map MV.fz _).all _ = true
    rw [List.all_map]
    exact List.all_eq_true.mpr fun _ _ => rfl
  rw [e1]
  show (if (true && !(MV.ol (((zn 0 (qT letters)).map fun p => D.tup [p.1, p.2]).map MV.fz)).shal) = true then none else dDict (MV.ol (((zn 0 (qT letters)).map fun p => D.tup [p.1, p.2]).map MV.fz)).toD) = _
  rw [h, toD_ol_fz]
  show (D.pairs _).map _ = _
  rw [pairs_zn _ _ fun k hk => by obtain ⟨c, _, rfl⟩ := List.mem_map.mp hk; rfl]
  have := merge_zn letters [] nd
  show some (MV.od false (fzs (mergeD [] (zn 0 (qT letters))))) = _
  rw [show mergeD [] (zn 0 (qT letters)) = zn 0 (qT letters) from this, fzs_zn]
def spLMarks : DSp := fun ms Q => ∃ (R : Rd) (k : Nat) (F B : Nat → Prop) (text : List Nat), ms = [.fz (dR R), .fz (dT text)] ∧ Good R k F B ∧ R.letters.Nodup ∧ R.letters.length = k ∧ k ≤ 1000 ∧ text.length < lim ∧ (∀ c ∈ text, c ∈ R.letters) ∧
  Q (.fz (dT (marks R 0 0 (text.map (num R.letters))))) [.fz .non, .fz .non]
theorem ev_revT {cs : List Nat} (h : cs.length ≤ lim) : g1 true dRevS [.fz (dT cs)] = some (.fz (dT cs.reverse)) := by
  show (if (sT cs).length ≤ lim then some (MV.fz (.str (revS (sT cs)))) else none) = _
  exact if_pos h
theorem m_lmarks (ms : List MV) (Q : MV → List MV → Prop) (hl : ms.length = 2) (hsp : spLMarks ms Q) : W__law_marks (endsF [false, false] Q) (env0 13 ms) := by
  obtain ⟨⟨letters, forth, back, table⟩, k, F, B, text, rfl, G, nd, hk, hk1, htl, hin, hq⟩ := hsp
  dsimp only at nd hk hin hq
  have hlim : lim = 16777216 := rfl
  unfold W__law_marks
  have e : env0 13 [MV.fz (dR ⟨letters, forth, back, table⟩), .fz (dT text)] = [some (.fz (dR ⟨letters, forth, back, table⟩)), some (.fz (dT text)), none, none, none, none, none, none, none, none, none, none, none] := rfl
  rw [e]
  clear e
  and_intros
  (try dsimp only [List.set_cons_zero, List.set_cons_succ, wipeD, putBack, toD_fz])
  and_intros
  have hll : letters.length ≤ 1000 := by omega
  refine tl1 (ev_lenS (cs := letters) (by omega)) ?_
  refine ⟨(letters.length : Nat), rfl, by omega, by omega, rfl, ?_⟩
  rw [Int.toNat_natCast]
  refine lcB_map (k := kPair letters) _ _ [] _ (fun ρ => ∃ o7, ρ = [some (.fz (dR ⟨letters, forth, back, table⟩)), some (.fz (dT text)), some (.fz (dT letters)), some (.fz (dS forth)), some (.fz (dS back)), some (.fz (dTab table)), none, o7, none, none, none, none, none]) ⟨_, rfl⟩ ?_ (fun d hd ρ ⟨o, e⟩ K hK => ?_) fun ρ ⟨o, e⟩ => ?_
  · rw [List.length_nil, List.length_map, List.length_range]; omega
  · subst e
    obtain ⟨j, hj, rfl⟩ := List.mem_map.mp hd
    have hj := List.mem_range.mp hj
    have ej : letters[j]? = some ((letters[j]?).getD 0) := by rw [List.getElem?_eq_getElem hj]; rfl
    (try dsimp only [List.set_cons_zero, List.set_cons_succ, wipeD, putBack, toD_fz])
    and_intros
    (try dsimp only [List.set_cons_zero, List.set_cons_succ, wipeD, putBack, toD_fz])
    and_intros
    refine tlx (ix_T ej (by omega)) ?_
    and_intros
    exact hK _ ⟨_, rfl⟩
  subst e
  rw [List.nil_append]
  (try dsimp only [List.set_cons_zero, List.set_cons_succ, wipeD, restD, List.getElem?_cons_zero, List.getElem?_cons_succ, Option.getD_some])
  and_intros
  refine tl1 (ev_dict nd) ?_
  and_intros
  (try dsimp only [List.set_cons_zero, List.set_cons_succ, wipeD, putBack, toD_fz])
  and_intros
  generalize hnum : text.map (num letters) = nums at hq
  have hnl : nums.length = text.length := by rw [← hnum, List.length_map]
  have hnk : ∀ a ∈ nums, a < k := fun a ha => by
    rw [← hnum] at ha
    obtain ⟨c, hc, rfl⟩ := List.mem_map.mp ha
    rw [← hk]
    exact num_lt (hin c hc)
  refine tlen rfl (tlen rfl (tlen rfl ?_))
  show wSeq _ _ _ _
  (try dsimp only [List.set_cons_zero, List.set_cons_succ, wipeD, putBack, toD_fz])
  and_intros
  refine tl1 (ev_revT (by omega)) ?_
  refine ⟨_, items_T _, ?_⟩
  have hrev : nums.reverse = text.reverse.map (num letters) := by rw [← hnum, List.map_reverse]
  refine for_inv (fun i ρ => ∃ o11, ρ = [some (.fz (dR ⟨letters, forth, back, table⟩)), some (.fz (dT text)), some (.fz (dT letters)), some (.fz (dS forth)), some (.fz (dS back)), some (.fz (dTab table)), some (.od false (zipI 0 (qT letters))), none, some (.ol (nM (along back 0 (nums.reverse.take i)))), some (nI 0), some (.ol []), o11, none])
    ⟨_, rfl⟩ (fun i d ρ K ed ⟨o11, e⟩ hk2 => ?_) fun ρ ⟨o11, e⟩ => ?_
  · rw [List.getElem?_map] at ed
    obtain ⟨c, ec, rfl⟩ := Option.map_eq_some_iff.mp ed
    subst e
    have hct : c ∈ text := List.mem_reverse.mp (List.mem_of_getElem? ec)
    have ea : nums.reverse[i]? = some (num letters c) := by rw [hrev, List.getElem?_map, ec]; rfl
    have hB : B (run back 0 (nums.reverse.take i)) := G.clB.run G.b0 fun b hb => hnk b (List.mem_reverse.mp (List.mem_of_mem_take hb))
    obtain ⟨row, e1, e2, _⟩ := G.b _ _ hB (hnk _ (List.mem_reverse.mp (List.mem_of_getElem? ea)))
    dsimp only at e1 e2
    obtain ⟨pre, epre⟩ := along_last back (nums.reverse.take i) 0
    have hi := (List.getElem?_eq_some_iff.mp ea).1
    rw [List.length_reverse] at hi
    and_intros
    (try dsimp only [List.set_cons_zero, List.set_cons_succ, wipeD, putBack, toD_fz])
    and_intros
    have elast : (MV.ol (nM (along back 0 (nums.reverse.take i)))).ix (D.int (-1)) = some (nI (run back 0 (nums.reverse.take i))) := by
      rw [epre, ← nM_app]
      exact ix_last _ _
    refine tlx elast ?_
    refine tlx (ix_tup (x := dN row) (by rw [List.getElem?_map, e1]; rfl)) ?_
    and_intros
    refine tlx (ix_places (hin c hct)) ?_
    refine tlx (ix_tup (x := D.int (stp back (run back 0 (nums.reverse.take i)) (num letters c) : Nat)) (by rw [List.getElem?_map, e2]; rfl)) ?_
    and_intros
    refine tapp rfl (by rw [nM_len, along_len, List.length_take, List.length_reverse]; omega) ?_
    (try dsimp only [List.set_cons_zero, List.set_cons_succ, wipeD, putBack, toD_fz])
    rw [show nM (along back 0 (nums.reverse.take i)) ++ [MV.fz (D.int (stp back (run back 0 (nums.reverse.take i)) (num letters c) : Nat))] = nM (along back 0 (nums.reverse.take (i + 1))) by rw [take_snoc ea, along_snoc]; exact nM_app _ _]
    exact hk2 _ ⟨_, rfl⟩
  · subst e
    rw [show (qT text.reverse).length = nums.reverse.length by rw [List.length_map, List.length_reverse, List.length_reverse, hnl], List.take_length]
    and_intros
    refine tl1 (ev_lenS (cs := text) (by omega)) ?_
    refine ⟨(text.length : Nat), rfl, by omega, by omega, ?_⟩
    rw [Int.toNat_natCast]
    refine for_inv (fun i ρ => ∃ o7 o11 o12, ρ = [some (.fz (dR ⟨letters, forth, back, table⟩)), some (.fz (dT text)), some (.fz (dT letters)), some (.fz (dS forth)), some (.fz (dS back)), some (.fz (dTab table)), some (.od false (zipI 0 (qT letters))), o7, some (.ol (nM (along back 0 nums.reverse))), some (nI (run forth 0 (nums.take i))), some (.ol (tM (ones ((marks ⟨letters, forth, back, table⟩ 0 0 nums).take i)))), o11, o12])
      ⟨_, _, _, rfl⟩ (fun i d ρ K ed ⟨o7, o11, o12, e⟩ hk2 => ?_) fun ρ ⟨o7, o11, o12, e⟩ => ?_
    · rw [List.getElem?_map] at ed
      obtain ⟨j, ej, rfl⟩ := Option.map_eq_some_iff.mp ed
      have hij := List.getElem?_eq_some_iff.mp ej
      obtain ⟨hi0, hij⟩ := hij
      rw [List.length_range] at hi0
      rw [List.getElem_range] at hij
      subst hij
      subst e
      have ec : text[i]? = some text[i] := List.getElem?_eq_getElem hi0
      have hct : text[i] ∈ text := List.getElem_mem _
      generalize text[i] = c at ec hct
      have ea : nums[i]? = some (num letters c) := by rw [← hnum, List.getElem?_map, ec]; rfl
      have hi := (List.getElem?_eq_some_iff.mp ea).1
      have hF : F (run forth 0 (nums.take i)) := G.run G.f0 fun b hb => hnk b (List.mem_of_mem_take hb)
      have hB : B (bst back 0 (nums.drop (i + 1))) := G.bst G.b0 fun b hb => hnk b (List.mem_of_mem_drop hb)
      have hak := hnk _ (List.mem_of_getElem? ea)
      obtain ⟨row, x, t1, t2, t3, t4⟩ := G.t _ _ _ hF hB hak
      obtain ⟨frow, f1, f2, _⟩ := G.f _ _ hF hak
      have hmg := marks_get ⟨letters, forth, back, table⟩ 0 nums 0 i _ ea
      dsimp only at t1 t4 f1 f2 hmg
      and_intros
      (try dsimp only [List.set_cons_zero, List.set_cons_succ, wipeD, putBack, toD_fz])
      and_intros
      refine tlx (ix_T ec (by omega)) ?_
      refine tlx (ix_places (hin c hct)) ?_
      and_intros
      (try dsimp only [List.set_cons_zero, List.set_cons_succ, wipeD, putBack, toD_fz])
      and_intros
      refine tlx (ix_tup (x := dTs row) (by rw [List.getElem?_map, t1]; rfl)) ?_
      and_intros
      refine tlx (ix_tup (x := dT x) (by rw [List.getElem?_map, t2]; rfl)) ?_
      and_intros
      refine tl1 (ev_lenS (cs := text) (by omega)) ?_
      and_intros
      rw [show ((text.length : Nat) : Int) - 1 - (i : Nat) = ((nums.length - (i + 1) : Nat) : Int) by omega]
      refine tlx (ix_ol (j := nums.length - (i + 1)) (nM_get (along_get back 0 nums (j := i + 1) hi))) ?_
      refine tlx (ix_T t4 t3) ?_
      and_intros
      refine tapp rfl (by rw [tM_len, List.length_map, List.length_take]; omega) ?_
      (try dsimp only [List.set_cons_zero, List.set_cons_succ, wipeD, putBack, toD_fz])
      rw [tM_app, ← ones_take hmg]
      and_intros
      refine tlx (ix_tup (x := dN frow) (by rw [List.getElem?_map, f1]; rfl)) ?_
      and_intros
      refine tlx (ix_tup (x := D.int (stp forth (run forth 0 (nums.take i)) (num letters c) : Nat)) (by rw [List.getElem?_map, f2]; rfl)) ?_
      and_intros
      (try dsimp only [List.set_cons_zero, List.set_cons_succ, wipeD, putBack, toD_fz])
      rw [show stp forth (run forth 0 (nums.take i)) (num letters c) = run forth 0 (nums.take (i + 1)) by rw [take_snoc ea, run_app]; rfl]
      exact hk2 _ ⟨_, _, _, rfl⟩
    · subst e
      rw [List.length_map, List.length_range]
      have h1 : (marks ⟨letters, forth, back, table⟩ 0 0 nums).take text.length = marks ⟨letters, forth, back, table⟩ 0 0 nums := by
        rw [← hnl, show nums.length = (marks ⟨letters, forth, back, table⟩ 0 0 nums).length from (marks_len ..).symm, List.take_length]
      rw [h1]
      and_intros
      refine ⟨rfl, ?_⟩
      and_intros
      refine tl2 (ev_join (by rw [flat_ones, marks_len]; omega)) ?_
      rw [flat_ones]
      exact ⟨_, rfl, hq⟩
end DL

namespace DL
open PySem PySem.Spec PyProof.Rows L2
local macro_rules | `(tactic| and_intros) => `(tactic| (repeat' (first | (with_reducible refine st_seq ?_) | (with_reducible refine st_asg ?_) | (with_reducible refine st_asgT ?_) | (with_reducible refine st_expr ?_) | (with_reducible refine st_ret ?_) | (with_reducible refine st_if ?_) | (with_reducible refine st_set ?_) | (with_reducible refine st_for ?_) | (with_reducible refine st_par ?_) | (with_reducible refine st_c ?_) | (with_reducible refine st_view ?_) | (with_reducible refine st_op1 ?_) | (with_reducible refine st_op2 ?_) | (with_reducible refine st_op ?_) | (with_reducible refine st_ix ?_) | (with_reducible refine st_nil ?_) | (with_reducible refine st_cons ?_) | (with_reducible refine st_consM ?_) | (with_reducible refine st_lst ?_) | (with_reducible refine st_tup ?_) | (with_reducible refine st_call ?_) | (with_reducible refine st_callK ?_) | (with_reducible refine st_ife ?_) | (with_reducible refine st_ok ?_) | (with_reducible refine st_dic ?_) | (with_reducible refine st_isi ?_) | (with_reducible refine st_sl ?_) | (with_reducible refine st_part0 ?_) | (with_reducible refine st_part1 ?_) | (with_reducible refine st_bool ?_) | (with_reducible refine st_notT ?_) | (with_reducible refine st_andT ?_) | (with_reducible refine st_orT ?_) | (with_reducible refine st_yes ?_) | (with_reducible refine st_andV ?_) | (with_reducible refine st_orV ?_) | (with_reducible refine st_notV ?_) | (with_reducible refine st_it ?_) | (with_reducible refine st_rg1 ?_) | (with_reducible refine st_enum ?_) | (with_reducible refine st_zip ?_) | (with_reducible refine st_lc ?_) | (with_reducible refine st_frz ?_) | ((with_reducible apply st_var); exact rfl) | ((with_reducible apply st_mov); exact rfl) | ((with_reducible apply st_lend); exact rfl) | ((with_reducible apply st_escf); exact rfl) | ((with_reducible apply st_esco); exact rfl) | ((with_reducible apply st_escd); exact rfl) | ((with_reducible apply st_aug); exact rfl) | ((with_reducible apply st_gn); exact rfl) | ((with_reducible apply st_gt); exact rfl) | (with_reducible refine st_gnil ?_) | (with_reducible refine st_gcons ?_) | ((with_reducible apply st_setd); exact ⟨_, _, rfl⟩) | ((with_reducible apply st_app); exact ⟨_, rfl⟩) | (with_reducible refine tl2 ev_lt ?_) | (with_reducible refine tl2 ev_cmp ?_) | (with_reducible refine tl2 ev_add ?_) | (with_reducible refine tl2 ev_sub ?_) | (with_reducible refine tl2 ev_eqI ?_) | (with_reducible refine tl2 ev_neI ?_) | (with_reducible refine tl2 ev_max ?_) | (with_reducible refine tl2 ev_min ?_) | (with_reducible refine tl2' ev_lt ?_) | (with_reducible refine tl2' ev_cmp ?_) | (with_reducible refine tl2' ev_add ?_) | (with_reducible refine tl2' ev_sub ?_) | (with_reducible refine tl2' ev_eqI ?_) | (with_reducible refine tl2' ev_neI ?_) | (with_reducible refine tl2' ev_max ?_) | (with_reducible refine tl2' ev_min ?_) | (with_reducible refine tl1 ev_neg ?_) | (with_reducible refine tl1 ev_lenO ?_) | (with_reducible refine tl1 ev_lenL ?_) | (with_reducible refine tl1 ev_lenT ?_) | (with_reducible refine tl1 ev_lenC ?_) | (with_reducible refine tl1 ev_lenD ?_) | (with_reducible refine tl1 ev_intI ?_) | (with_reducible refine tl1 ev_intB ?_) | (with_reducible refine tl1 ev_abs ?_) | (with_reducible refine tl1 ev_tupO ?_) | (with_reducible refine tl1 ev_tupL ?_) | (with_reducible refine tlz ?_) | (with_reducible refine tlb ?_) | (with_reducible refine tli ?_) | (with_reducible refine tlt ?_) | (with_reducible refine tll ?_) | (with_reducible refine tlo ?_) | (with_reducible refine tlc ?_) | (with_reducible refine ⟨len1, ?_⟩) | (with_reducible refine ⟨len2, ?_⟩) | (with_reducible refine ⟨len3, ?_⟩) | (with_reducible refine ⟨len0, ?_⟩) | (with_reducible refine ⟨len4, ?_⟩) | (with_reducible refine ⟨len5, ?_⟩) | (with_reducible refine ⟨len6, ?_⟩) | ((with_reducible apply tlen); exact rfl) | ((with_reducible apply tset); exact rfl))))

def iM (xs : List Int) : List MV := xs.map fun i => .fz (.int i)
theorem iM_app (xs : List Int) (i : Int) : iM xs ++ [.fz (.int i)] = iM (xs ++ [i]) := by unfold iM; rw [List.map_append]; rfl
theorem iM_len (xs : List Int) : (iM xs).length = xs.length := List.length_map ..
theorem toD_iM (xs : List Int) : (MV.ol (iM xs)).toD = .lst (xs.map .int) := by
  have : iM xs = (xs.map D.int).map MV.fz := by unfold iM; rw [List.map_map]; rfl
  rw [this, toD_ol_fz]
theorem cut_mem {xs : List D} {lo hi : Option Int} {d : D} (h : d ∈ cutD xs lo hi) : d ∈ xs := by
  unfold cutD at h
  exact List.mem_of_mem_drop (List.mem_of_mem_take h)
theorem sIx_hi (n : Nat) (h : Nat) : HT.sIx n n (some (h : Nat)) ≤ h := by
  rw [HT.sIx_nat]
  exact Nat.min_le_left _ _
theorem tifB {b : Bool} {P Q : Prop} (h1 : b = true → P) (h2 : b = false → Q) : if b = true then P else Q := by
  cases b with
  | true => rw [if_pos rfl]; exact h1 rfl
  | false => rw [if_neg Bool.false_ne_true]; exact h2 rfl
theorem shal_fz (ds : List D) : (MV.ol (ds.map .fz)).shal = true := by
  show (ds.map MV.fz).all _ = true
  rw [List.all_map]
  exact List.all_eq_true.mpr fun _ _ => rfl
theorem shl900 : ∃ M : Int, M ≠ 0 ∧ g2 true dShl [.fz (.int 1), .fz (.int 900)] = some (.fz (.int M)) := by
  refine ⟨1 * 2 ^ (900 : Int).toNat, Int.ne_of_gt (Int.mul_pos (by decide) (Int.pow_pos (by decide))), ?_⟩
  have e : dShl (.int 1) (.int 900) = if (0 : Int) ≤ 900 ∧ (900 : Int) ≤ 1000000 ∧ (1 : Int).natAbs < 2 ^ 64 then some (MV.fz (.int (1 * 2 ^ (900 : Int).toNat))) else none := by unfold dShl; rfl
  exact e.trans (if_pos (show (0 : Int) ≤ 900 ∧ (900 : Int) ≤ 1000000 ∧ (1 : Int).natAbs < 2 ^ 64 from by decide))
theorem st_dispW {ps : List (WE × WE)} {ρ : DEnv} {Q : MV → DEnv → Prop} (z : wPairs ps ρ fun qs ρ1 => Q (.od false (fzs (mergeD [] qs))) ρ1) : wDisp ps ρ Q := z
theorem st_pair {f g : WE} {ps : List (WE × WE)} {ρ : DEnv} {Q : List (D × D) → DEnv → Prop} (z : f ρ fun km ρ1 => g ρ1 fun vm ρ2 => ∃ kd vd, km = .fz kd ∧ vm = .fz vd ∧ keyOk false kd = true ∧ wPairs ps ρ2 fun qs ρ3 => Q ((kd, vd) :: qs) ρ3) : wPairs ((f, g) :: ps) ρ Q := z
theorem st_pnil {ρ : DEnv} {Q : List (D × D) → DEnv → Prop} (z : Q [] ρ) : wPairs [] ρ Q := z
theorem cut_len44 (xs : List D) : (cutD xs none (some 44)).length ≤ 44 := by
  unfold cutD
  rw [List.length_take]
  have := sIx_hi xs.length 44
  have h2 : HT.sIx xs.length xs.length (some 44) ≤ 44 := this
  omega
def spLoom : DSp := fun ms Q => ∃ ns : List Int, ms = [.fz (.scr ns)] ∧ ∀ L, LOk L → Q L [.fz .non]
theorem dec_or (b : Bool) : (if b = true then (1 : Int) else 0) = 0 ∨ (if b = true then (1 : Int) else 0) = 1 := by cases b <;> simp
theorem m_loom (ms : List MV) (Q : MV → List MV → Prop) (hl : ms.length = 1) (hsp : spLoom ms Q) : W__law_loom (endsF [false] Q) (env0 6 ms) := by
  obtain ⟨ns, rfl, hq⟩ := hsp
  have hlim : lim = 16777216 := rfl
  unfold W__law_loom
  have e : env0 6 [MV.fz (.scr ns)] = [some (.fz (.scr ns)), none, none, none, none, none] := rfl
  rw [e]
  clear e
  and_intros
  refine tlen rfl (tlen rfl ?_)
  show wSeq _ _ _ _
  (try dsimp only [List.set_cons_zero, List.set_cons_succ, wipeD, putBack, toD_fz])
  and_intros
  refine tl1 (show g1 true dList [.fz (.scr ns)] = some (.ol ((ns.map D.int).map .fz)) from rfl) ?_
  and_intros
  obtain ⟨M, hM, eM⟩ := shl900
  rw [toD_ol_fz]
  generalize hcs : cutD (ns.map D.int) none (some 44) = cs
  refine ⟨rfl, shal_fz _, .ol (cs.map .fz), by rw [← hcs]; rfl, cs, by rw [toD_ol_fz]; rfl, ?_⟩
  have hcl : cs.length ≤ 44 := by rw [← hcs]; exact cut_len44 _
  have hci : ∀ d ∈ cs, ∃ n : Int, d = .int n := fun d hd => by
    rw [← hcs] at hd
    obtain ⟨n, _, e⟩ := List.mem_map.mp (cut_mem hd)
    exact ⟨n, e.symm⟩
  have l1 := log2_le (n := (48271 : Int).natAbs) (k := 16) (by decide)
  have l2 := log2_le (n := (101 : Int).natAbs) (k := 7) (by decide)
  refine for_inv (fun i ρ => ∃ (ts : List Int) (li : Int) (o3 o4 o5 : Option MV), ρ = [some (.fz (.scr ns)), some (.ol (iM ts)), some (.fz (.int li)), o3, o4, o5] ∧ ts.length ≤ 61 * i ∧ 0 ≤ li ∧ li < 2147483629)
    ⟨[], 95369, none, none, none, rfl, Nat.zero_le _, by decide, by decide⟩ (fun i d ρ K ed ⟨ts, li, o3, o4, o5, e, htl, h0, h1⟩ hk => ?_) fun ρ ⟨ts, li, o3, o4, o5, e, htl, h0, h1⟩ => ?_
  · have hic := (List.getElem?_eq_some_iff.mp ed).1
    obtain ⟨n, rfl⟩ := hci d (List.mem_of_getElem? ed)
    subst e
    and_intros
    (try dsimp only [List.set_cons_zero, List.set_cons_succ, wipeD, putBack, toD_fz])
    and_intros
    refine tl2 eM ?_
    refine tl2 (ev_mod hM) ?_
    and_intros
    (try dsimp only [List.set_cons_zero, List.set_cons_succ, wipeD, putBack, toD_fz])
    and_intros
    refine tl2 (ev_mul ?_) ?_
    · have := log2_le (n := li.natAbs) (k := 31) (by omega)
      omega
    and_intros
    refine tl2 (ev_mod (by decide)) ?_
    and_intros
    refine tl2 (ev_mul ?_) ?_
    · split
      · have := log2_le (n := (1 : Int).natAbs) (k := 1) (by decide)
        omega
      · have := log2_le (n := (0 : Int).natAbs) (k := 1) (by decide)
        omega
    and_intros
    refine tl2 (ev_mod (by decide)) ?_
    and_intros
    (try dsimp only [List.set_cons_zero, List.set_cons_succ, wipeD, putBack, toD_fz])
    have f1 : ∀ x : Int, 0 ≤ x.fmod 2147483629 := fun x => Int.fmod_nonneg_of_pos x (by decide)
    have f2 : ∀ x : Int, x.fmod 2147483629 < 2147483629 := fun x => Int.fmod_lt_of_pos x (by decide)
    and_intros
    refine tl2 (ev_mod (by decide)) ?_
    and_intros
    refine tl2 (ev_mod (by decide)) ?_
    and_intros
    refine tapp rfl (by rw [iM_len]; omega) ?_
    (try dsimp only [List.set_cons_zero, List.set_cons_succ, wipeD, putBack, toD_fz])
    rw [iM_app]
    and_intros
    refine ⟨by decide, by decide, ?_⟩
    refine for_inv (fun j ρ => ∃ (ts : List Int) (li th : Int) (o3 o5 : Option MV), ρ = [some (.fz (.scr ns)), some (.ol (iM ts)), some (.fz (.int li)), o3, some (.fz (.int th)), o5] ∧ ts.length ≤ 61 * i + 1 + j ∧ 0 ≤ li ∧ li < 2147483629)
      ⟨_, _, _, _, _, rfl, by rw [List.length_append, List.length_singleton]; omega, f1 _, f2 _⟩ (fun j d ρ K2 ed2 ⟨ts, li, th, o3, o5, e, htl, h0, h1⟩ hk2 => ?_) fun ρ ⟨ts, li, th, o3, o5, e, htl, h0, h1⟩ => ?_
    · have hj := (List.getElem?_eq_some_iff.mp ed2).1
      have hj : j < 60 := by
        rw [List.length_map, List.length_range] at hj
        exact hj
      subst e
      and_intros
      (try dsimp only [List.set_cons_zero, List.set_cons_succ, wipeD, putBack, toD_fz])
      and_intros
      refine tl2 (ev_fdiv (by decide)) ?_
      and_intros
      (try dsimp only [List.set_cons_zero, List.set_cons_succ, wipeD, putBack, toD_fz])
      and_intros
      refine tifB (fun hb => ?_) fun hb => ?_
      · and_intros
        refine tl2 (ev_mod (by decide)) ?_
        and_intros
        refine tapp rfl (by rw [iM_len]; omega) ?_
        (try dsimp only [List.set_cons_zero, List.set_cons_succ, wipeD, putBack, toD_fz])
        rw [iM_app]
        exact hk2 _ ⟨_, _, _, _, _, rfl, by rw [List.length_append, List.length_singleton]; omega, h0, h1⟩
      · exact hk2 _ ⟨_, _, _, _, _, rfl, by omega, h0, h1⟩
    · subst e
      rw [List.length_map, List.length_range] at htl
      have htl : ts.length ≤ 61 * i + 1 + 60 := htl
      exact hk _ ⟨_, _, _, _, _, rfl, by omega, h0, h1⟩
  · subst e
    and_intros
    refine st_dispW (st_pair ?_)
    and_intros
    (try dsimp only [List.set_cons_zero, List.set_cons_succ, wipeD, putBack, toD_fz])
    refine ⟨_, _, rfl, rfl, rfl, st_pair ?_⟩
    and_intros
    refine ⟨_, _, rfl, rfl, rfl, st_pair ?_⟩
    and_intros
    refine ⟨_, _, rfl, rfl, rfl, st_pair ?_⟩
    and_intros
    refine tl2 (ev_fdiv (by decide)) ?_
    and_intros
    refine tl2 (ev_mod (by decide)) ?_
    refine ⟨_, _, rfl, rfl, rfl, st_pnil ?_⟩
    rw [toD_iM]
    exact ⟨_, rfl, hq (LoomV ts 0 li _) ⟨ts, 0, li, _, rfl, h0, h1⟩⟩
end DL

namespace DL
open PySem PySem.Spec PyProof.Rows L2
local macro_rules | `(tactic| and_intros) => `(tactic| (repeat' (first | (with_reducible refine st_seq ?_) | (with_reducible refine st_asg ?_) | (with_reducible refine st_asgT ?_) | (with_reducible refine st_expr ?_) | (with_reducible refine st_ret ?_) | (with_reducible refine st_if ?_) | (with_reducible refine st_set ?_) | (with_reducible refine st_for ?_) | (with_reducible refine st_par ?_) | (with_reducible refine st_c ?_) | (with_reducible refine st_view ?_) | (with_reducible refine st_op1 ?_) | (with_reducible refine st_op2 ?_) | (with_reducible refine st_op ?_) | (with_reducible refine st_ix ?_) | (with_reducible refine st_nil ?_) | (with_reducible refine st_cons ?_) | (with_reducible refine st_consM ?_) | (with_reducible refine st_lst ?_) | (with_reducible refine st_tup ?_) | (with_reducible refine st_call ?_) | (with_reducible refine st_callK ?_) | (with_reducible refine st_ife ?_) | (with_reducible refine st_ok ?_) | (with_reducible refine st_dic ?_) | (with_reducible refine st_isi ?_) | (with_reducible refine st_sl ?_) | (with_reducible refine st_part0 ?_) | (with_reducible refine st_part1 ?_) | (with_reducible refine st_bool ?_) | (with_reducible refine st_notT ?_) | (with_reducible refine st_andT ?_) | (with_reducible refine st_orT ?_) | (with_reducible refine st_yes ?_) | (with_reducible refine st_andV ?_) | (with_reducible refine st_orV ?_) | (with_reducible refine st_notV ?_) | (with_reducible refine st_it ?_) | (with_reducible refine st_rg1 ?_) | (with_reducible refine st_enum ?_) | (with_reducible refine st_zip ?_) | (with_reducible refine st_lc ?_) | (with_reducible refine st_frz ?_) | ((with_reducible apply st_var); exact rfl) | ((with_reducible apply st_mov); exact rfl) | ((with_reducible apply st_lend); exact rfl) | ((with_reducible apply st_escf); exact rfl) | ((with_reducible apply st_esco); exact rfl) | ((with_reducible apply st_escd); exact rfl) | ((with_reducible apply st_aug); exact rfl) | ((with_reducible apply st_gn); exact rfl) | ((with_reducible apply st_gt); exact rfl) | (with_reducible refine st_gnil ?_) | (with_reducible refine st_gcons ?_) | ((with_reducible apply st_setd); exact ⟨_, _, rfl⟩) | ((with_reducible apply st_app); exact ⟨_, rfl⟩) | (with_reducible refine tl2 ev_lt ?_) | (with_reducible refine tl2 ev_cmp ?_) | (with_reducible refine tl2 ev_add ?_) | (with_reducible refine tl2 ev_sub ?_) | (with_reducible refine tl2 ev_eqI ?_) | (with_reducible refine tl2 ev_neI ?_) | (with_reducible refine tl2 ev_max ?_) | (with_reducible refine tl2 ev_min ?_) | (with_reducible refine tl2' ev_lt ?_) | (with_reducible refine tl2' ev_cmp ?_) | (with_reducible refine tl2' ev_add ?_) | (with_reducible refine tl2' ev_sub ?_) | (with_reducible refine tl2' ev_eqI ?_) | (with_reducible refine tl2' ev_neI ?_) | (with_reducible refine tl2' ev_max ?_) | (with_reducible refine tl2' ev_min ?_) | (with_reducible refine tl1 ev_neg ?_) | (with_reducible refine tl1 ev_lenO ?_) | (with_reducible refine tl1 ev_lenL ?_) | (with_reducible refine tl1 ev_lenT ?_) | (with_reducible refine tl1 ev_lenC ?_) | (with_reducible refine tl1 ev_lenD ?_) | (with_reducible refine tl1 ev_intI ?_) | (with_reducible refine tl1 ev_intB ?_) | (with_reducible refine tl1 ev_abs ?_) | (with_reducible refine tl1 ev_tupO ?_) | (with_reducible refine tl1 ev_tupL ?_) | (with_reducible refine tlz ?_) | (with_reducible refine tlb ?_) | (with_reducible refine tli ?_) | (with_reducible refine tlt ?_) | (with_reducible refine tll ?_) | (with_reducible refine tlo ?_) | (with_reducible refine tlc ?_) | (with_reducible refine ⟨len1, ?_⟩) | (with_reducible refine ⟨len2, ?_⟩) | (with_reducible refine ⟨len3, ?_⟩) | (with_reducible refine ⟨len0, ?_⟩) | (with_reducible refine ⟨len4, ?_⟩) | (with_reducible refine ⟨len5, ?_⟩) | (with_reducible refine ⟨len6, ?_⟩) | ((with_reducible apply tlen); exact rfl) | ((with_reducible apply tset); exact rfl))))

/-! ### slices of texts -/
theorem ev_sl {cs : List Nat} (lo hi : Option Int) (h : cs.length ≤ lim) : dSlice lo hi (dT cs) = some (.fz (dT ((cs.drop (HT.sIx cs.length 0 lo)).take (HT.sIx cs.length cs.length hi - HT.sIx cs.length 0 lo)))) := by
  have e : dSlice lo hi (dT cs) = if (sT cs).length ≤ lim then some (.fz (.str (cutS (sT cs) lo hi))) else none := rfl
  rw [e]
  exact if_pos h
theorem sIx_at (n d k : Nat) (h : k ≤ n) : HT.sIx n d (some (k : Int)) = k := by rw [HT.sIx_nat, Nat.min_eq_left h]
theorem ev_slAB {cs : List Nat} {a b : Nat} (h : cs.length ≤ lim) (ha : a ≤ cs.length) (hab : a ≤ b) : dSlice (some (a : Nat)) (some (b : Nat)) (dT cs) = some (.fz (dT ((cs.drop a).take (b - a)))) := by
  rw [ev_sl _ _ h, sIx_at _ _ _ ha, HT.sIx_nat]
  congr 3
  by_cases z : b ≤ cs.length
  · rw [Nat.min_eq_left z]
  · rw [Nat.min_eq_right (by omega), List.take_of_length_le (by rw [List.length_drop]; omega), List.take_of_length_le (by rw [List.length_drop]; omega)]
theorem ev_slA {cs : List Nat} {a : Nat} (h : cs.length ≤ lim) (ha : a ≤ cs.length) : dSlice (some (a : Nat)) none (dT cs) = some (.fz (dT (cs.drop a))) := by
  rw [ev_sl _ _ h, sIx_at _ _ _ ha, HT.sIx_none, List.take_of_length_le (by rw [List.length_drop]; omega)]
theorem ev_slB {cs : List Nat} {b : Nat} (h : cs.length ≤ lim) : dSlice none (some (b : Nat)) (dT cs) = some (.fz (dT (cs.take b))) := by
  rw [ev_sl _ _ h, HT.sIx_none, List.drop_zero, HT.sIx_nat, Nat.sub_zero]
  congr 3
  by_cases z : b ≤ cs.length
  · rw [Nat.min_eq_left z]
  · rw [Nat.min_eq_right (by omega), List.take_of_length_le (Nat.le_refl _), List.take_of_length_le (by omega)]
theorem tM_fz (xss : List (List Nat)) : tM xss = (xss.map dT).map MV.fz := by unfold tM; rw [List.map_map]; rfl
theorem ev_addT {xs ys : List (List Nat)} (h : xs.length + ys.length ≤ lim) : g2 true dAdd [.fz (.lst (xs.map dT)), .ol (tM ys)] = some (.ol (((xs ++ ys).map dT).map MV.fz)) := by
  show (if (true && !((MV.fz (.lst (xs.map dT))).shal && (MV.ol (tM ys)).shal)) = true then none else dAdd (.lst (xs.map dT)) (MV.ol (tM ys)).toD) = _
  rw [toD_tM, tM_fz, shal_fz]
  have e : dAdd (.lst (xs.map dT)) (.lst (ys.map dT)) = if (xs.map dT).length + (ys.map dT).length ≤ lim then some (.ol (((xs.map dT) ++ (ys.map dT)).map .fz)) else none := rfl
  show dAdd (.lst (xs.map dT)) (.lst (ys.map dT)) = _
  rw [e, if_pos (by rw [List.length_map, List.length_map]; exact h), ← List.map_append]
/-! ### _law_parted -/
def spParted : DSp := fun ms Q => ∃ (L : MV) (text : List Nat), ms = [L, .fz (dT text)] ∧ LOk L ∧ text.length < lim ∧ ∀ (texts : List (List Nat)) L', LOk L' → texts.flatten = text → texts.length ≤ 32 → Q (.fz (dTx texts)) [L', .fz .non]
theorem m_parted (ms : List MV) (Q : MV → List MV → Prop) (hl : ms.length = 2) (hsp : spParted ms Q) : W__law_parted spThread (endsF [true, false] Q) (env0 6 ms) := by
  obtain ⟨L, text, rfl, hL, htl, hq⟩ := hsp
  have hlim : lim = 16777216 := rfl
  unfold W__law_parted
  have e : env0 6 [L, .fz (dT text)] = [some L, some (.fz (dT text)), none, none, none, none] := rfl
  rw [e]
  clear e
  and_intros
  refine tlen rfl (tlen rfl ?_)
  show wSeq _ _ _ _
  (try dsimp only [List.set_cons_zero, List.set_cons_succ, wipeD, putBack, toD_fz])
  and_intros
  refine ⟨by decide, by decide, ?_⟩
  refine for_inv (fun i ρ => ∃ (L : MV) (parts : List (List Nat)) (a : Nat) (o4 o5 : Option MV), ρ = [some L, some (.fz (dT text)), some (.ol (tM parts)), some (nI a), o4, o5] ∧ LOk L ∧ parts.flatten = text.take a ∧ a ≤ text.length ∧ parts.length = i)
    ⟨L, [], 0, _, _, rfl, hL, rfl, Nat.zero_le _, rfl⟩ (fun i d ρ K ed ⟨L, parts, a, o4, o5, e, hL, hf, ha, hpl⟩ hk => ?_) fun ρ ⟨L, parts, a, o4, o5, e, hL, hf, ha, hpl⟩ => ?_
  · have hi := (List.getElem?_eq_some_iff.mp ed).1
    have hi : i < 30 := by
      rw [List.length_map, List.length_range] at hi
      exact hi
    subst e
    and_intros
    (try dsimp only [List.set_cons_zero, List.set_cons_succ, wipeD, putBack, toD_fz])
    and_intros
    refine ⟨L, 6, 9, rfl, hL, by decide, fun v L hL hv => ?_⟩
    (try dsimp only [List.set_cons_zero, List.set_cons_succ, wipeD, putBack, toD_fz])
    obtain ⟨step, es⟩ : ∃ step : Nat, (MV.fz (.tup [.int 0, .int 1, .int 2, .int 3, .int 60, .int 400])).ix (D.int (v : Nat)) = some (nI step) := by
      match v, hv with
      | 0, _ => exact ⟨0, rfl⟩
      | 1, _ => exact ⟨1, rfl⟩
      | 2, _ => exact ⟨2, rfl⟩
      | 3, _ => exact ⟨3, rfl⟩
      | 4, _ => exact ⟨60, rfl⟩
      | 5, _ => exact ⟨400, rfl⟩
    refine tlx' es ?_
    and_intros
    (try dsimp only [List.set_cons_zero, List.set_cons_succ, wipeD, putBack, toD_fz])
    and_intros
    refine ⟨rfl, rfl, _, ev_slAB (a := a) (b := a + step) (by omega) ha (by omega), ?_⟩
    rw [show a + step - a = step by omega]
    and_intros
    refine tapp rfl (by rw [tM_len]; omega) ?_
    (try dsimp only [List.set_cons_zero, List.set_cons_succ, wipeD, putBack, toD_fz])
    rw [tM_app]
    and_intros
    refine tl1 (ev_lenS (cs := text) (by omega)) ?_
    and_intros
    have em : (if (a : Int) + (step : Nat) < (text.length : Nat) then (a : Int) + (step : Nat) else ((text.length : Nat) : Int)) = ((min (a + step) text.length : Nat) : Int) := by
      split <;> omega
    rw [em]
    (try dsimp only [List.set_cons_zero, List.set_cons_succ, wipeD, putBack, toD_fz])
    refine hk _ ⟨L, parts ++ [(text.drop a).take step], min (a + step) text.length, _, _, rfl, hL, ?_, Nat.min_le_right _ _, by rw [List.length_append, List.length_singleton, hpl]⟩
    rw [List.flatten_append, List.flatten_singleton, hf, ← List.take_add]
    by_cases z : a + step ≤ text.length
    · rw [Nat.min_eq_left z]
    · rw [Nat.min_eq_right (by omega), List.take_of_length_le (Nat.le_refl _), List.take_of_length_le (by omega)]
  · subst e
    rw [List.length_map, List.length_range] at hpl
    have hpl : parts.length = 30 := hpl
    have fin : ∀ (L : MV) (o4 o5 : Option MV) (more : List (List Nat)), LOk L → more.length ≤ 2 → more.flatten = text.drop a →
        (true && true && (MV.fz (.lst (parts.map dT))).isOwn) = false ∧ True → Q (.fz (dTx (parts ++ more))) [L, .fz .non] := fun L o4 o5 more hL hml hmf _ => by
      refine hq _ L hL ?_ (by rw [List.length_append]; omega)
      rw [List.flatten_append, hf, hmf, List.take_append_drop]
    and_intros
    (try dsimp only [List.set_cons_zero, List.set_cons_succ, wipeD, putBack, toD_fz])
    rw [toD_tM]
    refine ⟨rfl, rfl, _, ev_slA (a := a) (by omega) ha, ?_⟩
    and_intros
    (try dsimp only [List.set_cons_zero, List.set_cons_succ, wipeD, putBack, toD_fz])
    refine ⟨L, 2, 10, rfl, hL, by decide, fun v L hL hv => ?_⟩
    (try dsimp only [List.set_cons_zero, List.set_cons_succ, wipeD, putBack, toD_fz])
    and_intros
    obtain ⟨more, e1, e2, e3⟩ : ∃ more : List (List Nat), dSlice none (some (1 + ((v : Nat) : Int))) (MV.ol [MV.fz (dT (text.drop a)), MV.fz (D.str (Str.ofString ""))]).toD = some (.ol (tM more)) ∧ more.length ≤ 2 ∧ more.flatten = text.drop a := by
      match v, hv with
      | 0, _ => exact ⟨[text.drop a], rfl, by simp, by simp⟩
      | 1, _ => exact ⟨[text.drop a, []], rfl, by simp, by simp⟩
    refine ⟨rfl, rfl, _, e1, rfl, rfl, _, ev_addT (by omega), ?_⟩
    and_intros
    exact ⟨_, rfl, fin L o4 o5 more hL e2 e3 ⟨rfl, trivial⟩⟩
end DL

namespace DL
open PySem PySem.Spec PyProof.Rows L2

theorem shal_tM (xs : List (List Nat)) : (MV.ol (tM xs)).shal = true := by rw [tM_fz]; exact shal_fz _
theorem ev_addTT {xs ys : List (List Nat)} (h : xs.length + ys.length ≤ lim) : g2 true dAdd [.ol (tM xs), .ol (tM ys)] = some (.ol (tM (xs ++ ys))) := by
  show (if (true && !((MV.ol (tM xs)).shal && (MV.ol (tM ys)).shal)) = true then none else dAdd (MV.ol (tM xs)).toD (MV.ol (tM ys)).toD) = _
  rw [toD_tM, toD_tM, shal_tM, shal_tM, tM_fz (xs ++ ys)]
  have e : dAdd (.lst (xs.map dT)) (.lst (ys.map dT)) = if (xs.map dT).length + (ys.map dT).length ≤ lim then some (.ol (((xs.map dT) ++ (ys.map dT)).map .fz)) else none := rfl
  show dAdd (.lst (xs.map dT)) (.lst (ys.map dT)) = _
  rw [e, if_pos (by rw [List.length_map, List.length_map]; exact h), ← List.map_append]
theorem sT_app (a b : List Nat) : sT a ++ sT b = sT (a ++ b) := by
  show (⟨(sT a).cps ++ (sT b).cps⟩ : Str) = _
  congr 1
  apply Array.toList_inj.mp
  simp
theorem ev_cat {a b : List Nat} (h : a.length + b.length ≤ lim) : g2 true dAdd [.fz (dT a), .fz (dT b)] = some (.fz (dT (a ++ b))) := by
  show dAdd (dT a) (dT b) = _
  have e : dAdd (dT a) (dT b) = if (sT a).length + (sT b).length ≤ lim then some (.fz (.str (sT a ++ sT b))) else none := rfl
  rw [e, if_pos (show (sT a).length + (sT b).length ≤ lim from h), sT_app]
theorem ev_listT {cs : List Nat} (h : cs.length ≤ lim) : g1 true dList [.fz (dT cs)] = some (.ol (tM (ones cs))) := by
  show (if (sT cs).length ≤ lim then some (MV.ol ((chars (sT cs)).map .fz)) else none) = _
  rw [if_pos (show (sT cs).length ≤ lim from h), chars_T, tM_fz, List.map_map, List.map_map, List.map_map]; rfl
theorem ev_index {W : List (List Nat)} {y : List Nat} (h : y ∈ W) : ∃ j, j < W.length ∧ g2 false dIndex [.fz (.lst (W.map dT)), .fz (dT y)] = some (nI j) := by
  have e : g2 false dIndex [.fz (.lst (W.map dT)), .fz (dT y)] = if ((dT y).flat && (W.map dT).all D.flat) = true then ((W.map dT).findIdx? fun z => z.eqF (dT y)).map fun j => .fz (.int (j : Nat)) else none := rfl
  have h1 : ((dT y).flat && (W.map dT).all D.flat) = true := by
    rw [List.all_map]
    show (true && _) = true
    rw [Bool.true_and]
    exact List.all_eq_true.mpr fun _ _ => rfl
  rw [e, if_pos h1]
  have h2 : ((W.map dT).findIdx? fun z => z.eqF (dT y)).isSome = true := by
    cases ez : (W.map dT).findIdx? fun z => z.eqF (dT y) with
    | some j => rfl
    | none =>
      have h3 := List.findIdx?_eq_none_iff.mp ez (dT y) (List.mem_map_of_mem h)
      have h4 : (sT y == sT y) = false := h3
      rw [beq_self_eq_true] at h4
      cases h4
  obtain ⟨j, ej⟩ := Option.isSome_iff_exists.mp h2
  obtain ⟨hj, _⟩ := List.findIdx?_eq_some_iff_getElem.mp ej
  rw [List.length_map] at hj
  exact ⟨j, hj, by rw [ej]; rfl⟩
def wordsOf (letters : List Nat) (l : List Nat) : List (List Nat) := [] :: ones letters ++ l.flatMap fun one => letters.map fun other => [one, other]
theorem words_snoc (letters l : List Nat) (c : Nat) : wordsOf letters (l ++ [c]) = wordsOf letters l ++ letters.map fun other => [c, other] := by
  unfold wordsOf
  rw [List.flatMap_append, List.flatMap_singleton, List.append_assoc]
theorem words_mem {letters : List Nat} {c : Nat} {w : List Nat} (hc : c ∈ letters) (hw : w ∈ wordsOf letters letters) : ([c] ++ w).take 2 ∈ wordsOf letters letters := by
  have hin : ∀ w ∈ wordsOf letters letters, ∀ x ∈ w, x ∈ letters := fun w hw x hx => by
    unfold wordsOf at hw
    rcases List.mem_append.mp hw with z | z
    · rcases List.mem_cons.mp z with rfl | z
      · cases hx
      · obtain ⟨b, hb, rfl⟩ := List.mem_map.mp z
        rw [List.mem_singleton.mp hx]; exact hb
    · obtain ⟨a, ha, z⟩ := List.mem_flatMap.mp z
      obtain ⟨b, hb, rfl⟩ := List.mem_map.mp z
      rcases List.mem_cons.mp hx with rfl | hx
      · exact ha
      · rw [List.mem_singleton.mp hx]; exact hb
  cases w with
  | nil => exact List.mem_append_left _ (List.mem_cons_of_mem _ (List.mem_map_of_mem hc))
  | cons x w =>
    have hx := hin _ hw x (List.mem_cons_self ..)
    exact List.mem_append_right _ (List.mem_flatMap.mpr ⟨c, hc, List.mem_map_of_mem hx⟩)
theorem words_len (letters l : List Nat) : (wordsOf letters l).length = 1 + letters.length + l.length * letters.length := by
  unfold wordsOf
  rw [List.length_append, List.length_cons, List.length_map]
  have : (l.flatMap fun one => letters.map fun other => [one, other]).length = l.length * letters.length := by
    induction l with
    | nil => simp
    | cons a l ih => rw [List.flatMap_cons, List.length_append, ih, List.length_map, List.length_cons, Nat.succ_mul, Nat.add_comm]
  omega
end DL

namespace DL
open PySem PySem.Spec PyProof.Rows L2
local macro_rules | `(tactic| and_intros) => `(tactic| (repeat' (first | (with_reducible refine st_seq ?_) | (with_reducible refine st_asg ?_) | (with_reducible refine st_asgT ?_) | (with_reducible refine st_expr ?_) | (with_reducible refine st_ret ?_) | (with_reducible refine st_if ?_) | (with_reducible refine st_set ?_) | (with_reducible refine st_for ?_) | (with_reducible refine st_par ?_) | (with_reducible refine st_c ?_) | (with_reducible refine st_view ?_) | (with_reducible refine st_op1 ?_) | (with_reducible refine st_op2 ?_) | (with_reducible refine st_op ?_) | (with_reducible refine st_ix ?_) | (with_reducible refine st_nil ?_) | (with_reducible refine st_cons ?_) | (with_reducible refine st_consM ?_) | (with_reducible refine st_lst ?_) | (with_reducible refine st_tup ?_) | (with_reducible refine st_call ?_) | (with_reducible refine st_callK ?_) | (with_reducible refine st_ife ?_) | (with_reducible refine st_ok ?_) | (with_reducible refine st_dic ?_) | (with_reducible refine st_isi ?_) | (with_reducible refine st_sl ?_) | (with_reducible refine st_part0 ?_) | (with_reducible refine st_part1 ?_) | (with_reducible refine st_bool ?_) | (with_reducible refine st_notT ?_) | (with_reducible refine st_andT ?_) | (with_reducible refine st_orT ?_) | (with_reducible refine st_yes ?_) | (with_reducible refine st_andV ?_) | (with_reducible refine st_orV ?_) | (with_reducible refine st_notV ?_) | (with_reducible refine st_it ?_) | (with_reducible refine st_rg1 ?_) | (with_reducible refine st_enum ?_) | (with_reducible refine st_zip ?_) | (with_reducible refine st_lc ?_) | (with_reducible refine st_frz ?_) | ((with_reducible apply st_var); exact rfl) | ((with_reducible apply st_mov); exact rfl) | ((with_reducible apply st_lend); exact rfl) | ((with_reducible apply st_escf); exact rfl) | ((with_reducible apply st_esco); exact rfl) | ((with_reducible apply st_escd); exact rfl) | ((with_reducible apply st_aug); exact rfl) | ((with_reducible apply st_gn); exact rfl) | ((with_reducible apply st_gt); exact rfl) | (with_reducible refine st_gnil ?_) | (with_reducible refine st_gcons ?_) | ((with_reducible apply st_setd); exact ⟨_, _, rfl⟩) | ((with_reducible apply st_app); exact ⟨_, rfl⟩) | (with_reducible refine tl2 ev_lt ?_) | (with_reducible refine tl2 ev_cmp ?_) | (with_reducible refine tl2 ev_add ?_) | (with_reducible refine tl2 ev_sub ?_) | (with_reducible refine tl2 ev_eqI ?_) | (with_reducible refine tl2 ev_neI ?_) | (with_reducible refine tl2 ev_max ?_) | (with_reducible refine tl2 ev_min ?_) | (with_reducible refine tl2' ev_lt ?_) | (with_reducible refine tl2' ev_cmp ?_) | (with_reducible refine tl2' ev_add ?_) | (with_reducible refine tl2' ev_sub ?_) | (with_reducible refine tl2' ev_eqI ?_) | (with_reducible refine tl2' ev_neI ?_) | (with_reducible refine tl2' ev_max ?_) | (with_reducible refine tl2' ev_min ?_) | (with_reducible refine tl1 ev_neg ?_) | (with_reducible refine tl1 ev_lenO ?_) | (with_reducible refine tl1 ev_lenL ?_) | (with_reducible refine tl1 ev_lenT ?_) | (with_reducible refine tl1 ev_lenC ?_) | (with_reducible refine tl1 ev_lenD ?_) | (with_reducible refine tl1 ev_intI ?_) | (with_reducible refine tl1 ev_intB ?_) | (with_reducible refine tl1 ev_abs ?_) | (with_reducible refine tl1 ev_tupO ?_) | (with_reducible refine tl1 ev_tupL ?_) | (with_reducible refine tlz ?_) | (with_reducible refine tlb ?_) | (with_reducible refine tli ?_) | (with_reducible refine tlt ?_) | (with_reducible refine tll ?_) | (with_reducible refine tlo ?_) | (with_reducible refine tlc ?_) | (with_reducible refine ⟨len1, ?_⟩) | (with_reducible refine ⟨len2, ?_⟩) | (with_reducible refine ⟨len3, ?_⟩) | (with_reducible refine ⟨len0, ?_⟩) | (with_reducible refine ⟨len4, ?_⟩) | (with_reducible refine ⟨len5, ?_⟩) | (with_reducible refine ⟨len6, ?_⟩) | ((with_reducible apply tlen); exact rfl) | ((with_reducible apply tset); exact rfl))))

def spMade : DSp := fun ms Q => ∃ L : MV, ms = [L] ∧ LOk L ∧ ∀ (R : Rd) (k : Nat) L', LOk L' → ROk R k → R.letters.Nodup → R.letters.length = k → k ≤ 6 → Q (.fz (dR R)) [L']
theorem steps_ok {steps : List (List Nat)} {many k : Nat} (h0 : 0 < many) (h1 : many ≤ 1000) (hk : k ≤ 1000) (hl : steps.length = many) (hr : ∀ row ∈ steps, row.length = k ∧ ∀ j ∈ row, j < many) : StepsOk steps where
  pos := by omega
  small := by omega
  lt := fun r hr' j hj => by rw [hl]; exact (hr r hr').2 j hj
  row := fun r hr' => by rw [(hr r hr').1]; exact hk
abbrev wTailMade (sp__law_thread : DSp) : WS :=
  (wSeq (wAsg 9 (wLst wNil))
  (wSeq (wFor (wIt (wEsc (some 2) true (wVar 2))) (gN 10)
    (wExpr (wApp 9 (wOp (g1 true dTuple) (wCons (wLc (wIt (wEsc (some 1) true (wVar 1))) (gN 7) wYes (wOp2 (g2 false dJoin) (wOk "str" (wC (.str ""))) false (wLc (wIt (wEsc (some 3) true (wVar 3))) (gN 6) wYes (wIx (wC (.str "TXZ..")) false (wCall sp__law_thread [some 0, none, none] (wConsM (wMov 0) (wConsM (wC (.int 5)) (wConsM (wC (.int 6)) wNil)))) true) [6]) false true) [7]) false false wNil)))))
  (wRet (wTup (wConsM (wMov 1) (wConsM (wMov 2) (wConsM (wMov 3) (wConsM (wOp (g1 true dTuple) (wCons (wVar 9) true false wNil)) wNil))))))))
theorem marks_ix {v : Nat} (hv : v < 5) : ∃ c : Nat, (MV.fz (.str "TXZ..")).ix (D.int (v : Nat)) = some (.fz (dT [c])) := by
  match v, hv with
  | 0, _ => exact ⟨84, rfl⟩
  | 1, _ => exact ⟨88, rfl⟩
  | 2, _ => exact ⟨90, rfl⟩
  | 3, _ => exact ⟨46, rfl⟩
  | 4, _ => exact ⟨46, rfl⟩
theorem made_tail {L : MV} {letters : List Nat} {forth back : List (List Nat)} {k : Nat} (o4 o5 : Option MV) {Q : MV → List MV → Prop} (hL : LOk L) (nd : letters.Nodup) (hk : letters.length = k) (hk1 : 0 < k) (hk6 : k ≤ 6)
    (ofk : StepsOk forth) (obk : StepsOk back) (hfr : ∀ row ∈ forth, row.length = k) (hbr : ∀ row ∈ back, row.length = k)
    (hq : ∀ (R : Rd) (k : Nat) L', LOk L' → ROk R k → R.letters.Nodup → R.letters.length = k → k ≤ 6 → Q (.fz (dR R)) [L']) :
    wTailMade spThread (endsF [true] Q) [some L, some (.fz (dT letters)), some (.fz (dS forth)), some (.fz (dS back)), o4, o5, none, none, none, none, none] := by
  have hlim : lim = 16777216 := rfl
  have hfs := ofk.small
  have hbs := obk.small
  unfold wTailMade
  and_intros
  (try dsimp only [List.set_cons_zero, List.set_cons_succ, wipeD, putBack, toD_fz])
  and_intros
  refine for_inv (fun i ρ => ∃ (L : MV) (table : List (List (List Nat))) (o10 : Option MV), ρ = [some L, some (.fz (dT letters)), some (.fz (dS forth)), some (.fz (dS back)), o4, o5, none, none, none, some (.ol (tsM table)), o10] ∧ LOk L ∧ table.length = i ∧ ∀ rw_ ∈ table, rw_.length = k ∧ ∀ x ∈ rw_, x.length = back.length)
    ⟨L, [], none, rfl, hL, rfl, fun _ h => (nomatch h)⟩ (fun i d ρ K ed ⟨L, table, o10, e, hL, htl, htr⟩ hk' => ?_) fun ρ ⟨L, table, o10, e, hL, htl, htr⟩ => ?_
  · have hi := (List.getElem?_eq_some_iff.mp ed).1
    rw [List.length_map] at hi
    subst e
    and_intros
    (try dsimp only [List.set_cons_zero, List.set_cons_succ, wipeD, putBack, toD_fz])
    and_intros
    generalize hds : some (MV.fz d) = o10'
    refine ⟨_, items_T _, rfl, ?_⟩
    refine lc_inv (fun i acc ρ => ∃ (row : List (List Nat)) (L : MV) (o7 : Option MV), acc = tM row ∧ ρ = [some L, some (.fz (dT letters)), some (.fz (dS forth)), some (.fz (dS back)), o4, o5, none, o7, none, some (.ol (tsM table)), o10'] ∧ LOk L ∧ row.length = i ∧ ∀ x ∈ row, x.length = back.length)
      ⟨[], L, none, rfl, rfl, hL, rfl, fun _ h => (nomatch h)⟩ ?_ (fun i2 d2 acc ρ K2 ed2 ⟨row, L, o7, ea, e, hL, hrl, hr⟩ hK2 => ?_) fun acc ρ ⟨row, L, o7, ea, e, hL, hrl, hr⟩ => ?_
    · rw [List.length_map]; omega
    · subst e ea
      (try dsimp only [List.set_cons_zero, List.set_cons_succ, wipeD, putBack, toD_fz])
      and_intros
      (try dsimp only [List.set_cons_zero, List.set_cons_succ, wipeD, putBack, toD_fz])
      and_intros
      refine ⟨rfl, ?_⟩
      and_intros
      generalize hds2 : some (MV.fz d2) = o7'
      refine ⟨rfl, ?_⟩
      refine lc_inv (fun i acc ρ => ∃ (x : List Nat) (L : MV) (o6 : Option MV), acc = tM (ones x) ∧ ρ = [some L, some (.fz (dT letters)), some (.fz (dS forth)), some (.fz (dS back)), o4, o5, o6, o7', none, some (.ol (tsM table)), o10'] ∧ LOk L ∧ x.length = i)
        ⟨[], L, none, rfl, rfl, hL, rfl⟩ ?_ (fun i3 d3 acc ρ K3 ed3 ⟨x, L, o6, ea, e, hL, hxl⟩ hK3 => ?_) fun acc ρ ⟨x, L, o6, ea, e, hL, hxl⟩ => ?_
      · rw [List.length_map]; omega
      · subst e ea
        (try dsimp only [List.set_cons_zero, List.set_cons_succ, wipeD, putBack, toD_fz])
        and_intros
        (try dsimp only [List.set_cons_zero, List.set_cons_succ, wipeD, putBack, toD_fz])
        refine ⟨L, 5, 6, rfl, hL, by decide, fun v L hL hv => ?_⟩
        (try dsimp only [List.set_cons_zero, List.set_cons_succ, wipeD, putBack, toD_fz])
        obtain ⟨c, ec⟩ := marks_ix hv
        refine tlx' ec ?_
        exact hK3 _ _ ⟨x ++ [c], L, _, by unfold ones; rw [List.map_append]; exact tM_app _ _, rfl, hL, by rw [List.length_append, List.length_singleton, hxl]⟩
      · subst e ea
        rw [List.length_map] at hxl
        (try dsimp only [List.set_cons_zero, List.set_cons_succ, wipeD, restD, List.getElem?_cons_zero, List.getElem?_cons_succ, Option.getD_some])
        refine tl2' (ev_join (by rw [flat_ones]; omega)) ?_
        rw [flat_ones]
        refine hK2 _ _ ⟨row ++ [x], L, _, tM_app _ _, rfl, hL, by rw [List.length_append, List.length_singleton, hrl], fun y hy => ?_⟩
        rcases List.mem_append.mp hy with z | z
        · exact hr y z
        · rw [List.mem_singleton.mp z]; exact hxl
    · subst e ea
      rw [List.length_map] at hrl
      (try dsimp only [List.set_cons_zero, List.set_cons_succ, wipeD, restD, List.getElem?_cons_zero, List.getElem?_cons_succ, Option.getD_some])
      and_intros
      refine tl1 (show g1 true dTuple [.ol (tM row)] = some (.fz (dTs row)) from by rw [tM_fz]; exact ev_tupO) ?_
      refine tapp rfl (by rw [tsM_len]; omega) ?_
      (try dsimp only [List.set_cons_zero, List.set_cons_succ, wipeD, putBack, toD_fz])
      rw [tsM_app]
      refine hk' _ ⟨L, table ++ [row], _, rfl, hL, by rw [List.length_append, List.length_singleton, htl], fun y hy => ?_⟩
      rcases List.mem_append.mp hy with z | z
      · exact htr y z
      · rw [List.mem_singleton.mp z]; exact ⟨by omega, hr⟩
  · subst e
    rw [List.length_map] at htl
    and_intros
    (try dsimp only [List.set_cons_zero, List.set_cons_succ, wipeD, putBack, toD_fz])
    and_intros
    refine tl1 (ev_tupTs table) ?_
    and_intros
    refine ⟨_, rfl, hq ⟨letters, forth, back, table⟩ k L hL ⟨ofk, obk, hfr, hbr, htl, fun rw_ h => (htr rw_ h).1, fun rw_ h => (htr rw_ h).2, hk1, by omega⟩ nd hk hk6⟩
theorem m_made (ms : List MV) (Q : MV → List MV → Prop) (hl : ms.length = 1) (hsp : spMade ms Q) : W__law_made spThread spSteps (endsF [true] Q) (env0 11 ms) := by
  obtain ⟨L, rfl, hL, hq⟩ := hsp
  have hlim : lim = 16777216 := rfl
  unfold W__law_made
  have e : env0 11 [L] = [some L, none, none, none, none, none, none, none, none, none, none] := rfl
  rw [e]
  clear e
  and_intros
  (try dsimp only [List.set_cons_zero, List.set_cons_succ, wipeD, putBack, toD_fz])
  refine ⟨L, 5, 2, rfl, hL, by decide, fun v L hL hv => ?_⟩
  (try dsimp only [List.set_cons_zero, List.set_cons_succ, wipeD, putBack, toD_fz])
  obtain ⟨letters, el, nd, hl0, hl1⟩ : ∃ letters : List Nat, (MV.fz (.tup [.str (Str.ofString "ab"), .str (Str.ofString "A"), .str (Str.ofString "xyz"), .str (Str.ofString "BDbd"), .str (Str.ofString "ABCabc")])).ix (D.int (v : Nat)) = some (.fz (dT letters)) ∧ letters.Nodup ∧ 0 < letters.length ∧ letters.length ≤ 6 := by
    match v, hv with
    | 0, _ => exact ⟨[97, 98], rfl, by decide, by decide, by decide⟩
    | 1, _ => exact ⟨[65], rfl, by decide, by decide, by decide⟩
    | 2, _ => exact ⟨[120, 121, 122], rfl, by decide, by decide, by decide⟩
    | 3, _ => exact ⟨[66, 68, 98, 100], rfl, by decide, by decide, by decide⟩
    | 4, _ => exact ⟨[65, 66, 67, 97, 98, 99], rfl, by decide, by decide, by decide⟩
  refine tlx' el ?_
  and_intros
  (try dsimp only [List.set_cons_zero, List.set_cons_succ, wipeD, putBack, toD_fz])
  and_intros
  (try dsimp only [List.set_cons_zero, List.set_cons_succ, wipeD, putBack, toD_fz])
  refine ⟨L, 6, 3, rfl, hL, by decide, fun v L hL hv => ?_⟩
  (try dsimp only [List.set_cons_zero, List.set_cons_succ, wipeD, putBack, toD_fz])
  and_intros
  (try dsimp only [List.set_cons_zero, List.set_cons_succ, wipeD, putBack, toD_fz])
  and_intros
  refine tlend rfl ?_
  refine ⟨L, 1 + v, letters.length, letters, rfl, hL, by omega, by omega, rfl, hl0, by omega, fun forth L hL hfl hfr => ?_⟩
  have ofk : StepsOk forth := steps_ok (by omega) (by omega) (by omega) hfl hfr
  have hfr : ∀ row ∈ forth, row.length = letters.length := fun row h => (hfr row h).1
  clear hfl
  (try dsimp only [List.set_cons_zero, List.set_cons_succ, wipeD, putBack, toD_fz])
  and_intros
  (try dsimp only [List.set_cons_zero, List.set_cons_succ, wipeD, putBack, toD_fz])
  and_intros
  (try dsimp only [List.set_cons_zero, List.set_cons_succ, wipeD, putBack, toD_fz])
  refine ⟨L, 6, 4, rfl, hL, by decide, fun v L hL hv => ?_⟩
  (try dsimp only [List.set_cons_zero, List.set_cons_succ, wipeD, putBack, toD_fz])
  and_intros
  (try dsimp only [List.set_cons_zero, List.set_cons_succ, wipeD, putBack, toD_fz])
  and_intros
  refine tlend rfl ?_
  refine ⟨L, 1 + v, letters.length, letters, rfl, hL, by omega, by omega, rfl, hl0, by omega, fun back L hL hbl hbr => ?_⟩
  have obk : StepsOk back := steps_ok (by omega) (by omega) (by omega) hbl hbr
  have hbr : ∀ row ∈ back, row.length = letters.length := fun row h => (hbr row h).1
  clear hbl
  (try dsimp only [List.set_cons_zero, List.set_cons_succ, wipeD, putBack, toD_fz])
  and_intros
  (try dsimp only [List.set_cons_zero, List.set_cons_succ, wipeD, putBack, toD_fz])
  and_intros
  (try dsimp only [List.set_cons_zero, List.set_cons_succ, wipeD, putBack, toD_fz])
  refine ⟨L, 3, 5, rfl, hL, by decide, fun v L hL hv => ?_⟩
  (try dsimp only [List.set_cons_zero, List.set_cons_succ, wipeD, putBack, toD_fz])
  and_intros
  refine tifd (fun he => ?_) fun he => ?_
  · and_intros
    refine tl1 (ev_lenS (cs := letters) (by omega)) ?_
    and_intros
    refine tifd (fun hlt => ?_) fun hlt => ?_
    · have hlt : letters.length < 4 := by omega
      and_intros
      refine tl1 (ev_listT (cs := letters) (by omega)) ?_
      have ew0 : [[]] ++ ones letters = wordsOf letters (letters.take 0) := by unfold wordsOf; simp
      have ew1 : g2 true dAdd [.ol (tM [[]]), .ol (tM (ones letters))] = some (.ol (tM (wordsOf letters (letters.take 0)))) := by
        rw [← ew0]
        exact ev_addTT (by unfold ones; rw [List.length_map]; show 1 + _ ≤ _; omega)
      refine tl2 ew1 ?_
      and_intros
      (try dsimp only [List.set_cons_zero, List.set_cons_succ, wipeD, putBack, toD_fz])
      and_intros
      refine ⟨_, items_T _, ?_⟩
      refine for_inv (fun i ρ => ∃ o5, ρ = [some L, some (.fz (dT letters)), some (.fz (dS forth)), some (.fz (dS back)), some (.ol (tM (wordsOf letters (letters.take i)))), o5, none, none, none, none, none])
        ⟨_, rfl⟩ (fun i d ρ K ed ⟨o5, e⟩ hk => ?_) fun ρ ⟨o5, e⟩ => ?_
      · rw [List.getElem?_map] at ed
        obtain ⟨c, ec, rfl⟩ := Option.map_eq_some_iff.mp ed
        have hil := (List.getElem?_eq_some_iff.mp ec).1
        subst e
        and_intros
        (try dsimp only [List.set_cons_zero, List.set_cons_succ, wipeD, putBack, toD_fz])
        and_intros
        refine ⟨_, items_T _, rfl, ?_⟩
        refine lc_inv (fun i acc ρ => ∃ (o6 : Option MV), acc = tM ((letters.take i).map fun other => [c, other]) ∧ ρ = [some L, some (.fz (dT letters)), some (.fz (dS forth)), some (.fz (dS back)), some (.ol (tM (wordsOf letters (letters.take _)))), some (.fz (dT [c])), o6, none, none, none, none])
          ⟨none, rfl, rfl⟩ ?_ (fun i2 d2 acc ρ K2 ed2 ⟨o6, ea, e⟩ hK2 => ?_) fun acc ρ ⟨o6, ea, e⟩ => ?_
        · rw [List.length_map]; omega
        · rw [List.getElem?_map] at ed2
          obtain ⟨c2, ec2, rfl⟩ := Option.map_eq_some_iff.mp ed2
          subst e ea
          (try dsimp only [List.set_cons_zero, List.set_cons_succ, wipeD, putBack, toD_fz])
          and_intros
          (try dsimp only [List.set_cons_zero, List.set_cons_succ, wipeD, putBack, toD_fz])
          and_intros
          refine tl2 (ev_cat (a := [c]) (b := [c2]) (by show 2 ≤ lim; omega)) ?_
          exact hK2 _ _ ⟨_, by rw [take_snoc ec2, List.map_append]; exact tM_app _ _, rfl⟩
        · subst e ea
          rw [List.length_map, List.take_length]
          (try dsimp only [List.set_cons_zero, List.set_cons_succ, wipeD, restD, List.getElem?_cons_zero, List.getElem?_cons_succ, Option.getD_some])
          have hwl := words_len letters (letters.take i)
          rw [List.length_take, Nat.min_eq_left (by omega)] at hwl
          have hmul : i * letters.length ≤ 4 * 4 := Nat.mul_le_mul (by omega) (by omega)
          refine tl2 (ev_addTT (by rw [List.length_map]; omega)) ?_
          rw [← words_snoc, ← take_snoc ec]
          and_intros
          (try dsimp only [List.set_cons_zero, List.set_cons_succ, wipeD, putBack, toD_fz])
          exact hk _ ⟨_, rfl⟩
      · subst e
        rw [List.length_map, List.take_length]
        have hwl := words_len letters letters
        have hmul : letters.length * letters.length ≤ 4 * 4 := Nat.mul_le_mul (by omega) (by omega)
        generalize hW : wordsOf letters letters = W at hwl
        and_intros
        (try dsimp only [List.set_cons_zero, List.set_cons_succ, wipeD, putBack, toD_fz])
        rw [toD_tM]
        refine ⟨_, rfl, rfl, ?_⟩
        refine lc_inv (fun i acc ρ => ∃ (rows : List (List Nat)) (o8 : Option MV), acc = rwM rows ∧ ρ = [some L, some (.fz (dT letters)), some (.fz (dS forth)), some (.fz (dS back)), some (.fz (.lst (W.map dT))), o5, none, none, o8, none, none] ∧ rows.length = i ∧ ∀ row ∈ rows, row.length = letters.length ∧ ∀ j ∈ row, j < W.length)
          ⟨[], none, rfl, rfl, rfl, fun _ h => (nomatch h)⟩ ?_ (fun i d acc ρ K ed ⟨rows, o8, ea, e, hrl, hr⟩ hK => ?_) fun acc ρ ⟨rows, o8, ea, e, hrl, hr⟩ => ?_
        · rw [List.length_map]; omega
        · rw [List.getElem?_map] at ed
          obtain ⟨w, ew, rfl⟩ := Option.map_eq_some_iff.mp ed
          have hw := List.mem_of_getElem? ew
          subst e ea
          (try dsimp only [List.set_cons_zero, List.set_cons_succ, wipeD, putBack, toD_fz])
          and_intros
          (try dsimp only [List.set_cons_zero, List.set_cons_succ, wipeD, putBack, toD_fz])
          and_intros
          refine ⟨_, items_T _, rfl, ?_⟩
          refine lc_inv (fun i acc ρ => ∃ (row : List Nat) (o7 : Option MV), acc = nM row ∧ ρ = [some L, some (.fz (dT letters)), some (.fz (dS forth)), some (.fz (dS back)), some (.fz (.lst (W.map dT))), o5, none, o7, some (.fz (dT w)), none, none] ∧ row.length = i ∧ ∀ j ∈ row, j < W.length)
            ⟨[], none, rfl, rfl, rfl, fun _ h => (nomatch h)⟩ ?_ (fun i2 d2 acc ρ K2 ed2 ⟨row, o7, ea, e, hrl2, hr2⟩ hK2 => ?_) fun acc ρ ⟨row, o7, ea, e, hrl2, hr2⟩ => ?_
          · rw [List.length_map]; omega
          · rw [List.getElem?_map] at ed2
            obtain ⟨c, ec, rfl⟩ := Option.map_eq_some_iff.mp ed2
            have hc := List.mem_of_getElem? ec
            have hwl2 : w.length ≤ 1000 := by
              rw [← hW] at hw
              unfold wordsOf at hw
              rcases List.mem_append.mp hw with z | z
              · rcases List.mem_cons.mp z with rfl | z
                · exact Nat.zero_le _
                · obtain ⟨b, hb, rfl⟩ := List.mem_map.mp z
                  show 1 ≤ 1000; omega
              · obtain ⟨a, ha, z⟩ := List.mem_flatMap.mp z
                obtain ⟨b, hb, rfl⟩ := List.mem_map.mp z
                show 2 ≤ 1000; omega
            subst e ea
            (try dsimp only [List.set_cons_zero, List.set_cons_succ, wipeD, putBack, toD_fz])
            and_intros
            (try dsimp only [List.set_cons_zero, List.set_cons_succ, wipeD, putBack, toD_fz])
            and_intros
            refine ⟨rfl, ?_⟩
            and_intros
            refine tl2 (ev_cat (a := [c]) (b := w) (by show 1 + _ ≤ _; omega)) ?_
            and_intros
            have hcl : ([c] ++ w).length ≤ lim := by show w.length + 1 ≤ lim; omega
            refine ⟨rfl, rfl, _, ev_slB (b := 2) hcl, ?_⟩
            obtain ⟨j, hj, ej⟩ := ev_index (W := W) (y := ([c] ++ w).take 2) (by rw [← hW] at hw ⊢; exact words_mem hc hw)
            refine tl2 ej ?_
            refine hK2 _ _ ⟨row ++ [j], _, nM_app _ _, rfl, by rw [List.length_append, List.length_singleton, hrl2], fun j' hj' => ?_⟩
            rcases List.mem_append.mp hj' with z | z
            · exact hr2 j' z
            · rw [List.mem_singleton.mp z]; exact hj
          · subst e ea
            rw [List.length_map] at hrl2
            (try dsimp only [List.set_cons_zero, List.set_cons_succ, wipeD, restD, List.getElem?_cons_zero, List.getElem?_cons_succ, Option.getD_some])
            and_intros
            refine tl1 (ev_tupN _) ?_
            refine hK _ _ ⟨rows ++ [row], _, rwM_app _ _, rfl, by rw [List.length_append, List.length_singleton, hrl], fun rw_ hrw => ?_⟩
            rcases List.mem_append.mp hrw with z | z
            · exact hr _ z
            · rw [List.mem_singleton.mp z]
              exact ⟨hrl2, hr2⟩
        · subst e ea
          rw [List.length_map] at hrl
          (try dsimp only [List.set_cons_zero, List.set_cons_succ, wipeD, restD, List.getElem?_cons_zero, List.getElem?_cons_succ, Option.getD_some])
          and_intros
          refine tl1 (ev_tupRw _) ?_
          refine tlen rfl ?_
          (try dsimp only [List.set_cons_zero, List.set_cons_succ, wipeD, putBack, toD_fz])
          have hr' : ∀ row ∈ rows, row.length = letters.length ∧ ∀ j ∈ row, j < W.length := hr
          exact made_tail _ _ hL nd rfl hl0 hl1 ofk (steps_ok (many := W.length) (k := letters.length) (by omega) (by omega) (by omega) hrl hr') hfr (fun row h => (hr row h).1) hq
    · exact made_tail _ _ hL nd rfl hl0 hl1 ofk obk hfr hbr hq
  · exact made_tail _ _ hL nd rfl hl0 hl1 ofk obk hfr hbr hq
end DL

namespace DL
open PySem PySem.Spec PyProof.Rows L2
local macro_rules | `(tactic| and_intros) => `(tactic| (repeat' (first | (with_reducible refine st_seq ?_) | (with_reducible refine st_asg ?_) | (with_reducible refine st_asgT ?_) | (with_reducible refine st_expr ?_) | (with_reducible refine st_ret ?_) | (with_reducible refine st_if ?_) | (with_reducible refine st_set ?_) | (with_reducible refine st_for ?_) | (with_reducible refine st_par ?_) | (with_reducible refine st_c ?_) | (with_reducible refine st_view ?_) | (with_reducible refine st_op1 ?_) | (with_reducible refine st_op2 ?_) | (with_reducible refine st_op ?_) | (with_reducible refine st_ix ?_) | (with_reducible refine st_nil ?_) | (with_reducible refine st_cons ?_) | (with_reducible refine st_consM ?_) | (with_reducible refine st_lst ?_) | (with_reducible refine st_tup ?_) | (with_reducible refine st_call ?_) | (with_reducible refine st_callK ?_) | (with_reducible refine st_ife ?_) | (with_reducible refine st_ok ?_) | (with_reducible refine st_dic ?_) | (with_reducible refine st_isi ?_) | (with_reducible refine st_sl ?_) | (with_reducible refine st_part0 ?_) | (with_reducible refine st_part1 ?_) | (with_reducible refine st_bool ?_) | (with_reducible refine st_notT ?_) | (with_reducible refine st_andT ?_) | (with_reducible refine st_orT ?_) | (with_reducible refine st_yes ?_) | (with_reducible refine st_andV ?_) | (with_reducible refine st_orV ?_) | (with_reducible refine st_notV ?_) | (with_reducible refine st_it ?_) | (with_reducible refine st_rg1 ?_) | (with_reducible refine st_enum ?_) | (with_reducible refine st_zip ?_) | (with_reducible refine st_lc ?_) | (with_reducible refine st_frz ?_) | ((with_reducible apply st_var); exact rfl) | ((with_reducible apply st_mov); exact rfl) | ((with_reducible apply st_lend); exact rfl) | ((with_reducible apply st_escf); exact rfl) | ((with_reducible apply st_esco); exact rfl) | ((with_reducible apply st_escd); exact rfl) | ((with_reducible apply st_aug); exact rfl) | ((with_reducible apply st_gn); exact rfl) | ((with_reducible apply st_gt); exact rfl) | (with_reducible refine st_gnil ?_) | (with_reducible refine st_gcons ?_) | ((with_reducible apply st_setd); exact ⟨_, _, rfl⟩) | ((with_reducible apply st_app); exact ⟨_, rfl⟩) | (with_reducible refine tl2 ev_lt ?_) | (with_reducible refine tl2 ev_cmp ?_) | (with_reducible refine tl2 ev_add ?_) | (with_reducible refine tl2 ev_sub ?_) | (with_reducible refine tl2 ev_eqI ?_) | (with_reducible refine tl2 ev_neI ?_) | (with_reducible refine tl2 ev_max ?_) | (with_reducible refine tl2 ev_min ?_) | (with_reducible refine tl2' ev_lt ?_) | (with_reducible refine tl2' ev_cmp ?_) | (with_reducible refine tl2' ev_add ?_) | (with_reducible refine tl2' ev_sub ?_) | (with_reducible refine tl2' ev_eqI ?_) | (with_reducible refine tl2' ev_neI ?_) | (with_reducible refine tl2' ev_max ?_) | (with_reducible refine tl2' ev_min ?_) | (with_reducible refine tl1 ev_neg ?_) | (with_reducible refine tl1 ev_lenO ?_) | (with_reducible refine tl1 ev_lenL ?_) | (with_reducible refine tl1 ev_lenT ?_) | (with_reducible refine tl1 ev_lenC ?_) | (with_reducible refine tl1 ev_lenD ?_) | (with_reducible refine tl1 ev_intI ?_) | (with_reducible refine tl1 ev_intB ?_) | (with_reducible refine tl1 ev_abs ?_) | (with_reducible refine tl1 ev_tupO ?_) | (with_reducible refine tl1 ev_tupL ?_) | (with_reducible refine tlz ?_) | (with_reducible refine tlb ?_) | (with_reducible refine tli ?_) | (with_reducible refine tlt ?_) | (with_reducible refine tll ?_) | (with_reducible refine tlo ?_) | (with_reducible refine tlc ?_) | (with_reducible refine ⟨len1, ?_⟩) | (with_reducible refine ⟨len2, ?_⟩) | (with_reducible refine ⟨len3, ?_⟩) | (with_reducible refine ⟨len0, ?_⟩) | (with_reducible refine ⟨len4, ?_⟩) | (with_reducible refine ⟨len5, ?_⟩) | (with_reducible refine ⟨len6, ?_⟩) | ((with_reducible apply tlen); exact rfl) | ((with_reducible apply tset); exact rfl))))

def repL {α : Type} (n : Nat) (xs : List α) : List α := (List.replicate n xs).flatten
theorem repL_len {α : Type} (n : Nat) (xs : List α) : (repL n xs).length = n * xs.length := by
  unfold repL
  rw [List.length_flatten, List.map_replicate, List.sum_replicate_nat]
theorem repL_mem {α : Type} {n : Nat} {xs : List α} {x : α} (h : x ∈ repL n xs) : x ∈ xs := by
  unfold repL at h
  obtain ⟨l, hl, hx⟩ := List.mem_flatten.mp h
  rw [(List.mem_replicate.mp hl).2] at hx
  exact hx
theorem repL_map {α β : Type} (f : α → β) (n : Nat) (xs : List α) : (repL n xs).map f = repL n (xs.map f) := by
  unfold repL
  rw [List.map_flatten, List.map_replicate]
theorem repL_flat {α : Type} (n : Nat) (xs : List (List α)) : (repL n xs).flatten = repL n xs.flatten := by
  unfold repL
  induction n with
  | zero => rfl
  | succ n ih => rw [List.replicate_succ, List.replicate_succ, List.flatten_cons, List.flatten_cons, List.flatten_append, ih]
theorem ev_mulTx {xss : List (List Nat)} {n : Nat} (hn : n ≤ lim) (h : xss.length * n ≤ lim) : g2 true dMul [.fz (dTx xss), nI n] = some (.fz (dTx (repL n xss))) := by
  have hlim : lim = 16777216 := rfl
  have e1 : g2 true dMul [.fz (dTx xss), nI n] = dMul (.tup (xss.map dT)) (.int (n : Nat)) := by
    unfold g2
    exact if_neg Bool.false_ne_true
  rw [e1, dMul, if_pos ⟨by omega, by omega, by rw [Int.toNat_natCast, List.length_map]; exact h⟩, Int.toNat_natCast]
  show some (MV.fz (.tup (repL n (List.map dT xss)))) = _
  rw [← repL_map]
theorem ev_mulT {cs : List Nat} {n : Nat} (hn : n ≤ lim) (h : cs.length * n ≤ lim) : g2 true dMul [.fz (dT cs), nI n] = some (.fz (dT (repL n cs))) := by
  have hlim : lim = 16777216 := rfl
  have e1 : g2 true dMul [.fz (dT cs), nI n] = dMul (.str (sT cs)) (.int (n : Nat)) := by
    unfold g2
    exact if_neg Bool.false_ne_true
  rw [e1, dMul, if_pos ⟨by omega, by omega, by rw [Int.toNat_natCast, sT_len]; exact h⟩]
  unfold repS
  rw [Int.toNat_natCast]
  rfl
theorem atI_lastN (pre : List Nat) (c : Nat) : atI (pre ++ [c]) (-1) = some c := by
  unfold atI ixN
  rw [List.length_append, List.length_singleton, if_neg (by omega), if_pos (by omega)]
  show (pre ++ [c])[_]? = _
  rw [show ((-1 : Int) + ((pre.length + 1 : Nat) : Int)).toNat = pre.length by omega]
  exact List.getElem?_concat_length
theorem ix_Tlast {cs : List Nat} (h : 0 < cs.length) (hl : cs.length ≤ lim) : ∃ c ∈ cs, (MV.fz (dT cs)).ix (D.int (-1)) = some (.fz (dT [c])) := by
  obtain ⟨pre, c, rfl⟩ : ∃ pre c, cs = pre ++ [c] := ⟨cs.dropLast, cs.getLast (by intro z; rw [z] at h; cases h), (List.dropLast_concat_getLast _).symm⟩
  refine ⟨c, by simp, ?_⟩
  have e : (MV.fz (dT (pre ++ [c]))).ix (D.int (-1)) = ((if (sT (pre ++ [c])).length ≤ lim then (atI (pre ++ [c]) (-1)).map fun c => D.str ⟨#[c]⟩ else none)).map .fz := rfl
  rw [e, if_pos (by rw [sT_len]; exact hl), atI_lastN]; rfl
def spTexts : DSp := fun ms Q => ∃ (L : MV) (letters : List Nat), ms = [L, .fz (dT letters)] ∧ LOk L ∧ 0 < letters.length ∧ letters.length ≤ 6 ∧
  ∀ (texts : List (List Nat)) L', LOk L' → (∀ t ∈ texts, ∀ c ∈ t, c ∈ letters) → texts.length ≤ 100 → texts.flatten.length ≤ 5000 → Q (.fz (dTx texts)) [L', .fz .non]
theorem flat_le {n : Nat} : ∀ {xss : List (List Nat)}, (∀ x ∈ xss, x.length ≤ n) → xss.flatten.length ≤ n * xss.length
  | [], _ => Nat.le_refl _
  | x :: xss, h => by
    have h1 := h x (List.mem_cons_self ..)
    have h2 := flat_le (n := n) (xss := xss) fun y hy => h y (List.mem_cons_of_mem _ hy)
    rw [List.flatten_cons, List.length_append, List.length_cons, Nat.mul_succ]
    omega
theorem m_texts (ms : List MV) (Q : MV → List MV → Prop) (hl : ms.length = 2) (hsp : spTexts ms Q) : W__law_texts spThread spShort (endsF [true, false] Q) (env0 7 ms) := by
  obtain ⟨L, letters, rfl, hL, hl0, hl6, hq⟩ := hsp
  have hlim : lim = 16777216 := rfl
  unfold W__law_texts
  have e : env0 7 [L, .fz (dT letters)] = [some L, some (.fz (dT letters)), none, none, none, none, none] := rfl
  rw [e]
  clear e
  and_intros
  (try dsimp only [List.set_cons_zero, List.set_cons_succ, wipeD, putBack, toD_fz])
  refine ⟨L, 5, 11, rfl, hL, by decide, fun way L hL hway => ?_⟩
  (try dsimp only [List.set_cons_zero, List.set_cons_succ, wipeD, putBack, toD_fz])
  and_intros
  (try dsimp only [List.set_cons_zero, List.set_cons_succ, wipeD, putBack, toD_fz])
  and_intros
  refine ⟨L, letters, 6, rfl, hL, hl0, by omega, by omega, fun one L hL h1l h1m => ?_⟩
  (try dsimp only [List.set_cons_zero, List.set_cons_succ, wipeD, putBack, toD_fz])
  and_intros
  (try dsimp only [List.set_cons_zero, List.set_cons_succ, wipeD, putBack, toD_fz])
  refine ⟨L, letters, 6, rfl, hL, hl0, by omega, by omega, fun other L hL h2l h2m => ?_⟩
  (try dsimp only [List.set_cons_zero, List.set_cons_succ, wipeD, putBack, toD_fz])
  refine tlen rfl (tlen rfl ?_)
  show wSeq _ _ _ _
  (try dsimp only [List.set_cons_zero, List.set_cons_succ, wipeD, putBack, toD_fz])
  and_intros
  refine tifd (fun he => ?_) fun he => ?_
  · and_intros
    (try dsimp only [List.set_cons_zero, List.set_cons_succ, wipeD, putBack, toD_fz])
    refine ⟨L, 61, 12, rfl, hL, by decide, fun n L hL hn => ?_⟩
    (try dsimp only [List.set_cons_zero, List.set_cons_succ, wipeD, putBack, toD_fz])
    refine ⟨(n : Nat), rfl, by omega, by omega, rfl, ?_⟩
    rw [Int.toNat_natCast]
    refine lc_inv (fun i acc ρ => ∃ (texts : List (List Nat)) (L : MV) (o5 : Option MV), acc = tM texts ∧ ρ = [some L, some (.fz (dT letters)), some (nI way), some (.fz (dT one)), some (.fz (dT other)), o5, none] ∧ LOk L ∧ texts.length = i ∧ (∀ t ∈ texts, t.length ≤ 4 ∧ ∀ c ∈ t, c ∈ letters))
      ⟨[], L, none, rfl, rfl, hL, rfl, fun _ h => (nomatch h)⟩ ?_ (fun i d acc ρ K ed ⟨texts, L, o5, ea, e, hL, htl, htm⟩ hK => ?_) fun acc ρ ⟨texts, L, o5, ea, e, hL, htl, htm⟩ => ?_
    · rw [List.length_map, List.length_range]; omega
    · subst e ea
      (try dsimp only [List.set_cons_zero, List.set_cons_succ, wipeD, putBack, toD_fz])
      and_intros
      (try dsimp only [List.set_cons_zero, List.set_cons_succ, wipeD, putBack, toD_fz])
      and_intros
      (try dsimp only [List.set_cons_zero, List.set_cons_succ, wipeD, putBack, toD_fz])
      refine ⟨L, letters, 4, rfl, hL, hl0, by omega, by omega, fun t L hL htl' htm' => ?_⟩
      (try dsimp only [List.set_cons_zero, List.set_cons_succ, wipeD, putBack, toD_fz])
      refine hK _ _ ⟨texts ++ [t], L, _, tM_app _ _, rfl, hL, by rw [List.length_append, List.length_singleton, htl], fun y hy => ?_⟩
      rcases List.mem_append.mp hy with z | z
      · exact htm y z
      · rw [List.mem_singleton.mp z]; exact ⟨htl', htm'⟩
    · subst e ea
      rw [List.length_map, List.length_range] at htl
      (try dsimp only [List.set_cons_zero, List.set_cons_succ, wipeD, restD, List.getElem?_cons_zero, List.getElem?_cons_succ, Option.getD_some])
      and_intros
      refine tl1 (show g1 true dTuple [.ol (tM texts)] = some (.fz (dTx texts)) from by rw [tM_fz]; exact ev_tupO) ?_
      have := flat_le (n := 4) fun t ht => (htm t ht).1
      exact ⟨_, rfl, hq texts L hL (fun t ht => (htm t ht).2) (by omega) (by omega)⟩
  and_intros
  refine tifd (fun he => ?_) fun he => ?_
  · and_intros
    (try dsimp only [List.set_cons_zero, List.set_cons_succ, wipeD, putBack, toD_fz])
    refine ⟨L, 61, 12, rfl, hL, by decide, fun n L hL hn => ?_⟩
    (try dsimp only [List.set_cons_zero, List.set_cons_succ, wipeD, putBack, toD_fz])
    refine tl2' (show g2 true dMul [.fz (dTx [one]), nI n] = some (.fz (dTx (repL n [one]))) from ev_mulTx (by omega) (by show 1 * n ≤ _; omega)) ?_
    refine ⟨_, rfl, hq _ L hL (fun t ht => by rw [List.mem_singleton.mp (repL_mem ht)]; exact h1m) (by rw [repL_len]; show n * 1 ≤ _; omega) ?_⟩
    have := flat_le (n := 6) (xss := repL n [one]) fun t ht => by rw [List.mem_singleton.mp (repL_mem ht)]; exact h1l
    rw [repL_len] at this
    have h3 : (n * [one].length) = n := by show n * 1 = n; omega
    omega
  and_intros
  refine tifd (fun he => ?_) fun he => ?_
  · and_intros
    (try dsimp only [List.set_cons_zero, List.set_cons_succ, wipeD, putBack, toD_fz])
    refine ⟨L, 21, 12, rfl, hL, by decide, fun n L hL hn => ?_⟩
    (try dsimp only [List.set_cons_zero, List.set_cons_succ, wipeD, putBack, toD_fz])
    have h3 : ∀ t ∈ [one, other, []], t.length ≤ 6 ∧ ∀ c ∈ t, c ∈ letters := fun t ht => by
      rcases List.mem_cons.mp ht with rfl | ht
      · exact ⟨h1l, h1m⟩
      rcases List.mem_cons.mp ht with rfl | ht
      · exact ⟨h2l, h2m⟩
      rw [List.mem_singleton.mp ht]
      exact ⟨Nat.zero_le _, fun _ h => (nomatch h)⟩
    refine tl2' (show g2 true dMul [.fz (dTx [one, other, []]), nI n] = some (.fz (dTx (repL n [one, other, []]))) from ev_mulTx (by omega) (by show 3 * n ≤ _; omega)) ?_
    refine ⟨_, rfl, hq _ L hL (fun t ht => (h3 t (repL_mem ht)).2) (by rw [repL_len]; show n * 3 ≤ _; omega) ?_⟩
    have := flat_le (n := 6) (xss := repL n [one, other, []]) fun t ht => (h3 t (repL_mem ht)).1
    rw [repL_len] at this
    have h4 : (n * [one, other, []].length) = n * 3 := rfl
    omega
  and_intros
  refine tl1 (ev_lenS (cs := one) (by omega)) ?_
  and_intros
  have em : (if ((one.length : Nat) : Int) > 1 then ((one.length : Nat) : Int) else 1) = ((max 1 one.length : Nat) : Int) := by
    split <;> omega
  rw [em]
  generalize hm : max 1 one.length = m
  have hm1 : 1 ≤ m := by omega
  have hm6 : m ≤ 6 := by omega
  refine tl2 (ev_mul ?_) ?_
  · have := log2_le (n := ((m : Nat) : Int).natAbs) (k := 3) (by rw [Int.natAbs_natCast]; omega)
    have := log2_le (n := (3 : Int).natAbs) (k := 2) (by decide)
    omega
  refine tl2 (ev_fdiv (by omega)) ?_
  and_intros
  (try dsimp only [List.set_cons_zero, List.set_cons_succ, wipeD, putBack, toD_fz])
  have ed : (2000 : Int).fdiv ((m : Nat) * 3) = ((2000 / (m * 3) : Nat) : Int) := by
    rw [Int.fdiv_eq_ediv_of_nonneg _ (by omega)]; rfl
  have hd1 : 111 ≤ 2000 / (m * 3) := (Nat.le_div_iff_mul_le (by omega)).mpr (by omega)
  have hd2 : 2000 / (m * 3) * (m * 3) ≤ 2000 := Nat.div_mul_le_self _ _
  rw [ed]
  generalize 2000 / (m * 3) = many at hd1 hd2
  refine ⟨L, many, 13, rfl, hL, by omega, fun n L hL hn => ?_⟩
  (try dsimp only [List.set_cons_zero, List.set_cons_succ, wipeD, putBack, toD_fz])
  and_intros
  rw [show (1 : Int) + (n : Nat) = ((1 + n : Nat) : Int) by omega]
  have hlong : one.length * (1 + n) ≤ 666 := by
    have h1 : one.length * (1 + n) ≤ m * many := Nat.mul_le_mul (by omega) (by omega)
    have h2 : many * (m * 3) = (m * many) * 3 := by rw [← Nat.mul_assoc, Nat.mul_comm many m]
    omega
  have hn2 : 1 + n ≤ 2000 := by
    have : many * 3 ≤ many * (m * 3) := Nat.mul_le_mul_left _ (by omega)
    omega
  refine tl2' (ev_mulT (by omega) (by omega)) ?_
  and_intros
  (try dsimp only [List.set_cons_zero, List.set_cons_succ, wipeD, putBack, toD_fz])
  have hll : (repL (1 + n) one).length ≤ 666 := by rw [repL_len, Nat.mul_comm]; exact hlong
  have hlm : ∀ c ∈ repL (1 + n) one, c ∈ letters := fun c hc => h1m c (repL_mem hc)
  generalize repL (1 + n) one = long at hll hlm
  and_intros
  refine ⟨rfl, rfl, _, ev_slB (b := 2) (by omega), ?_⟩
  and_intros
  obtain ⟨c, hc, ec⟩ := ix_Tlast hl0 (by omega)
  refine tlx ec ?_
  and_intros
  refine ⟨rfl, rfl, _, ev_slB (b := 600) (by omega), ?_⟩
  and_intros
  (try dsimp only [List.set_cons_zero, List.set_cons_succ, wipeD, putBack, toD_fz])
  refine ⟨L, 3, 14, rfl, hL, by decide, fun j L hL hj => ?_⟩
  (try dsimp only [List.set_cons_zero, List.set_cons_succ, wipeD, putBack, toD_fz])
  and_intros
  have h6 : ∀ t ∈ [long, other.take 2, long, [], [c], long.take 600], t.length ≤ 666 ∧ ∀ c ∈ t, c ∈ letters := fun t ht => by
    simp only [List.mem_cons, List.not_mem_nil, or_false] at ht
    rcases ht with rfl | rfl | rfl | rfl | rfl | rfl
    · exact ⟨hll, hlm⟩
    · exact ⟨by rw [List.length_take]; omega, fun c hc => h2m c (List.mem_of_mem_take hc)⟩
    · exact ⟨hll, hlm⟩
    · exact ⟨Nat.zero_le _, fun _ h => (nomatch h)⟩
    · exact ⟨by show 1 ≤ 666; omega, fun b hb => by rw [List.mem_singleton.mp hb]; exact hc⟩
    · exact ⟨by rw [List.length_take]; omega, fun c hc => hlm c (List.mem_of_mem_take hc)⟩
  generalize hts : [long, other.take 2, long, [], [c], long.take 600] = ts at h6
  have htl : ts.length = 6 := by rw [← hts]; rfl
  refine ⟨rfl, rfl, .fz (dTx (ts.drop j)), ?_, ?_⟩
  · rw [← hts]
    match j, hj with
    | 0, _ => rfl
    | 1, _ => rfl
    | 2, _ => rfl
  · have hmem : ∀ t ∈ ts.drop j, t ∈ ts := fun t ht => List.mem_of_mem_drop ht
    have hfl := flat_le (n := 666) (xss := ts.drop j) fun t ht => (h6 t (hmem t ht)).1
    rw [List.length_drop] at hfl
    refine ⟨_, rfl, hq _ L hL (fun t ht => (h6 t (hmem t ht)).2) (by rw [List.length_drop]; omega) ?_⟩
    have : 666 * (ts.length - j) ≤ 666 * 6 := Nat.mul_le_mul_left _ (by omega)
    omega
end DL

namespace DL
open PySem PySem.Spec PyProof.Rows L2
local macro_rules | `(tactic| and_intros) => `(tactic| (repeat' (first | (with_reducible refine st_seq ?_) | (with_reducible refine st_asg ?_) | (with_reducible refine st_asgT ?_) | (with_reducible refine st_expr ?_) | (with_reducible refine st_ret ?_) | (with_reducible refine st_if ?_) | (with_reducible refine st_set ?_) | (with_reducible refine st_for ?_) | (with_reducible refine st_par ?_) | (with_reducible refine st_c ?_) | (with_reducible refine st_view ?_) | (with_reducible refine st_op1 ?_) | (with_reducible refine st_op2 ?_) | (with_reducible refine st_op ?_) | (with_reducible refine st_ix ?_) | (with_reducible refine st_nil ?_) | (with_reducible refine st_cons ?_) | (with_reducible refine st_consM ?_) | (with_reducible refine st_lst ?_) | (with_reducible refine st_tup ?_) | (with_reducible refine st_call ?_) | (with_reducible refine st_callK ?_) | (with_reducible refine st_ife ?_) | (with_reducible refine st_ok ?_) | (with_reducible refine st_dic ?_) | (with_reducible refine st_isi ?_) | (with_reducible refine st_sl ?_) | (with_reducible refine st_part0 ?_) | (with_reducible refine st_part1 ?_) | (with_reducible refine st_bool ?_) | (with_reducible refine st_notT ?_) | (with_reducible refine st_andT ?_) | (with_reducible refine st_orT ?_) | (with_reducible refine st_yes ?_) | (with_reducible refine st_andV ?_) | (with_reducible refine st_orV ?_) | (with_reducible refine st_notV ?_) | (with_reducible refine st_it ?_) | (with_reducible refine st_rg1 ?_) | (with_reducible refine st_enum ?_) | (with_reducible refine st_zip ?_) | (with_reducible refine st_lc ?_) | (with_reducible refine st_frz ?_) | ((with_reducible apply st_var); exact rfl) | ((with_reducible apply st_mov); exact rfl) | ((with_reducible apply st_lend); exact rfl) | ((with_reducible apply st_escf); exact rfl) | ((with_reducible apply st_esco); exact rfl) | ((with_reducible apply st_escd); exact rfl) | ((with_reducible apply st_aug); exact rfl) | ((with_reducible apply st_gn); exact rfl) | ((with_reducible apply st_gt); exact rfl) | (with_reducible refine st_gnil ?_) | (with_reducible refine st_gcons ?_) | ((with_reducible apply st_setd); exact ⟨_, _, rfl⟩) | ((with_reducible apply st_app); exact ⟨_, rfl⟩) | (with_reducible refine tl2 ev_lt ?_) | (with_reducible refine tl2 ev_cmp ?_) | (with_reducible refine tl2 ev_add ?_) | (with_reducible refine tl2 ev_sub ?_) | (with_reducible refine tl2 ev_eqI ?_) | (with_reducible refine tl2 ev_neI ?_) | (with_reducible refine tl2 ev_max ?_) | (with_reducible refine tl2 ev_min ?_) | (with_reducible refine tl2' ev_lt ?_) | (with_reducible refine tl2' ev_cmp ?_) | (with_reducible refine tl2' ev_add ?_) | (with_reducible refine tl2' ev_sub ?_) | (with_reducible refine tl2' ev_eqI ?_) | (with_reducible refine tl2' ev_neI ?_) | (with_reducible refine tl2' ev_max ?_) | (with_reducible refine tl2' ev_min ?_) | (with_reducible refine tl1 ev_neg ?_) | (with_reducible refine tl1 ev_lenO ?_) | (with_reducible refine tl1 ev_lenL ?_) | (with_reducible refine tl1 ev_lenT ?_) | (with_reducible refine tl1 ev_lenC ?_) | (with_reducible refine tl1 ev_lenD ?_) | (with_reducible refine tl1 ev_intI ?_) | (with_reducible refine tl1 ev_intB ?_) | (with_reducible refine tl1 ev_abs ?_) | (with_reducible refine tl1 ev_tupO ?_) | (with_reducible refine tl1 ev_tupL ?_) | (with_reducible refine tlz ?_) | (with_reducible refine tlb ?_) | (with_reducible refine tli ?_) | (with_reducible refine tlt ?_) | (with_reducible refine tll ?_) | (with_reducible refine tlo ?_) | (with_reducible refine tlc ?_) | (with_reducible refine ⟨len1, ?_⟩) | (with_reducible refine ⟨len2, ?_⟩) | (with_reducible refine ⟨len3, ?_⟩) | (with_reducible refine ⟨len0, ?_⟩) | (with_reducible refine ⟨len4, ?_⟩) | (with_reducible refine ⟨len5, ?_⟩) | (with_reducible refine ⟨len6, ?_⟩) | ((with_reducible apply tlen); exact rfl) | ((with_reducible apply tset); exact rfl))))

theorem ev_joinTx {xss : List (List Nat)} (h : xss.flatten.length ≤ lim) : g2 false dJoin [.fz (.str (Str.ofString "")), .fz (dTx xss)] = some (.fz (dT xss.flatten)) := by
  show dJoin (.str (Str.ofString "")) (.tup (xss.map dT)) = _
  rw [show dJoin (.str (Str.ofString "")) (.tup (xss.map dT)) = dJoin (.str (Str.ofString "")) (.lst (xss.map dT)) from rfl]
  exact join_T h
theorem ev_tupT {cs : List Nat} (h : cs.length ≤ lim) : g1 true dTuple [.fz (dT cs)] = some (.fz (dTx (ones cs))) := by
  have e : g1 true dTuple [.fz (dT cs)] = if (sT cs).length ≤ lim then some (.fz (.tup (chars (sT cs)))) else none := rfl
  rw [e, if_pos (show (sT cs).length ≤ lim from h), chars_T]
  unfold ones
  rw [show dTx (cs.map fun c => [c]) = .tup (cs.map fun c => dT [c]) by show D.tup _ = _; rw [List.map_map]; rfl]
theorem tpar0 {ρ : DEnv} {Q : DEnv → Prop} (z : Q ρ) : wParB [] [] ρ Q := z
theorem ev_addTx {xs ys : List (List Nat)} (h : xs.length + ys.length ≤ lim) : g2 true dAdd [.fz (dTx xs), .fz (dTx ys)] = some (.fz (dTx (xs ++ ys))) := by
  have e : g2 true dAdd [.fz (dTx xs), .fz (dTx ys)] = if (xs.map dT).length + (ys.map dT).length ≤ lim then some (.fz (.tup (xs.map dT ++ ys.map dT))) else none := rfl
  rw [e, if_pos (by rw [List.length_map, List.length_map]; exact h), ← List.map_append]
def spAsked : DSp := fun ms Q => ∃ (L : MV) (R : Rd) (k : Nat) (texts : List (List Nat)), ms = [L, .fz (dR R), .fz (dTx texts)] ∧ LOk L ∧ ROk R k ∧ R.letters.Nodup ∧ R.letters.length = k ∧ k ≤ 6 ∧ (∀ t ∈ texts, ∀ c ∈ t, c ∈ R.letters) ∧ texts.length ≤ 100 ∧ texts.flatten.length ≤ 5000 ∧
  ∀ L', LOk L' → Q (.fz (.bl true)) [L', .fz .non, .fz .non]
theorem m_asked (ms : List MV) (Q : MV → List MV → Prop) (hl : ms.length = 3) (hsp : spAsked ms Q) : W__law_asked spMarks spParts spLMarks spShort spParted spSame (endsF [true, false, false] Q) (env0 9 ms) := by
  obtain ⟨L, R, k, texts, rfl, hL, ok, nd, hk, hk6, hin, htl, htf, hq⟩ := hsp
  have hlim : lim = 16777216 := rfl
  unfold W__law_asked
  have e : env0 9 [L, .fz (dR R), .fz (dTx texts)] = [some L, some (.fz (dR R)), some (.fz (dTx texts)), none, none, none, none, none, none] := rfl
  rw [e]
  clear e
  have hk0 := ok.k1
  have hinf : ∀ c ∈ texts.flatten, c ∈ R.letters := fun c hc => by
    obtain ⟨t, ht, hc⟩ := List.mem_flatten.mp hc
    exact hin t ht c hc
  and_intros
  refine ⟨rfl, ?_⟩
  and_intros
  refine tl2' (ev_joinTx (by omega)) ?_
  and_intros
  (try dsimp only [List.set_cons_zero, List.set_cons_succ, wipeD, putBack, toD_fz])
  and_intros
  refine ⟨R, k, _, _, texts.flatten, rfl, ok.good, nd, hk, by omega, by omega, hinf, ?_⟩
  and_intros
  (try dsimp only [List.set_cons_zero, List.set_cons_succ, wipeD, putBack, toD_fz])
  and_intros
  refine ⟨R, k, texts, rfl, ok, nd, hk, by omega, by omega, hin, ?_⟩
  and_intros
  refine ⟨_, rfl, ?_⟩
  and_intros
  rw [if_neg (by decide)]
  and_intros
  refine ⟨_, _, rfl, ?_⟩
  refine ⟨R, k, _, _, texts.flatten, rfl, ok.good, nd, hk, by omega, by omega, hinf, ?_⟩
  and_intros
  refine ⟨_, rfl, ?_⟩
  and_intros
  rw [if_neg (by decide)]
  and_intros
  refine ⟨by decide, by decide, ?_⟩
  refine for_inv (fun i ρ => ∃ (L : MV) (o5 : Option MV), ρ = [some L, some (.fz (dR R)), some (.fz (dTx texts)), some (.fz (dT texts.flatten)), some (.fz (dT (marks R 0 0 (texts.flatten.map (num R.letters))))), o5, none, none, none] ∧ LOk L)
    ⟨L, _, rfl, hL⟩ (fun i d ρ K ed ⟨L, o5, e, hL⟩ hk' => ?_) fun ρ ⟨L, o5, e, hL⟩ => ?_
  · subst e
    and_intros
    (try dsimp only [List.set_cons_zero, List.set_cons_succ, wipeD, putBack, toD_fz])
    and_intros
    (try dsimp only [List.set_cons_zero, List.set_cons_succ, wipeD, putBack, toD_fz])
    refine ⟨L, texts.flatten, rfl, hL, by omega, fun texts2 L hL hf2 hl2 => ?_⟩
    (try dsimp only [List.set_cons_zero, List.set_cons_succ, wipeD, putBack, toD_fz])
    and_intros
    refine ⟨_, _, rfl, ?_⟩
    refine ⟨R, k, texts2, rfl, ok, nd, hk, by omega, by rw [hf2]; omega, fun t ht c hc => hinf c (by rw [← hf2]; exact List.mem_flatten.mpr ⟨t, ht, hc⟩), ?_⟩
    rw [hf2]
    and_intros
    refine ⟨_, rfl, ?_⟩
    and_intros
    rw [if_neg (by decide)]
    exact hk' _ ⟨L, _, rfl, hL⟩
  · subst e
    have fin : ∀ L : MV, LOk L → (wSeq (wAsg 6 (wCall spShort [some 0, none, none] (wConsM (wMov 0) (wConsM (wFrz (wEsc none true (wIx (wVar 1) true (wC (.int 0)) false))) (wConsM (wC (.int 3)) wNil)))))
        (wSeq (wIfS (wBool (wOp2 (g2 true (dCmpI fun i j => decide (j < i))) (wOp2 (g2 true dAdd) (wOp (g1 false dLen) (wCons (wVar 3) true false wNil)) false (wC (.int 6)) false false) false (wC (.int 2000)) false false))
          (wRet (wC (.bl true)))
          wSkip)
        (wSeq (wPar [7, 8] (wConsM (wCall spParts [none, none] (wConsM (wEsc (some 1) true (wVar 1)) (wConsM (wFrz (wOp2 (g2 true dAdd) (wTup (wConsM (wEsc (some 6) true (wVar 6)) wNil)) false (wVar 2) true false)) wNil))) (wConsM (wCall spParts [none, none] (wConsM (wEsc (some 1) true (wVar 1)) (wConsM (wFrz (wOp2 (g2 true dAdd) (wVar 2) true (wTup (wConsM (wC (.str "")) (wConsM (wEsc (some 6) true (wVar 6)) wNil))) false false)) wNil))) wNil)))
        (wRet (wAndV (wCall spSame [none, none] (wConsM (wEsc (some 7) true (wVar 7)) (wConsM (wFrz (wCall spLMarks [none, none] (wConsM (wEsc (some 1) true (wVar 1)) (wConsM (wFrz (wOp2 (g2 true dAdd) (wVar 6) true (wVar 3) true false)) wNil)))) wNil))) (wCall spSame [none, none] (wConsM (wEsc (some 8) true (wVar 8)) (wConsM (wFrz (wCall spLMarks [none, none] (wConsM (wEsc (some 1) true (wVar 1)) (wConsM (wFrz (wOp2 (g2 true dAdd) (wVar 3) true (wVar 6) true false)) wNil)))) wNil))))))))
        (endsF [true, false, false] Q) [some L, some (.fz (dR R)), some (.fz (dTx texts)), some (.fz (dT texts.flatten)), some (.fz (dT (marks R 0 0 (texts.flatten.map (num R.letters))))), o5, none, none, none] := fun L hL => by
      and_intros
      (try dsimp only [List.set_cons_zero, List.set_cons_succ, wipeD, putBack, toD_fz])
      refine tlx (show (MV.fz (dR R)).ix (D.int 0) = some (.fz (dT R.letters)) from rfl) ?_
      and_intros
      refine ⟨L, R.letters, 3, rfl, hL, by omega, by omega, by omega, fun more L hL hml hmm => ?_⟩
      (try dsimp only [List.set_cons_zero, List.set_cons_succ, wipeD, putBack, toD_fz])
      and_intros
      (try dsimp only [List.set_cons_zero, List.set_cons_succ, wipeD, putBack, toD_fz])
      refine tl1 (ev_lenS (cs := texts.flatten) (by omega)) ?_
      and_intros
      refine tifd (fun hb => ?_) fun hb => ?_
      · and_intros
        exact ⟨_, rfl, hq L hL⟩
      · and_intros
        refine tl2 (show g2 true dAdd [.fz (dTx [more]), .fz (dTx texts)] = some (.fz (dTx ([more] ++ texts))) from ev_addTx (by show 1 + _ ≤ _; omega)) ?_
        and_intros
        refine ⟨R, k, [more] ++ texts, rfl, ok, nd, hk, ?_, ?_, ?_, ?_⟩
        · show texts.length + 1 < _; omega
        · rw [List.flatten_append, List.flatten_singleton, List.length_append]; omega
        · intro t ht c hc
          rcases List.mem_append.mp ht with z | z
          · rw [List.mem_singleton.mp z] at hc; exact hmm c hc
          · exact hin t z c hc
        and_intros
        refine tl2 (show g2 true dAdd [.fz (dTx texts), .fz (dTx [[], more])] = some (.fz (dTx (texts ++ [[], more]))) from ev_addTx (by show _ + 2 ≤ _; omega)) ?_
        and_intros
        have hfl : (texts ++ [[], more]).flatten = texts.flatten ++ more := by simp
        refine ⟨R, k, texts ++ [[], more], rfl, ok, nd, hk, ?_, ?_, ?_, ?_⟩
        · rw [List.length_append]; show _ + 2 < _; omega
        · rw [hfl, List.length_append]; omega
        · intro t ht c hc
          rcases List.mem_append.mp ht with z | z
          · exact hin t z c hc
          · rcases List.mem_cons.mp z with rfl | z
            · cases hc
            · rw [List.mem_singleton.mp z] at hc; exact hmm c hc
        rw [hfl, List.flatten_append, List.flatten_singleton]
        (try dsimp only [List.set_cons_zero, List.set_cons_succ, wipeD, putBack, toD_fz])
        refine tlen rfl (tlen rfl (tpar0 ?_))
        (try dsimp only [List.set_cons_zero, List.set_cons_succ, wipeD, putBack, toD_fz])
        and_intros
        refine tl2 (ev_cat (a := more) (b := texts.flatten) (by omega)) ?_
        and_intros
        refine ⟨R, k, _, _, more ++ texts.flatten, rfl, ok.good, nd, hk, by omega, by rw [List.length_append]; omega, fun c hc => ?_, ?_⟩
        · rcases List.mem_append.mp hc with z | z
          · exact hmm c z
          · exact hinf c z
        and_intros
        refine ⟨_, rfl, ?_⟩
        and_intros
        rw [if_pos rfl]
        and_intros
        refine tl2 (ev_cat (a := texts.flatten) (b := more) (by omega)) ?_
        and_intros
        refine ⟨R, k, _, _, texts.flatten ++ more, rfl, ok.good, nd, hk, by omega, by rw [List.length_append]; omega, fun c hc => ?_, ?_⟩
        · rcases List.mem_append.mp hc with z | z
          · exact hinf c z
          · exact hmm c z
        and_intros
        refine ⟨_, rfl, ?_⟩
        exact ⟨_, rfl, hq L hL⟩
    and_intros
    refine tl1 (ev_lenS (cs := texts.flatten) (by omega)) ?_
    and_intros
    refine tifd (fun hb => ?_) fun hb => ?_
    · and_intros
      refine tl1 (ev_tupT (cs := texts.flatten) (by omega)) ?_
      and_intros
      refine ⟨R, k, ones texts.flatten, rfl, ok, nd, hk, ?_, ?_, ?_, ?_⟩
      · unfold ones; rw [List.length_map]; omega
      · rw [flat_ones]; omega
      · intro t ht c hc
        obtain ⟨b, hb, rfl⟩ := List.mem_map.mp ht
        rw [List.mem_singleton.mp hc]; exact hinf b hb
      rw [flat_ones]
      and_intros
      refine ⟨_, rfl, ?_⟩
      and_intros
      rw [if_neg (by decide)]
      exact fin L hL
    · try rw [if_neg (by decide)]
      exact fin L hL
def spLaw : DSp := fun ms Q => ∃ ns : List Int, ms = [.fz (.scr ns)] ∧ Q (.fz (.bl true)) [.fz .non]
theorem m_law (ms : List MV) (Q : MV → List MV → Prop) (hl : ms.length = 1) (hsp : spLaw ms Q) : W_law spParts spLoom spMade spTexts spSame spAsked (endsF [false] Q) (env0 4 ms) := by
  obtain ⟨ns, rfl, hq⟩ := hsp
  have hlim : lim = 16777216 := rfl
  unfold W_law
  have e : env0 4 [MV.fz (.scr ns)] = [some (.fz (.scr ns)), none, none, none] := rfl
  rw [e]
  clear e
  and_intros
  refine ⟨ns, rfl, fun L hL => ?_⟩
  (try dsimp only [List.set_cons_zero, List.set_cons_succ, wipeD, putBack, toD_fz])
  and_intros
  (try dsimp only [List.set_cons_zero, List.set_cons_succ, wipeD, putBack, toD_fz])
  and_intros
  refine ⟨by decide, by decide, ?_⟩
  refine for_inv (fun i ρ => ∃ (L : MV) (o2 o3 : Option MV), ρ = [some (.fz (.scr ns)), some L, o2, o3] ∧ LOk L)
    ⟨L, _, _, rfl, hL⟩ (fun i d ρ K ed ⟨L, o2, o3, e, hL⟩ hk' => ?_) fun ρ ⟨L, o2, o3, e, hL⟩ => ?_
  · subst e
    and_intros
    (try dsimp only [List.set_cons_zero, List.set_cons_succ, wipeD, putBack, toD_fz])
    and_intros
    (try dsimp only [List.set_cons_zero, List.set_cons_succ, wipeD, putBack, toD_fz])
    refine ⟨L, rfl, hL, fun R k L hL ok nd hk hk6 => ?_⟩
    have hk0 := ok.k1
    (try dsimp only [List.set_cons_zero, List.set_cons_succ, wipeD, putBack, toD_fz])
    and_intros
    (try dsimp only [List.set_cons_zero, List.set_cons_succ, wipeD, putBack, toD_fz])
    and_intros
    refine tlx (show (MV.fz (dR R)).ix (D.int 0) = some (.fz (dT R.letters)) from rfl) ?_
    and_intros
    (try dsimp only [List.set_cons_zero, List.set_cons_succ, wipeD, putBack, toD_fz])
    refine ⟨L, R.letters, rfl, hL, by omega, by omega, fun texts L hL hin htl htf => ?_⟩
    (try dsimp only [List.set_cons_zero, List.set_cons_succ, wipeD, putBack, toD_fz])
    and_intros
    refine tlend rfl ?_
    refine ⟨L, R, k, texts, rfl, hL, ok, nd, hk, hk6, hin, htl, htf, fun L hL => ?_⟩
    (try dsimp only [List.set_cons_zero, List.set_cons_succ, wipeD, putBack, toD_fz])
    and_intros
    rw [if_neg (by decide)]
    and_intros
    refine ⟨R, k, [], rfl, ok, nd, hk, by decide, by decide, fun _ h => (nomatch h), ?_⟩
    and_intros
    refine ⟨[], rfl, ?_⟩
    and_intros
    rw [if_neg (by decide)]
    and_intros
    refine ⟨R, k, [[], []], rfl, ok, nd, hk, by decide, by decide, fun t ht c hc => ?_, ?_⟩
    · rcases List.mem_cons.mp ht with rfl | ht
      · cases hc
      · rw [List.mem_singleton.mp ht] at hc; cases hc
    and_intros
    refine ⟨[], rfl, ?_⟩
    and_intros
    rw [if_neg (by decide)]
    exact hk' _ ⟨L, _, _, rfl, hL⟩
  · subst e
    and_intros
    exact ⟨_, rfl, hq⟩
end DL

namespace DL
open PySem PySem.Spec PyProof.Rows L2
theorem sp_start {K : DCx} {H : Hp} {a : Addr} {ns : List Int} {E : XK} (hS : SqL K.K H a (ns.map V.int)) : spD K 1 [false] spLaw [.ref a] H (fun v _ => v = .bl true) E :=
  ⟨rfl, H, [.fz (.scr ns)], fun _ _ => False, fun _ => False, fun m _ => m = .fz (.bl true), Same.refl H, rfl, fun k v m e1 e2 => by
    cases k with
    | zero => simp only [List.getElem?_cons_zero, Option.some.injEq] at e1 e2; subst e1 e2; exact .of (.scr hS)
    | succ k => simp at e1, fun _ _ _ h => h, fun _ _ _ h => h.elim, fun _ _ h => h.elim, fun _ h => h.elim, ⟨ns, rfl, rfl⟩, fun F' H' v m T fin U p e => by
      subst e
      have := p.rm.fzv.1
      cases this
      rfl⟩
section
theorem all_mk {l : PySem.W.OpenLaw} {w : World} {K : PySem.W.Frag} {h : Heap} {mg : Str → Option Value} {fa : Addr} (X : K.In h) (G : h.Ns mainGlobals mg) (hfa : mg "law" = some (.ref fa))
    {f0 : Addr} {od0 an0 : Option Addr} {sl0 : Array (Option Value)} {oc0 kV0 dc0 pm0 cd0 ct0 : Value}
    (a0 : PySem.W.nsIn K mainGlobals "reached_order" = some (some (.ref f0))) (l0 : K.lookup f0 = some ⟨oc0, od0, .func (PySem.W.fnOf "reached_order" "reached_order" (defArgs s_reached_order) (defBody s_reached_order) (defScope s_reached_order) .none kV0 dc0 pm0 an0 cd0 ct0), sl0⟩) (c0 : PySem.W.codeIn K cd0 "reached_order" = true) (k0 : PySem.W.keepIn K (.ref f0) = true)
    {f1 : Addr} {od1 an1 : Option Addr} {sl1 : Array (Option Value)} {oc1 kV1 dc1 pm1 cd1 ct1 : Value}
    (a1 : PySem.W.nsIn K mainGlobals "merged_classes" = some (some (.ref f1))) (l1 : K.lookup f1 = some ⟨oc1, od1, .func (PySem.W.fnOf "merged_classes" "merged_classes" (defArgs s_merged_classes) (defBody s_merged_classes) (defScope s_merged_classes) .none kV1 dc1 pm1 an1 cd1 ct1), sl1⟩) (c1 : PySem.W.codeIn K cd1 "merged_classes" = true) (k1 : PySem.W.keepIn K (.ref f1) = true)
    {f2 : Addr} {od2 an2 : Option Addr} {sl2 : Array (Option Value)} {oc2 kV2 dc2 pm2 cd2 ct2 : Value}
    (a2 : PySem.W.nsIn K mainGlobals "merged_machine" = some (some (.ref f2))) (l2 : K.lookup f2 = some ⟨oc2, od2, .func (PySem.W.fnOf "merged_machine" "merged_machine" (defArgs s_merged_machine) (defBody s_merged_machine) (defScope s_merged_machine) .none kV2 dc2 pm2 an2 cd2 ct2), sl2⟩) (c2 : PySem.W.codeIn K cd2 "merged_machine" = true) (k2 : PySem.W.keepIn K (.ref f2) = true)
    {f3 : Addr} {od3 an3 : Option Addr} {sl3 : Array (Option Value)} {oc3 kV3 dc3 pm3 cd3 ct3 : Value}
    (a3 : PySem.W.nsIn K mainGlobals "first_homes" = some (some (.ref f3))) (l3 : K.lookup f3 = some ⟨oc3, od3, .func (PySem.W.fnOf "first_homes" "first_homes" (defArgs s_first_homes) (defBody s_first_homes) (defScope s_first_homes) .none kV3 dc3 pm3 an3 cd3 ct3), sl3⟩) (c3 : PySem.W.codeIn K cd3 "first_homes" = true) (k3 : PySem.W.keepIn K (.ref f3) = true)
    {f4 : Addr} {od4 an4 : Option Addr} {sl4 : Array (Option Value)} {oc4 kV4 dc4 pm4 cd4 ct4 : Value}
    (a4 : PySem.W.nsIn K mainGlobals "picked_rows" = some (some (.ref f4))) (l4 : K.lookup f4 = some ⟨oc4, od4, .func (PySem.W.fnOf "picked_rows" "picked_rows" (defArgs s_picked_rows) (defBody s_picked_rows) (defScope s_picked_rows) .none kV4 dc4 pm4 an4 cd4 ct4), sl4⟩) (c4 : PySem.W.codeIn K cd4 "picked_rows" = true) (k4 : PySem.W.keepIn K (.ref f4) = true)
    {f5 : Addr} {od5 an5 : Option Addr} {sl5 : Array (Option Value)} {oc5 kV5 dc5 pm5 cd5 ct5 : Value}
    (a5 : PySem.W.nsIn K mainGlobals "least_readers" = some (some (.ref f5))) (l5 : K.lookup f5 = some ⟨oc5, od5, .func (PySem.W.fnOf "least_readers" "least_readers" (defArgs s_least_readers) (defBody s_least_readers) (defScope s_least_readers) .none kV5 dc5 pm5 an5 cd5 ct5), sl5⟩) (c5 : PySem.W.codeIn K cd5 "least_readers" = true) (k5 : PySem.W.keepIn K (.ref f5) = true)
    {f6 : Addr} {od6 an6 : Option Addr} {sl6 : Array (Option Value)} {oc6 kV6 dc6 pm6 cd6 ct6 : Value}
    (a6 : PySem.W.nsIn K mainGlobals "letter_places" = some (some (.ref f6))) (l6 : K.lookup f6 = some ⟨oc6, od6, .func (PySem.W.fnOf "letter_places" "letter_places" (defArgs s_letter_places) (defBody s_letter_places) (defScope s_letter_places) .none kV6 dc6 pm6 an6 cd6 ct6), sl6⟩) (c6 : PySem.W.codeIn K cd6 "letter_places" = true) (k6 : PySem.W.keepIn K (.ref f6) = true)
    {f7 : Addr} {od7 an7 : Option Addr} {sl7 : Array (Option Value)} {oc7 kV7 dc7 pm7 cd7 ct7 : Value}
    (a7 : PySem.W.nsIn K mainGlobals "letter_numbers" = some (some (.ref f7))) (l7 : K.lookup f7 = some ⟨oc7, od7, .func (PySem.W.fnOf "letter_numbers" "letter_numbers" (defArgs s_letter_numbers) (defBody s_letter_numbers) (defScope s_letter_numbers) .none kV7 dc7 pm7 an7 cd7 ct7), sl7⟩) (c7 : PySem.W.codeIn K cd7 "letter_numbers" = true) (k7 : PySem.W.keepIn K (.ref f7) = true)
    {f8 : Addr} {od8 an8 : Option Addr} {sl8 : Array (Option Value)} {oc8 kV8 dc8 pm8 cd8 ct8 : Value}
    (a8 : PySem.W.nsIn K mainGlobals "states_along" = some (some (.ref f8))) (l8 : K.lookup f8 = some ⟨oc8, od8, .func (PySem.W.fnOf "states_along" "states_along" (defArgs s_states_along) (defBody s_states_along) (defScope s_states_along) .none kV8 dc8 pm8 an8 cd8 ct8), sl8⟩) (c8 : PySem.W.codeIn K cd8 "states_along" = true) (k8 : PySem.W.keepIn K (.ref f8) = true)
    {f9 : Addr} {od9 an9 : Option Addr} {sl9 : Array (Option Value)} {oc9 kV9 dc9 pm9 cd9 ct9 : Value}
    (a9 : PySem.W.nsIn K mainGlobals "marks_by" = some (some (.ref f9))) (l9 : K.lookup f9 = some ⟨oc9, od9, .func (PySem.W.fnOf "marks_by" "marks_by" (defArgs s_marks_by) (defBody s_marks_by) (defScope s_marks_by) .none kV9 dc9 pm9 an9 cd9 ct9), sl9⟩) (c9 : PySem.W.codeIn K cd9 "marks_by" = true) (k9 : PySem.W.keepIn K (.ref f9) = true)
    {f10 : Addr} {od10 an10 : Option Addr} {sl10 : Array (Option Value)} {oc10 kV10 dc10 pm10 cd10 ct10 : Value}
    (a10 : PySem.W.nsIn K mainGlobals "told_marks" = some (some (.ref f10))) (l10 : K.lookup f10 = some ⟨oc10, od10, .func (PySem.W.fnOf "told_marks" "told_marks" (defArgs s_told_marks) (defBody s_told_marks) (defScope s_told_marks) .none kV10 dc10 pm10 an10 cd10 ct10), sl10⟩) (c10 : PySem.W.codeIn K cd10 "told_marks" = true) (k10 : PySem.W.keepIn K (.ref f10) = true)
    {f11 : Addr} {od11 an11 : Option Addr} {sl11 : Array (Option Value)} {oc11 kV11 dc11 pm11 cd11 ct11 : Value}
    (a11 : PySem.W.nsIn K mainGlobals "marks_by_parts" = some (some (.ref f11))) (l11 : K.lookup f11 = some ⟨oc11, od11, .func (PySem.W.fnOf "marks_by_parts" "marks_by_parts" (defArgs s_marks_by_parts) (defBody s_marks_by_parts) (defScope s_marks_by_parts) .none kV11 dc11 pm11 an11 cd11 ct11), sl11⟩) (c11 : PySem.W.codeIn K cd11 "marks_by_parts" = true) (k11 : PySem.W.keepIn K (.ref f11) = true)
    {f12 : Addr} {od12 an12 : Option Addr} {sl12 : Array (Option Value)} {oc12 kV12 dc12 pm12 cd12 ct12 : Value}
    (a12 : PySem.W.nsIn K mainGlobals "_law_loom" = some (some (.ref f12))) (l12 : K.lookup f12 = some ⟨oc12, od12, .func (PySem.W.fnOf "_law_loom" "_law_loom" (defArgs s__law_loom) (defBody s__law_loom) (defScope s__law_loom) .none kV12 dc12 pm12 an12 cd12 ct12), sl12⟩) (c12 : PySem.W.codeIn K cd12 "_law_loom" = true) (k12 : PySem.W.keepIn K (.ref f12) = true)
    {f13 : Addr} {od13 an13 : Option Addr} {sl13 : Array (Option Value)} {oc13 kV13 dc13 pm13 cd13 ct13 : Value}
    (a13 : PySem.W.nsIn K mainGlobals "_law_thread" = some (some (.ref f13))) (l13 : K.lookup f13 = some ⟨oc13, od13, .func (PySem.W.fnOf "_law_thread" "_law_thread" (defArgs s__law_thread) (defBody s__law_thread) (defScope s__law_thread) .none kV13 dc13 pm13 an13 cd13 ct13), sl13⟩) (c13 : PySem.W.codeIn K cd13 "_law_thread" = true) (k13 : PySem.W.keepIn K (.ref f13) = true)
    {f14 : Addr} {od14 an14 : Option Addr} {sl14 : Array (Option Value)} {oc14 kV14 dc14 pm14 cd14 ct14 : Value}
    (a14 : PySem.W.nsIn K mainGlobals "_law_steps" = some (some (.ref f14))) (l14 : K.lookup f14 = some ⟨oc14, od14, .func (PySem.W.fnOf "_law_steps" "_law_steps" (defArgs s__law_steps) (defBody s__law_steps) (defScope s__law_steps) .none kV14 dc14 pm14 an14 cd14 ct14), sl14⟩) (c14 : PySem.W.codeIn K cd14 "_law_steps" = true) (k14 : PySem.W.keepIn K (.ref f14) = true)
    {f15 : Addr} {od15 an15 : Option Addr} {sl15 : Array (Option Value)} {oc15 kV15 dc15 pm15 cd15 ct15 : Value}
    (a15 : PySem.W.nsIn K mainGlobals "_law_made" = some (some (.ref f15))) (l15 : K.lookup f15 = some ⟨oc15, od15, .func (PySem.W.fnOf "_law_made" "_law_made" (defArgs s__law_made) (defBody s__law_made) (defScope s__law_made) .none kV15 dc15 pm15 an15 cd15 ct15), sl15⟩) (c15 : PySem.W.codeIn K cd15 "_law_made" = true) (k15 : PySem.W.keepIn K (.ref f15) = true)
    {f16 : Addr} {od16 an16 : Option Addr} {sl16 : Array (Option Value)} {oc16 kV16 dc16 pm16 cd16 ct16 : Value}
    (a16 : PySem.W.nsIn K mainGlobals "_law_marks" = some (some (.ref f16))) (l16 : K.lookup f16 = some ⟨oc16, od16, .func (PySem.W.fnOf "_law_marks" "_law_marks" (defArgs s__law_marks) (defBody s__law_marks) (defScope s__law_marks) .none kV16 dc16 pm16 an16 cd16 ct16), sl16⟩) (c16 : PySem.W.codeIn K cd16 "_law_marks" = true) (k16 : PySem.W.keepIn K (.ref f16) = true)
    {f17 : Addr} {od17 an17 : Option Addr} {sl17 : Array (Option Value)} {oc17 kV17 dc17 pm17 cd17 ct17 : Value}
    (a17 : PySem.W.nsIn K mainGlobals "_law_short" = some (some (.ref f17))) (l17 : K.lookup f17 = some ⟨oc17, od17, .func (PySem.W.fnOf "_law_short" "_law_short" (defArgs s__law_short) (defBody s__law_short) (defScope s__law_short) .none kV17 dc17 pm17 an17 cd17 ct17), sl17⟩) (c17 : PySem.W.codeIn K cd17 "_law_short" = true) (k17 : PySem.W.keepIn K (.ref f17) = true)
    {f18 : Addr} {od18 an18 : Option Addr} {sl18 : Array (Option Value)} {oc18 kV18 dc18 pm18 cd18 ct18 : Value}
    (a18 : PySem.W.nsIn K mainGlobals "_law_parted" = some (some (.ref f18))) (l18 : K.lookup f18 = some ⟨oc18, od18, .func (PySem.W.fnOf "_law_parted" "_law_parted" (defArgs s__law_parted) (defBody s__law_parted) (defScope s__law_parted) .none kV18 dc18 pm18 an18 cd18 ct18), sl18⟩) (c18 : PySem.W.codeIn K cd18 "_law_parted" = true) (k18 : PySem.W.keepIn K (.ref f18) = true)
    {f19 : Addr} {od19 an19 : Option Addr} {sl19 : Array (Option Value)} {oc19 kV19 dc19 pm19 cd19 ct19 : Value}
    (a19 : PySem.W.nsIn K mainGlobals "_law_texts" = some (some (.ref f19))) (l19 : K.lookup f19 = some ⟨oc19, od19, .func (PySem.W.fnOf "_law_texts" "_law_texts" (defArgs s__law_texts) (defBody s__law_texts) (defScope s__law_texts) .none kV19 dc19 pm19 an19 cd19 ct19), sl19⟩) (c19 : PySem.W.codeIn K cd19 "_law_texts" = true) (k19 : PySem.W.keepIn K (.ref f19) = true)
    {f20 : Addr} {od20 an20 : Option Addr} {sl20 : Array (Option Value)} {oc20 kV20 dc20 pm20 cd20 ct20 : Value}
    (a20 : PySem.W.nsIn K mainGlobals "_law_same" = some (some (.ref f20))) (l20 : K.lookup f20 = some ⟨oc20, od20, .func (PySem.W.fnOf "_law_same" "_law_same" (defArgs s__law_same) (defBody s__law_same) (defScope s__law_same) .none kV20 dc20 pm20 an20 cd20 ct20), sl20⟩) (c20 : PySem.W.codeIn K cd20 "_law_same" = true) (k20 : PySem.W.keepIn K (.ref f20) = true)
    {f21 : Addr} {od21 an21 : Option Addr} {sl21 : Array (Option Value)} {oc21 kV21 dc21 pm21 cd21 ct21 : Value}
    (a21 : PySem.W.nsIn K mainGlobals "_law_asked" = some (some (.ref f21))) (l21 : K.lookup f21 = some ⟨oc21, od21, .func (PySem.W.fnOf "_law_asked" "_law_asked" (defArgs s__law_asked) (defBody s__law_asked) (defScope s__law_asked) .none kV21 dc21 pm21 an21 cd21 ct21), sl21⟩) (c21 : PySem.W.codeIn K cd21 "_law_asked" = true) (k21 : PySem.W.keepIn K (.ref f21) = true)
    {f22 : Addr} {od22 an22 : Option Addr} {sl22 : Array (Option Value)} {oc22 kV22 dc22 pm22 cd22 ct22 : Value}
    (a22 : PySem.W.nsIn K mainGlobals "law" = some (some (.ref f22))) (l22 : K.lookup f22 = some ⟨oc22, od22, .func (PySem.W.fnOf "law" "law" (defArgs s_law) (defBody s_law) (defScope s_law) .none kV22 dc22 pm22 an22 cd22 ct22), sl22⟩) (c22 : PySem.W.codeIn K cd22 "law" = true) (k22 : PySem.W.keepIn K (.ref f22) = true)
    (z0 : PySem.W.nsIn K mainGlobals "abs" = some none)
    (z1 : PySem.W.nsIn K mainGlobals "dict" = some none)
    (z2 : PySem.W.nsIn K mainGlobals "enumerate" = some none)
    (z3 : PySem.W.nsIn K mainGlobals "int" = some none)
    (z4 : PySem.W.nsIn K mainGlobals "isinstance" = some none)
    (z5 : PySem.W.nsIn K mainGlobals "len" = some none)
    (z6 : PySem.W.nsIn K mainGlobals "list" = some none)
    (z7 : PySem.W.nsIn K mainGlobals "max" = some none)
    (z8 : PySem.W.nsIn K mainGlobals "min" = some none)
    (z9 : PySem.W.nsIn K mainGlobals "range" = some none)
    (z10 : PySem.W.nsIn K mainGlobals "sorted" = some none)
    (z11 : PySem.W.nsIn K mainGlobals "str" = some none)
    (z12 : PySem.W.nsIn K mainGlobals "tuple" = some none)
    (z13 : PySem.W.nsIn K mainGlobals "zip" = some none)
    : ∃ fd : FuncData, (∀ (s : Shared) (v : Value), BindsTo s fd ⟨[v], []⟩ [("script", v)]) ∧ ∀ base : Heap, K.In base → base.Ns mainGlobals mg → FnOk l.prog w K mg base CX0 6 fa fd ["script"] (spD ⟨l.prog, w, K⟩ 1 [false] spLaw) := by
  have e := hfa.symm.trans (PySem.W.mg_of X G a22)
  cases e
  have F_reached_order := fun_mk (st := s_reached_order) l0 c0 k0
  have b_reached_order := F_reached_order.binds (ps := P_reached_order) fun _ _ _ _ _ _ us hl => match us, hl with | [_], _ => rfl
  have m_reached_order_a := PySem.W.mg_of X G a0
  have F_merged_classes := fun_mk (st := s_merged_classes) l1 c1 k1
  have b_merged_classes := F_merged_classes.binds (ps := P_merged_classes) fun _ _ _ _ _ _ us hl => match us, hl with | [_, _, _], _ => rfl
  have m_merged_classes_a := PySem.W.mg_of X G a1
  have F_merged_machine := fun_mk (st := s_merged_machine) l2 c2 k2
  have b_merged_machine := F_merged_machine.binds (ps := P_merged_machine) fun _ _ _ _ _ _ us hl => match us, hl with | [_, _], _ => rfl
  have m_merged_machine_a := PySem.W.mg_of X G a2
  have F_first_homes := fun_mk (st := s_first_homes) l3 c3 k3
  have b_first_homes := F_first_homes.binds (ps := P_first_homes) fun _ _ _ _ _ _ us hl => match us, hl with | [_, _], _ => rfl
  have m_first_homes_a := PySem.W.mg_of X G a3
  have F_picked_rows := fun_mk (st := s_picked_rows) l4 c4 k4
  have b_picked_rows := F_picked_rows.binds (ps := P_picked_rows) fun _ _ _ _ _ _ us hl => match us, hl with | [_, _, _, _], _ => rfl
  have m_picked_rows_a := PySem.W.mg_of X G a4
  have F_least_readers := fun_mk (st := s_least_readers) l5 c5 k5
  have b_least_readers := F_least_readers.binds (ps := P_least_readers) fun _ _ _ _ _ _ us hl => match us, hl with | [_], _ => rfl
  have m_least_readers_a := PySem.W.mg_of X G a5
  have F_letter_places := fun_mk (st := s_letter_places) l6 c6 k6
  have b_letter_places := F_letter_places.binds (ps := P_letter_places) fun _ _ _ _ _ _ us hl => match us, hl with | [_], _ => rfl
  have m_letter_places_a := PySem.W.mg_of X G a6
  have F_letter_numbers := fun_mk (st := s_letter_numbers) l7 c7 k7
  have b_letter_numbers := F_letter_numbers.binds (ps := P_letter_numbers) fun _ _ _ _ _ _ us hl => match us, hl with | [_, _], _ => rfl
  have m_letter_numbers_a := PySem.W.mg_of X G a7
  have F_states_along := fun_mk (st := s_states_along) l8 c8 k8
  have b_states_along := F_states_along.binds (ps := P_states_along) fun _ _ _ _ _ _ us hl => match us, hl with | [_, _], _ => rfl
  have m_states_along_a := PySem.W.mg_of X G a8
  have F_marks_by := fun_mk (st := s_marks_by) l9 c9 k9
  have b_marks_by := F_marks_by.binds (ps := P_marks_by) fun _ _ _ _ _ _ us hl => match us, hl with | [_, _], _ => rfl
  have m_marks_by_a := PySem.W.mg_of X G a9
  have kb_marks_by : KBinds K (PySem.W.fnOf "marks_by" "marks_by" (defArgs s_marks_by) (defBody s_marks_by) (defScope s_marks_by) .none kV9 dc9 pm9 an9 cd9 ct9) P_marks_by ["text", "readers"] swap2 swap2 := kb_swap fun _ _ => rfl
  have F_told_marks := fun_mk (st := s_told_marks) l10 c10 k10
  have b_told_marks := F_told_marks.binds (ps := P_told_marks) fun _ _ _ _ _ _ us hl => match us, hl with | [_, _, _, _], _ => rfl
  have m_told_marks_a := PySem.W.mg_of X G a10
  have F_marks_by_parts := fun_mk (st := s_marks_by_parts) l11 c11 k11
  have b_marks_by_parts := F_marks_by_parts.binds (ps := P_marks_by_parts) fun _ _ _ _ _ _ us hl => match us, hl with | [_, _], _ => rfl
  have m_marks_by_parts_a := PySem.W.mg_of X G a11
  have kb_marks_by_parts : KBinds K (PySem.W.fnOf "marks_by_parts" "marks_by_parts" (defArgs s_marks_by_parts) (defBody s_marks_by_parts) (defScope s_marks_by_parts) .none kV11 dc11 pm11 an11 cd11 ct11) P_marks_by_parts ["texts", "readers"] swap2 swap2 := kb_swap fun _ _ => rfl
  have F__law_loom := fun_mk (st := s__law_loom) l12 c12 k12
  have b__law_loom := F__law_loom.binds (ps := P__law_loom) fun _ _ _ _ _ _ us hl => match us, hl with | [_], _ => rfl
  have m__law_loom_a := PySem.W.mg_of X G a12
  have F__law_thread := fun_mk (st := s__law_thread) l13 c13 k13
  have b__law_thread := F__law_thread.binds (ps := P__law_thread) fun _ _ _ _ _ _ us hl => match us, hl with | [_, _, _], _ => rfl
  have m__law_thread_a := PySem.W.mg_of X G a13
  have F__law_steps := fun_mk (st := s__law_steps) l14 c14 k14
  have b__law_steps := F__law_steps.binds (ps := P__law_steps) fun _ _ _ _ _ _ us hl => match us, hl with | [_, _, _], _ => rfl
  have m__law_steps_a := PySem.W.mg_of X G a14
  have F__law_made := fun_mk (st := s__law_made) l15 c15 k15
  have b__law_made := F__law_made.binds (ps := P__law_made) fun _ _ _ _ _ _ us hl => match us, hl with | [_], _ => rfl
  have m__law_made_a := PySem.W.mg_of X G a15
  have F__law_marks := fun_mk (st := s__law_marks) l16 c16 k16
  have b__law_marks := F__law_marks.binds (ps := P__law_marks) fun _ _ _ _ _ _ us hl => match us, hl with | [_, _], _ => rfl
  have m__law_marks_a := PySem.W.mg_of X G a16
  have F__law_short := fun_mk (st := s__law_short) l17 c17 k17
  have b__law_short := F__law_short.binds (ps := P__law_short) fun _ _ _ _ _ _ us hl => match us, hl with | [_, _, _], _ => rfl
  have m__law_short_a := PySem.W.mg_of X G a17
  have F__law_parted := fun_mk (st := s__law_parted) l18 c18 k18
  have b__law_parted := F__law_parted.binds (ps := P__law_parted) fun _ _ _ _ _ _ us hl => match us, hl with | [_, _], _ => rfl
  have m__law_parted_a := PySem.W.mg_of X G a18
  have F__law_texts := fun_mk (st := s__law_texts) l19 c19 k19
  have b__law_texts := F__law_texts.binds (ps := P__law_texts) fun _ _ _ _ _ _ us hl => match us, hl with | [_, _], _ => rfl
  have m__law_texts_a := PySem.W.mg_of X G a19
  have F__law_same := fun_mk (st := s__law_same) l20 c20 k20
  have b__law_same := F__law_same.binds (ps := P__law_same) fun _ _ _ _ _ _ us hl => match us, hl with | [_, _], _ => rfl
  have m__law_same_a := PySem.W.mg_of X G a20
  have F__law_asked := fun_mk (st := s__law_asked) l21 c21 k21
  have b__law_asked := F__law_asked.binds (ps := P__law_asked) fun _ _ _ _ _ _ us hl => match us, hl with | [_, _, _], _ => rfl
  have m__law_asked_a := PySem.W.mg_of X G a21
  have F_law := fun_mk (st := s_law) l22 c22 k22
  have b_law := F_law.binds (ps := P_law) fun _ _ _ _ _ _ us hl => match us, hl with | [_], _ => rfl
  have m_law_a := PySem.W.mg_of X G a22
  have y_abs := PySem.W.mg_none_of X G z0
  have y_dict := PySem.W.mg_none_of X G z1
  have y_enumerate := PySem.W.mg_none_of X G z2
  have y_int := PySem.W.mg_none_of X G z3
  have y_isinstance := PySem.W.mg_none_of X G z4
  have y_len := PySem.W.mg_none_of X G z5
  have y_list := PySem.W.mg_none_of X G z6
  have y_max := PySem.W.mg_none_of X G z7
  have y_min := PySem.W.mg_none_of X G z8
  have y_range := PySem.W.mg_none_of X G z9
  have y_sorted := PySem.W.mg_none_of X G z10
  have y_str := PySem.W.mg_none_of X G z11
  have y_tuple := PySem.W.mg_none_of X G z12
  have y_zip := PySem.W.mg_none_of X G z13
  refine ⟨PySem.W.fnOf "law" "law" (defArgs s_law) (defBody s_law) (defScope s_law) .none kV22 dc22 pm22 an22 cd22 ct22, fun s v => .of_eq rfl, fun base _ _ => ?_⟩
  have G_reached_order : FnOk l.prog w K mg base CX0 1 f0 (PySem.W.fnOf "reached_order" "reached_order" (defArgs s_reached_order) (defBody s_reached_order) (defScope s_reached_order) .none kV0 dc0 pm0 an0 cd0 ct0) P_reached_order (spD ⟨l.prog, w, K⟩ 1 [false] spReached) := ok_reached_order F_reached_order y_len m_reached
  have G_merged_classes : FnOk l.prog w K mg base CX0 1 f1 (PySem.W.fnOf "merged_classes" "merged_classes" (defArgs s_merged_classes) (defBody s_merged_classes) (defScope s_merged_classes) .none kV1 dc1 pm1 an1 cd1 ct1) P_merged_classes (spD ⟨l.prog, w, K⟩ 3 [false, false, false] spClasses) := ok_merged_classes F_merged_classes y_len y_tuple m_classes
  have G_merged_machine : FnOk l.prog w K mg base CX0 2 f2 (PySem.W.fnOf "merged_machine" "merged_machine" (defArgs s_merged_machine) (defBody s_merged_machine) (defScope s_merged_machine) .none kV2 dc2 pm2 an2 cd2 ct2) P_merged_machine (spD ⟨l.prog, w, K⟩ 2 [false, false] spMachine) := ok_merged_machine F_merged_machine y_len y_tuple F_reached_order b_reached_order m_reached_order_a G_reached_order F_merged_classes b_merged_classes m_merged_classes_a G_merged_classes m_machine
  have G_first_homes : FnOk l.prog w K mg base CX0 1 f3 (PySem.W.fnOf "first_homes" "first_homes" (defArgs s_first_homes) (defBody s_first_homes) (defScope s_first_homes) .none kV3 dc3 pm3 an3 cd3 ct3) P_first_homes (spD ⟨l.prog, w, K⟩ 2 [false, false] spFirst) := ok_first_homes F_first_homes y_enumerate m_first
  have G_picked_rows : FnOk l.prog w K mg base CX0 1 f4 (PySem.W.fnOf "picked_rows" "picked_rows" (defArgs s_picked_rows) (defBody s_picked_rows) (defScope s_picked_rows) .none kV4 dc4 pm4 an4 cd4 ct4) P_picked_rows (spD ⟨l.prog, w, K⟩ 4 [false, false, false, false] spPicked) := ok_picked_rows F_picked_rows y_list y_range y_tuple m_picked
  have G_least_readers : FnOk l.prog w K mg base CX0 3 f5 (PySem.W.fnOf "least_readers" "least_readers" (defArgs s_least_readers) (defBody s_least_readers) (defScope s_least_readers) .none kV5 dc5 pm5 an5 cd5 ct5) P_least_readers (spD ⟨l.prog, w, K⟩ 1 [false] spLeast) := ok_least_readers F_least_readers y_len y_list y_sorted y_tuple y_zip F_reached_order b_reached_order m_reached_order_a G_reached_order F_merged_machine b_merged_machine m_merged_machine_a G_merged_machine F_first_homes b_first_homes m_first_homes_a G_first_homes F_picked_rows b_picked_rows m_picked_rows_a G_picked_rows m_least
  have G_letter_places : FnOk l.prog w K mg base CX0 1 f6 (PySem.W.fnOf "letter_places" "letter_places" (defArgs s_letter_places) (defBody s_letter_places) (defScope s_letter_places) .none kV6 dc6 pm6 an6 cd6 ct6) P_letter_places (spD ⟨l.prog, w, K⟩ 1 [false] spPlaces) := ok_letter_places F_letter_places y_enumerate m_places
  have G_letter_numbers : FnOk l.prog w K mg base CX0 2 f7 (PySem.W.fnOf "letter_numbers" "letter_numbers" (defArgs s_letter_numbers) (defBody s_letter_numbers) (defScope s_letter_numbers) .none kV7 dc7 pm7 an7 cd7 ct7) P_letter_numbers (spD ⟨l.prog, w, K⟩ 2 [false, false] spNumbers) := ok_letter_numbers F_letter_numbers F_letter_places b_letter_places m_letter_places_a G_letter_places m_numbers
  have G_states_along : FnOk l.prog w K mg base CX0 1 f8 (PySem.W.fnOf "states_along" "states_along" (defArgs s_states_along) (defBody s_states_along) (defScope s_states_along) .none kV8 dc8 pm8 an8 cd8 ct8) P_states_along (spD ⟨l.prog, w, K⟩ 2 [false, false] spAlong) := ok_states_along F_states_along m_along
  have G_marks_by : FnOk l.prog w K mg base CX0 3 f9 (PySem.W.fnOf "marks_by" "marks_by" (defArgs s_marks_by) (defBody s_marks_by) (defScope s_marks_by) .none kV9 dc9 pm9 an9 cd9 ct9) P_marks_by (spD ⟨l.prog, w, K⟩ 2 [false, false] spMarks) := ok_marks_by F_marks_by y_enumerate F_letter_numbers b_letter_numbers m_letter_numbers_a G_letter_numbers F_states_along b_states_along m_states_along_a G_states_along m_marks
  have G_told_marks : FnOk l.prog w K mg base CX0 1 f10 (PySem.W.fnOf "told_marks" "told_marks" (defArgs s_told_marks) (defBody s_told_marks) (defScope s_told_marks) .none kV10 dc10 pm10 an10 cd10 ct10) P_told_marks (spD ⟨l.prog, w, K⟩ 4 [false, false, false, false] spTold) := ok_told_marks F_told_marks y_enumerate y_len m_told
  have G_marks_by_parts : FnOk l.prog w K mg base CX0 4 f11 (PySem.W.fnOf "marks_by_parts" "marks_by_parts" (defArgs s_marks_by_parts) (defBody s_marks_by_parts) (defScope s_marks_by_parts) .none kV11 dc11 pm11 an11 cd11 ct11) P_marks_by_parts (spD ⟨l.prog, w, K⟩ 2 [false, false] spParts) := ok_marks_by_parts F_marks_by_parts y_enumerate y_len F_least_readers b_least_readers m_least_readers_a G_least_readers F_letter_numbers b_letter_numbers m_letter_numbers_a G_letter_numbers F_told_marks b_told_marks m_told_marks_a G_told_marks m_parts
  have G__law_loom : FnOk l.prog w K mg base CX0 1 f12 (PySem.W.fnOf "_law_loom" "_law_loom" (defArgs s__law_loom) (defBody s__law_loom) (defScope s__law_loom) .none kV12 dc12 pm12 an12 cd12 ct12) P__law_loom (spD ⟨l.prog, w, K⟩ 1 [false] spLoom) := ok__law_loom F__law_loom y_abs y_int y_list y_range m_loom
  have G__law_thread : FnOk l.prog w K mg base CX0 1 f13 (PySem.W.fnOf "_law_thread" "_law_thread" (defArgs s__law_thread) (defBody s__law_thread) (defScope s__law_thread) .none kV13 dc13 pm13 an13 cd13 ct13) P__law_thread (spD ⟨l.prog, w, K⟩ 3 [true, false, false] spThread) := ok__law_thread F__law_thread y_int y_len m_thread
  have G__law_steps : FnOk l.prog w K mg base CX0 2 f14 (PySem.W.fnOf "_law_steps" "_law_steps" (defArgs s__law_steps) (defBody s__law_steps) (defScope s__law_steps) .none kV14 dc14 pm14 an14 cd14 ct14) P__law_steps (spD ⟨l.prog, w, K⟩ 3 [true, false, false] spSteps) := ok__law_steps F__law_steps y_int y_len y_range y_tuple F__law_thread b__law_thread m__law_thread_a G__law_thread m_steps
  have G__law_made : FnOk l.prog w K mg base CX0 3 f15 (PySem.W.fnOf "_law_made" "_law_made" (defArgs s__law_made) (defBody s__law_made) (defScope s__law_made) .none kV15 dc15 pm15 an15 cd15 ct15) P__law_made (spD ⟨l.prog, w, K⟩ 1 [true] spMade) := ok__law_made F__law_made y_len y_list y_tuple F__law_thread b__law_thread m__law_thread_a G__law_thread F__law_steps b__law_steps m__law_steps_a G__law_steps m_made
  have G__law_marks : FnOk l.prog w K mg base CX0 1 f16 (PySem.W.fnOf "_law_marks" "_law_marks" (defArgs s__law_marks) (defBody s__law_marks) (defScope s__law_marks) .none kV16 dc16 pm16 an16 cd16 ct16) P__law_marks (spD ⟨l.prog, w, K⟩ 2 [false, false] spLMarks) := ok__law_marks F__law_marks y_dict y_len y_range m_lmarks
  have G__law_short : FnOk l.prog w K mg base CX0 2 f17 (PySem.W.fnOf "_law_short" "_law_short" (defArgs s__law_short) (defBody s__law_short) (defScope s__law_short) .none kV17 dc17 pm17 an17 cd17 ct17) P__law_short (spD ⟨l.prog, w, K⟩ 3 [true, false, false] spShort) := ok__law_short F__law_short y_len y_range F__law_thread b__law_thread m__law_thread_a G__law_thread m_short
  have G__law_parted : FnOk l.prog w K mg base CX0 2 f18 (PySem.W.fnOf "_law_parted" "_law_parted" (defArgs s__law_parted) (defBody s__law_parted) (defScope s__law_parted) .none kV18 dc18 pm18 an18 cd18 ct18) P__law_parted (spD ⟨l.prog, w, K⟩ 2 [true, false] spParted) := ok__law_parted F__law_parted y_len y_min y_range y_tuple F__law_thread b__law_thread m__law_thread_a G__law_thread m_parted
  have G__law_texts : FnOk l.prog w K mg base CX0 3 f19 (PySem.W.fnOf "_law_texts" "_law_texts" (defArgs s__law_texts) (defBody s__law_texts) (defScope s__law_texts) .none kV19 dc19 pm19 an19 cd19 ct19) P__law_texts (spD ⟨l.prog, w, K⟩ 2 [true, false] spTexts) := ok__law_texts F__law_texts y_len y_max y_range y_tuple F__law_thread b__law_thread m__law_thread_a G__law_thread F__law_short b__law_short m__law_short_a G__law_short m_texts
  have G__law_same : FnOk l.prog w K mg base CX0 1 f20 (PySem.W.fnOf "_law_same" "_law_same" (defArgs s__law_same) (defBody s__law_same) (defScope s__law_same) .none kV20 dc20 pm20 an20 cd20 ct20) P__law_same (spD ⟨l.prog, w, K⟩ 2 [false, false] spSame) := ok__law_same F__law_same y_isinstance y_str m_same
  have G__law_asked : FnOk l.prog w K mg base CX0 5 f21 (PySem.W.fnOf "_law_asked" "_law_asked" (defArgs s__law_asked) (defBody s__law_asked) (defScope s__law_asked) .none kV21 dc21 pm21 an21 cd21 ct21) P__law_asked (spD ⟨l.prog, w, K⟩ 3 [true, false, false] spAsked) := ok__law_asked F__law_asked y_len y_range y_tuple F_marks_by b_marks_by m_marks_by_a G_marks_by kb_marks_by F_marks_by_parts b_marks_by_parts m_marks_by_parts_a G_marks_by_parts kb_marks_by_parts F__law_marks b__law_marks m__law_marks_a G__law_marks F__law_short b__law_short m__law_short_a G__law_short F__law_parted b__law_parted m__law_parted_a G__law_parted F__law_same b__law_same m__law_same_a G__law_same m_asked
  have G_law : FnOk l.prog w K mg base CX0 6 fa (PySem.W.fnOf "law" "law" (defArgs s_law) (defBody s_law) (defScope s_law) .none kV22 dc22 pm22 an22 cd22 ct22) P_law (spD ⟨l.prog, w, K⟩ 1 [false] spLaw) := ok_law F_law y_range F_marks_by_parts b_marks_by_parts m_marks_by_parts_a G_marks_by_parts F__law_loom b__law_loom m__law_loom_a G__law_loom F__law_made b__law_made m__law_made_a G__law_made F__law_texts b__law_texts m__law_texts_a G__law_texts F__law_same b__law_same m__law_same_a G__law_same F__law_asked b__law_asked m__law_asked_a G__law_asked m_law
  exact G_law
end
end DL
open PySem PySem.W PyProof.Rows
set_option maxHeartbeats 0 in
theorem PySem.Challenge.cw_seamsight_k71_marks_by_parts_anyhow_holds : PySem.Challenge.rw_seamsight_k71_marks_by_parts_anyhow.Holds := by
  w_on; o_law; k_head; (case hw => w_witness2)
  k_fill
  refine L2.walk_of (l := PySem.Challenge.rw_seamsight_k71_marks_by_parts_anyhow) (n := 63) (k := 6) (x := "script") (CX := fun _ => L2.CX0) (sp := fun w => DL.spD ⟨PySem.Challenge.rw_seamsight_k71_marks_by_parts_anyhow.prog, w, _⟩ 1 [false] DL.spLaw) rfl (by decide) rfl ⟨rfl, by decide, by decide⟩ (fun w h Y => PySem.W.kIn_of Y) ?F (fun _ _ a ns hl _ hS => DL.sp_start hS) (fun _ _ _ _ _ h => h)
  case F =>
    intro w mg fa h KX G hmg
    refine' DL.all_mk KX G hmg ?a0 ?l0 ?c0 ?k0 ?a1 ?l1 ?c1 ?k1 ?a2 ?l2 ?c2 ?k2 ?a3 ?l3 ?c3 ?k3 ?a4 ?l4 ?c4 ?k4 ?a5 ?l5 ?c5 ?k5 ?a6 ?l6 ?c6 ?k6 ?a7 ?l7 ?c7 ?k7 ?a8 ?l8 ?c8 ?k8 ?a9 ?l9 ?c9 ?k9 ?a10 ?l10 ?c10 ?k10 ?a11 ?l11 ?c11 ?k11 ?a12 ?l12 ?c12 ?k12 ?a13 ?l13 ?c13 ?k13 ?a14 ?l14 ?c14 ?k14 ?a15 ?l15 ?c15 ?k15 ?a16 ?l16 ?c16 ?k16 ?a17 ?l17 ?c17 ?k17 ?a18 ?l18 ?c18 ?k18 ?a19 ?l19 ?c19 ?k19 ?a20 ?l20 ?c20 ?k20 ?a21 ?l21 ?c21 ?k21 ?a22 ?l22 ?c22 ?k22 ?z0 ?z1 ?z2 ?z3 ?z4 ?z5 ?z6 ?z7 ?z8 ?z9 ?z10 ?z11 ?z12 ?z13
    (case a0 => k_is); (case l0 => k_is); (case c0 => k_is); (case k0 => k_is); (case a1 => k_is); (case l1 => k_is); (case c1 => k_is); (case k1 => k_is); (case a2 => k_is); (case l2 => k_is); (case c2 => k_is); (case k2 => k_is); (case a3 => k_is); (case l3 => k_is); (case c3 => k_is); (case k3 => k_is); (case a4 => k_is); (case l4 => k_is); (case c4 => k_is); (case k4 => k_is); (case a5 => k_is); (case l5 => k_is); (case c5 => k_is); (case k5 => k_is); (case a6 => k_is); (case l6 => k_is); (case c6 => k_is); (case k6 => k_is); (case a7 => k_is); (case l7 => k_is); (case c7 => k_is); (case k7 => k_is); (case a8 => k_is); (case l8 => k_is); (case c8 => k_is); (case k8 => k_is); (case a9 => k_is); (case l9 => k_is); (case c9 => k_is); (case k9 => k_is); (case a10 => k_is); (case l10 => k_is); (case c10 => k_is); (case k10 => k_is); (case a11 => k_is); (case l11 => k_is); (case c11 => k_is); (case k11 => k_is); (case a12 => k_is); (case l12 => k_is); (case c12 => k_is); (case k12 => k_is); (case a13 => k_is); (case l13 => k_is); (case c13 => k_is); (case k13 => k_is); (case a14 => k_is); (case l14 => k_is); (case c14 => k_is); (case k14 => k_is); (case a15 => k_is); (case l15 => k_is); (case c15 => k_is); (case k15 => k_is); (case a16 => k_is); (case l16 => k_is); (case c16 => k_is); (case k16 => k_is); (case a17 => k_is); (case l17 => k_is); (case c17 => k_is); (case k17 => k_is); (case a18 => k_is); (case l18 => k_is); (case c18 => k_is); (case k18 => k_is); (case a19 => k_is); (case l19 => k_is); (case c19 => k_is); (case k19 => k_is); (case a20 => k_is); (case l20 => k_is); (case c20 => k_is); (case k20 => k_is); (case a21 => k_is); (case l21 => k_is); (case c21 => k_is); (case k21 => k_is); (case a22 => k_is); (case l22 => k_is); (case c22 => k_is); (case k22 => k_is); (case z0 => k_is); (case z1 => k_is); (case z2 => k_is); (case z3 => k_is); (case z4 => k_is); (case z5 => k_is); (case z6 => k_is); (case z7 => k_is); (case z8 => k_is); (case z9 => k_is); (case z10 => k_is); (case z11 => k_is); (case z12 => k_is); (case z13 => k_is)

