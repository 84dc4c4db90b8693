import PyProof.Rows.All
import Wide.All
import OpenK.AllK
import Wide.FinOn
import HandS.ForMost
import HandS.ForExc
import HandS.Deep
import HandS.IsInst
import HandS.TupAny
import HandS.TupMul
import HandS.Walk
import HandS.CallSlots
import HandS.WordsExc
import HandS.Text
import HandS.Sort
import HandS.RaiseMore
import HandS.Dict
import HandS.Style
import PyProof.ListStr
import PyProof.ReprRoads
import HandS.Strs
import PySem.Challenge.RW_everywrong_k00_whole_names_and_machines
set_option Elab.async false
set_option linter.all false
set_option maxRecDepth 100000
set_option maxHeartbeats 4000000
/-! DN, part A: plain data, how it stands in the abstract heap (what is owned, what is frozen), environments, steps. -/
namespace DN
open PySem PySem.Spec PyProof.Rows L2

/-- a dict's key -/
inductive DK where
  | k (a : Key)
  | t (as : List Key)
  deriving DecidableEq
/-- plain data -/
inductive D where
  | non | bl (b : Bool) | int (i : Int) | str (x : Str)
  | tup (ds : List D) | lst (ds : List D) | dct (kvs : List (DK × D)) | seq (ds : List D)
instance : Inhabited D := ⟨.non⟩

mutual
def D.imm : D → Bool
  | .tup ds => D.immAll ds
  | .lst _ => false
  | .dct _ => false
  | .seq ds => D.immAll ds
  | _ => true
def D.immAll : List D → Bool
  | [] => true
  | d :: ds => d.imm && D.immAll ds
end
mutual
/-- nothing frozen that could be changed is in it: all lists and dicts are owned to the depth k -/
def D.cln : Nat → D → Bool
  | k, .tup ds => D.clnAll k ds
  | 0, .lst _ => false
  | k + 1, .lst ds => D.clnAll k ds
  | 0, .dct _ => false
  | k + 1, .dct kvs => D.clnKs k kvs
  | _, .seq ds => D.clnAll 0 ds
  | _, _ => true
def D.clnAll : Nat → List D → Bool
  | _, [] => true
  | k, d :: ds => d.cln k && D.clnAll k ds
def D.clnKs : Nat → List (DK × D) → Bool
  | _, [] => true
  | k, p :: ps => p.2.cln k && D.clnKs k ps
end

/-- the part of the heap that the top has written for good -/
class KSeq where
  K : PySem.W.Frag
variable [KSeq]
/-- a list that stands for good: frozen, or the top's own -/
def SeqAt (F : Hp) (a : Addr) (vs : List V) : Prop := (∃ o, F a = some (.frz o (.lst vs))) ∨
  ∃ (o : Obj) (its : Array Value) (n : Nat), KSeq.K.lookup a = some o ∧ o.cls = .type "list" ∧ o.dict = none ∧ o.data = .seq its n ∧ its.size ≤ sizeLine ∧ Vals vs its.toList
theorem SeqAt.imp {F F' : Hp} {a : Addr} {vs : List V} (h : SeqAt F a vs) (w : ∀ o, F a = some (.frz o (.lst vs)) → F' a = some (.frz o (.lst vs))) : SeqAt F' a vs := Or.imp (fun ⟨o, q⟩ => ⟨o, w o q⟩) id h
theorem SeqAt.sq {K : PySem.W.Frag} {F H : Hp} {a : Addr} {vs : List V} (h : SeqAt F a vs) (hK : K = KSeq.K) (sf : Same F H) : SqL K H a vs := by
  rcases h with ⟨o, h⟩ | h
  · exact .inl (.inr ⟨o, sf _ _ h⟩)
  · subst hK; exact .inr h
/-- what a dict's object holds -/
def HD0 (o : HO) (kvs : List (DK × V)) : Prop :=
  (∃ kv, o = .dK kv ∧ kvs = kv.map fun p => (DK.k p.1, p.2)) ∨ (∃ kv, o = .dT kv ∧ kvs = kv.map fun p => (DK.t p.1, p.2))
def HD (o : HO) (kvs : List (DK × V)) : Prop := (kvs.map (·.1)).Nodup ∧ HD0 o kvs

section
variable (F H : Hp)
mutual
/-- v stands for the data d; its lists and dicts are owned down to the depth k (their addresses: A), frozen below -/
inductive Own : Nat → V → D → List Addr → Prop
  | non {k : Nat} : Own k .non .non []
  | bl {k : Nat} (b : Bool) : Own k (.bl b) (.bl b) []
  | int {k : Nat} (i : Int) : Own k (.int i) (.int i) []
  | str {k : Nat} (x : Str) : Own k (.str x) (.str x) []
  | tup {k : Nat} {a : Addr} {vs : List V} {ds : List D} {A : List Addr} : F a = some (.tup vs) → Owns k vs ds A → Own k (.ref a) (.tup ds) A
  | lfz {a : Addr} {vs : List V} {ds : List D} : F a = some (.lst vs) → Owns 0 vs ds [] → Own 0 (.ref a) (.lst ds) []
  | seq {k : Nat} {a : Addr} {vs : List V} {ds : List D} : SeqAt F a vs → Owns 0 vs ds [] → Own k (.ref a) (.seq ds) []
  | low {k : Nat} {a : Addr} {vs : List V} {ds : List D} {A : List Addr} : H a = some (.lst vs) → Owns k vs ds A → Own (k + 1) (.ref a) (.lst ds) (a :: A)
  | dfz {a : Addr} {o : HO} {kvv : List (DK × V)} {kvs : List (DK × D)} : F a = some o → HD o kvv → OwnK 0 kvv kvs [] → Own 0 (.ref a) (.dct kvs) []
  | dow {k : Nat} {a : Addr} {o : HO} {kvv : List (DK × V)} {kvs : List (DK × D)} {A : List Addr} : H a = some o → HD o kvv → OwnK k kvv kvs A → Own (k + 1) (.ref a) (.dct kvs) (a :: A)
inductive Owns : Nat → List V → List D → List Addr → Prop
  | nil {k : Nat} : Owns k [] [] []
  | cons {k : Nat} {v : V} {vs : List V} {d : D} {ds : List D} {A B : List Addr} : Own k v d A → Owns k vs ds B → Owns k (v :: vs) (d :: ds) (A ++ B)
inductive OwnK : Nat → List (DK × V) → List (DK × D) → List Addr → Prop
  | nil {k : Nat} : OwnK k [] [] []
  | cons {k : Nat} {q : DK} {v : V} {vs : List (DK × V)} {d : D} {ds : List (DK × D)} {A B : List Addr} : Own k v d A → OwnK k vs ds B → OwnK k ((q, v) :: vs) ((q, d) :: ds) (A ++ B)
end
end

theorem Same.seqT {K : PySem.W.Frag} {H H' : Hp} {a : Addr} {xs : List V} (e : Same H H') (h : SqT K H a xs) : SqT K H' a xs := by
  rcases h with (h | ⟨o, h⟩) | h
  · exact .inl (.inl (e _ _ h))
  · exact .inl (.inr ⟨o, e _ _ h⟩)
  · exact .inr h

section
variable {K : PySem.W.Frag} {F F' H H' : Hp}
mutual
/-- carried: the frozen part grows, the owned addresses stand as they stood -/
theorem Own.carry (e : Same F F') : ∀ (d : D) (k : Nat) (v : V) (A : List Addr), Own F H k v d A → (∀ b ∈ A, H' b = H b) → Own F' H' k v d A
  | .non, _, _, _, h, _ => by cases h; exact .non
  | .bl b, _, _, _, h, _ => by cases h; exact .bl b
  | .int i, _, _, _, h, _ => by cases h; exact .int i
  | .str x, _, _, _, h, _ => by cases h; exact .str x
  | .tup ds, _, _, _, h, w => by
    cases h with
    | tup h1 h2 => exact .tup (e _ _ h1) (Owns.carry e ds _ _ _ h2 w)
  | .lst ds, _, _, _, h, w => by
    cases h with
    | lfz h1 h2 => exact .lfz (e _ _ h1) (Owns.carry e ds _ _ _ h2 (fun b hb => nomatch hb))
    | low h1 h2 => exact .low ((w _ List.mem_cons_self).trans h1) (Owns.carry e ds _ _ _ h2 fun b hb => w b (List.mem_cons_of_mem _ hb))
  | .seq ds, _, _, _, h, w => by
    cases h with
    | seq h1 h2 => exact .seq (h1.imp fun o q => e _ _ q) (Owns.carry e ds _ _ _ h2 (fun b hb => nomatch hb))
  | .dct kvs, _, _, _, h, w => by
    cases h with
    | dfz h1 h2 h3 => exact .dfz (e _ _ h1) h2 (OwnK.carry e kvs _ _ _ h3 (fun b hb => nomatch hb))
    | dow h1 h2 h3 => exact .dow ((w _ List.mem_cons_self).trans h1) h2 (OwnK.carry e kvs _ _ _ h3 fun b hb => w b (List.mem_cons_of_mem _ hb))
theorem Owns.carry (e : Same F F') : ∀ (ds : List D) (k : Nat) (vs : List V) (A : List Addr), Owns F H k vs ds A → (∀ b ∈ A, H' b = H b) → Owns F' H' k vs ds A
  | [], _, _, _, h, _ => by cases h; exact .nil
  | d :: ds, _, _, _, h, w => by
    cases h with
    | cons h1 h2 => exact .cons (Own.carry e d _ _ _ h1 fun b hb => w b (List.mem_append_left _ hb)) (Owns.carry e ds _ _ _ h2 fun b hb => w b (List.mem_append_right _ hb))
theorem OwnK.carry (e : Same F F') : ∀ (ds : List (DK × D)) (k : Nat) (vs : List (DK × V)) (A : List Addr), OwnK F H k vs ds A → (∀ b ∈ A, H' b = H b) → OwnK F' H' k vs ds A
  | [], _, _, _, h, _ => by cases h; exact .nil
  | (q, d) :: ds, _, _, _, h, w => by
    cases h with
    | cons h1 h2 => exact .cons (Own.carry e d _ _ _ h1 fun b hb => w b (List.mem_append_left _ hb)) (OwnK.carry e ds _ _ _ h2 fun b hb => w b (List.mem_append_right _ hb))
end

/-- frozen besides: what stands in H at S -/
def frz (F H : Hp) (S : List Addr) : Hp := fun b => if b ∈ S then H b else F b
theorem frz_in {F H : Hp} {S : List Addr} {b : Addr} (h : b ∈ S) : frz F H S b = H b := if_pos h
theorem frz_out {F H : Hp} {S : List Addr} {b : Addr} (h : b ∉ S) : frz F H S b = F b := if_neg h
theorem frz_same {F H : Hp} {S : List Addr} (e : Same F H) : Same F (frz F H S) := fun b o h => by
  by_cases hb : b ∈ S
  · rw [frz_in hb]; exact e b o h
  · rw [frz_out hb]; exact h
theorem frz_sub {F H : Hp} {S : List Addr} (e : Same F H) : Same (frz F H S) H := fun b o h => by
  by_cases hb : b ∈ S
  · rw [frz_in hb] at h; exact h
  · rw [frz_out hb] at h; exact e b o h
theorem frz_mono {F H : Hp} {S T : List Addr} (e : Same F H) (h : ∀ b ∈ S, b ∈ T) : Same (frz F H S) (frz F H T) := fun b o q => by
  by_cases hb : b ∈ S
  · rw [frz_in hb] at q; rw [frz_in (h b hb)]; exact q
  · rw [frz_out hb] at q
    by_cases ht : b ∈ T
    · rw [frz_in ht]; exact e b o q
    · rw [frz_out ht]; exact q
mutual
theorem Own.freeze (e : Same F H) : ∀ (d : D) (k : Nat) (v : V) (A : List Addr), Own F H k v d A → Own (frz F H A) H 0 v d []
  | .non, _, _, _, h => by cases h; exact .non
  | .bl b, _, _, _, h => by cases h; exact .bl b
  | .int i, _, _, _, h => by cases h; exact .int i
  | .str x, _, _, _, h => by cases h; exact .str x
  | .tup ds, _, _, _, h => by
    cases h with
    | tup h1 h2 => exact .tup (frz_same e _ _ h1) (Owns.freeze e ds _ _ _ h2)
  | .lst ds, _, _, _, h => by
    cases h with
    | lfz h1 h2 => exact .lfz (frz_same e _ _ h1) (Owns.carry (frz_same e) ds _ _ _ h2 (fun b hb => nomatch hb))
    | low h1 h2 => exact .lfz ((frz_in List.mem_cons_self).trans h1) (Owns.carry (frz_mono e fun b hb => List.mem_cons_of_mem _ hb) ds _ _ _ (Owns.freeze e ds _ _ _ h2) (fun b hb => nomatch hb))
  | .seq ds, _, _, _, h => by
    cases h with
    | seq h1 h2 => exact .seq (h1.imp fun o q => frz_same e _ _ q) (Owns.carry (frz_same e) ds _ _ _ h2 (fun b hb => nomatch hb))
  | .dct kvs, _, _, _, h => by
    cases h with
    | dfz h1 h2 h3 => exact .dfz (frz_same e _ _ h1) h2 (OwnK.carry (frz_same e) kvs _ _ _ h3 (fun b hb => nomatch hb))
    | dow h1 h2 h3 => exact .dfz ((frz_in List.mem_cons_self).trans h1) h2 (OwnK.carry (frz_mono e fun b hb => List.mem_cons_of_mem _ hb) kvs _ _ _ (OwnK.freeze e kvs _ _ _ h3) (fun b hb => nomatch hb))
theorem Owns.freeze (e : Same F H) : ∀ (ds : List D) (k : Nat) (vs : List V) (A : List Addr), Owns F H k vs ds A → Owns (frz F H A) H 0 vs ds []
  | [], _, _, _, h => by cases h; exact .nil
  | d :: ds, _, _, _, h => by
    cases h with
    | cons h1 h2 =>
      exact .cons (A := []) (B := []) (Own.carry (frz_mono e fun b hb => List.mem_append_left _ hb) d _ _ _ (Own.freeze e d _ _ _ h1) (fun b hb => nomatch hb))
        (Owns.carry (frz_mono e fun b hb => List.mem_append_right _ hb) ds _ _ _ (Owns.freeze e ds _ _ _ h2) (fun b hb => nomatch hb))
theorem OwnK.freeze (e : Same F H) : ∀ (ds : List (DK × D)) (k : Nat) (vs : List (DK × V)) (A : List Addr), OwnK F H k vs ds A → OwnK (frz F H A) H 0 vs ds []
  | [], _, _, _, h => by cases h; exact .nil
  | (q, d) :: ds, _, _, _, h => by
    cases h with
    | cons h1 h2 =>
      exact .cons (A := []) (B := []) (Own.carry (frz_mono e fun b hb => List.mem_append_left _ hb) d _ _ _ (Own.freeze e d _ _ _ h1) (fun b hb => nomatch hb))
        (OwnK.carry (frz_mono e fun b hb => List.mem_append_right _ hb) ds _ _ _ (OwnK.freeze e ds _ _ _ h2) (fun b hb => nomatch hb))
end

mutual
/-- what has no list and no dict in it owns nothing, at any depth -/
theorem Own.imm : ∀ (d : D) (k : Nat) (v : V) (A : List Addr), Own F H k v d A → d.imm = true → A = [] ∧ ∀ j H', Own F H' j v d []
  | .non, _, _, _, h, _ => by cases h; exact ⟨rfl, fun _ _ => .non⟩
  | .bl b, _, _, _, h, _ => by cases h; exact ⟨rfl, fun _ _ => .bl b⟩
  | .int i, _, _, _, h, _ => by cases h; exact ⟨rfl, fun _ _ => .int i⟩
  | .str x, _, _, _, h, _ => by cases h; exact ⟨rfl, fun _ _ => .str x⟩
  | .tup ds, _, _, _, h, m => by
    cases h with
    | tup h1 h2 =>
      have q := Owns.imm ds _ _ _ h2 (by simpa [D.imm] using m)
      exact ⟨q.1, fun j H' => .tup h1 (q.2 j H')⟩
  | .seq ds, _, _, _, h, m => by
    cases h with
    | seq h1 h2 => exact ⟨rfl, fun j H' => .seq h1 ((Owns.imm ds _ _ _ h2 (by simpa [D.imm] using m)).2 0 H')⟩
  | .lst ds, _, _, _, _, m => by simp [D.imm] at m
  | .dct kvs, _, _, _, _, m => by simp [D.imm] at m
theorem Owns.imm : ∀ (ds : List D) (k : Nat) (vs : List V) (A : List Addr), Owns F H k vs ds A → D.immAll ds = true → A = [] ∧ ∀ j H', Owns F H' j vs ds []
  | [], _, _, _, h, _ => by cases h; exact ⟨rfl, fun _ _ => .nil⟩
  | d :: ds, _, _, _, h, m => by
    cases h with
    | cons h1 h2 =>
      rw [D.immAll, Bool.and_eq_true] at m
      obtain ⟨e1, q1⟩ := Own.imm d _ _ _ h1 m.1
      obtain ⟨e2, q2⟩ := Owns.imm ds _ _ _ h2 m.2
      subst e1; subst e2
      exact ⟨rfl, fun j H' => .cons (A := []) (B := []) (q1 j H') (q2 j H')⟩
end
theorem Own.imm' {d : D} {k : Nat} {v : V} {A : List Addr} (h : Own F H k v d A) (m : d.imm = true) (j : Nat) (H' : Hp) : Own F H' j v d [] := (Own.imm d k v A h m).2 j H'

/-- what was frozen at W is let go -/
def thaw (F : Hp) (W : List Addr) : Hp := fun b => if b ∈ W then none else F b
theorem thaw_in {F : Hp} {W : List Addr} {b : Addr} (h : b ∈ W) : thaw F W b = none := if_pos h
theorem thaw_out {F : Hp} {W : List Addr} {b : Addr} (h : b ∉ W) : thaw F W b = F b := if_neg h
theorem thaw_sub {F : Hp} {W : List Addr} : Same (thaw F W) F := fun b o h => by
  by_cases hb : b ∈ W
  · rw [thaw_in hb] at h; cases h
  · rw [thaw_out hb] at h; exact h
/-- an object that may change -/
def Chg (o : HO) : Prop := (∃ vs, o = .lst vs) ∨ (∃ kvv, HD0 o kvv)
theorem thaw_tup {W : List Addr} (hW : ∀ b ∈ W, ∀ o, F b = some o → Chg o) {a : Addr} {vs : List V} (h : F a = some (.tup vs)) : thaw F W a = some (.tup vs) := by
  have na : a ∉ W := fun hb => by
    rcases hW a hb _ h with ⟨_, e⟩ | ⟨_, ⟨_, e, _⟩ | ⟨_, e, _⟩⟩ <;> cases e
  exact (thaw_out na).trans h
mutual
theorem Own.thaw {W : List Addr} (hW : ∀ b ∈ W, ∀ o, F b = some o → Chg o) : ∀ (d : D) (k : Nat) (v : V) (A : List Addr), Own F H k v d A → d.cln k = true → Own (thaw F W) H k v d A
  | .non, _, _, _, h, _ => by cases h; exact .non
  | .bl b, _, _, _, h, _ => by cases h; exact .bl b
  | .int i, _, _, _, h, _ => by cases h; exact .int i
  | .str x, _, _, _, h, _ => by cases h; exact .str x
  | .tup ds, k, _, _, h, m => by
    cases h with
    | tup h1 h2 => exact .tup (thaw_tup hW h1) (Owns.thaw hW ds _ _ _ h2 (by cases k <;> simpa [D.cln] using m))
  | .seq ds, _, _, _, h, m => by
    cases h with
    | @seq _ a vs _ h1 h2 =>
      exact .seq (h1.imp fun o q => (thaw_out fun hb => by rcases hW a hb _ q with ⟨_, e⟩ | ⟨_, ⟨_, e, _⟩ | ⟨_, e, _⟩⟩ <;> cases e).trans q) (Owns.thaw hW ds _ _ _ h2 (by simpa [D.cln] using m))
  | .lst ds, _, _, _, h, m => by
    cases h with
    | lfz h1 h2 => simp [D.cln] at m
    | low h1 h2 => exact .low h1 (Owns.thaw hW ds _ _ _ h2 (by simpa [D.cln] using m))
  | .dct kvs, _, _, _, h, m => by
    cases h with
    | dfz h1 h2 h3 => simp [D.cln] at m
    | dow h1 h2 h3 => exact .dow h1 h2 (OwnK.thaw hW kvs _ _ _ h3 (by simpa [D.cln] using m))
theorem Owns.thaw {W : List Addr} (hW : ∀ b ∈ W, ∀ o, F b = some o → Chg o) : ∀ (ds : List D) (k : Nat) (vs : List V) (A : List Addr), Owns F H k vs ds A → D.clnAll k ds = true → Owns (thaw F W) H k vs ds A
  | [], _, _, _, h, _ => by cases h; exact .nil
  | d :: ds, _, _, _, h, m => by
    cases h with
    | cons h1 h2 =>
      rw [D.clnAll, Bool.and_eq_true] at m
      exact .cons (Own.thaw hW d _ _ _ h1 m.1) (Owns.thaw hW ds _ _ _ h2 m.2)
theorem OwnK.thaw {W : List Addr} (hW : ∀ b ∈ W, ∀ o, F b = some o → Chg o) : ∀ (ds : List (DK × D)) (k : Nat) (vs : List (DK × V)) (A : List Addr), OwnK F H k vs ds A → D.clnKs k ds = true → OwnK (thaw F W) H k vs ds A
  | [], _, _, _, h, _ => by cases h; exact .nil
  | (q, d) :: ds, _, _, _, h, m => by
    cases h with
    | cons h1 h2 =>
      rw [D.clnKs, Bool.and_eq_true] at m
      exact .cons (Own.thaw hW d _ _ _ h1 m.1) (OwnK.thaw hW ds _ _ _ h2 m.2)
end
mutual
theorem D.cln_of_imm : ∀ (d : D) (k : Nat), d.imm = true → d.cln k = true
  | .non, k, _ => by cases k <;> simp [D.cln]
  | .bl _, k, _ => by cases k <;> simp [D.cln]
  | .int _, k, _ => by cases k <;> simp [D.cln]
  | .str _, k, _ => by cases k <;> simp [D.cln]
  | .tup ds, k, h => by
    have q := D.clnAll_of_imm ds k (by simpa [D.imm] using h)
    cases k <;> simpa [D.cln] using q
  | .seq ds, k, h => by
    have q := D.clnAll_of_imm ds 0 (by simpa [D.imm] using h)
    cases k <;> simpa [D.cln] using q
  | .lst _, _, h => by simp [D.imm] at h
  | .dct _, _, h => by simp [D.imm] at h
theorem D.clnAll_of_imm : ∀ (ds : List D) (k : Nat), D.immAll ds = true → D.clnAll k ds = true
  | [], _, _ => by simp [D.clnAll]
  | d :: ds, k, h => by
    rw [D.immAll, Bool.and_eq_true] at h
    rw [D.clnAll, D.cln_of_imm d k h.1, D.clnAll_of_imm ds k h.2]
    rfl
end
mutual
/-- what is owned stands, as an object that may change -/
theorem Own.there : ∀ (d : D) (k : Nat) (v : V) (A : List Addr), Own F H k v d A → ∀ b ∈ A, ∃ o, H b = some o ∧ Chg o
  | .non, _, _, _, h, b, hb => by cases h; cases hb
  | .bl _, _, _, _, h, b, hb => by cases h; cases hb
  | .int _, _, _, _, h, b, hb => by cases h; cases hb
  | .str _, _, _, _, h, b, hb => by cases h; cases hb
  | .tup ds, _, _, _, h, b, hb => by
    cases h with
    | tup h1 h2 => exact Owns.there ds _ _ _ h2 b hb
  | .seq _, _, _, _, h, b, hb => by cases h; cases hb
  | .lst ds, _, _, _, h, b, hb => by
    cases h with
    | lfz h1 h2 => cases hb
    | low h1 h2 =>
      rcases List.mem_cons.mp hb with rfl | hb
      · exact ⟨_, h1, .inl ⟨_, rfl⟩⟩
      · exact Owns.there ds _ _ _ h2 b hb
  | .dct kvs, _, _, _, h, b, hb => by
    cases h with
    | dfz h1 h2 h3 => cases hb
    | dow h1 h2 h3 =>
      rcases List.mem_cons.mp hb with rfl | hb
      · exact ⟨_, h1, .inr ⟨_, h2.2⟩⟩
      · exact OwnK.there kvs _ _ _ h3 b hb
theorem Owns.there : ∀ (ds : List D) (k : Nat) (vs : List V) (A : List Addr), Owns F H k vs ds A → ∀ b ∈ A, ∃ o, H b = some o ∧ Chg o
  | [], _, _, _, h, b, hb => by cases h; cases hb
  | d :: ds, _, _, _, h, b, hb => by
    cases h with
    | cons h1 h2 =>
      rcases List.mem_append.mp hb with hb | hb
      · exact Own.there d _ _ _ h1 b hb
      · exact Owns.there ds _ _ _ h2 b hb
theorem OwnK.there : ∀ (ds : List (DK × D)) (k : Nat) (vs : List (DK × V)) (A : List Addr), OwnK F H k vs ds A → ∀ b ∈ A, ∃ o, H b = some o ∧ Chg o
  | [], _, _, _, h, b, hb => by cases h; cases hb
  | (q, d) :: ds, _, _, _, h, b, hb => by
    cases h with
    | cons h1 h2 =>
      rcases List.mem_append.mp hb with hb | hb
      · exact Own.there d _ _ _ h1 b hb
      · exact OwnK.there ds _ _ _ h2 b hb
end
/-- as it is read: all of it in H -/
theorem Own.read (e : Same F H) {d : D} {k : Nat} {v : V} {A : List Addr} (h : Own F H k v d A) : Own H H 0 v d [] :=
  Own.carry (frz_sub e) d _ _ _ (Own.freeze e d _ _ _ h) (fun b hb => nomatch hb)
theorem Owns.read (e : Same F H) {d : List D} {k : Nat} {v : List V} {A : List Addr} (h : Owns F H k v d A) : Owns H H 0 v d [] :=
  Owns.carry (frz_sub e) d _ _ _ (Owns.freeze e d _ _ _ h) (fun b hb => nomatch hb)
/-- frozen data do not look at the heap -/
theorem Own.zero {d : D} {v : V} (h : Own F H 0 v d []) (e : Same F F') : Own F' H' 0 v d [] := Own.carry e d _ _ _ h (fun b hb => nomatch hb)
theorem Owns.zero {d : List D} {v : List V} (h : Owns F H 0 v d []) (e : Same F F') : Owns F' H' 0 v d [] := Owns.carry e d _ _ _ h (fun b hb => nomatch hb)
theorem Owns.length : ∀ {ds : List D} {k : Nat} {vs : List V} {A : List Addr}, Owns F H k vs ds A → vs.length = ds.length
  | [], _, _, _, h => by cases h; rfl
  | d :: ds, _, _, _, h => by
    cases h with
    | cons h1 h2 => simp [Owns.length h2]
mutual
theorem Own.zeroA : ∀ (d : D) (v : V) (A : List Addr), Own F H 0 v d A → A = []
  | .non, _, _, h => by cases h; rfl
  | .bl _, _, _, h => by cases h; rfl
  | .int _, _, _, h => by cases h; rfl
  | .str _, _, _, h => by cases h; rfl
  | .tup ds, _, _, h => by
    cases h with
    | tup h1 h2 => exact Owns.zeroA ds _ _ h2
  | .seq ds, _, _, h => by cases h; rfl
  | .lst ds, _, _, h => by
    cases h with
    | lfz h1 h2 => rfl
  | .dct ds, _, _, h => by
    cases h with
    | dfz h1 h2 => rfl
theorem Owns.zeroA : ∀ (ds : List D) (vs : List V) (A : List Addr), Owns F H 0 vs ds A → A = []
  | [], _, _, h => by cases h; rfl
  | d :: ds, _, _, h => by
    cases h with
    | cons h1 h2 => rw [Own.zeroA d _ _ h1, Owns.zeroA ds _ _ h2]; rfl
end
end

/-! ### environments -/
abbrev Sl := Option (Nat × D)
abbrev En := List Sl
section
variable (F H : Hp)
inductive EnvR : En → L2.St → List Addr → Prop
  | nil : EnvR [] [] []
  | emp {ρ : En} {σ : L2.St} {A : List Addr} (o : Option V) : EnvR ρ σ A → EnvR (none :: ρ) (o :: σ) A
  | put {ρ : En} {σ : L2.St} {A B : List Addr} {k : Nat} {d : D} {v : V} : Own F H k v d A → EnvR ρ σ B → EnvR (some (k, d) :: ρ) (some v :: σ) (A ++ B)
/-- the state at hand: what the names hold, what they own (A), what is frozen (F) -/
structure StR (ρ : En) (σ : L2.St) (A : List Addr) : Prop where
  sub : Same F H
  env : EnvR F H ρ σ A
  nd : A.Nodup
  fr : ∀ b ∈ A, F b = none
/-- a step: the frozen part grows; what is tracked and not owned stands (but the tables of code); new owned ones were owned or are new -/
structure Tr (F H : Hp) (A : List Addr) (F' H' : Hp) (A' : List Addr) : Prop where
  ff : Same F F'
  hh : ∀ b o, H b = some o → b ∉ A → (∀ ps, o ≠ .tbl ps) → H' b = some o
  tb : ∀ b ps, H b = some (.tbl ps) → b ∉ A → ∃ ps', H' b = some (.tbl ps')
  aa : ∀ b ∈ A', b ∈ A ∨ H b = none
  fn : ∀ b o, F' b = some o → F b = none → b ∈ A ∨ H b = none
end
section
variable {K : PySem.W.Frag} {F F1 F2 F' H H1 H2 H' : Hp} {A A1 A2 A' B : List Addr} {ρ : En} {σ : L2.St}
theorem Tr.refl : Tr F H A F H A := ⟨Same.refl _, fun _ _ h _ _ => h, fun _ ps h _ => ⟨ps, h⟩, fun _ h => .inl h, fun b o h n => by rw [n] at h; cases h⟩
theorem Tr.sub (t : Tr F H A F' H' A') (h : ∀ b ∈ B, b ∈ A') : Tr F H A F' H' B := ⟨t.ff, t.hh, t.tb, fun b hb => t.aa b (h b hb), t.fn⟩
theorem Tr.grow (t : Tr F H A F' H' A') (h : ∀ b ∈ A, b ∈ B) : Tr F H B F' H' A' :=
  ⟨t.ff, fun b o e n => t.hh b o e fun z => n (h b z), fun b ps e n => t.tb b ps e fun z => n (h b z), fun b hb => (t.aa b hb).imp (h b) id, fun b o e n => (t.fn b o e n).imp (h b) id⟩
/-- what was neither owned nor free is tracked behind the step -/
theorem Tr.stays (x : Tr F H A F1 H1 A1) {b : Addr} (h : H1 b = none) : b ∈ A ∨ H b = none := by
  by_cases hb : b ∈ A
  · exact .inl hb
  · right
    cases e : H b with
    | none => rfl
    | some o =>
      exfalso
      by_cases ht : ∃ ps, o = .tbl ps
      · obtain ⟨ps, rfl⟩ := ht
        obtain ⟨ps', q⟩ := x.tb b ps e hb
        rw [h] at q; cases q
      · have q := x.hh b o e hb fun ps z => ht ⟨ps, z⟩
        rw [h] at q; cases q
theorem Tr.back (x : Tr F H A F1 H1 A1) {b : Addr} (h : b ∈ A1 ∨ H1 b = none) : b ∈ A ∨ H b = none := h.elim (x.aa b) x.stays
theorem Tr.trans (x : Tr F H A F1 H1 A1) (y : Tr F1 H1 A1 F2 H2 A2) : Tr F H A F2 H2 A2 := by
  have no : ∀ b o, H b = some o → b ∉ A → b ∉ A1 := fun b o e n z => (x.aa b z).elim n fun q => by rw [q] at e; cases e
  refine ⟨x.ff.trans y.ff, fun b o e n t => y.hh b o (x.hh b o e n t) (no b o e n) t, fun b ps e n => ?_, fun b hb => x.back (y.aa b hb), fun b o e n => ?_⟩
  · obtain ⟨ps1, e1⟩ := x.tb b ps e n
    exact y.tb b ps1 e1 (no b _ e n)
  · cases q : F1 b with
    | none => exact x.back (y.fn b o e q)
    | some o1 => exact x.fn b o1 q n
/-- owned things besides are not touched -/
theorem Tr.off (x : Tr F H A F1 H1 A1) (hB : ∀ b ∈ B, b ∉ A ∧ ∃ o, H b = some o ∧ Chg o) : (∀ b ∈ B, H1 b = H b) ∧ (∀ b ∈ B, b ∉ A1) ∧ ((∀ b ∈ B, F b = none) → ∀ b ∈ B, F1 b = none) := by
  have nt : ∀ o, Chg o → ∀ ps, o ≠ .tbl ps := fun o c ps e => by
    subst e
    rcases c with ⟨_, e⟩ | ⟨_, ⟨_, e, _⟩ | ⟨_, e, _⟩⟩ <;> cases e
  refine ⟨fun b hb => ?_, fun b hb z => ?_, fun hF b hb => ?_⟩
  · obtain ⟨n, o, e, c⟩ := hB b hb
    rw [e]
    exact x.hh b o e n (nt o c)
  · obtain ⟨n, o, e, c⟩ := hB b hb
    rcases x.aa b z with q | q
    · exact n q
    · rw [q] at e; cases e
  · obtain ⟨n, o, e, c⟩ := hB b hb
    cases q : F1 b with
    | none => rfl
    | some o1 =>
      rcases x.fn b o1 q (hF b hb) with z | z
      · exact absurd z n
      · rw [z] at e; cases e
theorem EnvR.length : ∀ {ρ : En} {σ : L2.St} {A : List Addr}, EnvR F H ρ σ A → ρ.length = σ.length
  | _, _, _, .nil => rfl
  | _, _, _, .emp _ e => by simp [EnvR.length e]
  | _, _, _, .put _ e => by simp [EnvR.length e]
theorem EnvR.carry (e : Same F F') : ∀ {ρ : En} {σ : L2.St} {A : List Addr}, EnvR F H ρ σ A → (∀ b ∈ A, H' b = H b) → EnvR F' H' ρ σ A
  | _, _, _, .nil, _ => .nil
  | _, _, _, .emp o x, w => .emp o (EnvR.carry e x w)
  | _, _, _, .put o x, w => .put (Own.carry e _ _ _ _ o fun b hb => w b (List.mem_append_left _ hb)) (EnvR.carry e x fun b hb => w b (List.mem_append_right _ hb))
/-- the i-th name: what it owns, and what may be put there -/
theorem EnvR.split : ∀ {ρ : En} {σ : L2.St} {A : List Addr} {i : Nat}, EnvR F H ρ σ A → i < ρ.length → ∃ A1 Ai A2, A = A1 ++ (Ai ++ A2) ∧
    (∀ k d, ρ[i]? = some (some (k, d)) → ∃ v, σ[i]? = some (some v) ∧ Own F H k v d Ai) ∧
    (∀ F' H' k' v' d' Ai', Same F F' → (∀ b ∈ A1 ++ A2, H' b = H b) → Own F' H' k' v' d' Ai' → EnvR F' H' (ρ.set i (some (k', d'))) (σ.set i (some v')) (A1 ++ (Ai' ++ A2))) ∧
    (∀ F' H' o, Same F F' → (∀ b ∈ A1 ++ A2, H' b = H b) → EnvR F' H' (ρ.set i none) (σ.set i o) (A1 ++ A2))
  | _, _, _, i, .nil, h => by simp at h
  | _, _, _, 0, .emp (ρ := ρ) (σ := σ) (A := A) o x, _ => by
    refine ⟨[], [], A, rfl, fun k d e => by simp at e, fun F' H' k' v' d' Ai' e w q => ?_, fun F' H' o e w => ?_⟩
    · exact (show EnvR F' H' _ _ (Ai' ++ _) from .put q (EnvR.carry e x fun b hb => w b hb))
    · exact .emp _ (EnvR.carry e x fun b hb => w b hb)
  | _, _, _, 0, .put (ρ := ρ) (σ := σ) (A := A) (B := B) (k := k₀) (d := d₀) (v := v₀) o x, _ => by
    refine ⟨[], A, B, rfl, fun k d e => ?_, fun F' H' k' v' d' Ai' e w q => ?_, fun F' H' o e w => ?_⟩
    · simp at e
      obtain ⟨rfl, rfl⟩ := e
      exact ⟨v₀, rfl, o⟩
    · exact (show EnvR F' H' _ _ (Ai' ++ _) from .put q (EnvR.carry e x fun b hb => w b hb))
    · exact .emp _ (EnvR.carry e x fun b hb => w b hb)
  | _, _, _, i + 1, .emp (ρ := ρ) (σ := σ) (A := A) o x, h => by
    obtain ⟨A1, Ai, A2, rfl, h1, h2, h3⟩ := EnvR.split (i := i) x (by simpa using h)
    refine ⟨A1, Ai, A2, rfl, fun k d e => ?_, fun F' H' k' v' d' Ai' e w q => ?_, fun F' H' o e w => ?_⟩
    · simpa using h1 k d (by simpa using e)
    · exact .emp _ (h2 F' H' k' v' d' Ai' e w q)
    · exact .emp _ (h3 F' H' o e w)
  | _, _, _, i + 1, .put (ρ := ρ) (σ := σ) (A := A) (B := B) (k := k₀) (d := d₀) (v := v₀) o x, h => by
    obtain ⟨A1, Ai, A2, rfl, h1, h2, h3⟩ := EnvR.split (i := i) x (by simpa using h)
    refine ⟨A ++ A1, Ai, A2, by simp, fun k d e => ?_, fun F' H' k' v' d' Ai' e w q => ?_, fun F' H' o' e w => ?_⟩
    · simpa using h1 k d (by simpa using e)
    · have r := h2 F' H' k' v' d' Ai' e (fun b hb => w b (by simp at hb ⊢; rcases hb with hb | hb <;> simp [hb])) q
      have z := EnvR.put (Own.carry e _ _ _ _ o fun b hb => w b (by simp [hb])) r
      simpa using z
    · have r := h3 F' H' o' e (fun b hb => w b (by simp at hb ⊢; rcases hb with hb | hb <;> simp [hb]))
      have z := EnvR.put (Own.carry e _ _ _ _ o fun b hb => w b (by simp [hb])) r
      simpa using z
theorem EnvR.there : ∀ {ρ : En} {σ : L2.St} {A : List Addr}, EnvR F H ρ σ A → ∀ b ∈ A, ∃ o, H b = some o ∧ Chg o
  | _, _, _, .nil, b, hb => by cases hb
  | _, _, _, .emp _ x, b, hb => EnvR.there x b hb
  | _, _, _, .put o x, b, hb => by
    rcases List.mem_append.mp hb with hb | hb
    · exact Own.there _ _ _ _ o b hb
    · exact EnvR.there x b hb
/-- the i-th name holds a value that is read -/
theorem StR.get (S : StR F H ρ σ A) {i k : Nat} {d : D} (h : ρ[i]? = some (some (k, d))) : ∃ v, σ[i]? = some (some v) ∧ Own H H 0 v d [] := by
  have hi : i < ρ.length := (List.getElem?_eq_some_iff.mp h).1
  obtain ⟨A1, Ai, A2, rfl, h1, _⟩ := EnvR.split S.env hi
  obtain ⟨v, e, o⟩ := h1 k d h
  exact ⟨v, e, o.read S.sub⟩
/-- a name is stored: its value is new or frozen or taken -/
theorem StR.put (S : StR F H ρ σ A) {i k : Nat} {d : D} {v : V} {B : List Addr} (hi : i < ρ.length) (o : Own F H k v d B) (nd : (A ++ B).Nodup) (fr : ∀ b ∈ B, F b = none) :
    ∃ A', StR F H (ρ.set i (some (k, d))) (σ.set i (some v)) A' ∧ ∀ b ∈ A', b ∈ A ∨ b ∈ B := by
  obtain ⟨A1, Ai, A2, rfl, _, h2, _⟩ := EnvR.split S.env hi
  refine ⟨A1 ++ (B ++ A2), ⟨S.sub, h2 F H k v d B (Same.refl _) (fun _ _ => rfl) o, ?_, fun b hb => ?_⟩, fun b hb => ?_⟩
  · have p : (A1 ++ (B ++ A2)).Perm (A1 ++ A2 ++ B) := by
      rw [List.append_assoc]
      exact List.Perm.append_left _ List.perm_append_comm
    refine p.nodup_iff.mpr (nd.sublist ?_)
    refine List.Sublist.append (List.Sublist.append (List.Sublist.refl _) ?_) (List.Sublist.refl _)
    exact List.sublist_append_right _ _
  · simp only [List.mem_append] at hb
    rcases hb with hb | hb | hb
    · exact S.fr b (by simp [hb])
    · exact fr b hb
    · exact S.fr b (by simp [hb])
  · simp only [List.mem_append] at hb ⊢
    rcases hb with hb | hb | hb
    · exact .inl (.inl hb)
    · exact .inr hb
    · exact .inl (.inr (.inr hb))
theorem StR.len (S : StR F H ρ σ A) : ρ.length = σ.length := S.env.length
end
end DN

set_option Elab.async false
set_option linter.all false
set_option maxRecDepth 100000
set_option maxHeartbeats 4000000
/-! DN, part B: readings of expressions over data; operands; what an operation must show. -/
namespace DN
open PySem PySem.Spec PyProof.Rows L2
variable [KSeq]

/-- an exception: its class's name, its fields -/
structure Ex where
  cls : Str
  fs : List (Str × D)
inductive Out (α : Type) where
  | ok (a : α) (ρ : En)
  | ex (x : Ex) (ρ : En)
abbrev M (α : Type) := En → Option (Out α)
def M.ret {α : Type} (a : α) : M α := fun ρ => some (.ok a ρ)
def M.fail {α : Type} : M α := fun _ => none
def bnd {α β : Type} (r : Option (Out α)) (g : α → M β) : Option (Out β) := match r with
  | none => none
  | some (.ok a ρ') => g a ρ'
  | some (.ex x ρ') => some (.ex x ρ')
def M.bind {α β : Type} (f : M α) (g : α → M β) : M β := fun ρ => bnd (f ρ) g
abbrev KD := Nat × D
/-- an operand: a name that is read where it stands, or a value -/
inductive Opd where
  | b (i : Nat)
  | v (f : M KD)
inductive Opv where
  | b (i : Nat)
  | v (k : Nat) (d : D)
def has (ρ : En) (i : Nat) : Bool := match ρ[i]? with
  | some (some _) => true
  | _ => false
def evs : List Opd → M (List Opv)
  | [] => M.ret []
  | .b i :: r => fun ρ => if has ρ i = true then bnd (evs r ρ) fun xs => M.ret (.b i :: xs) else none
  | .v f :: r => fun ρ => bnd (f ρ) fun kd => fun ρ1 => bnd (evs r ρ1) fun xs => M.ret (.v kd.1 kd.2 :: xs)

section
variable (mg : Str → Option Value) (W : WX)
/-- how a raised exception lies -/
def ExR (F : Hp) (x : Ex) (cls : Value) (dd : Option Addr) (H : Hp) : Prop :=
  ∃ C, mg x.cls = some (.ref C) ∧ cls = .ref C ∧ ((x.fs = [] ∧ dd = none) ∨
    ∃ a fv, dd = some a ∧ H a = some (.xd fv) ∧ Paired (fun (p : Str × V) (q : Str × D) => p.1 = q.1 ∧ Own F H 0 p.2 q.2 []) fv x.fs)
inductive OpsR (F H : Hp) (σ : L2.St) : List V → List Opv → List Addr → Prop
  | nil : OpsR F H σ [] [] []
  | bor {i : Nat} {v : V} {vs : List V} {xs : List Opv} {B : List Addr} : σ[i]? = some (some v) → OpsR F H σ vs xs B → OpsR F H σ (v :: vs) (.b i :: xs) B
  | val {k : Nat} {d : D} {v : V} {vs : List V} {xs : List Opv} {A B : List Addr} : Own F H k v d A → OpsR F H σ vs xs B → OpsR F H σ (v :: vs) (.v k d :: xs) (A ++ B)
/-- the end of an evaluation -/
def End {α β : Type} (F H : Hp) (A : List Addr) (σ : L2.St) (r : Option (Out α)) (R : α → Hp → Hp → List Addr → β → Prop) (Q : β → Hp → Prop) : Prop := match r with
  | none => False
  | some (.ok a ρ') => ∀ b F' H' A' B, StR F' H' ρ' σ A' → R a F' H' B b → (A' ++ B).Nodup → (∀ x ∈ B, F' x = none) → Tr F H A F' H' (A' ++ B) → Q b H'
  | some (.ex x ρ') => ∀ cls dd F' H' A', StR F' H' ρ' σ A' → Tr F H A F' H' A' → ExR mg F' x cls dd H' → W cls dd σ H'
def rKD : KD → Hp → Hp → List Addr → V → Prop := fun kd F' H' B v => Own F' H' kd.1 v kd.2 B
def rBl : Bool → Hp → Hp → List Addr → Bool → Prop := fun a _ _ B b => b = a ∧ B = []
def rOs (σ : L2.St) : List Opv → Hp → Hp → List Addr → List V → Prop := fun xs F' H' B vs => OpsR F' H' σ vs xs B
def tD (f : M KD) : TE := fun σ H Q => ∃ F ρ A, StR F H ρ σ A ∧ End mg W F H A σ (f ρ) rKD Q
def tB (f : M Bool) : TT := fun σ H Q => ∃ F ρ A, StR F H ρ σ A ∧ End mg W F H A σ (f ρ) rBl Q
def tOs (os : List Opd) : TA := fun σ H Q => ∃ F ρ A, StR F H ρ σ A ∧ End mg W F H A σ (evs os ρ) (rOs σ) Q
end

section
variable {K : PySem.W.Frag} {mg : Str → Option Value} {W : WX} {F F1 F2 F' H H1 H2 H' : Hp} {A A1 A2 A' B : List Addr} {ρ ρ1 : En} {σ : L2.St}
theorem OpsR.carry (e : Same F F') : ∀ {vs : List V} {xs : List Opv} {B : List Addr}, OpsR F H σ vs xs B → (∀ b ∈ B, H' b = H b) → OpsR F' H' σ vs xs B
  | _, _, _, .nil, _ => .nil
  | _, _, _, .bor h r, w => .bor h (OpsR.carry e r w)
  | _, _, _, .val h r, w => .val (Own.carry e _ _ _ _ h fun b hb => w b (List.mem_append_left _ hb)) (OpsR.carry e r fun b hb => w b (List.mem_append_right _ hb))
theorem OpsR.there : ∀ {vs : List V} {xs : List Opv} {B : List Addr}, OpsR F H σ vs xs B → ∀ b ∈ B, ∃ o, H b = some o ∧ Chg o
  | _, _, _, .nil, b, hb => by cases hb
  | _, _, _, .bor h r, b, hb => OpsR.there r b hb
  | _, _, _, .val h r, b, hb => by
    rcases List.mem_append.mp hb with hb | hb
    · exact Own.there _ _ _ _ h b hb
    · exact OpsR.there r b hb
/-- held values through a step -/
theorem hold {B1 : List Addr} (hB : ∀ b ∈ B1, ∃ o, H1 b = some o ∧ Chg o) (nd : (A1 ++ B1).Nodup) (fr : ∀ b ∈ B1, F1 b = none) {A2' : List Addr} (t : Tr F1 H1 A1 F2 H2 A2') (nd2 : A2'.Nodup) :
    (∀ b ∈ B1, H2 b = H1 b) ∧ (∀ b ∈ B1, F2 b = none) ∧ (A2' ++ B1).Nodup ∧ Tr F1 H1 (A1 ++ B1) F2 H2 (A2' ++ B1) := by
  have ap : ∀ b ∈ B1, b ∉ A1 := fun b hb z => (List.nodup_append.mp nd).2.2 b z b hb rfl
  obtain ⟨h1, h2, h3⟩ := t.off (B := B1) fun b hb => ⟨ap b hb, hB b hb⟩
  refine ⟨h1, h3 fr, ?_, ?_⟩
  · refine List.nodup_append.mpr ⟨nd2, (List.nodup_append.mp nd).2.1, fun a ha b hb e => ?_⟩
    subst e
    exact h2 a hb ha
  · have g := t.grow (B := A1 ++ B1) fun b hb => List.mem_append_left _ hb
    refine ⟨g.ff, g.hh, g.tb, fun b hb => ?_, g.fn⟩
    rcases List.mem_append.mp hb with hb | hb
    · exact g.aa b hb
    · exact .inl (List.mem_append_right _ hb)
/-- exceptions do not look at the reading's kind -/
theorem End.ex_of {α β γ : Type} {x : Ex} {ρ' : En} {R : α → Hp → Hp → List Addr → β → Prop} {Q : β → Hp → Prop} {R' : γ → Hp → Hp → List Addr → β → Prop} {Q' : β → Hp → Prop}
    (h : End mg W F H A σ (some (.ex x ρ') : Option (Out α)) R Q) : End mg W F H A σ (some (.ex x ρ') : Option (Out γ)) R' Q' := h
/-- behind a step the end is asked again -/
theorem End.bind {α β γ δ : Type} {r : Option (Out α)} {g : α → M γ} {R : α → Hp → Hp → List Addr → β → Prop} {R' : γ → Hp → Hp → List Addr → δ → Prop} {Q' : δ → Hp → Prop} {Q : β → Hp → Prop}
    (h : End mg W F H A σ (bnd r g) R' Q')
    (k : ∀ a ρ1 b F1 H1 A1 B1, r = some (.ok a ρ1) → StR F1 H1 ρ1 σ A1 → R a F1 H1 B1 b → (A1 ++ B1).Nodup → (∀ x ∈ B1, F1 x = none) → Tr F H A F1 H1 (A1 ++ B1) → End mg W F H A σ (g a ρ1) R' Q' → Q b H1) :
    End mg W F H A σ r R Q := by
  cases r with
  | none => exact h
  | some o =>
    cases o with
    | ok a ρ1 => exact fun b F1 H1 A1 B1 s r nd fr t => k a ρ1 b F1 H1 A1 B1 rfl s r nd fr t h
    | ex x ρ1 => exact h
/-- an end that was asked from the entry, asked from a later state -/
theorem End.later {α β : Type} {r : Option (Out α)} {R : α → Hp → Hp → List Addr → β → Prop} {Q : β → Hp → Prop} (t : Tr F H A F1 H1 A1) (h : End mg W F H A σ r R Q) : End mg W F1 H1 A1 σ r R Q := by
  cases r with
  | none => exact h
  | some o =>
    cases o with
    | ok a ρ1 => exact fun b F2 H2 A2 B2 s q nd fr t2 => h b F2 H2 A2 B2 s q nd fr (t.trans t2)
    | ex x ρ1 => exact fun cls dd F2 H2 A2 s t2 e => h cls dd F2 H2 A2 s (t.trans t2) e
/-- .. while B1 is held -/
theorem End.held {α β γ δ : Type} {r : Option (Out α)} {g : α → M γ} {R : α → Hp → Hp → List Addr → β → Prop} {R' : γ → Hp → Hp → List Addr → δ → Prop} {Q' : δ → Hp → Prop} {Q : β → Hp → Prop} {B1 : List Addr}
    (t1 : Tr F H A F1 H1 (A1 ++ B1)) (hB : ∀ b ∈ B1, ∃ o, H1 b = some o ∧ Chg o) (nd1 : (A1 ++ B1).Nodup) (fr1 : ∀ b ∈ B1, F1 b = none) (h : End mg W F H A σ (bnd r g) R' Q')
    (k : ∀ a ρ2 b F2 H2 A2 B2, StR F2 H2 ρ2 σ A2 → R a F2 H2 B2 b → (A2 ++ B2 ++ B1).Nodup → (∀ x ∈ B2, F2 x = none) → (∀ x ∈ B1, F2 x = none) → Same F1 F2 → (∀ x ∈ B1, H2 x = H1 x) →
      Tr F H A F2 H2 (A2 ++ B2 ++ B1) → End mg W F H A σ (g a ρ2) R' Q' → Q b H2) : End mg W F1 H1 A1 σ r R Q := by
  cases r with
  | none => exact h
  | some o =>
    cases o with
    | ok a ρ2 =>
      intro b F2 H2 A2 B2 s2 q nd fr t2
      obtain ⟨e1, e2, e3, e4⟩ := hold hB nd1 fr1 t2 nd
      exact k a ρ2 b F2 H2 A2 B2 s2 q e3 fr e2 t2.ff e1 (t1.trans e4) h
    | ex x ρ2 =>
      intro cls dd F2 H2 A2 s2 t2 e
      refine h cls dd F2 H2 A2 s2 (t1.trans (t2.grow fun b hb => List.mem_append_left _ hb)) e
theorem tOs_nil {Q : List V → Hp → Prop} (h : tOs mg W [] σ H Q) : tNil σ H Q := by
  obtain ⟨F, ρ, A, s, e⟩ := h
  exact e [] F H A [] s .nil (by simpa using s.nd) (fun _ z => nomatch z) (Tr.refl.sub fun b hb => by simpa using hb)
theorem tOs_v {f : M KD} {os : List Opd} {Q : List V → Hp → Prop} (h : tOs mg W (.v f :: os) σ H Q) : tCons (tD mg W f) (tOs mg W os) σ H Q := by
  obtain ⟨F, ρ, A, s, e⟩ := h
  refine ⟨F, ρ, A, s, End.bind e fun kd ρ1 v F1 H1 A1 B1 _ s1 o nd fr t h => ⟨F1, ρ1, A1, s1, ?_⟩⟩
  refine End.held t (Own.there _ _ _ _ o) nd fr h fun xs ρ2 vs F2 H2 A2 B2 s2 os2 nd2 fr2 frB e1 e2 t2 h2 => ?_
  refine h2 (v :: vs) F2 H2 A2 (B1 ++ B2) s2 (.val (Own.carry e1 _ _ _ _ o e2) os2) ?_ (fun x hx => (List.mem_append.mp hx).elim (frB x) (fr2 x)) (t2.sub fun b hb => ?_)
  · have p : (A2 ++ (B1 ++ B2)).Perm (A2 ++ B2 ++ B1) := by
      rw [List.append_assoc]
      exact List.Perm.append_left _ List.perm_append_comm
    exact p.nodup_iff.mpr nd2
  · simp only [List.mem_append] at hb ⊢
    rcases hb with hb | hb | hb
    · exact .inl (.inl hb)
    · exact .inr hb
    · exact .inl (.inr hb)
theorem has_get {i : Nat} (h : has ρ i = true) : ∃ k d, ρ[i]? = some (some (k, d)) := by
  unfold has at h
  split at h
  · rename_i kd e
    exact ⟨kd.1, kd.2, e⟩
  · cases h
theorem tOs_b {i : Nat} {os : List Opd} {Q : List V → Hp → Prop} (h : tOs mg W (.b i :: os) σ H Q) : tCons (tVar i) (tOs mg W os) σ H Q := by
  obtain ⟨F, ρ, A, s, e⟩ := h
  unfold evs at e
  by_cases hi : has ρ i = true
  · rw [if_pos hi] at e
    obtain ⟨k, d, hk⟩ := has_get hi
    obtain ⟨v, ev, _⟩ := s.get hk
    refine ⟨v, ev, F, ρ, A, s, End.bind e fun xs ρ2 vs F2 H2 A2 B2 _ s2 os2 nd2 fr2 t2 h2 => ?_⟩
    exact h2 (v :: vs) F2 H2 A2 B2 s2 (.bor ev os2) nd2 fr2 t2
  · rw [if_neg hi] at e
    exact e.elim
end

/-! ### weakening, argument lists -/
section
variable {X : Cx} {e : Expr} {es : List Expr}
theorem _root_.L2.PE.imp {t t' : TE} (h : PE X e t) (i : ∀ σ H Q, t' σ H Q → t σ H Q) : PE X e t' := ⟨fun pins s σ H Q I q => h.run pins s σ H Q I (i σ H Q q)⟩
theorem _root_.L2.PT.imp {t t' : TT} (h : PT X e t) (i : ∀ σ H Q, t' σ H Q → t σ H Q) : PT X e t' := ⟨fun pins s σ H Q I q => h.run pins s σ H Q I (i σ H Q q)⟩
theorem _root_.L2.PW.imp {t t' : TT} (h : PW X e t) (i : ∀ σ H Q, t' σ H Q → t σ H Q) : PW X e t' := ⟨fun wh pins s σ H Q I q => h.run wh pins s σ H Q I (i σ H Q q)⟩
theorem _root_.L2.PA.imp {t t' : TA} (h : PA X es t) (i : ∀ σ H Q, t' σ H Q → t σ H Q) : PA X es t' := ⟨fun pos pins s σ H Q I q => h.run pos pins s σ H Q I (i σ H Q q)⟩
theorem _root_.L2.PK.imp {kws : List Keyword} {t t' : TA} (h : PK X kws t) (i : ∀ σ H Q, t' σ H Q → t σ H Q) : PK X kws t' := ⟨fun pos pins s σ H Q I q => h.run pos pins s σ H Q I (i σ H Q q)⟩
theorem _root_.L2.PS.imp {st : Stmt} {t t' : TS} (h : PS X st t) (i : ∀ D σ H, t' D σ H → t D σ H) : PS X st t' := ⟨fun pins s σ H D I q => h.run pins s σ H D I (i D σ H q)⟩
theorem _root_.L2.PSs.imp {st : List Stmt} {t t' : TS} (h : PSs X st t) (i : ∀ D σ H, t' D σ H → t D σ H) : PSs X st t' := ⟨fun pins s σ H D I q => h.run pins s σ H D I (i D σ H q)⟩
theorem _root_.L2.PI.imp {tg : Expr} {t t' : TI} (h : PI X tg e t) (i : ∀ σ H Q, t' σ H Q → t σ H Q) : PI X tg e t' := ⟨fun pins s σ H Q I q => h.run pins s σ H Q I (i σ H Q q)⟩
def notStar : Expr → Bool
  | .Starred _ _ => false
  | _ => true
theorem starEach_of {env : PySem.Env} (h : notStar e = true) : starEach (e :: es) env = (false, eval e env) :: starEach es env := by
  cases e <;> first | rfl | (simp [notStar] at h)
/-- an operand's expression -/
def OpdOk (X : Cx) (mg : Str → Option Value) (W : WX) (e : Expr) : Opd → Prop
  | .b i => PE X e (tVar i) ∧ notStar e = true
  | .v f => PE X e (tD mg W f) ∧ notStar e = true
theorem pa_of {mg : Str → Option Value} {W : WX} : ∀ {es : List Expr} {os : List Opd}, Paired (OpdOk X mg W) es os → PA X es (tOs mg W os)
  | _, _, .nil => pa_nil.imp fun _ _ _ h => tOs_nil h
  | _, _, .cons (b := .b i) h r => (pa_cons h.1 (pa_of r) (starEach_of h.2)).imp fun _ _ _ h => tOs_b h
  | _, _, .cons (b := .v f) h r => (pa_cons h.1 (pa_of r) (starEach_of h.2)).imp fun _ _ _ h => tOs_v h
end
end DN

set_option Elab.async false
set_option linter.all false
set_option maxRecDepth 100000
set_option maxHeartbeats 4000000
/-! DN, part C: operations. -/
namespace DN
open PySem PySem.Spec PyProof.Rows L2
variable [KSeq]

def M.ok1 (k : Nat) (d : D) : M KD := M.ret (k, d)
/-- an operand's value as it stands -/
def kdOf (ρ : En) : Opv → Option KD
  | .b i => match ρ[i]? with
    | some (some kd) => some kd
    | _ => none
  | .v k d => some (k, d)
def dsOf (ρ : En) : List Opv → Option (List D)
  | [] => some []
  | x :: xs => match kdOf ρ x, dsOf ρ xs with
    | some kd, some ds => some (kd.2 :: ds)
    | _, _ => none
/-- an operation that looks at its operands and gives a plain value -/
def sop (h : List D → Option D) (xs : List Opv) : M KD := fun ρ => match dsOf ρ xs with
  | some ds => match h ds with
    | some d => M.ret (9, d) ρ
    | none => none
  | none => none
def opE (os : List Opd) (g : List Opv → M KD) : M KD := fun ρ => bnd (evs os ρ) g
def tOpd (mg : Str → Option Value) (W : WX) : Opd → TE
  | .b i => tVar i
  | .v f => tD mg W f
section
variable {K : PySem.W.Frag} {mg : Str → Option Value} {W : WX} {F H : Hp} {A : List Addr} {ρ : En} {σ : L2.St}
theorem tD_mono {f : M KD} {Q Q' : VK} (i : ∀ v H, Q v H → Q' v H) (h : tD mg W f σ H Q) : tD mg W f σ H Q' := by
  obtain ⟨F, ρ, A, s, e⟩ := h
  refine ⟨F, ρ, A, s, ?_⟩
  revert e
  cases f ρ with
  | none => exact id
  | some o =>
    cases o with
    | ok a ρ' => exact fun e b F' H' A' B s r nd fr t => i _ _ (e b F' H' A' B s r nd fr t)
    | ex x ρ' => exact id
theorem tOpd_mono {o : Opd} {Q Q' : VK} (i : ∀ v H, Q v H → Q' v H) (h : tOpd mg W o σ H Q) : tOpd mg W o σ H Q' := by
  cases o with
  | b j => obtain ⟨v, e, q⟩ := h; exact ⟨v, e, i _ _ q⟩
  | v f => exact tD_mono i h
theorem tOs_cons {o : Opd} {os : List Opd} {Q : List V → Hp → Prop} (h : tOs mg W (o :: os) σ H Q) : tOpd mg W o σ H fun v H1 => tOs mg W os σ H1 fun vs H2 => Q (v :: vs) H2 := by
  cases o with
  | b j => exact tOs_b h
  | v f => exact tOs_v h
theorem tOs_one {o : Opd} {Q : List V → Hp → Prop} (h : tOs mg W [o] σ H Q) : tOpd mg W o σ H fun v H1 => Q [v] H1 := tOpd_mono (fun v H1 h => (tOs_nil h : tNil σ H1 fun vs H2 => Q (v :: vs) H2)) (tOs_cons h)
theorem tOs_two {o o2 : Opd} {Q : List V → Hp → Prop} (h : tOs mg W [o, o2] σ H Q) : tOpd mg W o σ H fun v H1 => tOpd mg W o2 σ H1 fun u H2 => Q [v, u] H2 := tOpd_mono (fun _ _ h => tOs_one h) (tOs_cons h)
theorem tOs_three {o o2 o3 : Opd} {Q : List V → Hp → Prop} (h : tOs mg W [o, o2, o3] σ H Q) :
    tOpd mg W o σ H fun v H1 => tOpd mg W o2 σ H1 fun u H2 => tOpd mg W o3 σ H2 fun z H3 => Q [v, u, z] H3 := tOpd_mono (fun _ _ h => tOs_two h) (tOs_cons h)
/-- what an operation must show -/
def OpS (mg : Str → Option Value) (W : WX) (r : List V → Hp → VK → Prop) (g : List Opv → M KD) : Prop :=
  ∀ F H A B σ ρ vs xs Q, StR F H ρ σ A → OpsR F H σ vs xs B → (A ++ B).Nodup → (∀ b ∈ B, F b = none) → End mg W F H (A ++ B) σ (g xs ρ) rKD Q → r vs H Q
theorem opE_of {os : List Opd} {g : List Opv → M KD} {r : List V → Hp → VK → Prop} (hr : OpS mg W r g) {Q : VK} (h : tD mg W (opE os g) σ H Q) : tOs mg W os σ H fun vs H1 => r vs H1 Q := by
  obtain ⟨F, ρ, A, s, e⟩ := h
  refine ⟨F, ρ, A, s, End.bind e fun xs ρ1 vs F1 H1 A1 B1 _ s1 o nd fr t h => ?_⟩
  exact hr F1 H1 A1 B1 σ ρ1 vs xs Q s1 o nd fr (End.later t h)
theorem OpS.or1 {r r' : List V → Hp → VK → Prop} {g : List Opv → M KD} (h : OpS mg W r g) (i : ∀ vs H Q, r vs H Q → r' vs H Q) : OpS mg W r' g := fun F H A B σ ρ vs xs Q s o nd fr e => i _ _ _ (h F H A B σ ρ vs xs Q s o nd fr e)
/-- the operands as they are read -/
inductive Rds (H : Hp) : List V → List D → Prop
  | nil : Rds H [] []
  | cons {v : V} {vs : List V} {d : D} {ds : List D} : Own H H 0 v d [] → Rds H vs ds → Rds H (v :: vs) (d :: ds)
theorem rds_of (s : StR F H ρ σ A) : ∀ {vs : List V} {xs : List Opv} {B : List Addr} {ds : List D}, OpsR F H σ vs xs B → dsOf ρ xs = some ds → Rds H vs ds
  | _, _, _, _, .nil, e => by
    simp [dsOf] at e
    subst e
    exact .nil
  | _, _, _, ds, .bor (i := i) h r, e => by
    unfold dsOf at e
    split at e
    · rename_i kd ds' e1 e2
      cases e
      unfold kdOf at e1
      simp only at e1
      split at e1
      · rename_i kd' e3
        cases e1
        obtain ⟨v, ev, o⟩ := s.get (i := i) (k := kd.1) (d := kd.2) e3
        rw [h] at ev
        cases ev
        exact .cons o (rds_of s r e2)
      · cases e1
    · cases e
  | _, _, _, ds, .val h r, e => by
    unfold dsOf at e
    split at e
    · rename_i kd ds' e1 e2
      cases e
      cases e1
      exact .cons (h.read s.sub) (rds_of s r e2)
    · cases e
/-- a plain value's own value -/
def pv0 : D → Option V
  | .non => some .non
  | .bl b => some (.bl b)
  | .int i => some (.int i)
  | .str x => some (.str x)
  | _ => none
theorem own_pv {d : D} {v : V} (h : pv0 d = some v) (k : Nat) : Own F H k v d [] := by
  cases d <;> simp [pv0] at h <;> subst h
  · exact .non
  · exact .bl _
  · exact .int _
  · exact .str _
theorem Own.pv_eq {d : D} {v v0 : V} {k : Nat} (h : pv0 d = some v0) (o : Own F H k v d A) : v = v0 := by
  cases o <;> simp [pv0] at h <;> exact h
theorem End.done {α β : Type} {a : α} {R : α → Hp → Hp → List Addr → β → Prop} {Q : β → Hp → Prop} {A' B : List Addr} {b : β} (h : End mg W F H (A' ++ B) σ (M.ret a ρ) R Q) (s : StR F H ρ σ A') (r : R a F H [] b) : Q b H :=
  h b F H A' [] s r (by simpa using s.nd) (fun _ z => nomatch z) (Tr.refl.sub fun b hb => by simp at hb ⊢; exact .inl hb)
/-- a plain operation -/
theorem sop_ok {h : List D → Option D} {r : List V → Hp → VK → Prop} (hr : ∀ vs ds d H, Rds H vs ds → h ds = some d → ∃ v, pv0 d = some v ∧ ∀ Q : VK, Q v H → r vs H Q) : OpS mg W r (sop h) := by
  intro F H A B σ ρ vs xs Q s o nd fr e
  unfold sop at e
  split at e
  · rename_i ds e1
    split at e
    · rename_i d e2
      obtain ⟨v, pv, hq⟩ := hr vs ds d H (rds_of s o e1) e2
      exact hq Q (End.done e s (own_pv pv 9))
    · exact e.elim
  · exact e.elim
theorem Rds.one {d : D} {vs : List V} (h : Rds H vs [d]) : ∃ v, vs = [v] ∧ Own H H 0 v d [] := by
  cases h with
  | cons h r => cases r; exact ⟨_, rfl, h⟩
theorem Rds.two {d e : D} {vs : List V} (h : Rds H vs [d, e]) : ∃ v u, vs = [v, u] ∧ Own H H 0 v d [] ∧ Own H H 0 u e [] := by
  cases h with
  | cons h r =>
    obtain ⟨u, rfl, h2⟩ := r.one
    exact ⟨_, u, rfl, h, h2⟩
theorem Own.int_eq {i : Int} {v : V} {k : Nat} (h : Own F H k v (.int i) A) : v = .int i := by cases h; rfl
theorem Own.bl_eq {i : Bool} {v : V} {k : Nat} (h : Own F H k v (.bl i) A) : v = .bl i := by cases h; rfl
theorem Own.str_eq {i : Str} {v : V} {k : Nat} (h : Own F H k v (.str i) A) : v = .str i := by cases h; rfl
theorem Own.non_eq {v : V} {k : Nat} (h : Own F H k v .non A) : v = .non := by cases h; rfl
end

/-! ### unary, binary: plain -/
section
variable {X : Cx} {mg : Str → Option Value} {W : WX} {a b : Expr} {oa ob : Opd} {pos : Pos}
theorem opd_pe {e : Expr} {o : Opd} (h : OpdOk X mg W e o) : PE X e (tOpd mg W o) := by
  cases o with
  | b i => exact h.1
  | v f => exact h.1
/-- two values into an operator's rule -/
def r2L (r : R2) : List V → Hp → VK → Prop := fun vs H Q => match vs with
  | [x, y] => r x y H Q
  | _ => False
def r1L (r : V → Hp → VK → Prop) : List V → Hp → VK → Prop := fun vs H Q => match vs with
  | [x] => r x H Q
  | _ => False
theorem pe_bin {op : Operator} {r : R2} {g : List Opv → M KD} (ho : OpR X (binaryOp op) r) (hg : OpS mg W (r2L r) g) (ha : OpdOk X mg W a oa) (hb : OpdOk X mg W b ob) : PE X (.BinOp a op b pos) (tD mg W (opE [oa, ob] g)) :=
  (pe_op ho (opd_pe ha) (opd_pe hb)).imp fun _ _ _ h => tOs_two (opE_of hg h)
theorem pe_unS {op : UnaryOp} {r : V → Hp → VK → Prop} {g : List Opv → M KD} (ho : UnR X (unaryOp op) r) (hg : OpS mg W (r1L r) g) (ha : OpdOk X mg W a oa) : PE X (.UnaryOp op a pos) (tD mg W (opE [oa] g)) :=
  (pe_un ho (opd_pe ha)).imp fun _ _ _ h => tOs_one (opE_of hg h)
theorem pe_cmpS {op : CmpOp} {r : R2} {g : List Opv → M KD} (ho : OpR X (compareOp op) r) (hg : OpS mg W (r2L r) g) (ha : OpdOk X mg W a oa) (hb : OpdOk X mg W b ob) (hm : behindInMarks op b = false) : PE X (.Compare a [op] [b] pos) (tD mg W (opE [oa, ob] g)) :=
  (pe_cmpR ho (opd_pe ha) (opd_pe hb) hm).imp fun _ _ _ h => tOs_two (opE_of hg h)
/-- a built-in function or type that is called -/
theorem pe_bltS {x : Str} {p : Pos} {e : Expr} {es : List Expr} {os : List Opd} {id : String} {r : List V → Hp → VK → Prop} {g : List Opv → M KD} (hc : CallR X (.builtin id) r) (hG : Gl X x) (hm : X.mg x = none) (hv : bootBuiltins x = some (.builtin id))
    (hn : x ≠ "__name__") (hdb : (x == ("__debug__" : Str)) = false) (hg : OpS mg W r g) (ha : Paired (OpdOk X mg W) (e :: es) os) (hs : notStar e = true) (hpl : (backTo pos (starEach es X.env)).any (·.1) = false) :
    PE X (.Call (.Name x p) (e :: es) [] pos) (tD mg W (opE os g)) :=
  (pe_callB hc hG hm hv (pa_of ha) hn hdb (starEach_of hs) hpl).imp fun _ _ _ h => opE_of hg h
theorem pe_tyS {x : Str} {p : Pos} {e : Expr} {es : List Expr} {os : List Opd} {T : String} {r : List V → Hp → VK → Prop} {g : List Opv → M KD} (hc : CallR X (.type T) r) (hG : Gl X x) (hm : X.mg x = none) (hv : bootBuiltins x = some (.type T))
    (hn : x ≠ "__name__") (hdb : (x == ("__debug__" : Str)) = false) (hg : OpS mg W r g) (ha : Paired (OpdOk X mg W) (e :: es) os) (hs : notStar e = true) (hpl : (backTo pos (starEach es X.env)).any (·.1) = false) :
    PE X (.Call (.Name x p) (e :: es) [] pos) (tD mg W (opE os g)) :=
  (pe_callTy hc hG hm hv (pa_of ha) hn hdb (starEach_of hs) hpl).imp fun _ _ _ h => opE_of hg h
theorem _root_.L2.PE.or {t u : TE} (h : PE X a t) (h2 : PE X a u) : PE X a (fun σ H Q => t σ H Q ∨ u σ H Q) := ⟨fun pins s σ H Q I q => q.elim (h.run pins s σ H Q I) (h2.run pins s σ H Q I)⟩
end
end DN

set_option Elab.async false
set_option linter.all false
set_option maxRecDepth 100000
set_option maxHeartbeats 4000000
/-! DN, part Ca: a tuple taken once, or not at all. -/
namespace DN
open PySem PySem.Spec PyProof.Rows L2
theorem tup_once (l : Addr) (items : Array Value) (n : Nat) (dd : Option Addr) (sl : Array (Option Value)) (x : Int) (u : Tok) (c0 : (decide (x < -(2 ^ 63)) || decide (x ≥ 2 ^ 63)) = false) (c1 : (items.isEmpty || x == 1) = true) :
    Meets (Builtin.«tuple.__mul__» ⟨[.ref l, .int x u], []⟩) (fun _ R s => s.heap.get? l = some { cls := .type "tuple", dict := dd, data := .seq items n, slots := sl } ∧ R (.ok (.ret (Value.ref l))) s) :=
  .of_wp fun prog w A R s h => by
    obtain ⟨hp, g, d, tk, os⟩ := s
    obtain ⟨hl, h⟩ := h
    have f1 := AutoSeq1.idx_int
    wp_walk using wpAny_loadPart' hl
    refine wpAny_ite_false (decide_eq_false (by rw [c0]; exact Bool.false_ne_true)) ?_
    wp_walk using wpAny_loadPart' hl
    exact ⟨_, rfl, h⟩
theorem tup_none (l : Addr) (items : Array Value) (n : Nat) (dd : Option Addr) (sl : Array (Option Value)) (x : Int) (u : Tok) (c0 : (decide (x < -(2 ^ 63)) || decide (x ≥ 2 ^ 63)) = false) (c1 : (items.isEmpty || x == 1) = false) (c2 : (decide (x ≤ 0) || items.isEmpty) = true) :
    Meets (Builtin.«tuple.__mul__» ⟨[.ref l, .int x u], []⟩) (fun _ R s => s.heap.get? l = some { cls := .type "tuple", dict := dd, data := .seq items n, slots := sl } ∧
      R (.ok (.ret (Value.ref s.heap.objs.size))) { s with heap := s.heap.push { cls := Value.type "tuple", data := Data.seq #[] }, toks := s.toks }) :=
  .of_wp fun prog w A R s h => by
    obtain ⟨hp, g, d, tk, os⟩ := s
    obtain ⟨hl, h⟩ := h
    have f1 := AutoSeq1.idx_int
    wp_walk using wpAny_loadPart' hl
    refine wpAny_ite_false (decide_eq_false (by rw [c0]; exact Bool.false_ne_true)) ?_
    wp_walk using wpAny_loadPart' hl
    exact ⟨_, rfl, h⟩
def rRepO (K : PySem.W.Frag) : R2 := fun x y H Q => ∃ l k xs, x = .ref l ∧ y = .int k ∧ SqT K H l xs ∧ -1000000 ≤ k ∧ k ≤ 1000000 ∧ ((xs = [] ∨ k = 1) → Q (.ref l) H) ∧ (xs ≠ [] → k ≤ 0 → ∀ p, H p = none → Q (.ref p) (upd H p (.tup []))) ∧ (xs = [] ∨ k = 1 ∨ k ≤ 0)
section
variable {X : Cx}
theorem op_repO : OpR X (binaryOp .Mult) (rRepO X.K) := by
  intro pins s σ H x y v u Q I rx ry h
  obtain ⟨l, k, xs, rfl, rfl, hT, h1, h2, q1, q2, hor⟩ := h
  cases rx
  obtain ⟨t, rfl⟩ := ry
  obtain ⟨its, r, ⟨⟨cls, dd, data, sl⟩, ho, hc, n, hd⟩, hs⟩ := I.tuple hT
  simp only at hc hd
  subst hc hd
  have hle : its.length = xs.length := r.length.symm
  have c0 : (decide (k < -(2 ^ 63)) || decide (k ≥ 2 ^ 63)) = false := by
    rw [decide_eq_false (by omega), decide_eq_false (by omega)] <;> rfl
  by_cases hw : xs = [] ∨ k = 1
  · have c1 : (its.toArray.isEmpty || k == 1) = true := by
      rcases hw with e | e
      · subst e
        have : its = [] := List.eq_nil_of_length_eq_zero hle
        subst this
        rfl
      · subst e
        simp
    refine wpAny_binaryOp_repeat_ref (T := "tuple") (U := "int") (by decide) ⟨_, ho, rfl⟩ (fun s' => typeIs_int s' k t) noFill_tuple_mul F.fills_int_mul F.slot_int_rmul repeat_tuple F.slot_int_index.lookup
      (call_meets F.slot_int_rmul (typeIs_int s k t) F.entry_int_rmul (F.args_int_rmul_2 _ _) (int_rmul_tuple k t l its.toArray n dd sl)
        ⟨ho, rfl, ⟨_, ho, rfl⟩, call_meets F.slot_tuple_mul ⟨_, ho, rfl⟩ F.entry_tuple_mul (F.args_tuple_mul_2 _ _) (tup_once l its.toArray n dd sl k t c0 c1) ⟨ho, ?_⟩⟩)
    exact ⟨.ref l, H, I, rfl, q1 hw⟩
  · have hx : xs ≠ [] := fun e => hw (.inl e)
    have hk : k ≤ 0 := by
      rcases hor with e | e | e
      · exact absurd e hx
      · exact absurd (.inr e) hw
      · exact e
    have hi : its.toArray.isEmpty = false := by
      cases its with
      | nil => exact absurd (List.eq_nil_of_length_eq_zero hle.symm) hx
      | cons a b => rfl
    have c1 : (its.toArray.isEmpty || k == 1) = false := by
      rw [hi, Bool.false_or]
      exact beq_eq_false_iff_ne.mpr (by omega)
    have c2 : (decide (k ≤ 0) || its.toArray.isEmpty) = true := by
      rw [decide_eq_true hk]; rfl
    refine wpAny_binaryOp_repeat_ref (T := "tuple") (U := "int") (by decide) ⟨_, ho, rfl⟩ (fun s' => typeIs_int s' k t) noFill_tuple_mul F.fills_int_mul F.slot_int_rmul repeat_tuple F.slot_int_index.lookup
      (call_meets F.slot_int_rmul (typeIs_int s k t) F.entry_int_rmul (F.args_int_rmul_2 _ _) (int_rmul_tuple k t l its.toArray n dd sl)
        ⟨ho, rfl, ⟨_, ho, rfl⟩, call_meets F.slot_tuple_mul ⟨_, ho, rfl⟩ F.entry_tuple_mul (F.args_tuple_mul_2 _ _) (tup_none l its.toArray n dd sl k t c0 c1 c2) ⟨ho, ?_⟩⟩)
    refine ⟨.ref s.heap.objs.size, _, I.laid (t' := s.toks) (o := .tup []) (fun b ob q => Heap.get?_push_of_some _ q) (Nat.le_refl _) ?_, rfl, q2 hx hk _ (I.hok.fresh (Nat.le_refl _))⟩
    exact ⟨Nat.zero_le _, _, .nil, IsTup.new _ _⟩
end
end DN

set_option Elab.async false
set_option linter.all false
set_option maxRecDepth 100000
set_option maxHeartbeats 4000000
/-! DN, part D: operations on plain data: arithmetic, comparisons, len, isinstance, in, index, slices, joins of sequences. -/
namespace DN
open PySem PySem.Spec PyProof.Rows L2
variable [KSeq]

/-! ### views of operands -/
def kdsOf (ρ : En) : List Opv → Option (List KD)
  | [] => some []
  | x :: xs => match kdOf ρ x, kdsOf ρ xs with
    | some kd, some kds => some (kd :: kds)
    | _, _ => none
inductive Vw (F H : Hp) : List V → List KD → Prop
  | nil : Vw F H [] []
  | cons {v : V} {vs : List V} {kd : KD} {kds : List KD} {A : List Addr} : Own F H kd.1 v kd.2 A → Vw F H vs kds → Vw F H (v :: vs) (kd :: kds)
section
variable {K : PySem.W.Frag} {mg : Str → Option Value} {W : WX} {F H : Hp} {A B : List Addr} {ρ : En} {σ : L2.St}
theorem StR.getK (S : StR F H ρ σ A) {i k : Nat} {d : D} (h : ρ[i]? = some (some (k, d))) : ∃ v Ai, σ[i]? = some (some v) ∧ Own F H k v d Ai := by
  have hi : i < ρ.length := (List.getElem?_eq_some_iff.mp h).1
  obtain ⟨A1, Ai, A2, rfl, h1, _⟩ := EnvR.split S.env hi
  obtain ⟨v, e, o⟩ := h1 k d h
  exact ⟨v, Ai, e, o⟩
theorem vw_of (s : StR F H ρ σ A) : ∀ {vs : List V} {xs : List Opv} {B : List Addr} {kds : List KD}, OpsR F H σ vs xs B → kdsOf ρ xs = some kds → Vw F H vs kds
  | _, _, _, _, .nil, e => by
    simp [kdsOf] at e
    subst e
    exact .nil
  | _, _, _, ds, .bor (i := i) h r, e => by
    unfold kdsOf at e
    split at e
    · rename_i kd ds' e1 e2
      cases e
      unfold kdOf at e1
      simp only at e1
      split at e1
      · rename_i kd' e3
        cases e1
        obtain ⟨v, Ai, ev, o⟩ := s.getK (i := i) (k := kd.1) (d := kd.2) e3
        rw [h] at ev
        cases ev
        exact .cons o (vw_of s r e2)
      · cases e1
    · cases e
  | _, _, _, ds, .val h r, e => by
    unfold kdsOf at e
    split at e
    · rename_i kd ds' e1 e2
      cases e
      cases e1
      exact .cons h (vw_of s r e2)
    · cases e
theorem Vw.one {kd : KD} {vs : List V} (h : Vw F H vs [kd]) : ∃ v A, vs = [v] ∧ Own F H kd.1 v kd.2 A := by
  cases h with
  | cons h r => cases r; exact ⟨_, _, rfl, h⟩
theorem Vw.two {kd kd2 : KD} {vs : List V} (h : Vw F H vs [kd, kd2]) : ∃ v u A A2, vs = [v, u] ∧ Own F H kd.1 v kd.2 A ∧ Own F H kd2.1 u kd2.2 A2 := by
  cases h with
  | cons h r =>
    obtain ⟨u, A2, rfl, h2⟩ := r.one
    exact ⟨_, u, _, A2, rfl, h, h2⟩
/-- the items, where they are frozen or without lists and dicts -/
def kidsOk (k : Nat) (ds : List D) : Bool := D.immAll ds || decide (k ≤ 1)
def kids0 (k : Nat) (ds : List D) : Bool := D.immAll ds || decide (k = 0)
theorem Own.kidsL (s : Same F H) {k : Nat} {v : V} {ds : List D} (h : Own F H k v (.lst ds) A) (ok : kidsOk k ds = true) : ∃ a us, v = .ref a ∧ H a = some (.lst us) ∧ Owns F H 0 us ds [] := by
  unfold kidsOk at ok
  rw [Bool.or_eq_true] at ok
  cases h with
  | lfz h1 h2 => exact ⟨_, _, rfl, s _ _ h1, h2⟩
  | low h1 h2 =>
    refine ⟨_, _, rfl, h1, ?_⟩
    rcases ok with ok | ok
    · exact (Owns.imm ds _ _ _ h2 ok).2 0 H
    · have e := of_decide_eq_true ok
      have e0 : (_ : Nat) = 0 := Nat.le_zero.mp (Nat.le_of_succ_le_succ e)
      subst e0
      have ea := Owns.zeroA ds _ _ h2
      subst ea
      exact h2
theorem Own.kidsT (s : Same F H) {k : Nat} {v : V} {ds : List D} (h : Own F H k v (.tup ds) A) (ok : kids0 k ds = true) : ∃ a us, v = .ref a ∧ F a = some (.tup us) ∧ H a = some (.tup us) ∧ Owns F H 0 us ds [] := by
  unfold kids0 at ok
  rw [Bool.or_eq_true] at ok
  cases h with
  | tup h1 h2 =>
    refine ⟨_, _, rfl, h1, s _ _ h1, ?_⟩
    rcases ok with ok | ok
    · exact (Owns.imm ds _ _ _ h2 ok).2 0 H
    · have e := of_decide_eq_true ok
      subst e
      have ea := Owns.zeroA ds _ _ h2
      subst ea
      exact h2
theorem Owns.at : ∀ {ds : List D} {k : Nat} {vs : List V} {A : List Addr} {i : Nat} {d : D}, Owns F H k vs ds A → ds[i]? = some d → ∃ v B, vs[i]? = some v ∧ Own F H k v d B
  | [], _, _, _, _, _, _, e => by simp at e
  | d :: ds, _, _, _, 0, _, h, e => by
    cases h with
    | cons h1 h2 =>
      simp at e
      subst e
      exact ⟨_, _, rfl, h1⟩
  | d :: ds, _, _, _, i + 1, _, h, e => by
    cases h with
    | cons h1 h2 => simpa using Owns.at (i := i) h2 (by simpa using e)
theorem Owns.append : ∀ {ds es : List D} {k : Nat} {vs us : List V}, Owns F H k vs ds [] → Owns F H k us es [] → Owns F H k (vs ++ us) (ds ++ es) []
  | [], _, _, _, _, h, g => by cases h; exact g
  | d :: ds, _, _, _, _, h, g => by
    generalize ha : ([] : List Addr) = A0 at h
    cases h with
    | cons h1 h2 =>
      obtain ⟨ea, eb⟩ := List.append_eq_nil_iff.mp ha.symm
      subst ea; subst eb
      exact .cons (A := []) (B := []) h1 (Owns.append h2 g)
theorem Owns.drop : ∀ {ds : List D} {k : Nat} {vs : List V} (n : Nat), Owns F H k vs ds [] → Owns F H k (vs.drop n) (ds.drop n) []
  | _, _, _, 0, h => h
  | [], _, _, _ + 1, h => by cases h; exact .nil
  | d :: ds, _, _, n + 1, h => by
    generalize ha : ([] : List Addr) = A0 at h
    cases h with
    | cons h1 h2 =>
      obtain ⟨ea, eb⟩ := List.append_eq_nil_iff.mp ha.symm
      subst ea; subst eb
      exact Owns.drop n h2
theorem Owns.take : ∀ {ds : List D} {k : Nat} {vs : List V} (n : Nat), Owns F H k vs ds [] → Owns F H k (vs.take n) (ds.take n) []
  | _, _, _, 0, h => .nil
  | [], _, _, _ + 1, h => by cases h; exact .nil
  | d :: ds, _, _, n + 1, h => by
    generalize ha : ([] : List Addr) = A0 at h
    cases h with
    | cons h1 h2 =>
      obtain ⟨ea, eb⟩ := List.append_eq_nil_iff.mp ha.symm
      subst ea; subst eb
      exact .cons (A := []) (B := []) h1 (Owns.take n h2)
theorem Owns.reverse : ∀ {ds : List D} {k : Nat} {vs : List V}, Owns F H k vs ds [] → Owns F H k vs.reverse ds.reverse []
  | [], _, _, h => by cases h; exact .nil
  | d :: ds, _, _, h => by
    generalize ha : ([] : List Addr) = A0 at h
    cases h with
    | cons h1 h2 =>
      obtain ⟨ea, eb⟩ := List.append_eq_nil_iff.mp ha.symm
      subst ea; subst eb
      rw [List.reverse_cons, List.reverse_cons]
      exact Owns.append (Owns.reverse h2) (.cons (A := []) (B := []) h1 .nil)
theorem Owns.rep {ds : List D} {k : Nat} {vs : List V} (h : Owns F H k vs ds []) : ∀ n : Nat, Owns F H k (List.replicate n vs).flatten (List.replicate n ds).flatten []
  | 0 => .nil
  | n + 1 => by
    rw [List.replicate_succ, List.replicate_succ, List.flatten_cons, List.flatten_cons]
    exact Owns.append h (Owns.rep h n)
def kL (ds : List D) : Nat := if D.immAll ds = true then 9 else 1
def kT (ds : List D) : Nat := if D.immAll ds = true then 9 else 0
/-- a new list -/
theorem newL {ds : List D} {us : List V} {p : Addr} {Q : VK} (s : StR F H ρ σ A) (hp : H p = none) (o : Owns F H 0 us ds []) (h : End mg W F H (A ++ B) σ (M.ret (kL ds, .lst ds) ρ) rKD Q) : Q (.ref p) (upd H p (.lst us)) := by
  have sm : Same H (upd H p (.lst us)) := fun b ob e => by rw [upd_ne (ne_of_none e hp)]; exact e
  have fp : F p = none := s.sub.free hp
  have np : p ∉ A := fun z => by
    obtain ⟨o, e, _⟩ := EnvR.there s.env p z
    rw [hp] at e; cases e
  refine h (.ref p) F (upd H p (.lst us)) A [p] ⟨fun b ob e => sm b ob (s.sub b ob e), EnvR.carry (Same.refl _) s.env fun b hb => upd_ne (fun z => np (by rw [← z]; exact hb)), s.nd, s.fr⟩ ?_ ?_ ?_ ?_
  · show Own F (upd H p (.lst us)) (kL ds) (.ref p) (.lst ds) [p]
    unfold kL
    by_cases hi : D.immAll ds = true
    · rw [if_pos hi]
      exact .low (k := 8) upd_same ((Owns.imm ds _ _ _ o hi).2 8 _)
    · rw [if_neg hi]
      exact .low (k := 0) upd_same (o.zero (Same.refl _))
  · exact List.nodup_append.mpr ⟨s.nd, List.nodup_cons.mpr ⟨by simp, List.nodup_nil⟩, fun a ha b hb e => by
      simp at hb; subst hb; subst e; exact np ha⟩
  · intro x hx
    simp at hx; subst hx; exact fp
  · refine ⟨Same.refl _, fun b ob e _ _ => sm b ob e, fun b ps e _ => ⟨ps, sm b _ e⟩, fun b hb => ?_, fun b ob e n => by rw [n] at e; cases e⟩
    rcases List.mem_append.mp hb with hb | hb
    · exact .inl (List.mem_append_left _ hb)
    · simp at hb; subst hb; exact .inr hp
/-- a new tuple -/
theorem newT {ds : List D} {us : List V} {p : Addr} {Q : VK} (s : StR F H ρ σ A) (hp : H p = none) (o : Owns F H 0 us ds []) (h : End mg W F H (A ++ B) σ (M.ret (kT ds, .tup ds) ρ) rKD Q) : Q (.ref p) (upd H p (.tup us)) := by
  have sm : Same H (upd H p (.tup us)) := fun b ob e => by rw [upd_ne (ne_of_none e hp)]; exact e
  have fp : F p = none := s.sub.free hp
  have sf : Same F (upd F p (.tup us)) := fun b ob e => by rw [upd_ne (ne_of_none e fp)]; exact e
  have np : p ∉ A := fun z => by
    obtain ⟨o, e, _⟩ := EnvR.there s.env p z
    rw [hp] at e; cases e
  have sub' : Same (upd F p (.tup us)) (upd H p (.tup us)) := fun b ob e => by
    by_cases hb : b = p
    · subst hb; rw [upd_same] at e ⊢; exact e
    · rw [upd_ne hb] at e ⊢; exact s.sub b ob e
  refine h (.ref p) (upd F p (.tup us)) (upd H p (.tup us)) A [] ⟨sub', EnvR.carry sf s.env fun b hb => upd_ne (fun z => np (by rw [← z]; exact hb)), s.nd, fun b hb => ?_⟩ ?_ (by simpa using s.nd) (fun _ z => nomatch z) ?_
  · rw [upd_ne (fun z => np (by rw [← z]; exact hb))]
    exact s.fr b hb
  · show Own (upd F p (.tup us)) (upd H p (.tup us)) (kT ds) (.ref p) (.tup ds) []
    have o2 : Owns (upd F p (.tup us)) (upd H p (.tup us)) 0 us ds [] := o.zero sf
    unfold kT
    by_cases hi : D.immAll ds = true
    · rw [if_pos hi]
      exact .tup upd_same ((Owns.imm ds _ _ _ o2 hi).2 9 _)
    · rw [if_neg hi]
      exact .tup upd_same o2
  · refine ⟨sf, fun b ob e _ _ => sm b ob e, fun b ps e _ => ⟨ps, sm b _ e⟩, fun b hb => ?_, fun b ob e n => ?_⟩
    · simp at hb; exact .inl (List.mem_append_left _ hb)
    · by_cases hb : b = p
      · subst hb; exact .inr hp
      · rw [upd_ne hb, n] at e; cases e
/-- what was there, handed on frozen -/
theorem End.old {d : D} {v : V} {k : Nat} {Q : VK} (s : StR F H ρ σ A) (o : Own F H k v d []) (h : End mg W F H (A ++ B) σ (M.ret (k, d) ρ) rKD Q) : Q v H := End.done h s o
/-- an operation on operands as they stand -/
def nop (h : List KD → Option KD) (xs : List Opv) : M KD := fun ρ => match kdsOf ρ xs with
  | some kds => match h kds with
    | some kd => M.ret kd ρ
    | none => none
  | none => none
theorem nop_ok {h : List KD → Option KD} {r : List V → Hp → VK → Prop}
    (hr : ∀ F H A B σ ρ vs kds kd Q, StR F H ρ σ A → Vw F H vs kds → h kds = some kd → End mg W F H (A ++ B) σ (M.ret kd ρ) rKD Q → r vs H Q) : OpS mg W r (nop h) := by
  intro F H A B σ ρ vs xs Q s o nd fr e
  unfold nop at e
  split at e
  · rename_i kds e1
    split at e
    · rename_i kd e2
      exact hr F H A B σ ρ vs kds kd Q s (vw_of s o e1) e2 e
    · exact e.elim
  · exact e.elim
end

/-! ### arithmetic, overloaded + and * -/
def lineN : Nat := 16777216
theorem lineN_eq : lineN = sizeLine := sizeLine_eq.symm
def addK : List KD → Option KD
  | [(_, .int i), (_, .int j)] => some (9, .int (i + j))
  | [(_, .str x), (_, .str y)] => if x.length + y.length ≤ lineN then some (9, .str (x ++ y)) else none
  | [(k, .lst xs), (j, .lst ys)] => if (kidsOk k xs && kidsOk j ys && decide (xs.length + ys.length ≤ lineN)) = true then some (kL (xs ++ ys), .lst (xs ++ ys)) else none
  | [(k, .tup xs), (j, .tup ys)] => if (kids0 k xs && kids0 j ys && decide (xs.length + ys.length ≤ lineN)) = true then some (kT (xs ++ ys), .tup (xs ++ ys)) else none
  | _ => none
def mulK : List KD → Option KD
  | [(_, .int i), (_, .int j)] => if (decide (i.natAbs < 18446744073709551616) || decide (j.natAbs < 18446744073709551616)) = true then some (9, .int (i * j)) else none
  | [(k, .lst xs), (_, .int n)] => if (kidsOk k xs && decide (n.natAbs < 9223372036854775808) && decide (xs.length * n.toNat ≤ lineN)) = true then some (kL (List.replicate n.toNat xs).flatten, .lst (List.replicate n.toNat xs).flatten) else none
  | [(k, .tup xs), (_, .int n)] => if (kids0 k xs && decide (-1000000 ≤ n) && decide (n ≤ 1000) && decide (xs.length ≤ 1000)) = true then some (kT (List.replicate n.toNat xs).flatten, .tup (List.replicate n.toNat xs).flatten) else none
  | _ => none
def subD : List D → Option D
  | [.int i, .int j] => some (.int (i - j))
  | _ => none
def fdivD : List D → Option D
  | [.int i, .int j] => if (decide (j ≠ 0) && decide (j.natAbs < 1073741824)) = true then some (.int (i.fdiv j)) else none
  | _ => none
def modD : List D → Option D
  | [.int i, .int j] => if j ≠ 0 then some (.int (i.fmod j)) else none
  | _ => none
def powD : List D → Option D
  | [.int i, .int j] => if (decide (0 ≤ j) && decide (j ≤ 1000000) && decide (i.natAbs < 18446744073709551616)) = true then some (.int (i ^ j.toNat)) else none
  | _ => none
def negD : List D → Option D
  | [.int i] => some (.int (-i))
  | _ => none

section
variable {X : Cx} {mg : Str → Option Value} {W : WX}
theorem addS_ok : ∃ r, OpR X (binaryOp .Add) r ∧ OpS mg W (r2L r) (nop addK) := by
  refine ⟨_, OpR.or op_add (OpR.or op_add_str (OpR.or op_cat op_catA)), nop_ok fun F H A B σ ρ vs kds kd Q s vw e h => ?_⟩
  unfold addK at e
  split at e
  · cases e
    obtain ⟨v, u, A1, A2, rfl, o1, o2⟩ := vw.two
    obtain rfl := o1.int_eq
    obtain rfl := o2.int_eq
    exact .inl ⟨_, _, rfl, rfl, End.done h s (.int _)⟩
  · split at e
    · rename_i hl
      cases e
      obtain ⟨v, u, A1, A2, rfl, o1, o2⟩ := vw.two
      obtain rfl := o1.str_eq
      obtain rfl := o2.str_eq
      exact .inr (.inl ⟨_, _, rfl, rfl, by rw [← lineN_eq]; exact hl, End.done h s (.str _)⟩)
    · cases e
  · split at e
    · rename_i hl
      cases e
      obtain ⟨v, u, A1, A2, rfl, o1, o2⟩ := vw.two
      simp only [Bool.and_eq_true, decide_eq_true_eq] at hl
      obtain ⟨a, us, rfl, q1, w1⟩ := o1.kidsL s.sub hl.1.1
      obtain ⟨b, us2, rfl, q2, w2⟩ := o2.kidsL s.sub hl.1.2
      refine .inr (.inr (.inl ⟨a, b, us, us2, rfl, rfl, q1, q2, ?_, fun p hp => newL s hp (w1.append w2) h⟩))
      rw [w1.length, w2.length, ← lineN_eq]
      exact hl.2
    · cases e
  · split at e
    · rename_i k xs j ys hl
      cases e
      obtain ⟨v, u, A1, A2, rfl, o1, o2⟩ := vw.two
      simp only [Bool.and_eq_true, decide_eq_true_eq] at hl
      obtain ⟨a, us, rfl, f1, q1, w1⟩ := o1.kidsT s.sub hl.1.1
      obtain ⟨b, us2, rfl, f2, q2, w2⟩ := o2.kidsT s.sub hl.1.2
      have l1 := w1.length
      have l2 := w2.length
      have back : ∀ {k : Nat} {a : Addr} {us : List V} {ds : List D}, F a = some (.tup us) → Owns F H 0 us ds [] → Own F H (kT ds) (.ref a) (.tup ds) [] := fun f w => by
        unfold kT
        split
        · rename_i hi
          exact .tup f ((Owns.imm _ _ _ _ w hi).2 9 _)
        · exact .tup f w
      refine .inr (.inr (.inr ⟨a, b, us, us2, rfl, rfl, .of q1, .of q2, ?_, fun e0 => ?_, fun e1 e0 => ?_, fun _ _ p hp => newT s hp (w1.append w2) h⟩))
      · rw [w1.length, w2.length, ← lineN_eq]
        exact hl.2
      · have : xs = [] := List.eq_nil_of_length_eq_zero (by rw [← l1, e0]; rfl)
        subst this
        exact End.old s (back (k := 0) f2 w2) h
      · have : ys = [] := List.eq_nil_of_length_eq_zero (by rw [← l2, e0]; rfl)
        subst this
        simp only [List.append_nil] at h
        exact End.old s (back (k := 0) f1 w1) h
    · cases e
  · cases e
theorem natAbs_lt {i : Int} {n : Nat} (h : i.natAbs < n) : -(n : Int) < i ∧ i < n := by omega
theorem mulS_ok : ∃ r, OpR X (binaryOp .Mult) r ∧ OpS mg W (r2L r) (nop mulK) := by
  refine ⟨_, OpR.or op_mul (OpR.or op_rep (OpR.or op_repT op_repO)), nop_ok fun F H A B σ ρ vs kds kd Q s vw e h => ?_⟩
  unfold mulK at e
  split at e
  · split at e
    · rename_i i _ j hl
      cases e
      obtain ⟨v, u, A1, A2, rfl, o1, o2⟩ := vw.two
      obtain rfl := o1.int_eq
      obtain rfl := o2.int_eq
      refine .inl ⟨_, _, rfl, rfl, ?_, End.done h s (.int _)⟩
      simp only [Bool.or_eq_true, decide_eq_true_eq] at hl
      rcases hl with hl | hl
      · left; omega
      · right; omega
    · cases e
  · split at e
    · rename_i k xs _ n hl
      cases e
      obtain ⟨v, u, A1, A2, rfl, o1, o2⟩ := vw.two
      simp only [Bool.and_eq_true, decide_eq_true_eq] at hl
      obtain ⟨a, us, rfl, q1, w1⟩ := o1.kidsL s.sub hl.1.1
      obtain rfl := o2.int_eq
      refine .inr (.inl ⟨a, n, us, rfl, rfl, q1, by omega, by omega, ?_, fun p hp => newL s hp (w1.rep _) h⟩)
      rw [w1.length, ← lineN_eq]
      exact hl.2
    · cases e
  · split at e
    · rename_i k xs _ n hl
      cases e
      obtain ⟨v, u, A1, A2, rfl, o1, o2⟩ := vw.two
      simp only [Bool.and_eq_true, decide_eq_true_eq] at hl
      obtain ⟨a, us, rfl, f1, q1, w1⟩ := o1.kidsT s.sub hl.1.1.1
      obtain rfl := o2.int_eq
      have l1 := w1.length
      by_cases big : xs ≠ [] ∧ 2 ≤ n
      · refine .inr (.inr (.inl ⟨a, n, us, rfl, rfl, .of q1, fun z => ?_, by omega, by omega, by omega, fun p hp => newT s hp (w1.rep _) h⟩))
        subst z
        have : xs = [] := List.eq_nil_of_length_eq_zero (by rw [← l1]; rfl)
        exact big.1 this
      · have back : ∀ {k : Nat} {a : Addr} {us : List V} {ds : List D}, F a = some (.tup us) → Owns F H 0 us ds [] → Own F H (kT ds) (.ref a) (.tup ds) [] := fun f w => by
          unfold kT
          split
          · rename_i hi
            exact .tup f ((Owns.imm _ _ _ _ w hi).2 9 _)
          · exact .tup f w
        refine .inr (.inr (.inr ⟨a, n, us, rfl, rfl, .of q1, by omega, by omega, fun e0 => ?_, fun e0 e1 p hp => ?_, ?_⟩))
        · have er : (List.replicate n.toNat xs).flatten = xs := by
            rcases e0 with e0 | e0
            · have : xs = [] := List.eq_nil_of_length_eq_zero (by rw [← l1, e0]; rfl)
              subst this
              simp
            · subst e0
              simp
          rw [er] at h
          exact End.old s (back (k := 0) f1 w1) h
        · have er : n.toNat = 0 := by omega
          rw [er] at h
          exact newT s hp .nil h
        · by_cases hx : xs = []
          · left
            subst hx
            exact List.eq_nil_of_length_eq_zero (by rw [l1]; rfl)
          · right
            have : ¬ 2 ≤ n := fun c => big ⟨hx, c⟩
            omega
    · cases e
  · cases e
theorem int2 {f : List D → Option D} {C : Int → Int → Prop} {g : Int → Int → D} (hf : ∀ ds d, f ds = some d → ∃ i j, ds = [.int i, .int j] ∧ C i j ∧ d = g i j) {g' : Int → Int → V} (hg : ∀ i j, pv0 (g i j) = some (g' i j)) : OpS mg W (r2L (rI C g')) (sop f) :=
  sop_ok fun vs ds d H rd e => by
    obtain ⟨i, j, rfl, c, rfl⟩ := hf _ _ e
    obtain ⟨v, u, rfl, o1, o2⟩ := rd.two
    obtain rfl := o1.int_eq
    obtain rfl := o2.int_eq
    exact ⟨_, hg i j, fun Q q => ⟨i, j, rfl, rfl, c, q⟩⟩
theorem subS_ok : OpS mg W (r2L (rI0 fun i j => .int (i - j))) (sop subD) :=
  (int2 (C := fun _ _ => True) (g := fun i j => .int (i - j)) (g' := fun i j => .int (i - j)) (fun ds d e => by unfold subD at e; split at e <;> cases e; exact ⟨_, _, rfl, trivial, rfl⟩) fun _ _ => rfl).or1 fun vs H Q h => by
    cases vs with
    | nil => exact h
    | cons v r => cases r with
      | nil => exact h
      | cons u r2 => cases r2 with
        | nil => obtain ⟨i, j, a, b, _, q⟩ := h; exact ⟨i, j, a, b, q⟩
        | cons _ _ => exact h
theorem fdivS_ok : OpS mg W (r2L (rI CDivN fun i j => .int (i.fdiv j))) (sop fdivD) :=
  int2 (g := fun i j => .int (i.fdiv j)) (fun ds d e => by
    unfold fdivD at e
    split at e
    · split at e
      · rename_i i j hl
        cases e
        simp only [Bool.and_eq_true, decide_eq_true_eq] at hl
        exact ⟨_, _, rfl, hl, rfl⟩
      · cases e
    · cases e) fun _ _ => rfl
theorem modS_ok : OpS mg W (r2L (rI (fun _ j => j ≠ 0) fun i j => .int (i.fmod j))) (sop modD) :=
  int2 (g := fun i j => .int (i.fmod j)) (fun ds d e => by
    unfold modD at e
    split at e
    · split at e
      · rename_i i j hl
        cases e
        exact ⟨_, _, rfl, hl, rfl⟩
      · cases e
    · cases e) fun _ _ => rfl
theorem powS_ok : OpS mg W (r2L (rI CPow fun i j => .int (i ^ j.toNat))) (sop powD) :=
  int2 (g := fun i j => .int (i ^ j.toNat)) (fun ds d e => by
    unfold powD at e
    split at e
    · split at e
      · rename_i i j hl
        cases e
        simp only [Bool.and_eq_true, decide_eq_true_eq] at hl
        exact ⟨_, _, rfl, ⟨hl.1.1, hl.1.2, by omega⟩, rfl⟩
      · cases e
    · cases e) fun _ _ => rfl
theorem negS_ok : OpS mg W (r1L (rU fun i => .int (-i))) (sop negD) := sop_ok fun vs ds d H rd e => by
  unfold negD at e
  split at e
  · cases e
    obtain ⟨v, rfl, o1⟩ := rd.one
    obtain rfl := o1.int_eq
    exact ⟨_, rfl, fun Q q => ⟨_, rfl, q⟩⟩
  · cases e
end
end DN

set_option Elab.async false
set_option linter.all false
set_option maxRecDepth 100000
set_option maxHeartbeats 4000000
/-! DN, part E: comparisons, membership, len, isinstance, index, slices, conversions, repr. -/
namespace DN
open PySem PySem.Spec PyProof.Rows L2
variable [KSeq]

mutual
def D.py : D → Option PyData
  | .non => some .none
  | .bl b => some (.bool b)
  | .int i => some (.int i)
  | .str x => some (.str x)
  | .tup ds => match D.pyAll ds with
    | some ps => some (.tuple ps)
    | none => none
  | .lst ds => match D.pyAll ds with
    | some ps => some (.list ps)
    | none => none
  | .dct _ => none
  | .seq _ => none
def D.pyAll : List D → Option (List PyData)
  | [] => some []
  | d :: ds => match d.py, D.pyAll ds with
    | some p, some ps => some (p :: ps)
    | _, _ => none
end
section
variable {K : PySem.W.Frag} {H : Hp}
mutual
theorem Own.dp : ∀ (d : D) (v : V) (p : PyData), Own H H 0 v d [] → d.py = some p → Dp K H v p
  | .non, _, _, h, e => by cases h; simp [D.py] at e; subst e; exact .non
  | .bl b, _, _, h, e => by cases h; simp [D.py] at e; subst e; exact .bl b
  | .int b, _, _, h, e => by cases h; simp [D.py] at e; subst e; exact .int b
  | .str b, _, _, h, e => by cases h; simp [D.py] at e; subst e; exact .str b
  | .tup ds, _, _, h, e => by
    cases h with
    | tup h1 h2 =>
      unfold D.py at e
      split at e
      · rename_i ps ep
        cases e
        exact .tup (.of h1) (Owns.dp ds _ _ h2 ep)
      · cases e
  | .lst ds, _, _, h, e => by
    cases h with
    | lfz h1 h2 =>
      unfold D.py at e
      split at e
      · rename_i ps ep
        cases e
        exact .lst (.of h1) (Owns.dp ds _ _ h2 ep)
      · cases e
  | .dct _, _, _, _, e => by simp [D.py] at e
  | .seq _, _, _, _, e => by simp [D.py] at e
theorem Owns.dp : ∀ (ds : List D) (vs : List V) (ps : List PyData), Owns H H 0 vs ds [] → D.pyAll ds = some ps → DpAll K H vs ps
  | [], _, _, h, e => by cases h; simp [D.pyAll] at e; subst e; exact .nil
  | d :: ds, _, _, h, e => by
    generalize ha : ([] : List Addr) = A0 at h
    cases h with
    | cons h1 h2 =>
      obtain ⟨ea, eb⟩ := List.append_eq_nil_iff.mp ha.symm
      subst ea; subst eb
      unfold D.pyAll at e
      split at e
      · rename_i p ps e1 e2
        cases e
        exact .cons (Own.dp d _ _ h1 e1) (Owns.dp ds _ _ h2 e2)
      · cases e
end
end
/-- Python's == of two data (none: not known) -/
def eqD (d e : D) : Option Bool := match d.py, e.py with
  | some p, some q => if (SeqAt.shaped p && SeqAt.shaped q) = true then some (PyData.eqv p q) else none
  | _, _ => none
def eqS (neg : Bool) : List D → Option D
  | [d, e] => match eqD d e with
    | some b => some (.bl (neg ^^ b))
    | none => none
  | _ => none
def D.isNon : D → Bool
  | .non => true
  | _ => false
def isNonS (neg : Bool) : List D → Option D
  | [d, .non] => some (.bl (neg ^^ d.isNon))
  | _ => none
inductive Ord4 where
  | lt | le | gt | ge
def Ord4.i : Ord4 → Int → Int → Bool
  | .lt, i, j => decide (i < j)
  | .le, i, j => decide (i ≤ j)
  | .gt, i, j => decide (j < i)
  | .ge, i, j => decide (j ≤ i)
def ordS (o : Ord4) : List D → Option D
  | [.int i, .int j] => some (.bl (o.i i j))
  | _ => none
def Ord4.op : Ord4 → CmpOp
  | .lt => .Lt | .le => .LtE | .gt => .Gt | .ge => .GtE
def strIn (x y : Str) : Bool := !(Builtin.Str.occurrences y x 0 y.length 1).isEmpty
def inAll (d : D) (ds : List D) : Option Bool := match d.py, D.pyAll ds with
  | some p, some ps => if (SeqAt.shaped p && SeqAt.shaped (.tuple ps)) = true then some (ps.any fun z => PyData.eqv z p) else none
  | _, _ => none
def inS (neg : Bool) : List D → Option D
  | [.str x, .str y] => some (.bl (neg ^^ strIn x y))
  | [d, .lst ds] => match inAll d ds with
    | some b => some (.bl (neg ^^ b))
    | none => none
  | [d, .tup ds] => match inAll d ds with
    | some b => some (.bl (neg ^^ b))
    | none => none
  | _ => none
section
variable {X : Cx} {mg : Str → Option Value} {W : WX}
theorem fin_xor {n b : Bool} {Q : VK} {H : Hp} (q : Q (.bl (n ^^ b)) H) (e : n = false) : Q (.bl b) H := by subst e; simpa using q
theorem fin_xorT {n b : Bool} {Q : VK} {H : Hp} (q : Q (.bl (n ^^ b)) H) (e : n = true) : Q (.bl (!b)) H := by subst e; simpa using q
theorem eqS_rd {n : Bool} {vs : List V} {ds : List D} {d : D} {H : Hp} (rd : Rds H vs ds) (e : eqS n ds = some d) : ∃ v u p q, vs = [v, u] ∧ Dp X.K H v p ∧ Dp X.K H u q ∧ SeqAt.shaped p = true ∧ SeqAt.shaped q = true ∧ d = .bl (n ^^ PyData.eqv p q) := by
  unfold eqS at e
  split at e
  · split at e
    · rename_i b eb
      cases e
      unfold eqD at eb
      split at eb
      · rename_i p q e1 e2
        split at eb
        · rename_i hs
          cases eb
          simp only [Bool.and_eq_true] at hs
          obtain ⟨v, u, rfl, o1, o2⟩ := rd.two
          exact ⟨v, u, p, q, rfl, Own.dp _ _ _ o1 e1, Own.dp _ _ _ o2 e2, hs.1, hs.2, rfl⟩
        · cases eb
      · cases eb
    · cases e
  · cases e
theorem eqS_ok : OpS mg W (r2L (rEqD X.K)) (sop (eqS false)) := sop_ok fun vs ds d H rd e => by
  obtain ⟨v, u, p, q, rfl, h1, h2, s1, s2, rfl⟩ := eqS_rd rd e
  exact ⟨_, rfl, fun Q h => ⟨p, q, h1, h2, s1, s2, by simpa using h⟩⟩
theorem neS_ok : OpS mg W (r2L (rNeD X.K)) (sop (eqS true)) := sop_ok fun vs ds d H rd e => by
  obtain ⟨v, u, p, q, rfl, h1, h2, s1, s2, rfl⟩ := eqS_rd rd e
  exact ⟨_, rfl, fun Q h => ⟨p, q, h1, h2, s1, s2, by simpa using h⟩⟩
theorem Own.non_iff {F H : Hp} {d : D} {v : V} {k : Nat} {A : List Addr} (h : Own F H k v d A) : decide (v = .non) = d.isNon := by
  cases h <;> simp [D.isNon]
theorem isS_ok : OpS mg W (r2L fun x y H Q => y = .non ∧ Q (.bl (decide (x = .non))) H) (sop (isNonS false)) := sop_ok fun vs ds d H rd e => by
  unfold isNonS at e
  split at e
  · rename_i d0
    cases e
    obtain ⟨v, u, rfl, o1, o2⟩ := rd.two
    obtain rfl := o2.non_eq
    refine ⟨_, rfl, fun Q h => ⟨rfl, ?_⟩⟩
    rw [o1.non_iff]
    simpa using h
  · cases e
theorem isNotS_ok : OpS mg W (r2L fun x y H Q => y = .non ∧ Q (.bl (!decide (x = .non))) H) (sop (isNonS true)) := sop_ok fun vs ds d H rd e => by
  unfold isNonS at e
  split at e
  · rename_i d0
    cases e
    obtain ⟨v, u, rfl, o1, o2⟩ := rd.two
    obtain rfl := o2.non_eq
    refine ⟨_, rfl, fun Q h => ⟨rfl, ?_⟩⟩
    rw [o1.non_iff]
    simpa using h
  · cases e
theorem ordS_ok (o : Ord4) : ∃ r, OpR X (compareOp o.op) r ∧ OpS mg W (r2L r) (sop (ordS o)) := by
  have key : ∀ (g : Int → Int → Bool), (∀ i j, g i j = o.i i j) → OpS mg W (r2L (rI0 fun i j => .bl (g i j))) (sop (ordS o)) := fun g hg => sop_ok fun vs ds d H rd e => by
    unfold ordS at e
    split at e
    · cases e
      obtain ⟨v, u, rfl, o1, o2⟩ := rd.two
      obtain rfl := o1.int_eq
      obtain rfl := o2.int_eq
      exact ⟨_, rfl, fun Q h => ⟨_, _, rfl, rfl, by show Q (.bl (g _ _)) H; rw [hg]; exact h⟩⟩
    · cases e
  cases o with
  | lt => exact ⟨_, op_lt, key _ fun _ _ => rfl⟩
  | le => exact ⟨_, op_le, key _ fun _ _ => rfl⟩
  | gt => exact ⟨_, op_gt, key _ fun _ _ => rfl⟩
  | ge => exact ⟨_, op_ge, key _ fun _ _ => rfl⟩
/-- x in a list or tuple of data -/
def rInA (K : PySem.W.Frag) (neg : Bool) : R2 := fun x y H Q => ∃ d ds, Dp K H x d ∧ (Dp K H y (.list ds) ∨ Dp K H y (.tuple ds)) ∧ SeqAt.shaped d = true ∧ SeqAt.shaped (.tuple ds) = true ∧ Q (.bl (neg ^^ (ds.any fun z => PyData.eqv z d))) H
theorem shaped_lt {ds : List PyData} (h : SeqAt.shaped (.tuple ds) = true) : PyData.canLayAll0 ds = true := SeqAt.canLay_of_shaped h
theorem op_inA (hu : X.A.units + 66 < cLine) : OpR X (compareOp .In) (rInA X.K false) := by
  intro pins s σ H x y v u Q I rx ry h
  obtain ⟨d, ds, hd, he, sd, se, q⟩ := h
  obtain ⟨as, r1⟩ := Dp.reads I d x v hd rx
  have q' : Q (.bl (ds.any fun z => PyData.eqv z d)) H := by simpa using q
  rcases he with he | he
  · obtain ⟨bs, r2⟩ := Dp.reads I (.list ds) y u he ry
    exact SeqAt.in_list_reads r2 r1 (shaped_lt se) (SeqAt.canLay_of_shaped sd) (room_in_shaped sd (by omega)) ⟨.bl _, H, I, rfl, q'⟩
  · obtain ⟨bs, r2⟩ := Dp.reads I (.tuple ds) y u he ry
    exact SeqAt.in_tuple_reads r2 r1 (shaped_lt se) (SeqAt.canLay_of_shaped sd) (room_in_shaped sd (by omega)) ⟨.bl _, H, I, rfl, q'⟩
theorem op_notInA (hu : X.A.units + 66 < cLine) : OpR X (compareOp .NotIn) (rInA X.K true) := by
  intro pins s σ H x y v u Q I rx ry h
  obtain ⟨d, ds, hd, he, sd, se, q⟩ := h
  obtain ⟨as, r1⟩ := Dp.reads I d x v hd rx
  have q' : Q (.bl (!ds.any fun z => PyData.eqv z d)) H := by simpa using q
  rcases he with he | he
  · obtain ⟨bs, r2⟩ := Dp.reads I (.list ds) y u he ry
    exact SeqAt.notIn_list_reads r2 r1 (shaped_lt se) (SeqAt.canLay_of_shaped sd) (room_in_shaped sd (by omega)) ⟨.bl _, H, I, rfl, q'⟩
  · obtain ⟨bs, r2⟩ := Dp.reads I (.tuple ds) y u he ry
    exact SeqAt.notIn_tuple_reads r2 r1 (shaped_lt se) (SeqAt.canLay_of_shaped sd) (room_in_shaped sd (by omega)) ⟨.bl _, H, I, rfl, q'⟩
theorem inAll_dp {d : D} {ds : List D} {b : Bool} (e : inAll d ds = some b) : ∃ p ps, d.py = some p ∧ D.pyAll ds = some ps ∧ SeqAt.shaped p = true ∧ SeqAt.shaped (.tuple ps) = true ∧ b = ps.any fun z => PyData.eqv z p := by
  unfold inAll at e
  split at e
  · rename_i p ps e1 e2
    split at e
    · rename_i hs
      cases e
      simp only [Bool.and_eq_true] at hs
      exact ⟨p, ps, e1, e2, hs.1, hs.2, rfl⟩
    · cases e
  · cases e
theorem inS_ok (hu : X.A.units + 66 < cLine) (n : Bool) : ∃ r, OpR X (compareOp (if n = true then .NotIn else .In)) r ∧ OpS mg W (r2L r) (sop (inS n)) := by
  have key : OpS mg W (r2L fun x y H Q => (∃ i j, x = .str i ∧ y = .str j ∧ Q (.bl (n ^^ strIn i j)) H) ∨ rInA X.K n x y H Q) (sop (inS n)) := sop_ok fun vs ds d H rd e => by
    unfold inS at e
    split at e
    · cases e
      obtain ⟨v, u, rfl, o1, o2⟩ := rd.two
      obtain rfl := o1.str_eq
      obtain rfl := o2.str_eq
      exact ⟨_, rfl, fun Q h => .inl ⟨_, _, rfl, rfl, h⟩⟩
    · split at e
      · rename_i b eb
        cases e
        obtain ⟨v, u, rfl, o1, o2⟩ := rd.two
        obtain ⟨p, ps, e1, e2, s1, s2, rfl⟩ := inAll_dp eb
        exact ⟨_, rfl, fun Q h => .inr ⟨p, ps, Own.dp _ _ _ o1 e1, .inl (Own.dp _ _ _ o2 (by simp [D.py, e2])), s1, s2, h⟩⟩
      · cases e
    · split at e
      · rename_i b eb
        cases e
        obtain ⟨v, u, rfl, o1, o2⟩ := rd.two
        obtain ⟨p, ps, e1, e2, s1, s2, rfl⟩ := inAll_dp eb
        exact ⟨_, rfl, fun Q h => .inr ⟨p, ps, Own.dp _ _ _ o1 e1, .inr (Own.dp _ _ _ o2 (by simp [D.py, e2])), s1, s2, h⟩⟩
      · cases e
    · cases e
  cases n with
  | false =>
    refine ⟨_, OpR.or op_in_str (op_inA hu), key.or1 fun vs H Q h => ?_⟩
    cases vs with
    | nil => exact h
    | cons v r => cases r with
      | nil => exact h
      | cons u r2 => cases r2 with
        | nil => exact h.imp (fun ⟨i, j, a, b, q⟩ => ⟨i, j, a, b, by simpa [strIn] using q⟩) id
        | cons _ _ => exact h
  | true =>
    refine ⟨_, OpR.or op_notIn_str (op_notInA hu), key.or1 fun vs H Q h => ?_⟩
    cases vs with
    | nil => exact h
    | cons v r => cases r with
      | nil => exact h
      | cons u r2 => cases r2 with
        | nil => exact h.imp (fun ⟨i, j, a, b, q⟩ => ⟨i, j, a, b, by simpa [strIn] using q⟩) id
        | cons _ _ => exact h
end

/-! ### len, isinstance -/
def lenS : List D → Option D
  | [.str x] => if x.length ≤ lineN then some (.int x.length) else none
  | [.lst ds] => some (.int ds.length)
  | [.tup ds] => some (.int ds.length)
  | [.seq ds] => some (.int ds.length)
  | _ => none
/-- a datum's built-in class -/
def D.ty : D → String
  | .non => "NoneType"
  | .bl _ => "bool"
  | .int _ => "int"
  | .str _ => "str"
  | .tup _ => "tuple"
  | .lst _ => "list"
  | .dct _ => "dict"
  | .seq _ => "seq"
/-- isinstance(x, T) for the built-in classes that are named -/
def isiT (T a : String) : Bool := if T == "int" then a == "int" || a == "bool" else a == T
def isiD (T : String) (d : D) : Bool := isiT T d.ty
def isiS (T : String) : List D → Option D
  | [.seq _] => none
  | [d] => if (T == "int" || T == "bool" || T == "str" || T == "tuple" || T == "list" || T == "dict") = true then some (.bl (isiD T d)) else none
  | _ => none
section
variable {X : Cx} {mg : Str → Option Value} {W : WX}
theorem lenS_ok (hK : X.K = KSeq.K) : OpS mg W (fun xs H Q => ∃ x n, xs = [x] ∧ LenV X.K x H n ∧ Q (.int n) H) (sop lenS) := sop_ok fun vs ds d H rd e => by
  unfold lenS at e
  split at e
  · split at e
    · rename_i hl
      cases e
      obtain ⟨v, rfl, o⟩ := rd.one
      obtain rfl := o.str_eq
      exact ⟨_, rfl, fun Q h => ⟨_, _, rfl, ⟨by rw [← lineN_eq]; exact hl, rfl⟩, h⟩⟩
    · cases e
  · cases e
    obtain ⟨v, rfl, o⟩ := rd.one
    cases o with
    | lfz h1 h2 => exact ⟨_, rfl, fun Q h => ⟨_, _, rfl, .inl ⟨_, .of h1, h2.length.symm⟩, h⟩⟩
  · cases e
    obtain ⟨v, rfl, o⟩ := rd.one
    cases o with
    | tup h1 h2 => exact ⟨_, rfl, fun Q h => ⟨_, _, rfl, .inr ⟨_, .of h1, h2.length.symm⟩, h⟩⟩
  · cases e
    obtain ⟨v, rfl, o⟩ := rd.one
    cases o with
    | seq h1 h2 => exact ⟨_, rfl, fun Q h => ⟨_, _, rfl, .inl ⟨_, h1.sq hK (Same.refl _), h2.length.symm⟩, h⟩⟩
  · cases e
theorem ty_of {K : PySem.W.Frag} {H : Hp} {v : V} {d : D} (hd : ∀ l, d ≠ .seq l) (o : Own H H 0 v d []) : TyX K H v (.type d.ty) := by
  cases o with
  | non => exact .base .non
  | bl b => exact .base (.bl b)
  | int b => exact .base (.int b)
  | str b => exact .base (.str b)
  | tup h1 h2 => exact .base (.tup h1)
  | lfz h1 h2 => exact .base (.lst h1)
  | seq h1 h2 => exact absurd rfl (hd _)
  | dfz h1 h2 h3 =>
    rcases h2.2 with ⟨kv, rfl, _⟩ | ⟨kv, rfl, _⟩
    · exact .base (.dK h1)
    · exact .base (.dT h1)
theorem isi_kit {K : PySem.W.Frag} {T : String} (hT : (T == "int" || T == "bool" || T == "str" || T == "tuple" || T == "list" || T == "dict") = true) (d : D) (hd : ∀ l, d ≠ .seq l) : PySem.W.kitOne K (.type d.ty) (.type T) = some (isiD T d) := by
  have all : ∀ T ∈ ["int", "bool", "str", "tuple", "list", "dict"], ∀ a ∈ ["NoneType", "bool", "int", "str", "tuple", "list", "dict"], kitB a T = some (isiT T a) := by decide +kernel
  refine kit_ty (all T ?_ d.ty ?_)
  · simp only [Bool.or_eq_true, beq_iff_eq] at hT
    simp only [List.mem_cons, List.not_mem_nil, or_false]
    rcases hT with ((((h | h) | h) | h) | h) | h <;> simp [h]
  · cases d with
    | seq l => exact absurd rfl (hd l)
    | _ => simp [D.ty]
/-- isinstance(x, T): the second operand is the class by its name -/
theorem pe_isi {e c : Expr} {oe : Opd} {T : String} {x : Str} {p p2 pos : Pos} (hG : Gl X "isinstance") (hm : X.mg "isinstance" = none) (hG2 : Gl X x) (hm2 : X.mg x = none) (hv : bootBuiltins x = some (.type T)) (hn : x ≠ "__name__") (hdb : (x == ("__debug__" : Str)) = false)
    (he : OpdOk X mg W e oe) (hs : notStar e = true) : PE X (.Call (.Name "isinstance" p) [e, .Name x p2] [] pos) (tD mg W (opE [oe] (sop (isiS T)))) := by
  refine (pe_callB call_isi hG hm (by decide +kernel) (pa_cons (opd_pe (mg := mg) (W := W) he) (pa_cons (pe_bltn (v := .ty T) hG2 hm2 hv rfl hn hdb) pa_nil) (starEach_of hs)) (he := starEach_of hs)).imp fun σ H Q h => ?_
  refine tOs_one (opE_of (r := r1L fun v H Q => rIsi X.K [v, .ty T] H Q) (sop_ok fun vs ds d H rd e => ?_) h)
  unfold isiS at e
  split at e
  · cases e
  · rename_i hseq
    split at e
    · rename_i hT
      cases e
      obtain ⟨v, rfl, o⟩ := rd.one
      exact ⟨_, rfl, fun Q q => ⟨v, .ty T, _, _, _, rfl, .ty T, ty_of (fun l z => hseq l (by rw [z])) o, isi_kit hT _ (fun l z => hseq l (by rw [z])), q⟩⟩
    · cases e
  · cases e
end
end DN

set_option Elab.async false
set_option linter.all false
set_option maxRecDepth 100000
set_option maxHeartbeats 4000000
/-! DN, part F: index, slices, conversions, small built-ins. -/
namespace DN
open PySem PySem.Spec PyProof.Rows L2
variable [KSeq]

/-! ### keys -/
def D.key1 : D → Option Key
  | .int i => some (.inl i)
  | .str x => some (.inr x)
  | _ => none
def keys1 : List D → Option (List Key)
  | [] => some []
  | d :: ds => match d.key1, keys1 ds with
    | some k, some ks => some (k :: ks)
    | _, _ => none
def D.key : D → Option DK
  | .tup ds => (keys1 ds).map DK.t
  | d => d.key1.map DK.k
def valD (kvs : List (DK × D)) (q : DK) : Option D := (kvs.find? fun p => decide (p.1 = q)).map (·.2)
section
variable {F H : Hp}
theorem key1_v {d : D} {v : V} {k : Nat} {q : Key} {A : List Addr} (o : Own F H k v d A) (e : d.key1 = some q) : v = kV q := by
  cases o <;> simp [D.key1] at e <;> subst e <;> rfl
theorem keys1_v : ∀ {ds : List D} {k : Nat} {vs : List V} {A : List Addr} {qs : List Key}, Owns F H k vs ds A → keys1 ds = some qs → vs = qs.map kV
  | [], _, _, _, _, h, e => by cases h; simp [keys1] at e; subst e; rfl
  | d :: ds, _, _, _, _, h, e => by
    cases h with
    | cons h1 h2 =>
      unfold keys1 at e
      split at e
      · rename_i q qs e1 e2
        cases e
        rw [List.map_cons, key1_v h1 e1, keys1_v h2 e2]
      · cases e
/-- a key, as it lies -/
def KeyAt (H : Hp) (v : V) : DK → Prop
  | .k q => v = kV q
  | .t qs => ∃ b, v = .ref b ∧ H b = some (.tup (qs.map kV))
theorem key_at (s : Same F H) {d : D} {v : V} {k : Nat} {q : DK} {A : List Addr} (o : Own F H k v d A) (e : d.key = some q) : KeyAt H v q := by
  cases o with
  | tup h1 h2 =>
    simp [D.key] at e
    obtain ⟨qs, e1, rfl⟩ := e
    exact ⟨_, rfl, by rw [← keys1_v h2 e1]; exact s _ _ h1⟩
  | int i => simp [D.key, D.key1] at e; subst e; exact rfl
  | str x => simp [D.key, D.key1] at e; subst e; exact rfl
  | _ => simp [D.key, D.key1] at e
theorem valV_k (kv : List (Key × V)) (q : Key) : valV (kv.map fun p => (DK.k p.1, p.2)) (DK.k q) = valV kv q := by
  induction kv with
  | nil => rfl
  | cons p r ih =>
    rw [List.map_cons]
    by_cases h : p.1 = q
    · rw [valV_pos h, valV_pos (by simp [h])]
    · rw [valV_neg h, valV_neg (by simpa using h)]
      exact ih
theorem valV_t (kv : List (List Key × V)) (q : List Key) : valV (kv.map fun p => (DK.t p.1, p.2)) (DK.t q) = valV kv q := by
  induction kv with
  | nil => rfl
  | cons p r ih =>
    rw [List.map_cons]
    by_cases h : p.1 = q
    · rw [valV_pos h, valV_pos (by simp [h])]
    · rw [valV_neg h, valV_neg (by simpa using h)]
      exact ih
theorem valV_kt (kv : List (Key × V)) (q : List Key) : valV (kv.map fun p => (DK.k p.1, p.2)) (DK.t q) = none := by
  induction kv with
  | nil => rfl
  | cons p r ih =>
    rw [List.map_cons, valV_neg (by simp)]
    exact ih
theorem valV_tk (kv : List (List Key × V)) (q : Key) : valV (kv.map fun p => (DK.t p.1, p.2)) (DK.k q) = none := by
  induction kv with
  | nil => rfl
  | cons p r ih =>
    rw [List.map_cons, valV_neg (by simp)]
    exact ih
theorem OwnK.val : ∀ {kvs : List (DK × D)} {k : Nat} {kvv : List (DK × V)} {A : List Addr} (q : DK), OwnK F H k kvv kvs A →
    (valD kvs q = none ∧ valV kvv q = none) ∨ ∃ d v B, valD kvs q = some d ∧ valV kvv q = some v ∧ Own F H k v d B
  | [], _, _, _, q, h => by cases h; exact .inl ⟨rfl, rfl⟩
  | (q', d) :: ds, _, _, _, q, h => by
    cases h with
    | @cons _ _ v vs _ _ A B h1 h2 =>
      by_cases e : q' = q
      · exact .inr ⟨d, v, A, by simp [valD, e], valV_pos e, h1⟩
      · have e1 : valD ((q', d) :: ds) q = valD ds q := by simp [valD, List.find?_cons, e]
        have e2 : valV ((q', v) :: vs) q = valV vs q := valV_neg e
        rw [e1, e2]
        exact OwnK.val q h2
/-- a dict's entry that is there -/
theorem dget_at {a : Addr} {o : HO} {kvv : List (DK × V)} {q : DK} {v y : V} (e : H a = some o) (hd : HD o kvv) (hv : valV kvv q = some v) (ky : KeyAt H y q) : DGet H a y (some v) := by
  rcases hd.2 with ⟨kv, rfl, rfl⟩ | ⟨kv, rfl, rfl⟩
  · cases q with
    | k q =>
      rw [valV_k] at hv
      obtain rfl : y = kV q := ky
      rw [← hv]
      exact DGet.k e
    | t q => rw [valV_kt] at hv; cases hv
  · cases q with
    | k q => rw [valV_tk] at hv; cases hv
    | t q =>
      rw [valV_t] at hv
      obtain ⟨b, rfl, eb⟩ := ky
      rw [← hv]
      exact DGet.t e eb
end

/-! ### dicts by values -/
def rIxD : R2 := fun x y H Q => ∃ a v, x = .ref a ∧ DGet H a y (some v) ∧ Q v H
theorem ix_dict {X : Cx} (hu : X.A.units + 1 < cLine) : IxR X rIxD := by
  intro value slice pins s σ H x y v u Q I rx ry h hs
  obtain ⟨a, w, rfl, g, q⟩ := h
  cases rx
  have hT := dict_typeIs I g
  unfold subscriptTail
  refine wpAny_bind ?_
  rw [getitemInPython_of_ne hT.not_modules]
  refine wpAny_bind (wpAny_specialOf hT PySem.F.slot_dict_getitem.lookup ?_)
  have fin : wpAny (model X.prog X.w) X.A (subscripted slice false (.ref a) u) (fun r s₃ => wpAny (model X.prog X.w) X.A (letTemporaryGo value (.ref a) r >>= fun _ => pure r) (EP X pins σ Q) X.xe s₃) X.xe s := by
    rw [hs]
    exact wpAny_operating (wpAny_mono (d_getItem hu I g ry fun w' s3 I3 rw' => (⟨w, H, I3, rw', q⟩ : EP X pins σ Q w' s3)) (fun r s₃ h₃ => wpAny_bind (wpAny_letTemporaryGo (wpAny_pure h₃))) fun _ _ x => x)
  first
    | exact wpAny_pure (wpAny_bind fin)
    | exact wpAny_bind (wpAny_pure (wpAny_bind fin))
    | exact wpAny_bind fin

/-! ### index -/
def idxK : List KD → Option KD
  | [(k, .lst ds), (_, .int i)] => match atI ds i with
    | some d => if d.imm = true then some (9, d) else if k ≤ 1 then some (0, d) else none
    | none => none
  | [(k, .tup ds), (_, .int i)] => match atI ds i with
    | some d => if d.imm = true then some (9, d) else if k = 0 then some (0, d) else none
    | none => none
  | [(_, .seq ds), (_, .int i)] => match atI ds i with
    | some d => if d.imm = true then some (9, d) else none
    | none => none
  | [(_, .str x), (_, .int i)] => if x.length ≤ lineN then (match atI x.cps.toList i with
    | some c => some (9, .str ⟨#[c]⟩)
    | none => none) else none
  | [(k, .dct kvs), (_, y)] => match y.key with
    | some q => match valD kvs q with
      | some d => if d.imm = true then some (9, d) else if k ≤ 1 then some (0, d) else none
      | none => none
    | none => none
  | _ => none
def idxOp (xs : List Opv) : M KD := nop idxK xs
def isSlice : Expr → Bool
  | .Slice _ _ _ _ => true
  | _ => false
section
variable {X : Cx} {mg : Str → Option Value} {W : WX} {F H : Hp}
theorem plainIx_of {b : Expr} (h : isSlice b = false) : PlainIx b := fun o i => by
  cases b <;> first | rfl | (simp [isSlice] at h)
theorem noSl_of {b : Expr} (h : isSlice b = false) : NoSl b := plainIx_of h
theorem atI_own {ds : List D} {vs : List V} {k : Nat} {A : List Addr} {i : Int} {d : D} (h : Owns F H k vs ds A) (e : atI ds i = some d) : ∃ v B, atI vs i = some v ∧ Own F H k v d B := by
  unfold atI at e ⊢
  rw [h.length]
  cases q : ixN ds.length i with
  | none => rw [q] at e; cases e
  | some j =>
    rw [q] at e
    exact Owns.at h e
/-- a part of something, without lists and dicts in it or frozen -/
theorem part_own {d : D} {v : V} {k : Nat} {B : List Addr} (o : Own F H k v d B) (h : d.imm = true ∨ k = 0) : Own F H 0 v d [] := by
  rcases h with h | h
  · exact o.imm' h 0 H
  · subst h
    have := Own.zeroA d v B o
    subst this
    exact o
theorem part_own9 {d : D} {v : V} (o : Own F H 0 v d []) (h : d.imm = true) : Own F H 9 v d [] := o.imm' h 9 H
theorem idx_ok (hK : X.K = KSeq.K) : OpS mg W (r2L fun x y H Q => rIx X.K x y H Q ∨ rIxD x y H Q) idxOp := nop_ok fun F H A B σ ρ vs kds kd Q s vw e h => by
  unfold idxK at e
  split at e
  · rename_i k ds _ i
    split at e
    · rename_i d ed
      obtain ⟨v, u, A1, A2, rfl, o1, o2⟩ := vw.two
      obtain rfl := o2.int_eq
      have fin : ∀ {a us} {j : Nat} {A' : List Addr}, H a = some (.lst us) → Owns F H j us ds A' → (d.imm = true ∨ j = 0) → (∃ kk, kd = (kk, d) ∧ (kk = 0 ∨ (kk = 9 ∧ d.imm = true))) → r2L (fun x y H Q => rIx X.K x y H Q ∨ rIxD x y H Q) [.ref a, .int i] H Q := fun {a us j A'} ea w hj hk => by
        obtain ⟨v, B, ev, o⟩ := atI_own w ed
        have o0 := part_own o hj
        obtain ⟨kk, rfl, hk⟩ := hk
        refine .inl (.inl ⟨a, us, i, v, rfl, rfl, .of ea, ev, ?_⟩)
        rcases hk with rfl | ⟨rfl, hi⟩
        · exact End.old s o0 h
        · exact End.old s (part_own9 o0 hi) h
      split at e
      · rename_i hi
        cases e
        cases o1 with
        | lfz h1 h2 => exact fin (s.sub _ _ h1) h2 (.inl hi) ⟨9, rfl, .inr ⟨rfl, hi⟩⟩
        | low h1 h2 => exact fin h1 h2 (.inl hi) ⟨9, rfl, .inr ⟨rfl, hi⟩⟩
      · split at e
        · rename_i hk
          cases e
          cases o1 with
          | lfz h1 h2 => exact fin (s.sub _ _ h1) h2 (.inr rfl) ⟨0, rfl, .inl rfl⟩
          | low h1 h2 => exact fin h1 h2 (.inr (Nat.le_zero.mp (Nat.le_of_succ_le_succ hk))) ⟨0, rfl, .inl rfl⟩
        · cases e
    · cases e
  · rename_i k ds _ i
    split at e
    · rename_i d ed
      obtain ⟨v, u, A1, A2, rfl, o1, o2⟩ := vw.two
      obtain rfl := o2.int_eq
      cases o1 with
      | @tup _ a us _ _ h1 h2 =>
        obtain ⟨v, B, ev, o⟩ := atI_own h2 ed
        split at e
        · rename_i hi
          cases e
          exact .inl (.inr (.inl ⟨a, us, i, v, rfl, rfl, .of (s.sub _ _ h1), ev, End.old s (part_own9 (part_own o (.inl hi)) hi) h⟩))
        · split at e
          · rename_i hk
            cases e
            exact .inl (.inr (.inl ⟨a, us, i, v, rfl, rfl, .of (s.sub _ _ h1), ev, End.old s (part_own o (.inr hk)) h⟩))
          · cases e
    · cases e
  · rename_i _ ds _ i
    split at e
    · rename_i d ed
      obtain ⟨v, u, A1, A2, rfl, o1, o2⟩ := vw.two
      obtain rfl := o2.int_eq
      cases o1 with
      | @seq _ a us _ h1 h2 =>
        obtain ⟨v, B, ev, o⟩ := atI_own h2 ed
        split at e
        · rename_i hi
          cases e
          exact .inl (.inl ⟨a, us, i, v, rfl, rfl, h1.sq hK s.sub, ev, End.old s (part_own9 (part_own o (.inl hi)) hi) h⟩)
        · cases e
    · cases e
  · split at e
    · rename_i hl
      split at e
      · rename_i c ec
        cases e
        obtain ⟨v, u, A1, A2, rfl, o1, o2⟩ := vw.two
        obtain rfl := o2.int_eq
        obtain rfl := o1.str_eq
        exact .inl (.inr (.inr ⟨_, _, c, rfl, rfl, by rw [← lineN_eq]; exact hl, ec, End.done h s (.str _)⟩))
      · cases e
    · cases e
  · rename_i k kvs _ y
    split at e
    · rename_i q eq
      split at e
      · rename_i d ed
        obtain ⟨v, u, A1, A2, rfl, o1, o2⟩ := vw.two
        have ky := key_at s.sub o2 eq
        have fin : ∀ {a ob kvv} {j : Nat} {A' : List Addr}, H a = some ob → HD ob kvv → OwnK F H j kvv kvs A' → (d.imm = true ∨ j = 0) → (∃ kk, kd = (kk, d) ∧ (kk = 0 ∨ (kk = 9 ∧ d.imm = true))) → r2L (fun x y H Q => rIx X.K x y H Q ∨ rIxD x y H Q) [.ref a, u] H Q := fun {a ob kvv j A'} ea hd w hj hk => by
          rcases OwnK.val q w with ⟨z, _⟩ | ⟨d', v, B, e1, e2, o⟩
          · rw [z] at ed; cases ed
          · rw [ed] at e1
            cases e1
            have o0 := part_own o hj
            obtain ⟨kk, rfl, hk⟩ := hk
            refine .inr ⟨a, v, rfl, dget_at ea hd e2 ky, ?_⟩
            rcases hk with rfl | ⟨rfl, hi⟩
            · exact End.old s o0 h
            · exact End.old s (part_own9 o0 hi) h
        split at e
        · rename_i hi
          cases e
          cases o1 with
          | dfz h1 h2 h3 => exact fin (s.sub _ _ h1) h2 h3 (.inl hi) ⟨9, rfl, .inr ⟨rfl, hi⟩⟩
          | dow h1 h2 h3 => exact fin h1 h2 h3 (.inl hi) ⟨9, rfl, .inr ⟨rfl, hi⟩⟩
        · split at e
          · rename_i hk
            cases e
            cases o1 with
            | dfz h1 h2 h3 => exact fin (s.sub _ _ h1) h2 h3 (.inr rfl) ⟨0, rfl, .inl rfl⟩
            | dow h1 h2 h3 => exact fin h1 h2 h3 (.inr (Nat.le_zero.mp (Nat.le_of_succ_le_succ hk))) ⟨0, rfl, .inl rfl⟩
          · cases e
      · cases e
    · cases e
  · cases e
theorem pe_subS {a b : Expr} {oa ob : Opd} {pos : Pos} (hK : X.K = KSeq.K) (hu : X.A.units + 1 < cLine) (ha : OpdOk X mg W a oa) (hb : OpdOk X mg W b ob) (hs : isSlice b = false) : PE X (.Subscript a b pos) (tD mg W (opE [oa, ob] idxOp)) :=
  (pe_ix (IxR.or ix_seq (ix_dict hu)) (opd_pe ha) (opd_pe hb) (plainIx_of hs)).imp fun _ _ _ h => tOs_two (opE_of (idx_ok (X := X) hK) h)
end

/-! ### slices -/
/-- an end of a slice -/
def partOf : D → Option Int
  | .int i => some i
  | _ => none
def sIxN (n d : Nat) (o : Option Int) : Nat := HT.sIx n d o
def cutD {α : Type} (xs : List α) (lo hi : Option Int) : List α := (xs.drop (HT.sIx xs.length 0 lo)).take (HT.sIx xs.length xs.length hi - HT.sIx xs.length 0 lo)
def slK (lo hi : Option Int) : KD → Option KD
  | (k, .lst ds) => if kidsOk k ds = true then some (kL (cutD ds lo hi), .lst (cutD ds lo hi)) else none
  | (k, .tup ds) => if kids0 k ds = true then some (kT (cutD ds lo hi), .tup (cutD ds lo hi)) else none
  | (_, .str x) => if x.length ≤ lineN then some (9, .str (cutS x lo hi)) else none
  | _ => none
/-- the ends that are written: a[lo:hi], a[lo:], a[:hi], a[:] -/
def sl2 : List KD → Option KD
  | [x, (_, .int i), (_, .int j)] => slK (some i) (some j) x
  | _ => none
def slLo : List KD → Option KD
  | [x, (_, .int i)] => slK (some i) none x
  | _ => none
def slHi : List KD → Option KD
  | [x, (_, .int j)] => slK none (some j) x
  | _ => none
def sl0 : List KD → Option KD
  | [x] => slK none none x
  | _ => none
section
variable {X : Cx} {mg : Str → Option Value} {W : WX}
abbrev rSlAny (K : PySem.W.Frag) : V → Option Int → Option Int → Hp → VK → Prop := fun x lo hi H Q => rSlL K x lo hi H Q ∨ (rSlA K x lo hi H Q ∨ ∃ z, x = .str z ∧ z.length ≤ sizeLine ∧ Q (.str (cutS z lo hi)) H)
theorem sl_any : SlR X (rSlAny X.K) := SlR.or sl_list (SlR.or sl_tupA sl_str)
theorem cut_len {α β : Type} (xs : List α) (ys : List β) (h : xs.length = ys.length) (lo hi : Option Int) : HT.sIx xs.length 0 lo = HT.sIx ys.length 0 lo ∧ HT.sIx xs.length xs.length hi = HT.sIx ys.length ys.length hi := by rw [h]; exact ⟨rfl, rfl⟩
theorem slK_ok {F H : Hp} {A B : List Addr} {σ : L2.St} {ρ : En} {lo hi : Option Int} {x kd : KD} {v : V} {A1 : List Addr} {Q : VK} (s : StR F H ρ σ A) (o : Own F H x.1 v x.2 A1) (e : slK lo hi x = some kd)
    (h : End mg W F H (A ++ B) σ (M.ret kd ρ) rKD Q) : rSlAny X.K v lo hi H Q := by
  unfold slK at e
  split at e
  · split at e
    · rename_i k ds hk
      cases e
      obtain ⟨a, us, rfl, q1, w1⟩ := Own.kidsL s.sub o hk
      refine .inl ⟨a, us, rfl, .of q1, fun p hp => ?_⟩
      have w2 : Owns F H 0 (cutV us lo hi) (cutD ds lo hi) [] := by
        unfold cutV cutD
        rw [w1.length]
        exact Owns.take _ (Owns.drop _ w1)
      exact newL s hp w2 h
    · cases e
  · split at e
    · rename_i k ds hk
      cases e
      obtain ⟨a, us, rfl, f1, q1, w1⟩ := Own.kidsT s.sub o hk
      have w2 : Owns F H 0 (cutV us lo hi) (cutD ds lo hi) [] := by
        unfold cutV cutD
        rw [w1.length]
        exact Owns.take _ (Owns.drop _ w1)
      refine .inr (.inl ⟨a, us, rfl, .of q1, fun ⟨e1, e2⟩ => ?_, fun _ p hp => newT s hp w2 h⟩)
      have ec : cutD ds lo hi = ds := by
        unfold cutD
        rw [← w1.length, e1, e2, List.drop_zero, Nat.sub_zero, w1.length]
        exact List.take_length
      rw [ec] at h
      refine End.old s ?_ h
      unfold kT
      split
      · rename_i hi'
        exact .tup f1 ((Owns.imm _ _ _ _ w1 hi').2 9 _)
      · exact .tup f1 w1
    · cases e
  · split at e
    · rename_i _ z hl
      cases e
      obtain rfl := Own.str_eq o
      exact .inr (.inr ⟨_, rfl, by rw [← lineN_eq]; exact hl, End.done h s (.str _)⟩)
    · cases e
  · cases e
/-- three operands' values, for a slice's rule -/
def r3Sl (r : V → Option Int → Option Int → Hp → VK → Prop) : List V → Hp → VK → Prop := fun vs H Q => match vs with
  | [x, .int i, .int j] => r x (some i) (some j) H Q
  | _ => False
def rLoSl (r : V → Option Int → Option Int → Hp → VK → Prop) : List V → Hp → VK → Prop := fun vs H Q => match vs with
  | [x, .int i] => r x (some i) none H Q
  | _ => False
def rHiSl (r : V → Option Int → Option Int → Hp → VK → Prop) : List V → Hp → VK → Prop := fun vs H Q => match vs with
  | [x, .int j] => r x none (some j) H Q
  | _ => False
theorem Vw.three {F H : Hp} {kd kd2 kd3 : KD} {vs : List V} (h : Vw F H vs [kd, kd2, kd3]) : ∃ v u z A A2 A3, vs = [v, u, z] ∧ Own F H kd.1 v kd.2 A ∧ Own F H kd2.1 u kd2.2 A2 ∧ Own F H kd3.1 z kd3.2 A3 := by
  cases h with
  | cons h r =>
    obtain ⟨u, z, A2, A3, rfl, h2, h3⟩ := r.two
    exact ⟨_, u, z, _, A2, A3, rfl, h, h2, h3⟩
theorem sl2_ok : OpS mg W (r3Sl (rSlAny X.K)) (nop sl2) := nop_ok fun F H A B σ ρ vs kds kd Q s vw e h => by
  unfold sl2 at e
  split at e
  · obtain ⟨v, u, z, A1, A2, A3, rfl, o1, o2, o3⟩ := vw.three
    obtain rfl := o2.int_eq
    obtain rfl := o3.int_eq
    exact slK_ok s o1 e h
  · cases e
theorem slLo_ok : OpS mg W (rLoSl (rSlAny X.K)) (nop slLo) := nop_ok fun F H A B σ ρ vs kds kd Q s vw e h => by
  unfold slLo at e
  split at e
  · obtain ⟨v, u, A1, A2, rfl, o1, o2⟩ := vw.two
    obtain rfl := o2.int_eq
    exact slK_ok s o1 e h
  · cases e
theorem slHi_ok : OpS mg W (rHiSl (rSlAny X.K)) (nop slHi) := nop_ok fun F H A B σ ρ vs kds kd Q s vw e h => by
  unfold slHi at e
  split at e
  · obtain ⟨v, u, A1, A2, rfl, o1, o2⟩ := vw.two
    obtain rfl := o2.int_eq
    exact slK_ok s o1 e h
  · cases e
theorem sl0_ok : OpS mg W (r1L fun x H Q => rSlAny X.K x none none H Q) (nop sl0) := nop_ok fun F H A B σ ρ vs kds kd Q s vw e h => by
  unfold sl0 at e
  split at e
  · obtain ⟨v, A1, rfl, o1⟩ := vw.one
    exact slK_ok s o1 e h
  · cases e
variable {a lo hi : Expr} {oa ol oh : Opd} {pos p2 : Pos}
end
end DN

set_option Elab.async false
set_option linter.all false
set_option maxRecDepth 100000
set_option maxHeartbeats 4000000
/-! DN, part G: names as values, displays, slices, small built-ins. -/
namespace DN
open PySem PySem.Spec PyProof.Rows L2
variable [KSeq]

/-- a name's value, frozen from now on -/
def nameS (i : Nat) : M KD := fun ρ => match ρ[i]? with
  | some (some (k, d)) => if d.imm = true then M.ret (9, d) ρ else M.ret (0, d) (ρ.set i (some (0, d)))
  | _ => none
/-- a name's value, taken away from it -/
def movS (i : Nat) : M KD := fun ρ => match ρ[i]? with
  | some (some (k, d)) => if d.imm = true then M.ret (9, d) ρ else M.ret (k, d) (ρ.set i none)
  | _ => none
/-- frozen -/
def frzS (f : M KD) : M KD := M.bind f fun kd => M.ret (if kd.2.imm = true then 9 else 0, kd.2)
def intS (f : M KD) : M KD := M.bind f fun kd => match kd.2 with
  | .int i => M.ret (9, .int i)
  | _ => M.fail
section
variable {mg : Str → Option Value} {W : WX} {F H : Hp} {A B : List Addr} {ρ : En} {σ : L2.St}
theorem tD_name {i : Nat} {Q : VK} (h : tD mg W (nameS i) σ H Q) : tVar i σ H Q := by
  obtain ⟨F, ρ, A, s, e⟩ := h
  unfold nameS at e
  split at e
  · rename_i k d ek
    have hi : i < ρ.length := (List.getElem?_eq_some_iff.mp ek).1
    obtain ⟨A1, Ai, A2, rfl, h1, h2, _⟩ := EnvR.split s.env hi
    obtain ⟨v, ev, o⟩ := h1 k d ek
    refine ⟨v, ev, ?_⟩
    split at e
    · rename_i hd
      exact End.done (B := []) (by simpa using e) s (o.imm' hd 9 H)
    · have o2 := Own.freeze s.sub _ _ _ _ o
      have sm : Same F (frz F H Ai) := frz_same s.sub
      have ap : ∀ b ∈ A1 ++ A2, b ∉ Ai := fun b hb z => by
        have nd := s.nd
        simp only [List.nodup_append, List.mem_append] at nd hb
        rcases hb with hb | hb
        · exact nd.2.2 b hb b (.inl z) rfl
        · exact nd.2.1.2.2 b z b hb rfl
      have env := h2 (frz F H Ai) H 0 v d [] sm (fun _ _ => rfl) o2
      have es : σ.set i (some v) = σ := by
        obtain ⟨hi', e'⟩ := List.getElem?_eq_some_iff.mp ev
        rw [← e']; exact List.set_getElem_self hi'
      rw [es] at env
      refine e v (frz F H Ai) H (A1 ++ ([] ++ A2)) [] ⟨frz_sub s.sub, env, ?_, fun b hb => ?_⟩ o2 ?_ (fun _ z => nomatch z) ?_
      · refine s.nd.sublist (List.Sublist.append (List.Sublist.refl _) ?_)
        exact List.sublist_append_right _ _
      · rw [frz_out (ap b (by simpa using hb))]
        exact s.fr b (by simp at hb ⊢; rcases hb with hb | hb <;> simp [hb])
      · simp only [List.append_nil]
        refine s.nd.sublist (List.Sublist.append (List.Sublist.refl _) ?_)
        exact List.sublist_append_right _ _
      · refine ⟨sm, fun b ob e _ _ => e, fun b ps e _ => ⟨ps, e⟩, fun b hb => .inl ?_, fun b ob e n => ?_⟩
        · simp at hb ⊢; rcases hb with hb | hb <;> simp [hb]
        · by_cases hb : b ∈ Ai
          · exact .inl (by simp [hb])
          · rw [frz_out hb, n] at e; cases e
  · exact e.elim
theorem tD_mov {i : Nat} {Q : VK} (h : tD mg W (movS i) σ H Q) : tVar i σ H Q := by
  obtain ⟨F, ρ, A, s, e⟩ := h
  unfold movS at e
  split at e
  · rename_i k d ek
    have hi : i < ρ.length := (List.getElem?_eq_some_iff.mp ek).1
    obtain ⟨A1, Ai, A2, rfl, h1, _, h3⟩ := EnvR.split s.env hi
    obtain ⟨v, ev, o⟩ := h1 k d ek
    refine ⟨v, ev, ?_⟩
    split at e
    · rename_i hd
      exact End.done (B := []) (by simpa using e) s (o.imm' hd 9 H)
    · have env := h3 F H (some v) (Same.refl _) (fun _ _ => rfl)
      have es : σ.set i (some v) = σ := by
        obtain ⟨hi', e'⟩ := List.getElem?_eq_some_iff.mp ev
        rw [← e']; exact List.set_getElem_self hi'
      rw [es] at env
      refine e v F H (A1 ++ A2) Ai ⟨s.sub, env, ?_, fun b hb => ?_⟩ o ?_ (fun b hb => s.fr b (by simp [hb])) ?_
      · refine s.nd.sublist (List.Sublist.append (List.Sublist.refl _) ?_)
        exact List.sublist_append_right _ _
      · exact s.fr b (by simp at hb ⊢; rcases hb with hb | hb <;> simp [hb])
      · have p : (A1 ++ A2 ++ Ai).Perm (A1 ++ (Ai ++ A2)) := by
          rw [List.append_assoc]
          exact List.Perm.append_left _ List.perm_append_comm
        exact p.nodup_iff.mpr s.nd
      · refine ⟨Same.refl _, fun b ob e _ _ => e, fun b ps e _ => ⟨ps, e⟩, fun b hb => .inl ?_, fun b ob e n => by rw [n] at e; cases e⟩
        simp at hb ⊢
        rcases hb with hb | hb | hb <;> simp [hb]
  · exact e.elim
theorem tD_frz {f : M KD} {Q : VK} (h : tD mg W (frzS f) σ H Q) : tD mg W f σ H Q := by
  obtain ⟨F, ρ, A, s, e⟩ := h
  refine ⟨F, ρ, A, s, End.bind e fun kd ρ1 v F1 H1 A1 B1 _ s1 o nd fr t h => ?_⟩
  have ap : ∀ b ∈ A1, b ∉ B1 := fun b hb z => (List.nodup_append.mp nd).2.2 b hb b z rfl
  have sm : Same F1 (frz F1 H1 B1) := frz_same s1.sub
  have env : EnvR (frz F1 H1 B1) H1 ρ1 σ A1 := EnvR.carry sm s1.env fun _ _ => rfl
  refine h v (frz F1 H1 B1) H1 A1 [] ⟨frz_sub s1.sub, env, s1.nd, fun b hb => (frz_out (ap b hb)).trans (s1.fr b hb)⟩ ?_ (by simpa using s1.nd) (fun _ z => nomatch z) ?_
  · have o2 := Own.freeze s1.sub _ _ _ _ o
    show Own (frz F1 H1 B1) H1 (if kd.2.imm = true then 9 else 0) v kd.2 []
    by_cases hd : kd.2.imm = true
    · rw [if_pos hd]; exact o2.imm' hd 9 H1
    · rw [if_neg hd]; exact o2
  · refine t.trans ⟨sm, fun b ob e _ _ => e, fun b ps e _ => ⟨ps, e⟩, fun b hb => .inl ?_, fun b ob e n => ?_⟩
    · simp at hb ⊢; exact .inl hb
    · by_cases hb : b ∈ B1
      · exact .inl (by simp [hb])
      · rw [frz_out hb, n] at e; cases e
theorem tD_int {f : M KD} {Q : VK} (h : tD mg W (intS f) σ H Q) : tD mg W f σ H fun x H1 => ∃ i, x = .int i ∧ Q (.int i) H1 := by
  obtain ⟨F, ρ, A, s, e⟩ := h
  refine ⟨F, ρ, A, s, End.bind e fun kd ρ1 v F1 H1 A1 B1 _ s1 o nd fr t h => ?_⟩
  obtain ⟨k, d⟩ := kd
  cases d with
  | int i =>
    obtain rfl := Own.int_eq o
    refine ⟨i, rfl, h (.int i) F1 H1 A1 [] s1 (.int i) (by simpa using s1.nd) (fun _ z => nomatch z) (t.sub fun b hb => ?_)⟩
    simp at hb ⊢; exact .inl hb
  | _ => exact h.elim
end

/-! ### names whose parts are shared: frozen from now on -/
def immKv (kvs : List (DK × D)) : Bool := kvs.all fun p => p.2.imm
def needFz (k : Nat) : D → Bool
  | .lst ds => !D.immAll ds && decide (2 ≤ k)
  | .tup ds => !D.immAll ds && decide (1 ≤ k)
  | .dct kvs => !immKv kvs && decide (2 ≤ k)
  | _ => false
def frzSlots : List Opv → En → En
  | [], ρ => ρ
  | .b i :: r, ρ => frzSlots r (match ρ[i]? with
    | some (some (k, d)) => if needFz k d = true then ρ.set i (some (0, d)) else ρ
    | _ => ρ)
  | .v _ _ :: r, ρ => frzSlots r ρ
/-- as it is, or else with the names frozen -/
def frzOps (g : List Opv → M KD) (xs : List Opv) : M KD := fun ρ => match g xs ρ with
  | none => g xs (frzSlots xs ρ)
  | r => r
section
variable {mg : Str → Option Value} {W : WX} {F H : Hp} {A B : List Addr} {ρ : En} {σ : L2.St}
theorem frz1 {i k : Nat} {d : D} (s : StR F H ρ σ A) (ek : ρ[i]? = some (some (k, d))) : ∃ F' A', StR F' H (ρ.set i (some (0, d))) σ A' ∧ Same F F' ∧ A'.Sublist A ∧ ∀ b, b ∉ A → F' b = F b := by
  have hi : i < ρ.length := (List.getElem?_eq_some_iff.mp ek).1
  obtain ⟨A1, Ai, A2, rfl, h1, h2, _⟩ := EnvR.split s.env hi
  obtain ⟨v, ev, o⟩ := h1 k d ek
  have o2 := Own.freeze s.sub _ _ _ _ o
  have sm : Same F (frz F H Ai) := frz_same s.sub
  have ap : ∀ b ∈ A1 ++ A2, b ∉ Ai := fun b hb z => by
    have nd := s.nd
    simp only [List.nodup_append, List.mem_append] at nd hb
    rcases hb with hb | hb
    · exact nd.2.2 b hb b (.inl z) rfl
    · exact nd.2.1.2.2 b z b hb rfl
  have env := h2 (frz F H Ai) H 0 v d [] sm (fun _ _ => rfl) o2
  have es : σ.set i (some v) = σ := by
    obtain ⟨hi', e'⟩ := List.getElem?_eq_some_iff.mp ev
    rw [← e']; exact List.set_getElem_self hi'
  rw [es] at env
  have sl : (A1 ++ ([] ++ A2)).Sublist (A1 ++ (Ai ++ A2)) := List.Sublist.append (List.Sublist.refl _) (List.sublist_append_right _ _)
  refine ⟨frz F H Ai, A1 ++ ([] ++ A2), ⟨frz_sub s.sub, env, s.nd.sublist sl, fun b hb => ?_⟩, sm, sl, fun b hb => frz_out fun z => hb (by simp [z])⟩
  rw [frz_out (ap b (by simpa using hb))]
  exact s.fr b (sl.subset hb)
theorem frzL : ∀ (ys : List Opv) {F : Hp} {A : List Addr} {ρ : En}, StR F H ρ σ A → ∃ F' A', StR F' H (frzSlots ys ρ) σ A' ∧ Same F F' ∧ A'.Sublist A ∧ ∀ b, b ∉ A → F' b = F b
  | [], F, A, ρ, s => ⟨F, A, s, Same.refl _, List.Sublist.refl _, fun _ _ => rfl⟩
  | .v _ _ :: r, F, A, ρ, s => frzL r s
  | .b i :: r, F, A, ρ, s => by
    unfold frzSlots
    split
    · rename_i k d e
      split
      · obtain ⟨F1, A1, s1, h1, h2, h3⟩ := frz1 s e
        obtain ⟨F2, A2, s2, g1, g2, g3⟩ := frzL r s1
        exact ⟨F2, A2, s2, h1.trans g1, g2.trans h2, fun b hb => (g3 b fun z => hb (h2.subset z)).trans (h3 b hb)⟩
      · exact frzL r s
    · exact frzL r s
theorem fz_ok {r : List V → Hp → VK → Prop} {g : List Opv → M KD} (h : OpS mg W r g) : OpS mg W r (frzOps g) := by
  intro F H A B σ ρ vs xs Q s o nd fr e
  cases eg : g xs ρ with
  | some r0 =>
    refine h F H A B σ ρ vs xs Q s o nd fr ?_
    unfold frzOps at e
    rw [eg] at e ⊢
    exact e
  | none =>
  have e : End mg W F H (A ++ B) σ (g xs (frzSlots xs ρ)) rKD Q := by
    unfold frzOps at e
    rw [eg] at e
    exact e
  obtain ⟨F', A', s', sm, sl, out⟩ := frzL xs s
  have nd2 := List.nodup_append.mp nd
  have frB : ∀ b ∈ B, F' b = none := fun b hb => (out b fun z => nd2.2.2 b z b hb rfl).trans (fr b hb)
  have slB : (A' ++ B).Sublist (A ++ B) := List.Sublist.append sl (List.Sublist.refl _)
  refine h F' H A' B σ _ vs xs Q s' (OpsR.carry sm o fun _ _ => rfl) (nd.sublist slB) frB (End.later ⟨sm, fun b ob e _ _ => e, fun b ps e _ => ⟨ps, e⟩, fun b hb => .inl (slB.subset hb), fun b ob e n => ?_⟩ e)
  by_cases hb : b ∈ A
  · exact .inl (List.mem_append_left _ hb)
  · rw [out b hb, n] at e; cases e
end
/-! ### displays -/
/-- the values' data, and the one depth to which all are owned -/
def uni : List Opv → Option (Option Nat × List D)
  | [] => some (none, [])
  | .b _ :: _ => none
  | .v k d :: r => match uni r with
    | none => none
    | some (q, ds) => if d.imm = true then some (q, d :: ds) else match q with
      | none => some (some k, d :: ds)
      | some j => if j = k then some (some k, d :: ds) else none
def uniK (q : Option Nat) : Nat := q.getD 8
def dispL (xs : List Opv) : M KD := fun ρ => match uni xs with
  | some (q, ds) => if ds.length ≤ lineN then M.ret (uniK q + 1, .lst ds) ρ else none
  | none => none
def dispT (xs : List Opv) : M KD := fun ρ => match uni xs with
  | some (q, ds) => if ds.length ≤ lineN then M.ret (uniK q, .tup ds) ρ else none
  | none => none
section
variable {X : Cx} {mg : Str → Option Value} {W : WX} {F H : Hp} {A B : List Addr} {ρ : En} {σ : L2.St}
theorem uni_own : ∀ {vs : List V} {xs : List Opv} {B : List Addr} {q : Option Nat} {ds : List D}, OpsR F H σ vs xs B → uni xs = some (q, ds) → ∀ j, (∀ k, q = some k → j = k) → Owns F H j vs ds B
  | _, _, _, _, _, .nil, e, j, _ => by simp [uni] at e; obtain ⟨_, rfl⟩ := e; exact .nil
  | _, _, _, _, _, .bor h r, e, _, _ => by simp [uni] at e
  | _, _, _, q, ds, .val (k := k) (d := d) h r, e, j, hj => by
    unfold uni at e
    split at e
    · cases e
    · rename_i q' ds' er
      split at e
      · rename_i hd
        simp only [Option.some.injEq, Prod.mk.injEq] at e
        obtain ⟨e1, rfl⟩ := e
        obtain ⟨rfl, ha⟩ := Own.imm _ _ _ _ h hd
        exact .cons (A := []) (ha j H) (uni_own r er j fun k' hk => hj k' (by rw [← e1]; exact hk))
      · split at e
        · rename_i er0
          simp only [Option.some.injEq, Prod.mk.injEq] at e
          obtain ⟨e1, rfl⟩ := e
          have := hj k e1.symm
          subst this
          exact .cons h (uni_own r er j fun k' hk => by cases hk)
        · rename_i j' er0
          split at e
          · rename_i ej
            simp only [Option.some.injEq, Prod.mk.injEq] at e
            obtain ⟨e1, rfl⟩ := e
            have := hj k e1.symm
            subst this
            exact .cons h (uni_own r er j fun k' hk => by cases hk; exact ej.symm)
          · cases e
theorem uniK_ok {q : Option Nat} : ∀ k, q = some k → uniK q = k := fun k e => by subst e; rfl
theorem dispL_ok : OpS mg W (fun xs H Q => xs.length ≤ sizeLine ∧ ∀ p, H p = none → Q (.ref p) (upd H p (.lst xs))) dispL := by
  intro F H A B σ ρ vs xs Q s o nd fr e
  unfold dispL at e
  split at e
  · rename_i q ds eu
    split at e
    · rename_i hl
      have ow := uni_own o eu (uniK q) uniK_ok
      refine ⟨by rw [ow.length, ← lineN_eq]; exact hl, fun p hp => ?_⟩
      have sm : Same H (upd H p (.lst vs)) := fun b ob e => by rw [upd_ne (ne_of_none e hp)]; exact e
      have fp : F p = none := s.sub.free hp
      have np : p ∉ A ++ B := fun z => by
        rcases List.mem_append.mp z with z | z
        · obtain ⟨o, e, _⟩ := EnvR.there s.env p z
          rw [hp] at e; cases e
        · obtain ⟨o, e, _⟩ := Owns.there _ _ _ _ ow p z
          rw [hp] at e; cases e
      have keep : ∀ b ∈ A ++ B, upd H p (.lst vs) b = H b := fun b hb => upd_ne fun z => np (by rw [← z]; exact hb)
      refine e (.ref p) F (upd H p (.lst vs)) A (p :: B) ⟨fun b ob e => sm b ob (s.sub b ob e), EnvR.carry (Same.refl _) s.env fun b hb => keep b (List.mem_append_left _ hb), s.nd, s.fr⟩ ?_ ?_ ?_ ?_
      · exact .low upd_same (Owns.carry (Same.refl _) _ _ _ _ ow fun b hb => keep b (List.mem_append_right _ hb))
      · have pp : (A ++ p :: B).Perm (p :: (A ++ B)) := List.perm_middle
        exact pp.nodup_iff.mpr (List.nodup_cons.mpr ⟨np, nd⟩)
      · intro x hx
        rcases List.mem_cons.mp hx with rfl | hx
        · exact fp
        · exact fr x hx
      · refine ⟨Same.refl _, fun b ob e _ _ => sm b ob e, fun b ps e _ => ⟨ps, sm b _ e⟩, fun b hb => ?_, fun b ob e n => by rw [n] at e; cases e⟩
        rcases List.mem_append.mp hb with hb | hb
        · exact .inl (List.mem_append_left _ hb)
        · rcases List.mem_cons.mp hb with rfl | hb
          · exact .inr hp
          · exact .inl (List.mem_append_right _ hb)
    · exact e.elim
  · exact e.elim
theorem dispT_ok : OpS mg W (fun xs H Q => xs.length ≤ sizeLine ∧ ∀ p, H p = none → Q (.ref p) (upd H p (.tup xs))) dispT := by
  intro F H A B σ ρ vs xs Q s o nd fr e
  unfold dispT at e
  split at e
  · rename_i q ds eu
    split at e
    · rename_i hl
      have ow := uni_own o eu (uniK q) uniK_ok
      refine ⟨by rw [ow.length, ← lineN_eq]; exact hl, fun p hp => ?_⟩
      have sm : Same H (upd H p (.tup vs)) := fun b ob e => by rw [upd_ne (ne_of_none e hp)]; exact e
      have fp : F p = none := s.sub.free hp
      have sf : Same F (upd F p (.tup vs)) := fun b ob e => by rw [upd_ne (ne_of_none e fp)]; exact e
      have np : p ∉ A ++ B := fun z => by
        rcases List.mem_append.mp z with z | z
        · obtain ⟨o, e, _⟩ := EnvR.there s.env p z
          rw [hp] at e; cases e
        · obtain ⟨o, e, _⟩ := Owns.there _ _ _ _ ow p z
          rw [hp] at e; cases e
      have keep : ∀ b ∈ A ++ B, upd H p (.tup vs) b = H b := fun b hb => upd_ne fun z => np (by rw [← z]; exact hb)
      have keepF : ∀ b ∈ A ++ B, upd F p (.tup vs) b = F b := fun b hb => upd_ne fun z => np (by rw [← z]; exact hb)
      have sub' : Same (upd F p (.tup vs)) (upd H p (.tup vs)) := fun b ob e => by
        by_cases hb : b = p
        · subst hb; rw [upd_same] at e ⊢; exact e
        · rw [upd_ne hb] at e ⊢; exact s.sub b ob e
      refine e (.ref p) (upd F p (.tup vs)) (upd H p (.tup vs)) A B ⟨sub', EnvR.carry sf s.env fun b hb => keep b (List.mem_append_left _ hb), s.nd, fun b hb => (keepF b (List.mem_append_left _ hb)).trans (s.fr b hb)⟩ ?_ nd (fun b hb => (keepF b (List.mem_append_right _ hb)).trans (fr b hb)) ?_
      · exact .tup upd_same (Owns.carry sf _ _ _ _ ow fun b hb => keep b (List.mem_append_right _ hb))
      · refine ⟨sf, fun b ob e _ _ => sm b ob e, fun b ps e _ => ⟨ps, sm b _ e⟩, fun b hb => .inl hb, fun b ob e n => ?_⟩
        by_cases hb : b = p
        · subst hb; exact .inr hp
        · rw [upd_ne hb, n] at e; cases e
    · exact e.elim
  · exact e.elim
variable {es : List Expr} {os : List Opd} {pos : Pos}
theorem pe_lstS (h : Paired (OpdOk X mg W) es os) : PE X (.List es pos) (tD mg W (opE os dispL)) := (pe_lst (pa_of h)).imp fun _ _ _ h => opE_of dispL_ok h
theorem pe_tupS {x1} (h : Paired (OpdOk X mg W) es os) : PE X (.Tuple es x1 pos) (tD mg W (opE os dispT)) := (pe_tup (pa_of h)).imp fun _ _ _ h => opE_of dispT_ok h

/-! ### slices -/
variable {a lo hi : Expr} {oa : Opd} {fl fh : M KD} {p2 : Pos}
theorem pe_sl2 (ha : OpdOk X mg W a oa) (hl : PE X lo (tD mg W fl)) (hh : PE X hi (tD mg W fh)) : PE X (.Subscript a (.Slice (some lo) (some hi) none p2) pos) (tD mg W (opE [oa, .v (intS fl), .v (intS fh)] (frzOps (nop sl2)))) :=
  (pe_slice sl_any (opd_pe ha) (po_some hl) (po_some hh)).imp fun σ H Q h => tOpd_mono (fun v H1 h => tD_mono (fun x H2 ⟨i, e, h2⟩ => ⟨i, e, tD_mono (fun z H3 ⟨j, e3, h3⟩ => ⟨j, e3, h3⟩) (tD_int h2)⟩) (tD_int h)) (tOs_three (opE_of (fz_ok (sl2_ok (X := X))) h))
theorem pe_slLo (ha : OpdOk X mg W a oa) (hl : PE X lo (tD mg W fl)) : PE X (.Subscript a (.Slice (some lo) none none p2) pos) (tD mg W (opE [oa, .v (intS fl)] (frzOps (nop slLo)))) :=
  (pe_slice sl_any (opd_pe ha) (po_some hl) po_none).imp fun σ H Q h => tOpd_mono (fun v H1 h => tD_mono (fun x H2 ⟨i, e, h2⟩ => ⟨i, e, h2⟩) (tD_int h)) (tOs_two (opE_of (fz_ok (slLo_ok (X := X))) h))
theorem pe_slHi (ha : OpdOk X mg W a oa) (hl : PE X hi (tD mg W fl)) : PE X (.Subscript a (.Slice none (some hi) none p2) pos) (tD mg W (opE [oa, .v (intS fl)] (frzOps (nop slHi)))) :=
  (pe_slice sl_any (opd_pe ha) po_none (po_some hl)).imp fun σ H Q h => tOpd_mono (fun v H1 h => tD_mono (fun x H2 ⟨i, e, h2⟩ => ⟨i, e, h2⟩) (tD_int h)) (tOs_two (opE_of (fz_ok (slHi_ok (X := X))) h))
theorem pe_sl0 (ha : OpdOk X mg W a oa) : PE X (.Subscript a (.Slice none none none p2) pos) (tD mg W (opE [oa] (frzOps (nop sl0)))) :=
  (pe_slice sl_any (opd_pe ha) po_none po_none).imp fun σ H Q h => tOs_one (opE_of (fz_ok (sl0_ok (X := X))) h)
end

/-! ### conversions, small built-ins -/
def listK : List KD → Option KD
  | [(k, .lst ds)] => if kidsOk k ds = true then some (kL ds, .lst ds) else none
  | [(k, .tup ds)] => if kids0 k ds = true then some (kL ds, .lst ds) else none
  | [(_, .seq ds)] => some (kL ds, .lst ds)
  | _ => none
def tupK : List KD → Option KD
  | [(k, .lst ds)] => if kidsOk k ds = true then some (kT ds, .tup ds) else none
  | [(k, .tup ds)] => if kids0 k ds = true then some (kT ds, .tup ds) else none
  | _ => none
def absS : List D → Option D
  | [.int i] => some (.int (if i < 0 then -i else i))
  | _ => none
def max2S : List D → Option D
  | [.int i, .int j] => some (.int (if j > i then j else i))
  | _ => none
def min2S : List D → Option D
  | [.int i, .int j] => some (.int (if j < i then j else i))
  | _ => none
def intOfS : List D → Option D
  | [.int i] => some (.int i)
  | [.bl b] => some (.int (if b then 1 else 0))
  | _ => none
section
variable {X : Cx} {mg : Str → Option Value} {W : WX}
theorem listK_ok (hK : X.K = KSeq.K) : OpS mg W (fun xs H Q => ∃ p ys, xs = [.ref p] ∧ (SqL X.K H p ys ∨ SqT X.K H p ys) ∧ ∀ l, H l = none → Q (.ref l) (upd H l (.lst ys))) (nop listK) := nop_ok fun F H A B σ ρ vs kds kd Q s vw e h => by
  unfold listK at e
  split at e
  · split at e
    · rename_i hk
      cases e
      obtain ⟨v, A1, rfl, o1⟩ := vw.one
      obtain ⟨a, us, rfl, q1, w1⟩ := Own.kidsL s.sub o1 hk
      exact ⟨a, us, rfl, .inl (.of q1), fun p hp => newL s hp w1 h⟩
    · cases e
  · split at e
    · rename_i hk
      cases e
      obtain ⟨v, A1, rfl, o1⟩ := vw.one
      obtain ⟨a, us, rfl, f1, q1, w1⟩ := Own.kidsT s.sub o1 hk
      exact ⟨a, us, rfl, .inr (.of q1), fun p hp => newL s hp w1 h⟩
    · cases e
  · cases e
    obtain ⟨v, A1, rfl, o1⟩ := vw.one
    cases o1 with
    | seq h1 h2 => exact ⟨_, _, rfl, .inl (h1.sq hK s.sub), fun p hp => newL s hp h2 h⟩
  · cases e
theorem tupK_ok : OpS mg W (fun xs H Q => ∃ p ys, xs = [.ref p] ∧ ((SqL X.K H p ys ∧ ∀ l, H l = none → Q (.ref l) (upd H l (.tup ys))) ∨ (SqT X.K H p ys ∧ Q (.ref p) H))) (nop tupK) := nop_ok fun F H A B σ ρ vs kds kd Q s vw e h => by
  unfold tupK at e
  split at e
  · split at e
    · rename_i hk
      cases e
      obtain ⟨v, A1, rfl, o1⟩ := vw.one
      obtain ⟨a, us, rfl, q1, w1⟩ := Own.kidsL s.sub o1 hk
      exact ⟨a, us, rfl, .inl ⟨.of q1, fun p hp => newT s hp w1 h⟩⟩
    · cases e
  · split at e
    · rename_i k ds hk
      cases e
      obtain ⟨v, A1, rfl, o1⟩ := vw.one
      obtain ⟨a, us, rfl, f1, q1, w1⟩ := Own.kidsT s.sub o1 hk
      refine ⟨a, us, rfl, .inr ⟨.of q1, End.old s ?_ h⟩⟩
      unfold kT
      split
      · rename_i hi'
        exact .tup f1 ((Owns.imm _ _ _ _ w1 hi').2 9 _)
      · exact .tup f1 w1
    · cases e
  · cases e
theorem absS_ok : OpS mg W (fun xs H Q => ∃ i, xs = [.int i] ∧ Q (.int (if i < 0 then -i else i)) H) (sop absS) := sop_ok fun vs ds d H rd e => by
  unfold absS at e
  split at e
  · cases e
    obtain ⟨v, rfl, o1⟩ := rd.one
    obtain rfl := o1.int_eq
    exact ⟨_, rfl, fun Q q => ⟨_, rfl, q⟩⟩
  · cases e
theorem max2S_ok : OpS mg W (fun xs H Q => ∃ i j, xs = [.int i, .int j] ∧ Q (.int (if j > i then j else i)) H) (sop max2S) := sop_ok fun vs ds d H rd e => by
  unfold max2S at e
  split at e
  · cases e
    obtain ⟨v, u, rfl, o1, o2⟩ := rd.two
    obtain rfl := o1.int_eq
    obtain rfl := o2.int_eq
    exact ⟨_, rfl, fun Q q => ⟨_, _, rfl, q⟩⟩
  · cases e
theorem min2S_ok : OpS mg W (fun xs H Q => ∃ i j, xs = [.int i, .int j] ∧ Q (.int (if j < i then j else i)) H) (sop min2S) := sop_ok fun vs ds d H rd e => by
  unfold min2S at e
  split at e
  · cases e
    obtain ⟨v, u, rfl, o1, o2⟩ := rd.two
    obtain rfl := o1.int_eq
    obtain rfl := o2.int_eq
    exact ⟨_, rfl, fun Q q => ⟨_, _, rfl, q⟩⟩
  · cases e
theorem intOfS_ok : OpS mg W (fun xs H Q => (∃ i, xs = [.int i] ∧ Q (.int i) H) ∨ ∃ k, xs = [.bl k] ∧ Q (.int (if k then 1 else 0)) H) (sop intOfS) := sop_ok fun vs ds d H rd e => by
  unfold intOfS at e
  split at e
  · cases e
    obtain ⟨v, rfl, o1⟩ := rd.one
    obtain rfl := o1.int_eq
    exact ⟨_, rfl, fun Q q => .inl ⟨_, rfl, q⟩⟩
  · cases e
    obtain ⟨v, rfl, o1⟩ := rd.one
    obtain rfl := o1.bl_eq
    exact ⟨_, rfl, fun Q q => .inr ⟨_, rfl, q⟩⟩
  · cases e
end

end DN

set_option Elab.async false
set_option linter.all false
set_option maxRecDepth 100000
set_option maxHeartbeats 4000000
/-! DN, part H: truth: and, or, not, chains, conditional values. -/
namespace DN
open PySem PySem.Spec PyProof.Rows L2
variable [KSeq]

def boolM (f : M KD) : M Bool := M.bind f fun kd => match kd.2 with
  | .bl b => M.ret b
  | _ => M.fail
def andM (f g : M Bool) : M Bool := M.bind f fun c => if c = true then g else M.ret false
def orM (f g : M Bool) : M Bool := M.bind f fun c => if c = true then M.ret true else g
def notM (f : M Bool) : M Bool := M.bind f fun c => M.ret (!c)
def valM (f : M Bool) : M KD := M.bind f fun c => M.ret (9, .bl c)
def andV (f g : M KD) : M KD := M.bind (boolM f) fun c => if c = true then g else M.ret (9, .bl false)
def orV (f g : M KD) : M KD := M.bind (boolM f) fun c => if c = true then M.ret (9, .bl true) else g
def notV (f : M KD) : M KD := M.bind (boolM f) fun c => M.ret (9, .bl (!c))
def ifV (c : M Bool) (f g : M KD) : M KD := M.bind c fun b => if b = true then f else g
def chainV (o o' : Ord4) (fa fb fc : M KD) : M KD := M.bind (intS fa) fun a => M.bind (intS fb) fun b => match a.2, b.2 with
  | .int i, .int j => if o.i i j = true then M.bind (intS fc) fun c => (match c.2 with
      | .int l => M.ret (9, .bl (o'.i j l))
      | _ => M.fail) else M.ret (9, .bl false)
  | _, _ => M.fail
section
variable {mg : Str → Option Value} {W : WX} {F H : Hp} {A B : List Addr} {ρ : En} {σ : L2.St}
/-- a test, then what follows -/
theorem tB_then {γ δ : Type} {f : M Bool} {g : Bool → M γ} {R' : γ → Hp → Hp → List Addr → δ → Prop} {Q : δ → Hp → Prop} (s : StR F H ρ σ A) (e : End mg W F H A σ (M.bind f g ρ) R' Q) :
    tB mg W f σ H fun c H1 => ∃ F1 ρ1 A1, StR F1 H1 ρ1 σ A1 ∧ End mg W F1 H1 A1 σ (g c ρ1) R' Q := by
  refine ⟨F, ρ, A, s, End.bind e fun a ρ1 b F1 H1 A1 B1 _ s1 r nd fr t h => ?_⟩
  obtain ⟨rfl, rfl⟩ := r
  exact ⟨F1, ρ1, A1, s1, End.later (t.sub fun b hb => List.mem_append_left _ hb) h⟩
theorem tB_mono {f : M Bool} {Q Q' : Bool → Hp → Prop} (i : ∀ v H, Q v H → Q' v H) (h : tB mg W f σ H Q) : tB mg W f σ H Q' := by
  obtain ⟨F, ρ, A, s, e⟩ := h
  refine ⟨F, ρ, A, s, ?_⟩
  revert e
  cases f ρ with
  | none => exact id
  | some o =>
    cases o with
    | ok a ρ' => exact fun e b F' H' A' B s r nd fr t => i _ _ (e b F' H' A' B s r nd fr t)
    | ex x ρ' => exact id
theorem tB_bool {f : M KD} {Q : Bool → Hp → Prop} (h : tB mg W (boolM f) σ H Q) : tD mg W f σ H fun x H1 => ∃ c, x = .bl c ∧ Q c H1 := by
  obtain ⟨F, ρ, A, s, e⟩ := h
  refine ⟨F, ρ, A, s, End.bind e fun kd ρ1 v F1 H1 A1 B1 _ s1 o nd fr t h => ?_⟩
  obtain ⟨k, d⟩ := kd
  cases d with
  | bl b =>
    obtain rfl := Own.bl_eq o
    refine ⟨b, rfl, h b F1 H1 A1 [] s1 ⟨rfl, rfl⟩ (by simpa using s1.nd) (fun _ z => nomatch z) (t.sub fun b hb => ?_)⟩
    simp at hb ⊢; exact .inl hb
  | _ => exact h.elim
theorem ret_Bl {c : Bool} {Q : Bool → Hp → Prop} (s : StR F H ρ σ A) (e : End mg W F H A σ (M.ret c ρ) rBl Q) : Q c H := by
  have e2 : End mg W F H (A ++ []) σ (M.ret c ρ) rBl Q := by simpa using e
  exact End.done e2 s (show rBl c F H [] c from ⟨rfl, rfl⟩)
theorem ret_pv {d : D} {v : V} {k : Nat} {Q : VK} (s : StR F H ρ σ A) (e : End mg W F H A σ (M.ret (k, d) ρ) rKD Q) (h : pv0 d = some v) : Q v H := End.done (B := []) (by simpa using e) s (own_pv h k)
theorem tB_and {f g : M Bool} {Q : Bool → Hp → Prop} (h : tB mg W (andM f g) σ H Q) : tAnd (tB mg W f) (tB mg W g) σ H Q := by
  obtain ⟨F, ρ, A, s, e⟩ := h
  refine tB_mono (fun c H1 ⟨F1, ρ1, A1, s1, e1⟩ => ?_) (tB_then s e)
  cases c with
  | true => exact ⟨F1, ρ1, A1, s1, e1⟩
  | false => exact ret_Bl s1 e1
theorem tB_or {f g : M Bool} {Q : Bool → Hp → Prop} (h : tB mg W (orM f g) σ H Q) : tOr (tB mg W f) (tB mg W g) σ H Q := by
  obtain ⟨F, ρ, A, s, e⟩ := h
  refine tB_mono (fun c H1 ⟨F1, ρ1, A1, s1, e1⟩ => ?_) (tB_then s e)
  cases c with
  | true => exact ret_Bl s1 e1
  | false => exact ⟨F1, ρ1, A1, s1, e1⟩
theorem tB_not {f : M Bool} {Q : Bool → Hp → Prop} (h : tB mg W (notM f) σ H Q) : tNot (tB mg W f) σ H Q := by
  obtain ⟨F, ρ, A, s, e⟩ := h
  refine tB_mono (fun c H1 q => ?_) (tB_then s e)
  obtain ⟨F1, ρ1, A1, s1, e1⟩ := q
  exact ret_Bl s1 e1
theorem tD_andV {f g : M KD} {Q : VK} (h : tD mg W (andV f g) σ H Q) : tAndV (tD mg W f) (tD mg W g) σ H Q := by
  obtain ⟨F, ρ, A, s, e⟩ := h
  refine tD_mono (fun x H1 ⟨c, ex, F1, ρ1, A1, s1, e1⟩ => ⟨c, ex, ?_⟩) (tB_bool (tB_then s e))
  cases c with
  | true => exact ⟨F1, ρ1, A1, s1, e1⟩
  | false => exact ret_pv s1 e1 rfl
theorem tD_orV {f g : M KD} {Q : VK} (h : tD mg W (orV f g) σ H Q) : tOrV (tD mg W f) (tD mg W g) σ H Q := by
  obtain ⟨F, ρ, A, s, e⟩ := h
  refine tD_mono (fun x H1 ⟨c, ex, F1, ρ1, A1, s1, e1⟩ => ⟨c, ex, ?_⟩) (tB_bool (tB_then s e))
  cases c with
  | true => exact ret_pv s1 e1 rfl
  | false => exact ⟨F1, ρ1, A1, s1, e1⟩
theorem tD_notV {f : M KD} {Q : VK} (h : tD mg W (notV f) σ H Q) : tNotV (tD mg W f) σ H Q := by
  obtain ⟨F, ρ, A, s, e⟩ := h
  refine tD_mono (fun x H1 q => ?_) (tB_bool (tB_then s e))
  obtain ⟨c, ex, F1, ρ1, A1, s1, e1⟩ := q
  exact ⟨c, ex, ret_pv s1 e1 rfl⟩
theorem tD_if {c : M Bool} {f g : M KD} {Q : VK} (h : tD mg W (ifV c f g) σ H Q) : tIf (tB mg W c) (tD mg W f) (tD mg W g) σ H Q := by
  obtain ⟨F, ρ, A, s, e⟩ := h
  refine tB_mono (fun c H1 ⟨F1, ρ1, A1, s1, e1⟩ => ?_) (tB_then s e)
  cases c with
  | true => exact ⟨F1, ρ1, A1, s1, e1⟩
  | false => exact ⟨F1, ρ1, A1, s1, e1⟩
/-- a plain value, then what follows -/
theorem tD_then0 {γ δ : Type} {f : M KD} {g : KD → M γ} {R' : γ → Hp → Hp → List Addr → δ → Prop} {Q : δ → Hp → Prop} (s : StR F H ρ σ A) (e : End mg W F H A σ (M.bind (intS f) g ρ) R' Q) :
    tD mg W f σ H fun v H1 => ∃ i F1 ρ1 A1, v = .int i ∧ StR F1 H1 ρ1 σ A1 ∧ End mg W F1 H1 A1 σ (g (9, .int i) ρ1) R' Q := by
  have h : tD mg W (intS f) σ H fun v H1 => ∀ i, v = .int i → ∃ F1 ρ1 A1, StR F1 H1 ρ1 σ A1 ∧ End mg W F1 H1 A1 σ (g (9, .int i) ρ1) R' Q := by
    refine ⟨F, ρ, A, s, End.bind e fun kd ρ1 v F1 H1 A1 B1 er s1 o nd fr t h => fun i ei => ?_⟩
    have e9 : kd = (9, .int i) := by
      unfold intS M.bind at er
      cases ef : f ρ with
      | none => rw [ef] at er; cases er
      | some ou =>
        rw [ef] at er
        cases ou with
        | ex x ρ' => cases er
        | ok a ρ' =>
          obtain ⟨k, d⟩ := a
          cases d with
          | int j =>
            have er' : (some (Out.ok ((9 : Nat), D.int j) ρ') : Option (Out KD)) = some (Out.ok kd ρ1) := er
            simp only [Option.some.injEq, Out.ok.injEq] at er'
            obtain ⟨rfl, rfl⟩ := er'
            obtain rfl := Own.int_eq o
            cases ei
            rfl
          | _ => exact absurd (show (none : Option (Out KD)) = _ from er) (by simp)
    subst e9
    exact ⟨F1, ρ1, A1, s1, End.later (t.sub fun b hb => List.mem_append_left _ hb) h⟩
  exact tD_mono (fun v H1 ⟨i, e, q⟩ => let ⟨F1, ρ1, A1, s1, e1⟩ := q i rfl; ⟨i, F1, ρ1, A1, e, s1, e1⟩) (tD_int h)
end
section
variable {X : Cx} {mg : Str → Option Value} {W : WX} {a b c : Expr} {rest : List Expr} {fa fb fc : M KD} {ga gb : M Bool} {pos : Pos}
/-- expressions whose truth is their value's -/
def plainTest : Expr → Bool
  | .UnaryOp .Not _ _ => false
  | .BoolOp _ _ _ => false
  | .IfExp _ _ _ _ => false
  | .Compare _ _ _ _ => false
  | _ => true
theorem isTrue_of {e : Expr} {env : PySem.Env} (h : plainTest e = true) : ∀ whole, isTrue e env whole = (do let v ← whole; standAt e.pos; holding [v] (truthy v)) := by
  intro whole
  cases e with
  | UnaryOp op x p => cases op <;> first | rfl | (simp [plainTest] at h)
  | BoolOp _ _ _ => simp [plainTest] at h
  | IfExp _ _ _ _ => simp [plainTest] at h
  | Compare _ _ _ _ => simp [plainTest] at h
  | _ => rfl
theorem pt_plain (h : PE X a (tD mg W fa)) (hp : plainTest a = true) : PT X a (tB mg W (boolM fa)) := (pt_val h (isTrue_of hp)).imp fun _ _ _ h => tB_bool h
theorem pt_cmpS {op : CmpOp} {r : R2} {g : List Opv → M KD} {oa ob : Opd} (ho : OpR X (compareOp op) r) (hg : OpS mg W (r2L r) g) (ha : OpdOk X mg W a oa) (hb : OpdOk X mg W b ob) (hm : behindInMarks op b = false) :
    PT X (.Compare a [op] [b] pos) (tB mg W (boolM (opE [oa, ob] g))) :=
  (pt_cmpR ho (opd_pe ha) (opd_pe hb) hm).imp fun _ _ _ h => tOs_two (opE_of hg (tB_bool h))
theorem pw_andS1 (ha : PT X a (tB mg W ga)) : PW X (.BoolOp .And [a] pos) (tB mg W ga) := pw_and1 ha
theorem pw_orS1 (ha : PT X a (tB mg W ga)) : PW X (.BoolOp .Or [a] pos) (tB mg W ga) := pw_or1 ha
theorem pw_andS (ha : PT X a (tB mg W ga)) (hb : PW X (.BoolOp .And (b :: rest) pos) (tB mg W gb)) : PW X (.BoolOp .And (a :: b :: rest) pos) (tB mg W (andM ga gb)) := (pw_and ha hb).imp fun _ _ _ h => tB_and h
theorem pw_orS (ha : PT X a (tB mg W ga)) (hb : PW X (.BoolOp .Or (b :: rest) pos) (tB mg W gb)) : PW X (.BoolOp .Or (a :: b :: rest) pos) (tB mg W (orM ga gb)) := (pw_or ha hb).imp fun _ _ _ h => tB_or h
theorem pt_notS (ha : PT X a (tB mg W ga)) : PT X (.UnaryOp .Not a pos) (tB mg W (notM ga)) := (pt_not ha).imp fun _ _ _ h => tB_not h
theorem pe_andS (ha : PE X a (tD mg W fa)) (hb : PE X (.BoolOp .And (b :: rest) pos) (tD mg W fb)) : PE X (.BoolOp .And (a :: b :: rest) pos) (tD mg W (andV fa fb)) := (pe_and ha hb).imp fun _ _ _ h => tD_andV h
theorem pe_orS (ha : PE X a (tD mg W fa)) (hb : PE X (.BoolOp .Or (b :: rest) pos) (tD mg W fb)) : PE X (.BoolOp .Or (a :: b :: rest) pos) (tD mg W (orV fa fb)) := (pe_or ha hb).imp fun _ _ _ h => tD_orV h
theorem pe_notS (ha : PE X a (tD mg W fa)) : PE X (.UnaryOp .Not a pos) (tD mg W (notV fa)) := (pe_not ha).imp fun _ _ _ h => tD_notV h
theorem pe_ifS (hc : PT X c (tB mg W ga)) (ha : PE X a (tD mg W fa)) (hb : PE X b (tD mg W fb)) : PE X (.IfExp c a b pos) (tD mg W (ifV ga fa fb)) := (pe_ifExp hc ha hb).imp fun _ _ _ h => tD_if h
theorem ord_op (o : Ord4) : OpR X (compareOp o.op) (rI0 fun i j => .bl (o.i i j)) := by
  cases o with
  | lt => exact op_lt
  | le => exact op_le
  | gt => exact op_gt
  | ge => exact op_ge
theorem chain_rd {o o' : Ord4} {σ : L2.St} {H : Hp} {Q : VK} (h : tD mg W (chainV o o' fa fb fc) σ H Q) : tChain (rI0 fun i j => .bl (o.i i j)) (rI0 fun i j => .bl (o'.i i j)) (tD mg W fa) (tD mg W fb) (tD mg W fc) σ H Q := by
  obtain ⟨F, ρ, A, s, e⟩ := h
  refine tD_mono (fun x H1 q => ?_) (tD_then0 s e)
  obtain ⟨i, F1, ρ1, A1, rfl, s1, e1⟩ := q
  refine tD_mono (fun y H2 q => ?_) (tD_then0 s1 e1)
  obtain ⟨j, F2, ρ2, A2, rfl, s2, e2⟩ := q
  refine ⟨i, j, rfl, rfl, o.i i j, rfl, ?_⟩
  have e3 : End mg W F2 H2 A2 σ ((if o.i i j = true then M.bind (intS fc) fun c => (match c.2 with
      | .int l => M.ret ((9 : Nat), D.bl (o'.i j l))
      | _ => M.fail) else M.ret (9, .bl false)) ρ2) rKD Q := e2
  by_cases hc : o.i i j = true
  · rw [if_pos hc] at e3 ⊢
    refine tD_mono (fun z H3 q => ?_) (tD_then0 s2 e3)
    obtain ⟨l, F3, ρ3, A3, rfl, s3, e4⟩ := q
    exact ⟨j, l, rfl, rfl, ret_pv s3 e4 rfl⟩
  · rw [if_neg hc] at e3 ⊢
    exact ret_pv s2 e3 rfl
theorem marks2 {o o' : CmpOp} {b c : Expr} (h : behindInMarks o' c = false) : lastMarks [o, o'] [b, c] = false := h
theorem pe_chainS (o o' : Ord4) (ha : PE X a (tD mg W fa)) (hb : PE X b (tD mg W fb)) (hc : PE X c (tD mg W fc)) (hm : behindInMarks o'.op c = false) : PE X (.Compare a [o.op, o'.op] [b, c] pos) (tD mg W (chainV o o' fa fb fc)) :=
  (pe_chain (ord_op o) (ord_op o') ha hb hc (marks2 hm)).imp fun _ _ _ h => chain_rd h
theorem pt_chainS (o o' : Ord4) (ha : PE X a (tD mg W fa)) (hb : PE X b (tD mg W fb)) (hc : PE X c (tD mg W fc)) (hm : behindInMarks o'.op c = false) : PT X (.Compare a [o.op, o'.op] [b, c] pos) (tB mg W (boolM (chainV o o' fa fb fc))) :=
  (pt_chain (ord_op o) (ord_op o') ha hb hc (marks2 hm)).imp fun _ _ _ h => chain_rd (tB_bool h)
end
end DN

set_option Elab.async false
set_option linter.all false
set_option maxRecDepth 100000
set_option maxHeartbeats 4000000
/-! DN, part I: statements. -/
namespace DN
open PySem PySem.Spec PyProof.Rows L2
variable [KSeq]

/-- a statement's end -/
inductive SO where
  | nx (ρ : En)
  | bk (ρ : En)
  | ct (ρ : En)
  | rt (k : Nat) (d : D) (ρ : En)
  | ex (x : Ex) (ρ : En)
abbrev S := En → Option SO
/-- what follows an evaluation -/
def thenS {α : Type} (f : M α) (g : α → S) : S := fun ρ => match f ρ with
  | none => none
  | some (.ok a ρ') => g a ρ'
  | some (.ex x ρ') => some (.ex x ρ')
def seqS (f g : S) : S := fun ρ => match f ρ with
  | some (.nx ρ') => g ρ'
  | r => r
def skipS : S := fun ρ => some (.nx ρ)
def brkS : S := fun ρ => some (.bk ρ)
def contS : S := fun ρ => some (.ct ρ)
def exprS (f : M KD) : S := thenS f fun _ ρ => some (.nx ρ)
def retS (f : M KD) : S := thenS f fun kd ρ => some (.rt kd.1 kd.2 ρ)
def retN : S := fun ρ => some (.rt 9 .non ρ)
def ifS (c : M Bool) (f g : S) : S := thenS c fun b => if b = true then f else g
/-- targets -/
inductive Tg where
  | n (i : Nat)
  | t (ts : List Tg)
mutual
def asgT : Tg → Nat → D → En → Option En
  | .n i, k, d, ρ => if i < ρ.length then some (ρ.set i (some (k, d))) else none
  | .t ts, k, .tup ds, ρ => if ts.length = ds.length then asgTs ts k ds ρ else none
  | .t _, _, _, _ => none
def asgTs : List Tg → Nat → List D → En → Option En
  | [], _, [], ρ => some ρ
  | t :: ts, k, d :: ds, ρ => match asgT t k d ρ with
    | some ρ' => asgTs ts k ds ρ'
    | none => none
  | _, _, _, _ => none
end
def asgS (t : Tg) (f : M KD) : S := thenS f fun kd ρ => match asgT t kd.1 kd.2 ρ with
  | some ρ' => some (.nx ρ')
  | none => none

section
variable (P : List Nat) (mg : Str → Option Value) (W : WX)
/-- the names in P hold what they held -/
def Pk (σ σ' : L2.St) : Prop := ∀ i ∈ P, σ'[i]? = σ[i]?
def SEnd (F H : Hp) (A : List Addr) (σ : L2.St) (r : Option SO) (D : Ends) : Prop := match r with
  | none => False
  | some (.nx ρ') => ∀ σ' F' H' A', StR F' H' ρ' σ' A' → Tr F H A F' H' A' → Pk P σ σ' → D.nx σ' H'
  | some (.bk ρ') => ∀ σ' F' H' A', StR F' H' ρ' σ' A' → Tr F H A F' H' A' → Pk P σ σ' → D.bk σ' H'
  | some (.ct ρ') => ∀ σ' F' H' A', StR F' H' ρ' σ' A' → Tr F H A F' H' A' → Pk P σ σ' → D.ct σ' H'
  | some (.rt k d ρ') => ∀ v σ' F' H' A' B, StR F' H' ρ' σ' A' → Pk P σ σ' → Own F' H' k v d B → (A' ++ B).Nodup → (∀ b ∈ B, F' b = none) → Tr F H A F' H' (A' ++ B) → D.rt v H'
  | some (.ex x ρ') => ∀ cls dd σ' F' H' A', StR F' H' ρ' σ' A' → Pk P σ σ' → Tr F H A F' H' A' → ExR mg F' x cls dd H' → W cls dd σ' H'
def sD (f : S) : TS := fun D σ H => ∃ F ρ A, StR F H ρ σ A ∧ SEnd P mg W F H A σ (f ρ) D
end
section
variable {P : List Nat} {mg : Str → Option Value} {W : WX} {F F1 H H1 : Hp} {A A1 B : List Addr} {ρ : En} {σ σ1 : L2.St} {D : Ends}
theorem Pk.refl : Pk P σ σ := fun _ _ => rfl
theorem Pk.trans {σ2 : L2.St} (x : Pk P σ σ1) (y : Pk P σ1 σ2) : Pk P σ σ2 := fun i h => (y i h).trans (x i h)
theorem SEnd.later {r : Option SO} (t : Tr F H A F1 H1 A1) (p : Pk P σ σ1) (h : SEnd P mg W F H A σ r D) : SEnd P mg W F1 H1 A1 σ1 r D := by
  cases r with
  | none => exact h
  | some o =>
    cases o with
    | nx ρ' => exact fun σ' F' H' A' s t2 q => h σ' F' H' A' s (t.trans t2) (p.trans q)
    | bk ρ' => exact fun σ' F' H' A' s t2 q => h σ' F' H' A' s (t.trans t2) (p.trans q)
    | ct ρ' => exact fun σ' F' H' A' s t2 q => h σ' F' H' A' s (t.trans t2) (p.trans q)
    | rt k d ρ' => exact fun v σ' F' H' A' B s q o nd fr t2 => h v σ' F' H' A' B s (p.trans q) o nd fr (t.trans t2)
    | ex x ρ' => exact fun cls dd σ' F' H' A' s q t2 e => h cls dd σ' F' H' A' s (p.trans q) (t.trans t2) e
theorem SEnd.then {α β : Type} {f : M α} {g : α → S} {R : α → Hp → Hp → List Addr → β → Prop} {Q : β → Hp → Prop} (h : SEnd P mg W F H A σ (thenS f g ρ) D)
    (k : ∀ a ρ1 b F1 H1 A1 B1, StR F1 H1 ρ1 σ A1 → R a F1 H1 B1 b → (A1 ++ B1).Nodup → (∀ x ∈ B1, F1 x = none) → Tr F H A F1 H1 (A1 ++ B1) → SEnd P mg W F1 H1 (A1 ++ B1) σ (g a ρ1) D → Q b H1) :
    End mg W F H A σ (f ρ) R Q := by
  unfold thenS at h
  cases e : f ρ with
  | none => rw [e] at h; exact h
  | some o =>
    rw [e] at h
    cases o with
    | ok a ρ1 => exact fun b F1 H1 A1 B1 s r nd fr t => k a ρ1 b F1 H1 A1 B1 s r nd fr t (SEnd.later t Pk.refl h)
    | ex x ρ1 => exact fun cls dd F1 H1 A1 s t e => h cls dd σ F1 H1 A1 s Pk.refl t e
theorem sD_seq {f g : S} (h : sD P mg W (seqS f g) D σ H) : tSeq (sD P mg W f) (sD P mg W g) D σ H := by
  obtain ⟨F, ρ, A, s, e⟩ := h
  refine ⟨F, ρ, A, s, ?_⟩
  unfold seqS at e
  cases er : f ρ with
  | none => rw [er] at e; exact e
  | some o =>
    rw [er] at e
    cases o with
    | nx ρ' => exact fun σ' F' H' A' s' t q => ⟨F', ρ', A', s', SEnd.later t q e⟩
    | bk ρ' => exact e
    | ct ρ' => exact e
    | rt k d ρ' => exact e
    | ex x ρ' => exact e
theorem sD_skip (h : sD P mg W skipS D σ H) : tNext D σ H := by
  obtain ⟨F, ρ, A, s, e⟩ := h
  exact e σ F H A s Tr.refl Pk.refl
theorem sD_brk (h : sD P mg W brkS D σ H) : tBreak D σ H := by
  obtain ⟨F, ρ, A, s, e⟩ := h
  exact e σ F H A s Tr.refl Pk.refl
theorem sD_cont (h : sD P mg W contS D σ H) : tCont D σ H := by
  obtain ⟨F, ρ, A, s, e⟩ := h
  exact e σ F H A s Tr.refl Pk.refl
theorem sD_expr {f : M KD} (h : sD P mg W (exprS f) D σ H) : tDrop (tD mg W f) D σ H := by
  obtain ⟨F, ρ, A, s, e⟩ := h
  refine ⟨F, ρ, A, s, SEnd.then e fun a ρ1 b F1 H1 A1 B1 s1 _ _ _ _ h => ?_⟩
  exact h σ F1 H1 A1 s1 (Tr.refl.sub fun b hb => List.mem_append_left _ hb) Pk.refl
theorem sD_ret {f : M KD} (h : sD P mg W (retS f) D σ H) : tRet (tD mg W f) D σ H := by
  obtain ⟨F, ρ, A, s, e⟩ := h
  exact ⟨F, ρ, A, s, SEnd.then e fun a ρ1 b F1 H1 A1 B1 s1 o nd fr _ h => h b σ F1 H1 A1 B1 s1 Pk.refl o nd fr Tr.refl⟩
theorem sD_retN (h : sD P mg W retN D σ H) : tRetN D σ H := by
  obtain ⟨F, ρ, A, s, e⟩ := h
  exact e .non σ F H A [] s Pk.refl .non (by simpa using s.nd) (fun _ z => nomatch z) (Tr.refl.sub fun b hb => by simpa using hb)
theorem sD_if {c : M Bool} {f g : S} (h : sD P mg W (ifS c f g) D σ H) : tIfS (tB mg W c) (sD P mg W f) (sD P mg W g) D σ H := by
  obtain ⟨F, ρ, A, s, e⟩ := h
  refine ⟨F, ρ, A, s, SEnd.then e fun a ρ1 b F1 H1 A1 B1 s1 r _ _ _ h => ?_⟩
  obtain ⟨rfl, rfl⟩ := r
  rw [List.append_nil] at h
  cases b with
  | true => exact ⟨F1, ρ1, A1, s1, h⟩
  | false => exact ⟨F1, ρ1, A1, s1, h⟩

/-! ### targets -/
/-- a target takes a value -/
def gD (P : List Nat) (t : Tg) : TG := fun v σ H Q => ∃ F ρ A B k d, StR F H ρ σ A ∧ Own F H k v d B ∧ (A ++ B).Nodup ∧ (∀ b ∈ B, F b = none) ∧
  ∃ ρ', asgT t k d ρ = some ρ' ∧ ∀ σ' A', StR F H ρ' σ' A' → (∀ b ∈ A', b ∈ A ∨ b ∈ B) → Pk P σ σ' → Q σ' H
def gDs (P : List Nat) (ts : List Tg) : TGs := fun vs σ H Q => ∃ F ρ A B k ds, StR F H ρ σ A ∧ Owns F H k vs ds B ∧ (A ++ B).Nodup ∧ (∀ b ∈ B, F b = none) ∧
  ∃ ρ', asgTs ts k ds ρ = some ρ' ∧ ∀ σ' A', StR F H ρ' σ' A' → (∀ b ∈ A', b ∈ A ∨ b ∈ B) → Pk P σ σ' → Q σ' H
theorem gD_n {i : Nat} {v : V} {Q : L2.St → Hp → Prop} (hP : i ∉ P) (h : gD P (.n i) v σ H Q) : gName i v σ H Q := by
  obtain ⟨F, ρ, A, B, k, d, s, o, nd, fr, ρ', e, q⟩ := h
  unfold asgT at e
  split at e
  · rename_i hi
    cases e
    obtain ⟨A', s', hA⟩ := s.put hi o nd fr
    refine q _ A' s' hA fun j hj => ?_
    rw [List.getElem?_set_ne]
    exact fun z => hP (by rw [z]; exact hj)
  · cases e
theorem gD_t {ts : List Tg} {v : V} {Q : L2.St → Hp → Prop} {K : PySem.W.Frag} (h : gD P (.t ts) v σ H Q) : gTup K ts.length (gDs P ts) v σ H Q := by
  obtain ⟨F, ρ, A, B, k, d, s, o, nd, fr, ρ', e, q⟩ := h
  cases o with
  | @tup _ a vs ds _ h1 h2 =>
    unfold asgT at e
    split at e
    · rename_i hl
      exact ⟨a, vs, rfl, .of (s.sub _ _ h1), by rw [h2.length, hl], F, ρ, A, B, k, ds, s, h2, nd, fr, ρ', e, q⟩
    · cases e
  | _ => simp [asgT] at e
theorem gDs_nil {vs : List V} {Q : L2.St → Hp → Prop} (h : gDs P [] vs σ H Q) : gNil vs σ H Q := by
  obtain ⟨F, ρ, A, B, k, ds, s, o, nd, fr, ρ', e, q⟩ := h
  cases ds with
  | nil =>
    cases o
    simp only [asgTs, Option.some.injEq] at e
    subst e
    exact ⟨rfl, q σ A s (fun b hb => .inl hb) Pk.refl⟩
  | cons d ds => simp [asgTs] at e
theorem gDs_cons {t : Tg} {ts : List Tg} {vs : List V} {Q : L2.St → Hp → Prop} (h : gDs P (t :: ts) vs σ H Q) : gCons (gD P t) (gDs P ts) vs σ H Q := by
  obtain ⟨F, ρ, A, B, k, ds, s, o, nd, fr, ρ', e, q⟩ := h
  cases ds with
  | nil => simp [asgTs] at e
  | cons d ds =>
    cases o with
    | @cons _ v vs' _ _ B1 B2 h1 h2 =>
      unfold asgTs at e
      split at e
      · rename_i ρ1 e1
        have nd' := nd
        simp only [List.nodup_append, List.mem_append] at nd'
        obtain ⟨n1, ⟨n2, n3, n4⟩, n5⟩ := nd'
        refine ⟨v, vs', rfl, F, ρ, A, B1, k, d, s, h1, List.nodup_append.mpr ⟨n1, n2, fun a ha b hb => n5 a ha b (.inl hb)⟩, fun b hb => fr b (List.mem_append_left _ hb), ρ1, e1, fun σ1 A1 s1 hA p1 => ?_⟩
        refine ⟨F, ρ1, A1, B2, k, ds, s1, h2, List.nodup_append.mpr ⟨s1.nd, n3, fun a ha b hb => ?_⟩, fun b hb => fr b (List.mem_append_right _ hb), ρ', e, fun σ2 A2 s2 hA2 p2 => q σ2 A2 s2 (fun b hb => ?_) (p1.trans p2)⟩
        · rcases hA a ha with z | z
          · exact n5 a z b (.inr hb)
          · exact n4 a z b hb
        · rcases hA2 b hb with z | z
          · rcases hA b z with z | z
            · exact .inl z
            · exact .inr (List.mem_append_left _ z)
          · exact .inr (List.mem_append_right _ z)
      · cases e
theorem sD_asg {t : Tg} {f : M KD} (h : sD P mg W (asgS t f) D σ H) : tAsg (tD mg W f) (gD P t) D σ H := by
  obtain ⟨F, ρ, A, s, e⟩ := h
  refine ⟨F, ρ, A, s, SEnd.then e fun a ρ1 v F1 H1 A1 B1 s1 o nd fr _ h => ?_⟩
  split at h
  · rename_i ρ' e'
    exact ⟨F1, ρ1, A1, B1, a.1, a.2, s1, o, nd, fr, ρ', e', fun σ' A' s' hA p => h σ' F1 H1 A' s' (Tr.refl.sub fun b hb => List.mem_append.mpr (hA b hb)) p⟩
  · exact h.elim
end
section
variable {X : Cx} {P : List Nat} {mg : Str → Option Value} {W : WX} {e : Expr} {st : Stmt} {sts bs cs : List Stmt} {f g : S} {fm : M KD} {c : M Bool} {pos : Pos}
theorem _root_.L2.PG.imp {tg : Expr} {t t' : TG} (h : PG X tg t) (i : ∀ v σ H Q, t' v σ H Q → t v σ H Q) : PG X tg t' := ⟨fun pins s σ H v u Q I r q => h.run pins s σ H v u Q I r (i v σ H Q q)⟩
theorem _root_.L2.PGs.imp {tgs : List Expr} {t t' : TGs} (h : PGs X tgs t) (i : ∀ v σ H Q, t' v σ H Q → t v σ H Q) : PGs X tgs t' := ⟨fun pins s σ H v u Q I r q => h.run pins s σ H v u Q I r (i v σ H Q q)⟩
theorem pg_nS {i : Nat} {x : Str} (hN : X.N.Nodup) (hi : X.N[i]? = some x) (hx : Loc X.env.scope x) (hf : X.fn x = true ∨ X.env.scope.names.lookup x = some .local) (hP : i ∉ P) : PG X (.Name x pos) (gD P (.n i)) := (pg_name hN hi hx hf).imp fun _ _ _ _ h => gD_n hP h
theorem pgs_nilS : PGs X [] (gDs P []) := pgs_nil.imp fun _ _ _ _ h => gDs_nil h
theorem assignEach_of {e : Expr} {es : List Expr} {env : PySem.Env} (h : notStar e = true) : assignEach (e :: es) env = (false, assign e env) :: assignEach es env := by
  cases e <;> first | rfl | (simp [notStar] at h)
theorem pgs_consS {e : Expr} {es : List Expr} {t : Tg} {ts : List Tg} (h1 : PG X e (gD P t)) (h2 : PGs X es (gDs P ts)) (hs : notStar e = true) : PGs X (e :: es) (gDs P (t :: ts)) :=
  (pgs_cons h1 h2 (by rw [assignEach_of hs]; rfl)).imp fun _ _ _ _ h => gDs_cons h
theorem assignEach_all : ∀ {es : List Expr} {env : PySem.Env}, es.all notStar = true → (assignEach es env).length = es.length ∧ (assignEach es env).findIdx? (·.1) = none
  | [], env, _ => ⟨rfl, rfl⟩
  | e :: es, env, h => by
    simp only [List.all_cons, Bool.and_eq_true] at h
    obtain ⟨h1, h2⟩ := assignEach_all (env := env) h.2
    rw [assignEach_of h.1]
    refine ⟨by simp [h1], ?_⟩
    rw [List.findIdx?_cons]
    simp [h2]
theorem pg_tupS {es : List Expr} {k : Nat} {ts : List Tg} (hc : X.calm = true) (h : PGs X es (gDs P ts)) (hl : es.length = ts.length) (hs : es.all notStar = true) : PG X (.Tuple es k pos) (gD P (.t ts)) :=
  (pg_tup hc h ((assignEach_all hs).1.trans hl) (assignEach_all hs).2).imp fun _ _ _ _ h => gD_t h
def notComp : Expr → Bool
  | .ListComp _ _ _ _ => false
  | .SetComp _ _ _ _ => false
  | .DictComp _ _ _ _ _ => false
  | _ => true
theorem swaps_no {e : Expr} {t : Option Expr} {l : Nat} {env : PySem.Env} (h : notComp e = true) : swapsWith e t l env = pure false := by
  cases e <;> first | rfl | (simp [notComp] at h)
theorem ps_asgS {tg : Expr} {t : Tg} (he : PE X e (tD mg W fm)) (hg : PG X tg (gD P t)) (hn : notComp e = true) (hs : notStar tg = true) (hw : swappedStores [tg] e X.env = pure none) : PS X (.Assign [tg] e pos) (sD P mg W (asgS t fm)) :=
  (ps_asg he hg (swaps_no hn) hw (by rw [assignEach_of hs]; rfl)).imp fun _ _ _ h => sD_asg h
theorem pss_nilS : PSs X [] (sD P mg W skipS) := pss_nil.imp fun _ _ _ h => sD_skip h
theorem pss_consS (h1 : PS X st (sD P mg W f)) (h2 : PSs X sts (sD P mg W g)) : PSs X (st :: sts) (sD P mg W (seqS f g)) := (pss_cons h1 h2).imp fun _ _ _ h => sD_seq h
theorem ps_brkS : PS X (.Break pos) (sD P mg W brkS) := ps_break.imp fun _ _ _ h => sD_brk h
theorem ps_contS : PS X (.Continue pos) (sD P mg W contS) := ps_continue.imp fun _ _ _ h => sD_cont h
theorem ps_passS : PS X (.Pass pos) (sD P mg W skipS) := ps_pass.imp fun _ _ _ h => sD_skip h
theorem ps_retS (h : PE X e (tD mg W fm)) : PS X (.Return (some e) pos) (sD P mg W (retS fm)) := (ps_ret h).imp fun _ _ _ h => sD_ret h
theorem ps_retNS : PS X (.Return none pos) (sD P mg W retN) := ps_retN.imp fun _ _ _ h => sD_retN h
theorem ps_ifS (hc : PT X e (tB mg W c)) (ha : PSs X bs (sD P mg W f)) (hb : PSs X cs (sD P mg W g)) : PS X (.If e bs cs pos) (sD P mg W (ifS c f g)) := (ps_if hc ha hb).imp fun _ _ _ h => sD_if h
theorem ps_exprS (h : PE X e (tD mg W fm)) (hn : notComp e = true) : PS X (.Expr e pos) (sD P mg W (exprS fm)) := (ps_expr h (swaps_no hn)).imp fun _ _ _ h => sD_expr h
end
end DN

set_option Elab.async false
set_option linter.all false
set_option maxRecDepth 100000
set_option maxHeartbeats 4000000
/-! DN, part J: what is walked; for, while. -/
namespace DN
open PySem PySem.Spec PyProof.Rows L2
variable [KSeq]

def kz (d : D) : KD := (if d.imm = true then 9 else 0, d)
def signs (x : Str) : List KD := x.cps.toList.map fun c => ((9, .str ⟨#[c]⟩) : KD)
def rngI (lo : Int) (n : Nat) : List KD := (List.range n).map fun i => ((9, .int (lo + (i : Nat))) : KD)
def small62 (i : Int) : Bool := decide (-(4611686018427387904 : Int) ≤ i) && decide (i < 4611686018427387904)
/-- the items of a value that is walked -/
def itsV (f : M KD) : M (List KD) := M.bind (frzS f) fun kd => match kd.2 with
  | .lst ds => M.ret (ds.map kz)
  | .tup ds => M.ret (ds.map kz)
  | .seq ds => M.ret (ds.map kz)
  | .str x => M.ret (signs x)
  | _ => M.fail
def itsR1 (f : M KD) : M (List KD) := M.bind (intS f) fun kd => match kd.2 with
  | .int j => if small62 j = true then M.ret (rngI 0 j.toNat) else M.fail
  | _ => M.fail
def itsR2 (f g : M KD) : M (List KD) := M.bind (intS f) fun a => M.bind (intS g) fun b => match a.2, b.2 with
  | .int i, .int j => if (small62 i && small62 j) = true then M.ret (rngI i (j - i).toNat) else M.fail
  | _, _ => M.fail
/-- J gives the items ds, whatever happens meanwhile, while Z stands as in H0 -/
def ItH (J : It) (F0 H0 : Hp) (Z : List Addr) (ds : List KD) : Prop := ∃ (n : Nat) (G : Hp → Prop) (Y : Nat → Hp → V → Hp → Prop), Walk J n G Y ∧ n = ds.length ∧ (∀ F H, Same F0 F → Same F H → (∀ b ∈ Z, H b = H0 b) → G H) ∧
  ∀ i F H ρ σ A x H', Same F0 F → StR F H ρ σ A → Y i H x H' → ∃ kd F', ds[i]? = some kd ∧ StR F' H' ρ σ A ∧ Tr F H A F' H' A ∧ Own F' H' kd.1 x kd.2 []
def ItS (J : It) (F0 : Hp) (ds : List KD) : Prop := ItH J F0 F0 [] ds
def rIt : List KD → Hp → Hp → List Addr → It → Prop := fun ds F' H' B J => ItH J F' H' B ds ∧ ∀ b ∈ B, ∃ o, H' b = some o ∧ Chg o
theorem ItH.more {J : It} {F0 H0 H1 : Hp} {Z Z' : List Addr} {ds : List KD} (h : ItH J F0 H0 Z ds) (w : ∀ H : Hp, (∀ b ∈ Z', H b = H1 b) → ∀ b ∈ Z, H b = H0 b) : ItH J F0 H1 Z' ds := by
  obtain ⟨n, G, Y, h1, h2, h3, h4⟩ := h
  exact ⟨n, G, Y, h1, h2, fun F H a b c => h3 F H a b (w H c), h4⟩
theorem ItS.held {J : It} {F0 H0 : Hp} {ds : List KD} (h : ItS J F0 ds) : ItH J F0 H0 [] ds := ItH.more h fun _ _ b hb => nomatch hb
def tI (mg : Str → Option Value) (W : WX) (f : M (List KD)) : TI := fun σ H R => ∃ F ρ A, StR F H ρ σ A ∧ End mg W F H A σ (f ρ) rIt R
section
variable {mg : Str → Option Value} {W : WX} {F H : Hp} {A B : List Addr} {ρ : En} {σ : L2.St}
theorem kz_own {d : D} {v : V} (o : Own F H 0 v d []) : Own F H (kz d).1 v (kz d).2 [] := by
  show Own F H (if d.imm = true then 9 else 0) v d []
  by_cases hd : d.imm = true
  · rw [if_pos hd]; exact o.imm' hd 9 H
  · rw [if_neg hd]; exact o
theorem Owns.at0 : ∀ {ds : List D} {vs : List V} {i : Nat} {v : V}, Owns F H 0 vs ds [] → vs[i]? = some v → ∃ d, ds[i]? = some d ∧ Own F H 0 v d []
  | [], vs, i, v, h, e => by cases h; simp at e
  | d :: ds, vs, i, v, h, e => by
    generalize ha : ([] : List Addr) = A0 at h
    cases h with
    | cons h1 h2 =>
      obtain ⟨ea, eb⟩ := List.append_eq_nil_iff.mp ha.symm
      subst ea; subst eb
      cases i with
      | zero =>
        simp at e; subst e
        exact ⟨d, rfl, h1⟩
      | succ i => simpa using Owns.at0 (i := i) h2 (by simpa using e)
theorem its_seq {J : It} {F0 H0 : Hp} {ds : List D} {vs : List V} {G : Hp → Prop} (w : Walk J vs.length G (YAt vs)) (hG : ∀ F H, Same F0 F → Same F H → G H) (o : Owns F0 H0 0 vs ds []) : ItS J F0 (ds.map kz) := by
  refine ⟨vs.length, G, YAt vs, w, by rw [List.length_map, o.length], fun F H a b _ => hG F H a b, fun i F H ρ σ A x H' sf s y => ?_⟩
  obtain ⟨rfl, hx⟩ := y
  obtain ⟨d, hd, od⟩ := Owns.at0 o hx
  exact ⟨kz d, F, by rw [List.getElem?_map, hd]; rfl, s, Tr.refl, kz_own (od.zero sf)⟩
theorem its_pv {J : It} {n : Nat} {Y : Nat → Hp → V → Hp → Prop} {ds : List KD} {F0 : Hp} (w : Walk J n (fun _ => True) Y) (hn : n = ds.length) (hy : ∀ i H x H', Y i H x H' → H' = H ∧ ∃ k d, ds[i]? = some (k, d) ∧ pv0 d = some x) : ItS J F0 ds := by
  refine ⟨n, _, Y, w, hn, fun _ _ _ _ _ => trivial, fun i F H ρ σ A x H' sf s y => ?_⟩
  obtain ⟨rfl, k, d, hd, hp⟩ := hy i H x H' y
  exact ⟨(k, d), F, hd, s, Tr.refl, own_pv hp k⟩
end
section
variable {X : Cx} {mg : Str → Option Value} {W : WX} {tg e a b : Expr} {f g : M KD} {p pos : Pos}
/-- what a value is walked by -/
def WkV (K : PySem.W.Frag) (x : V) (H : Hp) (R : It → Hp → Prop) : Prop :=
  (∃ a xs, x = .ref a ∧ SqL K H a xs ∧ R (Itl K a) H) ∨ (∃ a xs, x = .ref a ∧ SqT K H a xs ∧ R (Itt K a) H) ∨ ∃ z, x = .str z ∧ R (Its z) H
theorem pi_val {te : TE} (he : PE X e te) : PI X tg e (fun σ H R => te σ H fun x H1 => WkV X.K x H1 R) := by
  refine ⟨fun pins s σ H R I h => thn (he.run pins s σ H _ I h) fun v s1 q1 => ?_⟩
  obtain ⟨x, H1, I1, r1, q⟩ := q1
  rcases q with ⟨a, xs, rfl, hs, q⟩ | ⟨a, xs, rfl, hs, q⟩ | ⟨z, rfl, q⟩
  · cases r1
    obtain ⟨its, rv, pl, hz⟩ := I1.list hs
    exact wpAny_pyIter_list pl.isList (pi_one (tk := s1.toks) I1 _ (turn_list a _) ⟨_, Heap.get?_push_size _ rfl, rfl, rfl⟩ q)
  · cases r1
    obtain ⟨its, rv, pl, hz⟩ := I1.tuple hs
    exact wpAny_pyIter_tuple (show s1.heap.IsTuple a its.toArray from pl) (pi_one (tk := s1.toks) I1 _ (turn_tuple a _) ⟨_, Heap.get?_push_size _ rfl, rfl, rfl⟩ q)
  · obtain ⟨t, rfl⟩ := r1
    cases hz : z.cps.all (· < 128) with
    | false => exact wpAny_pyIter_wide hz (pi_one (tk := s1.toks) I1 _ (turn_str _ z t _ (.inr rfl)) ⟨_, Heap.get?_push_size _ rfl, rfl, rfl⟩ q)
    | true => exact wpAny_pyIter_ascii hz (pi_one (tk := s1.toks) I1 _ (turn_str _ z t _ (.inl rfl)) ⟨_, Heap.get?_push_size _ rfl, rfl, rfl⟩ q)
theorem rIt_ret {F H : Hp} {A B : List Addr} {ρ : En} {σ : L2.St} {ds : List KD} {J : It} {R : It → Hp → Prop} (s : StR F H ρ σ A) (h : End mg W F H (A ++ B) σ (M.ret ds ρ) rIt R) (i : ItS J F ds) : R J H := End.done h s (show rIt ds F H [] J from ⟨ItS.held i, fun _ z => nomatch z⟩)
theorem pi_valS (hK : X.K = KSeq.K) (he : PE X e (tD mg W f)) : PI X tg e (tI mg W (itsV f)) := by
  refine (pi_val he).imp fun σ H R h => ?_
  obtain ⟨F, ρ, A, s, h⟩ := h
  have key : tD mg W (frzS f) σ H fun x H1 => WkV X.K x H1 R := by
    refine ⟨F, ρ, A, s, End.bind h fun kd ρ1 v F1 H1 A1 B1 er s1 o nd fr t h => ?_⟩
    have h2 := End.later t h
    have zz : Own F1 H1 0 v kd.2 [] := by
      -- what frzS hands on is frozen
      have hk : kd.1 = if kd.2.imm = true then 9 else 0 := by
        unfold frzS M.bind at er
        cases ef : f ρ with
        | none => rw [ef] at er; cases er
        | some ou =>
          rw [ef] at er
          cases ou with
          | ex x ρ' => cases er
          | ok a ρ' =>
            have er' : (some (Out.ok ((if a.2.imm = true then 9 else 0 : Nat), a.2) ρ') : Option (Out KD)) = some (Out.ok kd ρ1) := er
            simp only [Option.some.injEq, Out.ok.injEq] at er'
            rw [← er'.1]
      by_cases hd : kd.2.imm = true
      · exact Own.imm' o hd 0 H1
      · have e0 : kd.1 = 0 := by rw [hk, if_neg hd]
        have o' : Own F1 H1 kd.1 v kd.2 B1 := o
        rw [e0] at o'
        have := Own.zeroA _ _ _ o'
        subst this
        exact o'
    obtain ⟨k, d⟩ := kd
    cases d with
    | lst ds =>
      cases zz with
      | lfz e1 e2 => exact .inl ⟨_, _, rfl, .of (s1.sub _ _ e1), rIt_ret s1 h2 (its_seq (H0 := H1) walk_list (fun F' H' sf sh => .of (sh _ _ (sf _ _ e1))) e2)⟩
    | tup ds =>
      cases zz with
      | tup e1 e2 => exact .inr (.inl ⟨_, _, rfl, .of (s1.sub _ _ e1), rIt_ret s1 h2 (its_seq (H0 := H1) walk_tup (fun F' H' sf sh => .of (sh _ _ (sf _ _ e1))) e2)⟩)
    | seq ds =>
      cases zz with
      | seq e1 e2 => exact .inl ⟨_, _, rfl, e1.sq hK s1.sub, rIt_ret s1 h2 (its_seq (H0 := H1) walk_list (fun F' H' sf sh => (e1.imp fun o q => sf _ _ q).sq hK sh) e2)⟩
    | str x =>
      obtain rfl := Own.str_eq zz
      refine .inr (.inr ⟨x, rfl, rIt_ret s1 h2 (its_pv walk_str (by simp [signs]) fun i H x' H' y => ?_)⟩)
      obtain ⟨eh, c, hc, rfl⟩ := y
      refine ⟨eh, 9, .str ⟨#[c]⟩, ?_, rfl⟩
      unfold signs
      rw [List.getElem?_map, Array.getElem?_toList, hc]
      rfl
    | _ => exact h.elim
  exact tD_frz key
theorem rngI_at {lo : Int} {n i : Nat} (h : i < n) : (rngI lo n)[i]? = some (9, .int (lo + (i : Nat))) := by
  unfold rngI
  rw [List.getElem?_map, List.getElem?_range h]
  rfl
theorem its_range {F0 : Hp} {lo : Int} {n : Nat} : ItS (Itr lo n) F0 (rngI lo n) := by
  refine ⟨n, _, fun i H x H' => i < n ∧ H' = H ∧ x = .int (lo + (i : Nat)), walk_range.mono (G' := fun _ => True) (fun _ h => h) (fun i H x H' hi _ y => ⟨hi, y.1, y.2⟩), by simp [rngI], fun _ _ _ _ _ => trivial, fun i F H ρ σ A x H' sf s y => ?_⟩
  obtain ⟨hi, rfl, rfl⟩ := y
  exact ⟨_, F, rngI_at hi, s, Tr.refl, .int _⟩
theorem small_of {i : Int} (h : small62 i = true) : -(2 ^ 62) ≤ i ∧ i < 2 ^ 62 := by
  unfold small62 at h
  simp only [Bool.and_eq_true, decide_eq_true_eq] at h
  omega
theorem pi_rng1 (hG : Gl X "range") (hm : X.mg "range" = none) (ha : PE X a (tD mg W f)) (hs : notStar a = true) : PI X tg (.Call (.Name "range" p) [a] [] pos) (tI mg W (itsR1 f)) := by
  refine (pi_range1 hG hm (pa_cons ha pa_nil (starEach_of hs)) (starEach_of hs)).imp fun σ H R h => ?_
  obtain ⟨F, ρ, A, s, h⟩ := h
  refine tD_mono (fun v H1 q => ?_) (tD_then0 s h)
  obtain ⟨j, F1, ρ1, A1, rfl, s1, e1⟩ := q
  have e2 : End mg W F1 H1 A1 σ ((if small62 j = true then M.ret (rngI 0 j.toNat) else M.fail) ρ1) rIt R := e1
  by_cases hj : small62 j = true
  · rw [if_pos hj] at e2
    exact ⟨j, rfl, (small_of hj).1, (small_of hj).2, rIt_ret (B := []) s1 (by simpa using e2) its_range⟩
  · rw [if_neg hj] at e2
    exact e2.elim
theorem pi_rng2 (hG : Gl X "range") (hm : X.mg "range" = none) (ha : PE X a (tD mg W f)) (hb : PE X b (tD mg W g)) (hs : notStar a = true) (hs2 : notStar b = true) : PI X tg (.Call (.Name "range" p) [a, b] [] pos) (tI mg W (itsR2 f g)) := by
  refine (pi_range2 hG hm (pa_cons ha (pa_cons hb pa_nil (starEach_of hs2)) (starEach_of hs)) (by rw [starEach_of hs, starEach_of hs2]; rfl) (starEach_of hs2)).imp fun σ H R h => ?_
  obtain ⟨F, ρ, A, s, h⟩ := h
  refine tD_mono (fun v H1 q => ?_) (tD_then0 s h)
  obtain ⟨i, F1, ρ1, A1, rfl, s1, e1⟩ := q
  refine tD_mono (fun v H2 q => ?_) (tD_then0 s1 e1)
  obtain ⟨j, F2, ρ2, A2, rfl, s2, e2⟩ := q
  have e3 : End mg W F2 H2 A2 σ ((if (small62 i && small62 j) = true then M.ret (rngI i (j - i).toNat) else M.fail) ρ2) rIt R := e2
  by_cases hj : (small62 i && small62 j) = true
  · rw [if_pos hj] at e3
    simp only [Bool.and_eq_true] at hj
    exact ⟨i, j, rfl, ⟨(small_of hj.1).1, (small_of hj.1).2, (small_of hj.2).1, (small_of hj.2).2⟩, rIt_ret (B := []) s2 (by simpa using e3) its_range⟩
  · rw [if_neg hj] at e3
    exact e3.elim
end

/-! ### for, while -/
/-- the items one by one -/
def forL (t : Tg) (body : S) : List KD → S
  | [] => fun ρ => some (.nx ρ)
  | kd :: r => fun ρ => match asgT t kd.1 kd.2 ρ with
    | none => none
    | some ρ1 => match body ρ1 with
      | some (.nx ρ2) => forL t body r ρ2
      | some (.ct ρ2) => forL t body r ρ2
      | some (.bk ρ2) => some (.nx ρ2)
      | x => x
def forS (it : M (List KD)) (t : Tg) (body : S) : S := thenS it fun ds => forL t body ds
def whileN : Nat → M Bool → S → S
  | 0, _, _ => fun _ => none
  | n + 1, c, body => thenS c fun b => if b = true then (fun ρ => match body ρ with
      | some (.nx ρ2) => whileN n c body ρ2
      | some (.ct ρ2) => whileN n c body ρ2
      | some (.bk ρ2) => some (.nx ρ2)
      | x => x) else skipS
open Classical in
noncomputable def whileS (c : M Bool) (body : S) : S := fun ρ => if h : ∃ n, whileN n c body ρ ≠ none then whileN (choose h) c body ρ else none
section
variable {P : List Nat} {mg : Str → Option Value} {W : WX} {F H : Hp} {A : List Addr} {ρ : En} {σ : L2.St} {D : Ends}
/-- a statement's end, Z held -/
def SZ (P : List Nat) (mg : Str → Option Value) (W : WX) (F H : Hp) (A Z : List Addr) (σ : L2.St) (r : Option SO) (D : Ends) : Prop := match r with
  | none => False
  | some (.nx ρ') => ∀ σ' F' H' A', StR F' H' ρ' σ' A' → Tr F H (A ++ Z) F' H' (A' ++ Z) → (A' ++ Z).Nodup → (∀ b ∈ Z, H' b = H b) → (∀ b ∈ Z, F' b = none) → Pk P σ σ' → D.nx σ' H'
  | some (.bk ρ') => ∀ σ' F' H' A', StR F' H' ρ' σ' A' → Tr F H (A ++ Z) F' H' (A' ++ Z) → (A' ++ Z).Nodup → (∀ b ∈ Z, H' b = H b) → (∀ b ∈ Z, F' b = none) → Pk P σ σ' → D.bk σ' H'
  | some (.ct ρ') => ∀ σ' F' H' A', StR F' H' ρ' σ' A' → Tr F H (A ++ Z) F' H' (A' ++ Z) → (A' ++ Z).Nodup → (∀ b ∈ Z, H' b = H b) → (∀ b ∈ Z, F' b = none) → Pk P σ σ' → D.ct σ' H'
  | some (.rt k d ρ') => ∀ v σ' F' H' A' B, StR F' H' ρ' σ' A' → Pk P σ σ' → Own F' H' k v d B → (A' ++ B ++ Z).Nodup → (∀ b ∈ B, F' b = none) → (∀ b ∈ Z, H' b = H b) → (∀ b ∈ Z, F' b = none) → Tr F H (A ++ Z) F' H' (A' ++ B ++ Z) → D.rt v H'
  | some (.ex x ρ') => ∀ cls dd σ' F' H' A', StR F' H' ρ' σ' A' → Pk P σ σ' → Tr F H (A ++ Z) F' H' (A' ++ Z) → (A' ++ Z).Nodup → (∀ b ∈ Z, H' b = H b) → (∀ b ∈ Z, F' b = none) → ExR mg F' x cls dd H' → W cls dd σ' H'
theorem SEnd.toZ {Z : List Addr} {r : Option SO} (h : SEnd P mg W F H (A ++ Z) σ r D) : SZ P mg W F H A Z σ r D := by
  have sb : ∀ {F' H' A'}, Tr F H (A ++ Z) F' H' (A' ++ Z) → Tr F H (A ++ Z) F' H' A' := fun t => t.sub fun b hb => List.mem_append_left _ hb
  cases r with
  | none => exact h
  | some o =>
    cases o with
    | nx ρ' => exact fun σ' F' H' A' s t _ _ _ p => h σ' F' H' A' s (sb t) p
    | bk ρ' => exact fun σ' F' H' A' s t _ _ _ p => h σ' F' H' A' s (sb t) p
    | ct ρ' => exact fun σ' F' H' A' s t _ _ _ p => h σ' F' H' A' s (sb t) p
    | rt k d ρ' => exact fun v σ' F' H' A' B s p o nd fr _ _ t => h v σ' F' H' A' B s p o (List.nodup_append.mp nd).1 fr (t.sub fun b hb => List.mem_append_left _ hb)
    | ex x ρ' => exact fun cls dd σ' F' H' A' s p t _ _ _ x => h cls dd σ' F' H' A' s p (sb t) x
theorem SZ.later {Z : List Addr} {r : Option SO} {F1 H1 : Hp} {A1 : List Addr} {σ1 : L2.St} (t : Tr F H (A ++ Z) F1 H1 (A1 ++ Z)) (z : ∀ b ∈ Z, H1 b = H b) (p : Pk P σ σ1) (h : SZ P mg W F H A Z σ r D) : SZ P mg W F1 H1 A1 Z σ1 r D := by
  cases r with
  | none => exact h
  | some o =>
    cases o with
    | nx ρ' => exact fun σ' F' H' A' s t2 nd e f q => h σ' F' H' A' s (t.trans t2) nd (fun b hb => (e b hb).trans (z b hb)) f (p.trans q)
    | bk ρ' => exact fun σ' F' H' A' s t2 nd e f q => h σ' F' H' A' s (t.trans t2) nd (fun b hb => (e b hb).trans (z b hb)) f (p.trans q)
    | ct ρ' => exact fun σ' F' H' A' s t2 nd e f q => h σ' F' H' A' s (t.trans t2) nd (fun b hb => (e b hb).trans (z b hb)) f (p.trans q)
    | rt k d ρ' => exact fun v σ' F' H' A' B s q o nd fr e f t2 => h v σ' F' H' A' B s (p.trans q) o nd fr (fun b hb => (e b hb).trans (z b hb)) f (t.trans t2)
    | ex x ρ' => exact fun cls dd σ' F' H' A' s q t2 nd e f x => h cls dd σ' F' H' A' s (p.trans q) (t.trans t2) nd (fun b hb => (e b hb).trans (z b hb)) f x
/-- held, through a statement -/
theorem SZ.body {Z : List Addr} {r : Option SO} {D' : Ends} (hZ : ∀ b ∈ Z, ∃ o, H b = some o ∧ Chg o) (nd : (A ++ Z).Nodup) (fr : ∀ b ∈ Z, F b = none) (h : SZ P mg W F H A Z σ r D) : SEnd P mg W F H A σ r D := by
  cases r with
  | none => exact h
  | some o =>
    cases o with
    | nx ρ' => exact fun σ' F' H' A' s t p => let ⟨a, b, c, d⟩ := hold hZ nd fr t s.nd; h σ' F' H' A' s d c a b p
    | bk ρ' => exact fun σ' F' H' A' s t p => let ⟨a, b, c, d⟩ := hold hZ nd fr t s.nd; h σ' F' H' A' s d c a b p
    | ct ρ' => exact fun σ' F' H' A' s t p => let ⟨a, b, c, d⟩ := hold hZ nd fr t s.nd; h σ' F' H' A' s d c a b p
    | rt k d ρ' => exact fun v σ' F' H' A' B s p o nd2 fr2 t => let ⟨a, b, c, d⟩ := hold hZ nd fr t nd2; h v σ' F' H' A' B s p o c fr2 a b d
    | ex x ρ' => exact fun cls dd σ' F' H' A' s p t x => let ⟨a, b, c, d⟩ := hold hZ nd fr t s.nd; h cls dd σ' F' H' A' s p d c a b x
/-- the loop itself, B1 held -/
theorem for_core {t : Tg} {body : S} {J : It} {ds : List KD} {F1 H1 : Hp} {ρ1 : En} {A1 B1 : List Addr} (s1 : StR F1 H1 ρ1 σ A1) (r : ItH J F1 H1 B1 ds) (hZ : ∀ b ∈ B1, ∃ o, H1 b = some o ∧ Chg o) (nd : (A1 ++ B1).Nodup) (fr : ∀ b ∈ B1, F1 b = none)
    (h : SZ P mg W F1 H1 A1 B1 σ (forL t body ds ρ1) D) : ∃ Wt : Nat → Nat → L2.St → Hp → Prop, (∃ m, Wt 0 m σ H1) ∧ ∀ i m σ H, Wt i m σ H →
      (J.stop i H ∧ D.nx σ H) ∨ (J.go i H ∧ ∃ N : L2.St → Hp → Prop, (∀ σ' H', N σ' H' → ∃ m', m' < m ∧ Wt (i + 1) m' σ' H') ∧ ∀ x H', J.yld i H x H' → gD P t x σ H' fun σ2 H2 => sD P mg W body { D with nx := N, ct := N, bk := D.nx } σ2 H2) := by
  obtain ⟨n, G, Y, w, hn, hG, hY⟩ := r
  subst hn
  refine for_it w (fun i σ' H' => ∃ F' ρ' A', StR F' H' ρ' σ' A' ∧ Same F1 F' ∧ (∀ b ∈ B1, H' b = H1 b) ∧ (A' ++ B1).Nodup ∧ (∀ b ∈ B1, F' b = none) ∧ SZ P mg W F' H' A' B1 σ' (forL t body (ds.drop i) ρ') D) ⟨F1, ρ1, A1, s1, Same.refl _, fun _ _ => rfl, nd, fr, by simpa using h⟩
    (fun i σ' H' _ q => ?_) (fun i x σ' H' H2 hi q y => ?_) (fun σ' H' q => ?_)
  · obtain ⟨F', ρ', A', s', sf, hb, _⟩ := q
    exact hG F' H' sf s'.sub hb
  · obtain ⟨F', ρ', A', s', sf, hb, nd', fr', e'⟩ := q
    obtain ⟨kd, F2, hd, s2, t2, o2⟩ := hY i F' H' ρ' σ' A' x H2 sf s' y
    have ed : ds.drop i = kd :: ds.drop (i + 1) := by
      obtain ⟨h1, h2⟩ := List.getElem?_eq_some_iff.mp hd
      rw [← h2]; exact List.drop_eq_getElem_cons h1
    rw [ed] at e'
    have hZ' : ∀ b ∈ B1, ∃ o, H' b = some o ∧ Chg o := fun b hbb => by rw [hb b hbb]; exact hZ b hbb
    obtain ⟨u1, u2, u3, u4⟩ := hold hZ' nd' fr' t2 s2.nd
    have e2 := SZ.later u4 u1 Pk.refl e'
    have hb2 : ∀ b ∈ B1, H2 b = H1 b := fun b hbb => (u1 b hbb).trans (hb b hbb)
    have hZ2 : ∀ b ∈ B1, ∃ o, H2 b = some o ∧ Chg o := fun b hbb => by rw [hb2 b hbb]; exact hZ b hbb
    unfold forL at e2
    split at e2
    · exact e2.elim
    · rename_i ρ3 ea
      refine ⟨F2, ρ', A', [], kd.1, kd.2, s2, o2, by simpa using s2.nd, (fun _ z => nomatch z), ρ3, ea, fun σ3 A3 s3 hA p3 => ⟨F2, ρ3, A3, s3, ?_⟩⟩
      have hA' : ∀ b ∈ A3, b ∈ A' := fun b hb => (hA b hb).elim id fun z => nomatch z
      have nd3 : (A3 ++ B1).Nodup := List.nodup_append.mpr ⟨s3.nd, (List.nodup_append.mp u3).2.1, fun a ha b hb => (List.nodup_append.mp u3).2.2 a (hA' a ha) b hb⟩
      have e3 : SZ P mg W F2 H2 A3 B1 σ3 _ D := SZ.later (Tr.refl.sub fun b hb => by
        rcases List.mem_append.mp hb with hb | hb
        · exact List.mem_append_left _ (hA' b hb)
        · exact List.mem_append_right _ hb) (fun _ _ => rfl) p3 e2
      refine SZ.body (D' := D) hZ2 nd3 u2 ?_
      cases eb : body ρ3 with
      | none => rw [eb] at e3; exact e3
      | some o =>
        rw [eb] at e3
        have step : ∀ {ρ4 : En}, SZ P mg W F2 H2 A3 B1 σ3 (forL t body (ds.drop (i + 1)) ρ4) D → ∀ σ4 F4 H4 A4, StR F4 H4 ρ4 σ4 A4 → Tr F2 H2 (A3 ++ B1) F4 H4 (A4 ++ B1) → (A4 ++ B1).Nodup → (∀ b ∈ B1, H4 b = H2 b) → (∀ b ∈ B1, F4 b = none) → Pk P σ3 σ4 →
            ∃ F' ρ' A', StR F' H4 ρ' σ4 A' ∧ Same F1 F' ∧ (∀ b ∈ B1, H4 b = H1 b) ∧ (A' ++ B1).Nodup ∧ (∀ b ∈ B1, F' b = none) ∧ SZ P mg W F' H4 A' B1 σ4 (forL t body (ds.drop (i + 1)) ρ') D := fun {ρ4} e3 σ4 F4 H4 A4 s4 t4 n4 z4 f4 p4 =>
          ⟨F4, ρ4, A4, s4, (sf.trans t2.ff).trans t4.ff, fun b hbb => (z4 b hbb).trans (hb2 b hbb), n4, f4, SZ.later t4 z4 p4 e3⟩
        cases o with
        | nx ρ4 => exact step e3
        | ct ρ4 => exact step e3
        | bk ρ4 => exact e3
        | rt k d ρ4 => exact e3
        | ex x ρ4 => exact e3
  · obtain ⟨F', ρ', A', s', sf, _, nd', fr', e'⟩ := q
    rw [List.drop_length] at e'
    exact e' σ' F' H' A' s' Tr.refl nd' (fun _ _ => rfl) fr' Pk.refl
theorem sD_for {it : M (List KD)} {t : Tg} {body : S} (h : sD P mg W (forS it t body) D σ H) : tFor (tI mg W it) (gD P t) (sD P mg W body) D σ H := by
  obtain ⟨F, ρ, A, s, e⟩ := h
  exact ⟨F, ρ, A, s, SEnd.then e fun ds ρ1 J F1 H1 A1 B1 s1 r nd fr t1 h => for_core s1 r.1 r.2 nd fr (SEnd.toZ h)⟩
theorem sD_while {c : M Bool} {body : S} (h : sD P mg W (whileS c body) D σ H) : tWhile (tB mg W c) (sD P mg W body) D σ H := by
  obtain ⟨F, ρ, A, s, e⟩ := h
  unfold whileS at e
  split at e
  · rename_i hx
    refine ⟨fun m σ' H' => ∃ F' ρ' A', StR F' H' ρ' σ' A' ∧ SEnd P mg W F' H' A' σ' (whileN m c body ρ') D, ⟨_, F, ρ, A, s, e⟩, fun m σ' H' q => ?_⟩
    obtain ⟨F', ρ', A', s', e'⟩ := q
    cases m with
    | zero => exact e'.elim
    | succ m =>
      refine ⟨F', ρ', A', s', SEnd.then e' fun b ρ1 b' F1 H1 A1 B1 s1 r _ _ _ h => ?_⟩
      obtain ⟨rfl, rfl⟩ := r
      rw [List.append_nil] at h
      cases b' with
      | false => exact h σ' F1 H1 A1 s1 Tr.refl Pk.refl
      | true =>
        have h2 : SEnd P mg W F1 H1 A1 σ' (match body ρ1 with
          | some (.nx ρ2) => whileN m c body ρ2
          | some (.ct ρ2) => whileN m c body ρ2
          | some (.bk ρ2) => some (.nx ρ2)
          | x => x) D := h
        show ∃ N : L2.St → Hp → Prop, _ ∧ _
        refine ⟨fun σ2 H2 => ∃ F2 ρ2 A2, StR F2 H2 ρ2 σ2 A2 ∧ SEnd P mg W F2 H2 A2 σ2 (whileN m c body ρ2) D, fun σ2 H2 q => ⟨m, Nat.lt_succ_self m, q⟩, F1, ρ1, A1, s1, ?_⟩
        cases eb : body ρ1 with
        | none => rw [eb] at h2; exact h2
        | some o =>
          rw [eb] at h2
          cases o with
          | nx ρ4 => exact fun σ4 F4 H4 A4 s4 t4 p4 => ⟨F4, ρ4, A4, s4, SEnd.later t4 p4 h2⟩
          | ct ρ4 => exact fun σ4 F4 H4 A4 s4 t4 p4 => ⟨F4, ρ4, A4, s4, SEnd.later t4 p4 h2⟩
          | bk ρ4 => exact h2
          | rt k d ρ4 => exact h2
          | ex x ρ4 => exact h2
  · exact e.elim
theorem whileN_succ {c : M Bool} {body : S} : ∀ {n : Nat} {ρ : En} {r : SO}, whileN n c body ρ = some r → whileN (n + 1) c body ρ = some r
  | 0, _, _, h => by cases h
  | n + 1, ρ, r, h => by
    unfold whileN thenS at h ⊢
    cases ec : c ρ with
    | none => rw [ec] at h; cases h
    | some o =>
      rw [ec] at h
      cases o with
      | ex x ρ' => exact h
      | ok b ρ' =>
        cases b with
        | false => exact h
        | true =>
          have h' : (match body ρ' with
            | some (.nx ρ2) => whileN n c body ρ2
            | some (.ct ρ2) => whileN n c body ρ2
            | some (.bk ρ2) => some (.nx ρ2)
            | x => x) = some r := h
          show (match body ρ' with
            | some (.nx ρ2) => whileN (n + 1) c body ρ2
            | some (.ct ρ2) => whileN (n + 1) c body ρ2
            | some (.bk ρ2) => some (.nx ρ2)
            | x => x) = some r
          cases eb : body ρ' with
          | none => rw [eb] at h'; cases h'
          | some o =>
            rw [eb] at h'
            cases o with
            | nx ρ4 => exact whileN_succ h'
            | ct ρ4 => exact whileN_succ h'
            | bk ρ4 => exact h'
            | rt k d ρ4 => exact h'
            | ex x ρ4 => exact h'
theorem whileN_le {c : M Bool} {body : S} {n m : Nat} {ρ : En} {r : SO} (h : whileN n c body ρ = some r) (hm : n ≤ m) : whileN m c body ρ = some r := by
  induction hm with
  | refl => exact h
  | step _ ih => exact whileN_succ ih
theorem whileS_of {c : M Bool} {body : S} {n : Nat} {ρ : En} {r : SO} (h : whileN n c body ρ = some r) : whileS c body ρ = some r := by
  have hx : ∃ n, whileN n c body ρ ≠ none := ⟨n, by rw [h]; simp⟩
  unfold whileS
  rw [dif_pos hx]
  cases e : whileN (Classical.choose hx) c body ρ with
  | none => exact absurd e (Classical.choose_spec hx)
  | some r' =>
    have h1 := whileN_le e (Nat.le_max_left (Classical.choose hx) n)
    have h2 := whileN_le h (Nat.le_max_right (Classical.choose hx) n)
    rw [← h1, h2]
end
section
variable {X : Cx} {P : List Nat} {mg : Str → Option Value} {W : WX} {tg iter e : Expr} {bs : List Stmt} {it : M (List KD)} {t : Tg} {f : S} {c : M Bool} {pos : Pos}
def notSet : Expr → Bool
  | .Set _ _ _ => false
  | _ => true
theorem folded_no {e : Expr} {env : PySem.Env} (h : notSet e = true) : ∀ x, foldedSetIterable e env x = pure x := by
  intro x
  cases e <;> first | rfl | (simp [notSet] at h)
theorem ps_forS (hp : PassesOwn (model X.prog X.w) X.A X.env X.xe) (hc : X.calm = true) (hi : PI X tg iter (tI mg W it)) (hg : PG X tg (gD P t)) (hb : PSs X bs (sD P mg W f)) (hs : notSet iter = true) : PS X (.For tg iter bs [] pos) (sD P mg W (forS it t f)) :=
  (ps_for hp hc hi hg hb (folded_no hs)).imp fun _ _ _ h => sD_for h
theorem ps_whileS (hp : PassesOwn (model X.prog X.w) X.A X.env X.xe) (hc : PT X e (tB mg W c)) (hb : PSs X bs (sD P mg W f)) : PS X (.While e bs [] pos) (sD P mg W (whileS c f)) :=
  (ps_while hp hc hb).imp fun _ _ _ h => sD_while h
end
end DN

set_option Elab.async false
set_option linter.all false
set_option maxRecDepth 100000
set_option maxHeartbeats 4000000
/-! DN, part K: methods of built-in values; lists and dicts that change. -/
namespace DN
open PySem PySem.Spec PyProof.Rows L2
variable [KSeq]

/-- a method's call: the receiver is of the class T; then the arguments; then g over the receiver and them -/
def mthE (T : String) (o : Opd) (os : List Opd) (g : List Opv → M KD) : M KD := fun ρ => bnd (evs [o] ρ) fun xs => fun ρ1 => match kdsOf ρ1 xs with
  | some [kd] => if (kd.2.ty == T) = true then bnd (evs os ρ1) fun ys => g (xs ++ ys) else none
  | _ => none
section
variable {mg : Str → Option Value} {W : WX} {F H : Hp} {A B : List Addr} {ρ : En} {σ : L2.St}
theorem OpsR.append : ∀ {vs us : List V} {xs ys : List Opv} {B C : List Addr}, OpsR F H σ vs xs B → OpsR F H σ us ys C → OpsR F H σ (vs ++ us) (xs ++ ys) (B ++ C)
  | _, _, _, _, _, _, .nil, s => s
  | _, _, _, _, _, _, .bor h r, s => .bor h (OpsR.append r s)
  | _, _, _, _, _, _, .val (A := A) (B := B) h r, s => by
    rw [List.append_assoc]
    exact .val h (OpsR.append r s)
theorem tMth {T : String} {o : Opd} {os : List Opd} {g : List Opv → M KD} {r : List V → Hp → VK → Prop} (hr : OpS mg W r g) {Q : VK} (h : tD mg W (mthE T o os g) σ H Q) :
    tOpd mg W o σ H fun x H1 => (∃ d, d.ty = T ∧ Own H1 H1 0 x d []) ∧ tOs mg W os σ H1 fun vs H2 => r (x :: vs) H2 Q := by
  obtain ⟨F, ρ, A, s, e⟩ := h
  have key : tOs mg W [o] σ H fun xs H1 => ∃ x, xs = [x] ∧ (∃ d, d.ty = T ∧ Own H1 H1 0 x d []) ∧ tOs mg W os σ H1 fun vs H2 => r (x :: vs) H2 Q := by
    refine ⟨F, ρ, A, s, End.bind e fun xs ρ1 us F1 H1 A1 B1 _ s1 os1 nd fr t h => ?_⟩
    split at h
    · rename_i kd ek
      split at h
      · rename_i hT
        obtain ⟨x, A', rfl, ox⟩ := (vw_of s1 os1 ek).one
        refine ⟨x, rfl, ⟨kd.2, by simpa using hT, Own.read s1.sub ox⟩, F1, ρ1, A1, s1, ?_⟩
        refine End.held t (OpsR.there os1) nd fr h fun ys ρ2 vs F2 H2 A2 B2 s2 os2 nd2 fr2 frB e1 e2 t2 h2 => ?_
        have os12 : OpsR F2 H2 σ ([x] ++ vs) (xs ++ ys) (B1 ++ B2) := OpsR.append (OpsR.carry e1 os1 e2) os2
        refine hr F2 H2 A2 (B1 ++ B2) σ ρ2 _ _ Q s2 os12 ?_ (fun b hb => (List.mem_append.mp hb).elim (frB b) (fr2 b)) (End.later (t2.sub fun b hb => ?_) h2)
        · have p : (A2 ++ (B1 ++ B2)).Perm (A2 ++ B2 ++ B1) := by
            rw [List.append_assoc]
            exact List.Perm.append_left _ List.perm_append_comm
          exact p.nodup_iff.mpr nd2
        · simp only [List.mem_append] at hb ⊢
          rcases hb with hb | hb | hb
          · exact .inl (.inl hb)
          · exact .inr hb
          · exact .inl (.inr hb)
      · exact h.elim
    · exact h.elim
  exact tOpd_mono (fun v H1 q => by
    obtain ⟨x, ex, q1, q2⟩ := q
    cases ex
    exact ⟨q1, q2⟩) (tOs_one key)
theorem tyV_of {K : PySem.W.Frag} {T : String} {x : V} {d : D} (hT : d.ty = T) (ht : T ≠ "tuple") (o : Own H H 0 x d []) (hk : T = "str" ∨ T = "list" ∨ T = "dict") : tyV K T x H := by
  cases o with
  | str z => exact hT.symm
  | lfz h1 h2 => exact .inl ⟨hT.symm, _, .of h1⟩
  | seq h1 h2 => subst hT; simp [D.ty] at hk
  | dfz h1 h2 h3 =>
    refine .inr (.inr (.inl ⟨hT.symm, ?_⟩))
    rcases h2.2 with ⟨kv, rfl, _⟩ | ⟨kv, rfl, _⟩
    · exact .inl ⟨_, h1⟩
    · exact .inr ⟨_, h1⟩
  | tup _ _ => exact absurd hT.symm ht
  | non => subst hT; simp [D.ty] at hk
  | bl => subst hT; simp [D.ty] at hk
  | int => subst hT; simp [D.ty] at hk
end
section
variable {X : Cx} {mg : Str → Option Value} {W : WX} {o e : Expr} {es : List Expr} {oo : Opd} {os : List Opd} {name : Str} {apos cpos : Pos} {T id : String} {r : V → List V → Hp → VK → Prop} {g : List Opv → M KD}
/-- the receiver first -/
def rMth (r : V → List V → Hp → VK → Prop) : List V → Hp → VK → Prop := fun vs H Q => match vs with
  | x :: us => r x us H Q
  | [] => False
def goodT (T : String) : Bool := T == "str" || T == "list" || T == "dict"
theorem goodT_of (h : goodT T = true) : T ≠ "tuple" ∧ (T = "str" ∨ T = "list" ∨ T = "dict") := by
  unfold goodT at h
  simp only [Bool.or_eq_true, beq_iff_eq] at h
  rcases h with (h | h) | h <;> subst h <;> simp
theorem pe_mthS0 (pa : PlainAttrs T) (slot : Slot T name id) (hty : typeOf (.builtin id) = pure (.type "method_descriptor")) (hm : MtR X id r) (hT : goodT T = true) (hg : OpS mg W (rMth r) g) (ho : OpdOk X mg W o oo)
    (hbase : attributeBase o name X.env (eval o X.env) = eval o X.env) (hline : (apos.endLine == cpos.line) = true) : PE X (.Call (.Attribute o name apos) [] [] cpos) (tD mg W (mthE T oo [] g)) := by
  refine (pe_bm0 pa slot hty hm (opd_pe ho) hbase hline).imp fun σ H Q h => tOpd_mono (fun x H1 q => ?_) (tMth hg h)
  obtain ⟨⟨d, hd, od⟩, q⟩ := q
  exact ⟨tyV_of hd (goodT_of hT).1 od (goodT_of hT).2, (tOs_nil q : tNil σ H1 fun vs H2 => rMth r (x :: vs) H2 Q)⟩
def fewArgs (es : List Expr) : Bool := decide (es.length < 30)
theorem few_of {X : Cx} {es : List Expr} {cpos : Pos} (h : es.all notStar = true) : ((backTo cpos (starEach es X.env)).all (fun x => !x.1)) = true ∧ (backTo cpos (starEach es X.env)).any (·.1) = false := by
  induction es with
  | nil => exact ⟨rfl, rfl⟩
  | cons e es ih =>
    simp only [List.all_cons, Bool.and_eq_true] at h
    rw [starEach_of h.1]
    obtain ⟨h1, h2⟩ := ih h.2
    constructor
    · show (!false && (backTo cpos (starEach es X.env)).all fun x => !x.1) = true
      rw [h1]; rfl
    · show (false || (backTo cpos (starEach es X.env)).any (·.1)) = false
      rw [h2]; rfl
theorem pe_mthS (pa : PlainAttrs T) (slot : Slot T name id) (hty : typeOf (.builtin id) = pure (.type "method_descriptor")) (hm : MtR X id r) (hT : goodT T = true) (hg : OpS mg W (rMth r) g) (ho : OpdOk X mg W o oo) (ha : Paired (OpdOk X mg W) (e :: es) os)
    (hst : (e :: es).all notStar = true) (hlen : fewArgs (e :: es) = true)
    (hbase : attributeBase o name X.env (eval o X.env) = eval o X.env) (hline : (apos.endLine == cpos.line) = true) : PE X (.Call (.Attribute o name apos) (e :: es) [] cpos) (tD mg W (mthE T oo os g)) := by
  have hst' := hst
  simp only [List.all_cons, Bool.and_eq_true] at hst'
  refine (pe_bm pa slot hty hm (opd_pe ho) (pa_of ha) hbase ?_ hline (starEach_of hst'.1) (few_of hst'.2).2).imp fun σ H Q h => tOpd_mono (fun x H1 q => ?_) (tMth hg h)
  · rw [(few_of (X := X) (cpos := cpos) hst).1]
    unfold fewArgs at hlen
    simpa [backToKw, keywordEach] using hlen
  · obtain ⟨⟨d, hd, od⟩, q⟩ := q
    exact ⟨tyV_of hd (goodT_of hT).1 od (goodT_of hT).2, q⟩
/-- receivers whose attribute is looked up plainly -/
def plainBase : Expr → Bool
  | .Call (.Name id _) [] [] _ => id != ("super" : Str)
  | _ => true
theorem base_of {o : Expr} {m : Str} {env : PySem.Env} {whole : Sem Value} (h : plainBase o = true) : attributeBase o m env whole = whole := by
  unfold attributeBase
  split
  · rename_i id _ _
    have hid : (id != ("super" : Str)) = true := h
    rw [hid]
    rfl
  · rfl
end

/-! ### what may be changed: a name's own list or dict -/
def joinLv (k : Nat) (ok : Bool) (kv : Nat) (dv : D) : Option Nat := if dv.imm = true then some k else if ok = true then some kv else if k = kv then some k else none
section
variable {mg : Str → Option Value} {W : WX} {F H : Hp} {A B : List Addr} {ρ : En} {σ : L2.St}
theorem set_same {σ : L2.St} {i : Nat} {v : V} (h : σ[i]? = some (some v)) : σ.set i (some v) = σ := by
  obtain ⟨hi, e⟩ := List.getElem?_eq_some_iff.mp h
  rw [← e]
  exact List.set_getElem_self hi
theorem StR.lstAt (s : StR F H ρ σ A) {i k : Nat} {ds : List D} (e : ρ[i]? = some (some (k + 1, .lst ds))) : ∃ a vs A1 A' A2, A = A1 ++ ((a :: A') ++ A2) ∧ σ[i]? = some (some (.ref a)) ∧ H a = some (.lst vs) ∧ Owns F H k vs ds A' ∧
    ∀ us k' ds' A'', Owns F H k' us ds' A'' → (A1 ++ ((a :: A'') ++ A2)).Nodup → (∀ b ∈ A'', F b = none) → StR F (upd H a (.lst us)) (ρ.set i (some (k' + 1, .lst ds'))) σ (A1 ++ ((a :: A'') ++ A2)) := by
  have hi : i < ρ.length := (List.getElem?_eq_some_iff.mp e).1
  obtain ⟨A1, Ai, A2, rfl, h1, h2, _⟩ := EnvR.split s.env hi
  obtain ⟨v, ev, o⟩ := h1 _ _ e
  cases o with
  | @low _ a vs _ A' g1 g2 =>
    refine ⟨a, vs, A1, A', A2, rfl, ev, g1, g2, fun us k' ds' A'' ow nd fr => ?_⟩
    have fa : F a = none := s.fr a (by simp)
    have na : ∀ b ∈ A1 ++ A2, b ≠ a := fun b hb z => by
      have n := s.nd
      subst z
      simp only [List.nodup_append, List.mem_append, List.cons_append, List.mem_cons, List.nodup_cons] at n hb
      rcases hb with hb | hb
      · exact n.2.2 b hb b (.inl rfl) rfl
      · exact n.2.1.1 (.inr hb)
    have na2 : a ∉ A'' := by
      simp only [List.nodup_append, List.mem_append, List.cons_append, List.mem_cons, List.nodup_cons] at nd
      exact fun z => nd.2.1.1 (.inl z)
    have o2 : Own F (upd H a (.lst us)) (k' + 1) (.ref a) (.lst ds') (a :: A'') := .low upd_same (Owns.carry (Same.refl _) _ _ _ _ ow fun b hb => upd_ne fun z => na2 (z ▸ hb))
    have env := h2 F (upd H a (.lst us)) _ (.ref a) _ _ (Same.refl _) (fun b hb => upd_ne (na b hb)) o2
    rw [set_same ev] at env
    refine ⟨fun b ob eb => ?_, env, nd, fun b hb => ?_⟩
    · rw [upd_ne (fun z => by rw [z, fa] at eb; cases eb)]
      exact s.sub b ob eb
    · simp only [List.mem_append, List.cons_append, List.mem_cons] at hb
      rcases hb with hb | hb | hb | hb
      · exact s.fr b (by simp [hb])
      · rw [hb]; exact fa
      · exact fr b hb
      · exact s.fr b (by simp [hb])
/-- the step of a change at a -/
theorem tr_upd {a : Addr} {ob : HO} {A' : List Addr} (ha : a ∈ A) (h : ∀ b ∈ A', b ∈ A) : Tr F H A F (upd H a ob) A' := by
  refine ⟨Same.refl _, fun b o e n _ => ?_, fun b ps e n => ⟨ps, ?_⟩, fun b hb => .inl (h b hb), fun b o e n => by rw [n] at e; cases e⟩
  · rw [upd_ne (fun z => n (by rw [z]; exact ha))]; exact e
  · rw [upd_ne (fun z => n (by rw [z]; exact ha))]; exact e
theorem join_own {k : Nat} {ds : List D} {vs : List V} {A' : List Addr} {kv : Nat} {dv : D} {v : V} {B' : List Addr} {k' : Nat} (h : joinLv k (D.immAll ds) kv dv = some k') (o : Owns F H k vs ds A') (ov : Own F H kv v dv B') : Owns F H k' vs ds A' ∧ Own F H k' v dv B' := by
  unfold joinLv at h
  split at h
  · rename_i hd
    cases h
    obtain ⟨rfl, hv⟩ := Own.imm _ _ _ _ ov hd
    exact ⟨o, hv _ _⟩
  · split at h
    · rename_i hds
      cases h
      obtain ⟨rfl, hv⟩ := Owns.imm _ _ _ _ o hds
      exact ⟨hv _ _, ov⟩
    · split at h
      · rename_i hk
        cases h
        subst hk
        exact ⟨o, ov⟩
      · cases h
theorem Owns.snoc : ∀ {ds : List D} {k : Nat} {vs : List V} {A' : List Addr} {d : D} {v : V} {B' : List Addr}, Owns F H k vs ds A' → Own F H k v d B' → Owns F H k (vs ++ [v]) (ds ++ [d]) (A' ++ B')
  | [], _, _, _, _, _, B', h, o => by
    cases h
    have := Owns.cons o Owns.nil
    simpa using this
  | d :: ds, _, _, _, _, _, B', h, o => by
    cases h with
    | cons h1 h2 =>
      rw [List.append_assoc]
      exact .cons h1 (Owns.snoc h2 o)
end

/-! ### append -/
def appG : List Opv → M KD
  | [.b i, .v kv dv] => fun ρ => match ρ[i]? with
    | some (some (k + 1, .lst ds)) => if ds.length < lineN then (match joinLv k (D.immAll ds) kv dv with
      | some k' => M.ret (9, .non) (ρ.set i (some (k' + 1, .lst (ds ++ [dv]))))
      | none => none) else none
    | _ => none
  | _ => M.fail
section
variable {mg : Str → Option Value} {W : WX}
theorem appG_ok : OpS mg W (rMth rAppend) appG := by
  intro F H A B σ ρ vs xs Q s o nd fr e
  cases o with
  | nil => exact e.elim
  | val _ _ => exact e.elim
  | bor ev r =>
    cases r with
    | nil => exact e.elim
    | bor _ _ => exact e.elim
    | @val kv dv y vs2 xs2 B1 B2 ov r2 =>
      cases r2 with
      | bor _ _ => exact e.elim
      | val _ _ => exact e.elim
      | nil =>
        rename_i i x
        simp only [appG] at e
        split at e
        · rename_i k ds ek
          split at e
          · rename_i hl
            split at e
            · rename_i k' ej
              obtain ⟨a, us, A1, A', A2, rfl, ea, eh, ow, mk⟩ := s.lstAt ek
              rw [ev] at ea
              cases ea
              obtain ⟨ow2, ov2⟩ := join_own ej ow ov
              have ow3 := Owns.snoc ow2 ov2
              have nd' := nd
              simp only [List.append_nil] at nd' fr e
              have ndn : (A1 ++ ((a :: (A' ++ B1)) ++ A2)).Nodup := by
                have p : (A1 ++ ((a :: (A' ++ B1)) ++ A2)).Perm (A1 ++ ((a :: A') ++ A2) ++ B1) := by
                  simp only [List.append_assoc, List.cons_append]
                  refine List.Perm.append_left _ (List.Perm.cons _ (List.Perm.append_left _ ?_))
                  exact List.perm_append_comm
                exact p.nodup_iff.mpr nd'
              have s2 := mk (us ++ [y]) k' (ds ++ [dv]) (A' ++ B1) ow3 ndn fun b hb => (List.mem_append.mp hb).elim (fun z => s.fr b (by simp [z])) (fr b)
              refine ⟨a, us, y, rfl, rfl, eh, by rw [ow.length, ← lineN_eq]; exact hl, ?_⟩
              refine e .non F (upd H a (.lst (us ++ [y]))) _ [] s2 .non (by simpa using s2.nd) (fun _ z => nomatch z) (tr_upd (by simp) fun b hb => ?_)
              simp only [List.mem_append, List.cons_append, List.mem_cons, List.append_nil] at hb ⊢
              rcases hb with hb | hb | (hb | hb) | hb <;> simp [hb]
            · exact e.elim
          · exact e.elim
        · exact e.elim
end
end DN

set_option Elab.async false
set_option linter.all false
set_option maxRecDepth 100000
set_option maxHeartbeats 4000000
/-! DN, part L: changes: pop, stores into lists and dicts, one step down. -/
namespace DN
open PySem PySem.Spec PyProof.Rows L2
variable [KSeq]

section
variable {mg : Str → Option Value} {W : WX} {F H : Hp} {A B : List Addr} {ρ : En} {σ : L2.St}
theorem Owns.split : ∀ {ds : List D} {k : Nat} {vs : List V} {A : List Addr} {j : Nat} {d : D}, Owns F H k vs ds A → ds[j]? = some d → ∃ A1 B A2 v, A = A1 ++ (B ++ A2) ∧ vs[j]? = some v ∧ Own F H k v d B ∧
    (Owns F H k (vs.eraseIdx j) (ds.eraseIdx j) (A1 ++ A2)) ∧
    ∀ F' H' v' d' B', Same F F' → (∀ b ∈ A1 ++ A2, H' b = H b) → Own F' H' k v' d' B' → Owns F' H' k (vs.set j v') (ds.set j d') (A1 ++ (B' ++ A2))
  | [], _, _, _, _, _, _, e => by simp at e
  | d :: ds, k, _, _, 0, _, h, e => by
    cases h with
    | @cons _ v vs _ _ A B h1 h2 =>
      simp at e
      subst e
      exact ⟨[], A, B, v, rfl, rfl, h1, h2, fun F' H' v' d' B' e w o => (show Owns F' H' k (v' :: vs) (d' :: ds) (B' ++ B) from .cons o (Owns.carry e _ _ _ _ h2 w))⟩
  | d :: ds, k, _, _, j + 1, _, h, e => by
    cases h with
    | @cons _ v vs _ _ A B h1 h2 =>
      obtain ⟨A1, C, A2, v2, rfl, e2, o2, o3, mk⟩ := Owns.split (j := j) h2 (by simpa using e)
      refine ⟨A ++ A1, C, A2, v2, by simp, by simpa using e2, o2, ?_, fun F' H' v' d' B' e w o => ?_⟩
      · rw [List.append_assoc]
        exact .cons h1 o3
      · rw [List.append_assoc]
        exact .cons (Own.carry e _ _ _ _ h1 fun b hb => w b (by simp [hb])) (mk F' H' v' d' B' e (fun b hb => w b (by simp at hb ⊢; rcases hb with hb | hb <;> simp [hb])) o)
end

/-! ### pop -/
def idxOf (n : Nat) (i : Int) : Option Nat := ixN n i
def popAtG : List Opv → M KD
  | [.b s, .v _ (.int i)] => fun ρ => match ρ[s]? with
    | some (some (k + 1, .lst ds)) => (match ixN ds.length i with
      | some j => (match ds[j]? with
        | some d => if (decide (-(9223372036854775808 : Int) ≤ i) && decide (i < 9223372036854775808)) = true then M.ret (if d.imm = true then 9 else k, d) (ρ.set s (some (k + 1, .lst (ds.eraseIdx j)))) else none
        | none => none)
      | none => none)
    | _ => none
  | _ => M.fail
def popG : List Opv → M KD
  | [.b s] => fun ρ => match ρ[s]? with
    | some (some (k + 1, .lst ds)) => (match ds[ds.length - 1]? with
        | some d => M.ret (if d.imm = true then 9 else k, d) (ρ.set s (some (k + 1, .lst ds.dropLast)))
        | none => none)
    | _ => none
  | _ => M.fail
section
variable {mg : Str → Option Value} {W : WX} {F H : Hp} {A B : List Addr} {ρ : En} {σ : L2.St}
/-- an item is taken out of an owned list -/
theorem take_out {s k j : Nat} {ds : List D} {d : D} {Q : VK} {a : Addr} {us : List V} {A1 A' A2 : List Addr} (S : StR F H ρ σ (A1 ++ ((a :: A') ++ A2)))
    (mk : ∀ us k' ds' A'', Owns F H k' us ds' A'' → (A1 ++ ((a :: A'') ++ A2)).Nodup → (∀ b ∈ A'', F b = none) → StR F (upd H a (.lst us)) (ρ.set s (some (k' + 1, .lst ds'))) σ (A1 ++ ((a :: A'') ++ A2)))
    (ow : Owns F H k us ds A') (ed : ds[j]? = some d) : ∃ y, us[j]? = some y ∧
    (End mg W F H (A1 ++ ((a :: A') ++ A2)) σ (M.ret (if d.imm = true then 9 else k, d) (ρ.set s (some (k + 1, .lst (ds.eraseIdx j))))) rKD Q → Q y (upd H a (.lst (us.eraseIdx j)))) := by
  obtain ⟨C1, B, C2, y, rfl, ey, oy, orest, _⟩ := Owns.split ow ed
  refine ⟨y, ey, fun e => ?_⟩
  have nd := S.nd
  have pp : (A1 ++ ((a :: (C1 ++ C2)) ++ A2) ++ B).Perm (A1 ++ ((a :: (C1 ++ (B ++ C2))) ++ A2)) := by
    simp only [List.append_assoc, List.cons_append]
    refine List.Perm.append_left _ (List.Perm.cons _ (List.Perm.append_left _ ?_))
    have : (C2 ++ (A2 ++ B)).Perm (B ++ (C2 ++ A2)) := by
      rw [← List.append_assoc]
      exact List.perm_append_comm
    exact this
  have nd2 : (A1 ++ ((a :: (C1 ++ C2)) ++ A2) ++ B).Nodup := pp.nodup_iff.mpr nd
  have nd3 : (A1 ++ ((a :: (C1 ++ C2)) ++ A2)).Nodup := (List.nodup_append.mp nd2).1
  have s2 := mk (us.eraseIdx j) k (ds.eraseIdx j) (C1 ++ C2) orest nd3 fun b hb => S.fr b (by simp at hb ⊢; rcases hb with hb | hb <;> simp [hb])
  have nB : ∀ b ∈ B, b ≠ a := fun b hb z => (List.nodup_append.mp nd2).2.2 a (by simp) b hb z.symm
  have oy2 : Own F (upd H a (.lst (us.eraseIdx j))) (if d.imm = true then 9 else k) y d B := by
    have o1 : Own F (upd H a (.lst (us.eraseIdx j))) k y d B := Own.carry (Same.refl _) _ _ _ _ oy fun b hb => upd_ne (nB b hb)
    by_cases hd : d.imm = true
    · rw [if_pos hd]
      obtain ⟨rfl, q⟩ := Own.imm _ _ _ _ o1 hd
      exact q 9 _
    · rw [if_neg hd]; exact o1
  exact e y F (upd H a (.lst (us.eraseIdx j))) _ B s2 oy2 nd2 (fun b hb => S.fr b (by simp [hb])) (tr_upd (by simp) fun b hb => pp.subset hb)
theorem popAtG_ok : OpS mg W (rMth rPopAt) popAtG := by
  intro F H A B σ ρ vs xs Q s o nd fr e
  cases o with
  | nil => exact e.elim
  | val _ _ => exact e.elim
  | bor ev r =>
    cases r with
    | nil => exact e.elim
    | bor _ _ => exact e.elim
    | @val kv dv y vs2 xs2 B1 B2 ov r2 =>
      cases r2 with
      | bor _ _ => cases dv <;> exact e.elim
      | val _ _ => cases dv <;> exact e.elim
      | nil =>
        cases dv with
        | int i =>
          rename_i sl x
          obtain rfl := ov.int_eq
          cases ov
          simp only [popAtG] at e
          split at e
          · rename_i k ds ek
            split at e
            · rename_i j ej
              split at e
              · rename_i d ed
                split at e
                · rename_i hb
                  simp only [Bool.and_eq_true, decide_eq_true_eq] at hb
                  obtain ⟨a, us, A1, A', A2, rfl, ea, eh, ow, mk⟩ := s.lstAt ek
                  rw [ev] at ea
                  cases ea
                  obtain ⟨y, ey, q⟩ := take_out (mg := mg) (W := W) (Q := Q) s mk ow ed
                  refine ⟨a, us, i, j, y, rfl, rfl, eh, by omega, by omega, ?_, ey, q (by simpa using e)⟩
                  rw [ow.length]
                  exact (ixN_seq ej).1
                · exact e.elim
              · exact e.elim
            · exact e.elim
          · exact e.elim
        | _ => exact e.elim
theorem dropLast_erase {α : Type} (l : List α) : l.eraseIdx (l.length - 1) = l.dropLast := List.eraseIdx_length_sub_one
theorem popG_ok : OpS mg W (rMth rPop) popG := by
  intro F H A B σ ρ vs xs Q s o nd fr e
  cases o with
  | nil => exact e.elim
  | val _ _ => exact e.elim
  | bor ev r =>
    cases r with
    | bor _ _ => exact e.elim
    | val _ _ => exact e.elim
    | nil =>
      rename_i sl x
      simp only [popG] at e
      split at e
      · rename_i k ds ek
        split at e
        · rename_i d ed
          obtain ⟨a, us, A1, A', A2, rfl, ea, eh, ow, mk⟩ := s.lstAt ek
          rw [ev] at ea
          cases ea
          obtain ⟨y, ey, q⟩ := take_out (mg := mg) (W := W) (Q := Q) s mk ow ed
          have el := ow.length
          refine ⟨a, us, y, rfl, rfl, eh, by rw [el]; exact ey, ?_⟩
          rw [← dropLast_erase us, el]
          refine q ?_
          rw [dropLast_erase ds]
          simpa using e
        · exact e.elim
      · exact e.elim
end

/-! ### dicts: a key's value is put -/
def putD (kvs : List (DK × D)) (q : DK) (d : D) : List (DK × D) := if (kvs.any fun p => decide (p.1 = q)) = true then kvs.map fun p => if p.1 = q then (p.1, d) else p else kvs ++ [(q, d)]
def DK.isK : DK → Bool
  | .k _ => true
  | .t _ => false
/-- all keys of one kind -/
def kindOk (kvs : List (DK × D)) (q : DK) : Bool := kvs.all fun p => p.1.isK == q.isK
def immKs (kvs : List (DK × D)) : Bool := kvs.all fun p => p.2.imm
section
variable {mg : Str → Option Value} {W : WX} {F H : Hp} {A B : List Addr} {ρ : En} {σ : L2.St}
theorem OwnK.imm : ∀ {kvs : List (DK × D)} {k : Nat} {kvv : List (DK × V)} {A : List Addr}, OwnK F H k kvv kvs A → immKs kvs = true → A = [] ∧ ∀ j H', OwnK F H' j kvv kvs []
  | [], _, _, _, h, _ => by cases h; exact ⟨rfl, fun _ _ => .nil⟩
  | (q, d) :: r, _, _, _, h, m => by
    cases h with
    | cons h1 h2 =>
      unfold immKs at m
      rw [List.all_cons, Bool.and_eq_true] at m
      obtain ⟨e1, q1⟩ := Own.imm _ _ _ _ h1 m.1
      obtain ⟨e2, q2⟩ := OwnK.imm h2 m.2
      subst e1; subst e2
      exact ⟨rfl, fun j H' => .cons (A := []) (B := []) (q1 j H') (q2 j H')⟩
theorem OwnK.length : ∀ {kvs : List (DK × D)} {k : Nat} {kvv : List (DK × V)} {A : List Addr}, OwnK F H k kvv kvs A → kvv.length = kvs.length
  | [], _, _, _, h => by cases h; rfl
  | (q, d) :: r, _, _, _, h => by
    cases h with
    | cons h1 h2 => simp [OwnK.length h2]
theorem OwnK.keys : ∀ {kvs : List (DK × D)} {k : Nat} {kvv : List (DK × V)} {A : List Addr}, OwnK F H k kvv kvs A → kvv.map (·.1) = kvs.map (·.1)
  | [], _, _, _, h => by cases h; rfl
  | (q, d) :: r, _, _, _, h => by
    cases h with
    | cons h1 h2 => simp [OwnK.keys h2]
/-- the entry at a key: what it owns, and what may be put there -/
theorem OwnK.split : ∀ {kvs : List (DK × D)} {k : Nat} {kvv : List (DK × V)} {A : List Addr} {q : DK} {d : D}, OwnK F H k kvv kvs A → (kvs.map (·.1)).Nodup → valD kvs q = some d → ∃ A1 B A2 v, A = A1 ++ (B ++ A2) ∧ valV kvv q = some v ∧ Own F H k v d B ∧
    ∀ F' H' v' d' B', Same F F' → (∀ b ∈ A1 ++ A2, H' b = H b) → Own F' H' k v' d' B' → OwnK F' H' k (kvv.map fun p => if p.1 = q then (p.1, v') else p) (kvs.map fun p => if p.1 = q then (p.1, d') else p) (A1 ++ (B' ++ A2))
  | [], _, _, _, _, _, _, _, e => by simp [valD] at e
  | (q0, d0) :: r, k, _, _, q, d, h, nk, e => by
    cases h with
    | @cons _ _ v vs _ _ A B h1 h2 =>
      rw [List.map_cons, List.nodup_cons] at nk
      by_cases hq : q0 = q
      · subst hq
        have ed : d0 = d := by simpa [valD] using e
        subst ed
        have same : ∀ {α : Type} (l : List (DK × α)) (z : α), q0 ∉ l.map (·.1) → (l.map fun p => if p.1 = q0 then (p.1, z) else p) = l := fun l z hn => by
          induction l with
          | nil => rfl
          | cons p r ih =>
            rw [List.map_cons, List.mem_cons, not_or] at hn
            rw [List.map_cons, if_neg (fun z => hn.1 z.symm), ih hn.2]
        refine ⟨[], A, B, v, rfl, valV_pos rfl, h1, fun F' H' v' d' B' e w o => ?_⟩
        have kn : vs.map (·.1) = r.map (·.1) := OwnK.keys h2
        rw [List.map_cons, List.map_cons, if_pos rfl, if_pos rfl, same vs v' (by rw [kn]; exact nk.1), same r d' nk.1]
        exact (show OwnK F' H' k ((q0, v') :: vs) ((q0, d') :: r) (B' ++ B) from .cons o (OwnK.carry e _ _ _ _ h2 w))
      · have e' : valD r q = some d := by simpa [valD, List.find?_cons, hq] using e
        obtain ⟨A1, C, A2, v2, rfl, e2, o2, mk⟩ := OwnK.split h2 nk.2 e'
        refine ⟨A ++ A1, C, A2, v2, by simp, by rw [valV_neg hq]; exact e2, o2, fun F' H' v' d' B' e w o => ?_⟩
        rw [List.append_assoc, List.map_cons, List.map_cons, if_neg hq, if_neg hq]
        exact .cons (Own.carry e _ _ _ _ h1 fun b hb => w b (by simp [hb])) (mk F' H' v' d' B' e (fun b hb => w b (by simp at hb ⊢; rcases hb with hb | hb <;> simp [hb])) o)
theorem OwnK.snoc : ∀ {kvs : List (DK × D)} {k : Nat} {kvv : List (DK × V)} {A' : List Addr} {q : DK} {d : D} {v : V} {B' : List Addr}, OwnK F H k kvv kvs A' → Own F H k v d B' → OwnK F H k (kvv ++ [(q, v)]) (kvs ++ [(q, d)]) (A' ++ B')
  | [], _, _, _, q, _, _, B', h, o => by
    cases h
    have := OwnK.cons (q := q) o (OwnK.nil (F := F) (H := H))
    simpa using this
  | (q0, d0) :: ds, _, _, _, _, _, _, B', h, o => by
    cases h with
    | cons h1 h2 =>
      rw [List.append_assoc]
      exact .cons h1 (OwnK.snoc h2 o)
end
end DN

set_option Elab.async false
set_option linter.all false
set_option maxRecDepth 100000
set_option maxHeartbeats 4000000
/-! DN, part M: stores by places and keys; a loop over what a name owns, the name hidden meanwhile. -/
namespace DN
open PySem PySem.Spec PyProof.Rows L2
variable [KSeq]

/-! ### the empty dict is of both kinds -/
section
variable {X : Cx} {pins : List (Addr × Obj)} {σ : L2.St} {H : Hp} {s : Shared}
theorem inv_toT {a : Addr} (I : L2.Inv X pins σ H s) (h : H a = some (.dK [])) : L2.Inv X pins σ (upd H a (.dT [])) s := by
  obtain ⟨z, ns, vs, rel, dd⟩ := (show ObjOk X.prog X.w H s.heap a (.dK []) from I.hok a _ h)
  have mu : Mut (H a) := by rw [h]; trivial
  cases rel
  obtain ⟨ob, es, ep, e1, e2, e3, e4, e5, _⟩ := dd
  refine Inv.write (x := a) (e := a) (t' := s.toks) I mu (.inl rfl) (fun b u _ q => q) ⟨ob, e1⟩ ?_
  refine ⟨Nat.zero_le _, ns, [], .nil, ob, es, ep, e1, e2, e3, ?_, List.nodup_nil⟩
  cases q : es.toList with
  | nil => rfl
  | cons x r => rw [q] at e5; cases e5
theorem inv_toK {a : Addr} (I : L2.Inv X pins σ H s) (h : H a = some (.dT [])) : L2.Inv X pins σ (upd H a (.dK [])) s := by
  obtain ⟨z, ns, xs, rel, ob, es, ep, e1, e2, e3, e4, e5⟩ := (show ObjOk X.prog X.w H s.heap a (.dT []) from I.hok a _ h)
  have mu : Mut (H a) := by rw [h]; trivial
  cases rel
  refine Inv.write (x := a) (e := a) (t' := s.toks) I mu (.inl rfl) (fun b u _ q => q) ⟨ob, e1⟩ ?_
  have en : es.toList = [] := by simpa using e4
  have em : es = #[] := by rw [← Array.toArray_toList (xs := es), en]
  subst em
  exact ⟨Nat.zero_le _, ns, [], .nil, ob, #[], ep, e1, e2, e3, (fun e he => by simp at he), .nil, List.nodup_nil⟩
end
/-- a[y] = v, the empty dict taken as the key wants it -/
def DPutE (H : Hp) (a : Addr) (y v : V) (H' : Hp) : Prop := DPut H a y v H' ∨ (H a = some (.dK []) ∧ DPut (upd H a (.dT [])) a y v H') ∨ (H a = some (.dT []) ∧ DPut (upd H a (.dK [])) a y v H')
def rSetD : V → V → V → Hp → (Hp → Prop) → Prop := fun o i v H Q => ∃ a H', o = .ref a ∧ DPutE H a i v H' ∧ Q H'
section
variable {X : Cx}
theorem set_dict (hu : X.A.units + 1 < cLine) : PSet X rSetD := by
  intro pins s σ H o i v ov iv u Q I ro ri rv h
  obtain ⟨a, H', rfl, hp, q⟩ := h
  cases ro
  rcases hp with hp | ⟨he, hp⟩ | ⟨he, hp⟩
  · exact d_setItem hu I hp ri rv fun s4 I4 => ⟨H', I4, q⟩
  · exact d_setItem hu (inv_toT I he) hp ri rv fun s4 I4 => ⟨H', I4, q⟩
  · exact d_setItem hu (inv_toK I he) hp ri rv fun s4 I4 => ⟨H', I4, q⟩
theorem _root_.L2.PSet.or {t u : TSet} (h : PSet X t) (h2 : PSet X u) : PSet X (fun o i v H Q => t o i v H Q ∨ u o i v H Q) := by
  intro pins s σ H o i v ov iv w Q I ro ri rv q
  rcases q with q | q
  · exact h pins s σ H o i v ov iv w Q I ro ri rv q
  · exact h2 pins s σ H o i v ov iv w Q I ro ri rv q
end
theorem putK_mapk (kv : List (Key × V)) (q : Key) (v : V) : (putK kv q v).map (fun p => (DK.k p.1, p.2)) = if (kv.map fun p => (DK.k p.1, p.2)).any (fun p => decide (p.1 = DK.k q)) = true then (kv.map fun p => (DK.k p.1, p.2)).map (fun p => if p.1 = DK.k q then (p.1, v) else p) else (kv.map fun p => (DK.k p.1, p.2)) ++ [(DK.k q, v)] := by
  have ha : (kv.map fun p => ((DK.k p.1, p.2) : DK × V)).any (fun p => decide (p.1 = DK.k q)) = kv.any fun p => decide (p.1 = q) := by
    rw [List.any_map]
    congr 1
    funext p
    simp
  rw [ha]
  unfold putK
  split
  · rw [List.map_map, List.map_map]
    congr 1
    funext p
    by_cases h : p.1 = q
    · simp [h]
    · simp [h]
  · rw [List.map_append]
    rfl
theorem putK_mapt (kv : List (List Key × V)) (q : List Key) (v : V) : (putK kv q v).map (fun p => (DK.t p.1, p.2)) = if (kv.map fun p => (DK.t p.1, p.2)).any (fun p => decide (p.1 = DK.t q)) = true then (kv.map fun p => (DK.t p.1, p.2)).map (fun p => if p.1 = DK.t q then (p.1, v) else p) else (kv.map fun p => (DK.t p.1, p.2)) ++ [(DK.t q, v)] := by
  have ha : (kv.map fun p => ((DK.t p.1, p.2) : DK × V)).any (fun p => decide (p.1 = DK.t q)) = kv.any fun p => decide (p.1 = q) := by
    rw [List.any_map]
    congr 1
    funext p
    simp
  rw [ha]
  unfold putK
  split
  · rw [List.map_map, List.map_map]
    congr 1
    funext p
    by_cases h : p.1 = q
    · simp [h]
    · simp [h]
  · rw [List.map_append]
    rfl
/-- a dict's pairs with the value at q put -/
def putV (kvv : List (DK × V)) (q : DK) (v : V) : List (DK × V) := if (kvv.any fun p => decide (p.1 = q)) = true then kvv.map (fun p => if p.1 = q then (p.1, v) else p) else kvv ++ [(q, v)]
theorem nodup_putV {kvv : List (DK × V)} {q : DK} {v : V} (h : (kvv.map (·.1)).Nodup) : ((putV kvv q v).map (·.1)).Nodup := by
  unfold putV
  split
  · have : (kvv.map fun p => if p.1 = q then (p.1, v) else p).map (·.1) = kvv.map (·.1) := by
      rw [List.map_map]
      congr 1
      funext p
      show (if p.1 = q then (p.1, v) else p).1 = p.1
      split <;> rfl
    rw [this]
    exact h
  · rename_i hn
    rw [List.map_append]
    refine List.nodup_append.mpr ⟨h, by simp, fun a ha b hb e => ?_⟩
    simp at hb
    subst hb; subst e
    obtain ⟨p, hp, e⟩ := List.mem_map.mp ha
    exact hn (List.any_eq_true.mpr ⟨p, hp, by simpa using e⟩)
/-- the store into a dict's object -/
theorem dput_at {H : Hp} {a : Addr} {o : HO} {kvv : List (DK × V)} {q : DK} {y v : V} (e : H a = some o) (hd : HD o kvv) (ky : ∀ H', (∀ b xs, H b = some (.tup xs) → H' b = some (.tup xs)) → KeyAt H' y q) (kd : ∀ p ∈ kvv, p.1.isK = q.isK) (hl : kvv.length < sizeLine) :
    ∃ o', DPutE H a y v (upd H a o') ∧ HD o' (putV kvv q v) := by
  have two : ∀ {o1 o2 : HO}, upd (upd H a o1) a o2 = upd H a o2 := fun {o1 o2} => upd_upd
  have keep : ∀ {o1 : HO}, (∀ xs, o ≠ .tup xs) → ∀ b xs, H b = some (.tup xs) → upd H a o1 b = some (.tup xs) := fun {o1} hn b xs eb => by
    rw [upd_ne (fun z => by rw [z, e] at eb; exact hn xs (Option.some.inj eb))]; exact eb
  rcases hd with ⟨nd, ⟨kv, rfl, rfl⟩ | ⟨kv, rfl, rfl⟩⟩
  · cases q with
    | k q =>
      obtain rfl : y = kV q := ky H fun _ _ h => h
      refine ⟨.dK (putK kv q v), .inl (DPut.k e (by simpa using hl)), nodup_putV nd, .inl ⟨_, rfl, (putK_mapk kv q v).symm⟩⟩
    | t q =>
      cases kv with
      | nil =>
        obtain ⟨b, rfl, eb⟩ := ky (upd H a (.dT [])) (keep fun xs z => by cases z)
        refine ⟨.dT [(q, v)], .inr (.inl ⟨e, ?_⟩), by simp [putV], .inr ⟨_, rfl, by simp [putV]⟩⟩
        have := DPut.t (v := v) (upd_same (H := H) (a := a) (o := .dT [])) eb (by simp [sizeLine_eq])
        rw [upd_upd] at this
        exact this
      | cons p r => exact absurd (kd (DK.k p.1, p.2) (by simp)) (by simp [DK.isK])
  · cases q with
    | t q =>
      obtain ⟨b, rfl, eb⟩ := ky H fun _ _ h => h
      refine ⟨.dT (putK kv q v), .inl (DPut.t e eb (by simpa using hl)), nodup_putV nd, .inr ⟨_, rfl, (putK_mapt kv q v).symm⟩⟩
    | k q =>
      cases kv with
      | nil =>
        obtain rfl : y = kV q := ky H fun _ _ h => h
        refine ⟨.dK [(q, v)], .inr (.inr ⟨e, ?_⟩), by simp [putV], .inl ⟨_, rfl, by simp [putV]⟩⟩
        have := DPut.k (v := v) (k := q) (upd_same (H := H) (a := a) (o := .dK [])) (by simp [sizeLine_eq])
        rw [upd_upd] at this
        exact this
      | cons p r => exact absurd (kd (DK.t p.1, p.2) (by simp)) (by simp [DK.isK])
section
variable {mg : Str → Option Value} {W : WX} {F H : Hp} {A B : List Addr} {ρ : En} {σ : L2.St}
theorem valD_any {kvs : List (DK × D)} {q : DK} : (kvs.any fun p => decide (p.1 = q)) = (valD kvs q).isSome := by
  induction kvs with
  | nil => rfl
  | cons p r ih =>
    by_cases h : p.1 = q
    · simp [valD, List.find?_cons, h]
    · simp only [List.any_cons, h, decide_false, Bool.false_or, ih]
      simp [valD, List.find?_cons, h]
theorem OwnK.put {kvs : List (DK × D)} {k : Nat} {kvv : List (DK × V)} {A' : List Addr} {q : DK} {d : D} {v : V} {B' : List Addr} (h : OwnK F H k kvv kvs A') (nd : (kvs.map (·.1)).Nodup) (o : Own F H k v d B') :
    ∃ A'', OwnK F H k (putV kvv q v) (putD kvs q d) A'' ∧ ∃ C, (A'' ++ C).Perm (A' ++ B') := by
  have ek := h.keys
  have e1 : (kvv.any fun p => decide (p.1 = q)) = kvs.any fun p => decide (p.1 = q) := by
    have := congrArg (fun l => l.any fun x => decide (x = q)) ek
    simpa [List.any_map, Function.comp_def] using this
  unfold putV putD
  rw [e1]
  split
  · rename_i hx
    rw [valD_any] at hx
    obtain ⟨d0, hd0⟩ := Option.isSome_iff_exists.mp hx
    obtain ⟨A1, B, A2, v0, rfl, _, _, mk⟩ := OwnK.split h nd hd0
    refine ⟨A1 ++ (B' ++ A2), mk F H v d B' (Same.refl _) (fun _ _ => rfl) o, B, ?_⟩
    simp only [List.append_assoc]
    refine List.Perm.append_left _ ?_
    -- B' ++ (A2 ++ B) ~ B ++ (A2 ++ B')
    exact (List.perm_append_comm (l₁ := B') (l₂ := A2 ++ B)).trans (((List.perm_append_comm (l₁ := A2) (l₂ := B)).append_right B').trans (by simp))
  · exact ⟨A' ++ B', OwnK.snoc h o, [], by simp⟩
theorem StR.dctAt (s : StR F H ρ σ A) {i k : Nat} {kvs : List (DK × D)} (e : ρ[i]? = some (some (k + 1, .dct kvs))) : ∃ a o kvv A1 A' A2, A = A1 ++ ((a :: A') ++ A2) ∧ σ[i]? = some (some (.ref a)) ∧ H a = some o ∧ HD o kvv ∧ OwnK F H k kvv kvs A' ∧
    ∀ o' kvv' k' kvs' A'', HD o' kvv' → OwnK F H k' kvv' kvs' A'' → (A1 ++ ((a :: A'') ++ A2)).Nodup → (∀ b ∈ A'', F b = none) → StR F (upd H a o') (ρ.set i (some (k' + 1, .dct kvs'))) σ (A1 ++ ((a :: A'') ++ A2)) := by
  have hi : i < ρ.length := (List.getElem?_eq_some_iff.mp e).1
  obtain ⟨A1, Ai, A2, rfl, h1, h2, _⟩ := EnvR.split s.env hi
  obtain ⟨v, ev, o⟩ := h1 _ _ e
  cases o with
  | @dow _ a o kvv _ A' g1 g2 g3 =>
    refine ⟨a, o, kvv, A1, A', A2, rfl, ev, g1, g2, g3, fun o' kvv' k' kvs' A'' hd' ow nd fr => ?_⟩
    have fa : F a = none := s.fr a (by simp)
    have na : ∀ b ∈ A1 ++ A2, b ≠ a := fun b hb z => by
      have n := s.nd
      subst z
      simp only [List.nodup_append, List.mem_append, List.cons_append, List.mem_cons, List.nodup_cons] at n hb
      rcases hb with hb | hb
      · exact n.2.2 b hb b (.inl rfl) rfl
      · exact n.2.1.1 (.inr hb)
    have na2 : a ∉ A'' := by
      simp only [List.nodup_append, List.mem_append, List.cons_append, List.mem_cons, List.nodup_cons] at nd
      exact fun z => nd.2.1.1 (.inl z)
    have o2 : Own F (upd H a o') (k' + 1) (.ref a) (.dct kvs') (a :: A'') := .dow upd_same hd' (OwnK.carry (Same.refl _) _ _ _ _ ow fun b hb => upd_ne fun z => na2 (by rw [← z]; exact hb))
    have env := h2 F (upd H a o') _ (.ref a) _ _ (Same.refl _) (fun b hb => upd_ne (na b hb)) o2
    rw [set_same ev] at env
    refine ⟨fun b ob eb => ?_, env, nd, fun b hb => ?_⟩
    · rw [upd_ne (fun z => by rw [z, fa] at eb; cases eb)]
      exact s.sub b ob eb
    · simp only [List.mem_append, List.cons_append, List.mem_cons] at hb
      rcases hb with hb | hb | hb | hb
      · exact s.fr b (by simp [hb])
      · rw [hb]; exact fa
      · exact fr b hb
      · exact s.fr b (by simp [hb])
theorem joinK_own {k : Nat} {kvs : List (DK × D)} {kvv : List (DK × V)} {A' : List Addr} {kv : Nat} {dv : D} {v : V} {B' : List Addr} {k' : Nat} (h : joinLv k (immKs kvs) kv dv = some k') (o : OwnK F H k kvv kvs A') (ov : Own F H kv v dv B') : OwnK F H k' kvv kvs A' ∧ Own F H k' v dv B' := by
  unfold joinLv at h
  split at h
  · rename_i hd
    cases h
    obtain ⟨rfl, hv⟩ := Own.imm _ _ _ _ ov hd
    exact ⟨o, hv _ _⟩
  · split at h
    · rename_i hds
      cases h
      obtain ⟨rfl, hv⟩ := OwnK.imm o hds
      exact ⟨hv _ _, ov⟩
    · split at h
      · rename_i hk
        cases h
        subst hk
        exact ⟨o, ov⟩
      · cases h
end

/-! ### x[i] = v, d[k] = v -/
def setG : List Opv → M KD
  | [.v kv dv, .b s, .v _ y] => fun ρ => match ρ[s]? with
    | some (some (k + 1, .lst ds)) => (match y with
      | .int i => (match ixN ds.length i with
        | some j => (match joinLv k (D.immAll ds) kv dv with
          | some k' => M.ret (9, .non) (ρ.set s (some (k' + 1, .lst (ds.set j dv))))
          | none => none)
        | none => none)
      | _ => none)
    | some (some (k + 1, .dct kvs)) => (match y.key with
      | some q => if (kindOk kvs q && decide (kvs.length < lineN)) = true then (match joinLv k (immKs kvs) kv dv with
          | some k' => M.ret (9, .non) (ρ.set s (some (k' + 1, .dct (putD kvs q dv))))
          | none => none) else none
      | none => none)
    | _ => none
  | _ => M.fail
section
variable {X : Cx} {mg : Str → Option Value} {W : WX}
/-- value, object, place -/
def r3Set (t : TSet) : List V → Hp → VK → Prop := fun vs H Q => match vs with
  | [v, o, i] => t o i v H fun H' => Q .non H'
  | _ => False
theorem setG_ok : OpS mg W (r3Set fun o i v H Q => rSetL o i v H Q ∨ rSetD o i v H Q) setG := by
  intro F H A B σ ρ vs xs Q s o nd fr e
  cases o with
  | nil => exact e.elim
  | bor _ _ => exact e.elim
  | @val kv dv y vs1 xs1 B1 B2 ov r =>
    cases r with
    | nil => exact e.elim
    | val _ _ => exact e.elim
    | bor ev r2 =>
      cases r2 with
      | nil => exact e.elim
      | bor _ _ => exact e.elim
      | @val ki di z vs3 xs3 B3 B4 oi r3 =>
        cases r3 with
        | bor _ _ => exact e.elim
        | val _ _ => exact e.elim
        | nil =>
          rename_i sl x
          have nd1 : (A ++ B1).Nodup := nd.sublist (List.Sublist.append (List.Sublist.refl _) (List.sublist_append_left _ _))
          have fr1 : ∀ b ∈ B1, F b = none := fun b hb => fr b (List.mem_append_left _ hb)
          simp only [setG] at e
          split at e
          · rename_i k ds ek
            split at e
            · rename_i i
              obtain rfl := oi.int_eq
              split at e
              · rename_i j ej
                split at e
                · rename_i k' el
                  obtain ⟨a, us, A1, A', A2, rfl, ea, eh, ow, mk⟩ := s.lstAt ek
                  rw [ev] at ea
                  cases ea
                  obtain ⟨ow2, ov2⟩ := join_own el ow ov
                  have hj : j < ds.length := by
                    have := (ixN_seq ej).2.1
                    exact this
                  obtain ⟨C1, C, C2, v0, rfl, _, _, _, sp⟩ := Owns.split ow2 (List.getElem?_eq_getElem hj)
                  have ow3 := sp F H y dv B1 (Same.refl _) (fun _ _ => rfl) ov2
                  have pp : (A1 ++ ((a :: (C1 ++ (B1 ++ C2))) ++ A2) ++ C).Perm (A1 ++ ((a :: (C1 ++ (C ++ C2))) ++ A2) ++ B1) := by
                    simp only [List.append_assoc, List.cons_append]
                    refine List.Perm.append_left _ (List.Perm.cons _ (List.Perm.append_left _ ?_))
                    have h1 : (B1 ++ (C2 ++ (A2 ++ C))).Perm (C2 ++ (A2 ++ C) ++ B1) := List.perm_append_comm
                    have h2 : (C2 ++ (A2 ++ C)).Perm (C ++ (C2 ++ A2)) := by rw [← List.append_assoc]; exact List.perm_append_comm
                    refine h1.trans ((h2.append_right B1).trans ?_)
                    simp
                  have nd2 := (List.nodup_append.mp (pp.nodup_iff.mpr nd1)).1
                  have s2 := mk _ _ _ _ ow3 nd2 fun b hb => by
                    simp only [List.mem_append] at hb
                    rcases hb with hb | hb | hb
                    · exact s.fr b (by simp [hb])
                    · exact fr1 b hb
                    · exact s.fr b (by simp [hb])
                  refine .inl ⟨a, us, i, j, rfl, rfl, eh, by rw [ow.length]; exact ej, ?_⟩
                  refine e .non F _ _ [] s2 .non (by simpa using s2.nd) (fun _ z => nomatch z) (tr_upd (by simp) fun b hb => ?_)
                  have := pp.subset (List.mem_append_left _ (by simpa using hb))
                  simp only [List.mem_append, List.cons_append, List.mem_cons] at this ⊢
                  rcases this with (h | h | h | h) | h <;> simp [h]
                · exact e.elim
              · exact e.elim
            · exact e.elim
          · rename_i k kvs ek
            split at e
            · rename_i q eq
              split at e
              · rename_i hk
                simp only [Bool.and_eq_true, decide_eq_true_eq] at hk
                split at e
                · rename_i k' el
                  obtain ⟨a, ob, kvv, A1, A', A2, rfl, ea, eh, hd, ow, mk⟩ := s.dctAt ek
                  rw [ev] at ea
                  cases ea
                  obtain ⟨ow2, ov2⟩ := joinK_own el ow ov
                  obtain ⟨A'', ow3, C, pc⟩ := OwnK.put (q := q) ow2 (by rw [← ow2.keys]; exact hd.1) ov2
                  have ky : ∀ H', (∀ b xs, H b = some (.tup xs) → H' b = some (.tup xs)) → KeyAt H' z q := fun H' hH => by
                    have := key_at s.sub oi eq
                    cases q with
                    | k q => exact this
                    | t q => obtain ⟨b, rfl, eb⟩ := this; exact ⟨b, rfl, hH _ _ eb⟩
                  have kd : ∀ p ∈ kvv, p.1.isK = q.isK := fun p hp => by
                    have hm : p.1 ∈ kvs.map (·.1) := by rw [← ow.keys]; exact List.mem_map_of_mem hp
                    obtain ⟨p', hp', e'⟩ := List.mem_map.mp hm
                    have := List.all_eq_true.mp hk.1 p' hp'
                    rw [e'] at this
                    simpa using this
                  obtain ⟨o', hp, hd'⟩ := dput_at (v := y) eh hd ky kd (by rw [ow.length, ← lineN_eq]; exact hk.2)
                  have pp : (A1 ++ ((a :: A'') ++ A2) ++ C).Perm (A1 ++ ((a :: A') ++ A2) ++ B1) := by
                    simp only [List.append_assoc, List.cons_append]
                    refine List.Perm.append_left _ (List.Perm.cons _ ?_)
                    have h1 : (A'' ++ (A2 ++ C)).Perm (A'' ++ (C ++ A2)) := List.Perm.append_left _ List.perm_append_comm
                    have h2 : (A' ++ (B1 ++ A2)).Perm (A' ++ (A2 ++ B1)) := List.Perm.append_left _ List.perm_append_comm
                    refine h1.trans (List.Perm.trans ?_ h2)
                    rw [← List.append_assoc, ← List.append_assoc]
                    exact pc.append_right A2
                  have nd2 := (List.nodup_append.mp (pp.nodup_iff.mpr nd1)).1
                  have s2 := mk _ _ _ _ _ hd' ow3 nd2 fun b hb => by
                    have := pc.subset (List.mem_append_left _ hb)
                    rcases List.mem_append.mp this with h | h
                    · exact s.fr b (by simp [h])
                    · exact fr1 b h
                  refine .inr ⟨a, _, rfl, hp, ?_⟩
                  refine e .non F _ _ [] s2 .non (by simpa using s2.nd) (fun _ z => nomatch z) (tr_upd (by simp) fun b hb => ?_)
                  have := pp.subset (List.mem_append_left _ (by simpa using hb))
                  simp only [List.mem_append, List.cons_append, List.mem_cons] at this ⊢
                  rcases this with (h | h | h | h) | h <;> simp [h]
                · exact e.elim
              · exact e.elim
            · exact e.elim
          · exact e.elim
variable {a i e : Expr} {sl : Nat} {fe : M KD} {fi : M KD} {P : List Nat} {p2 pos : Pos}
theorem swaps_noS {t : Expr} {e : Expr} {l : Nat} {env : PySem.Env} (h : notComp e = true) : swapsWithSole [t] e l env = pure false := swaps_no h
theorem ps_setS (hu : X.A.units + 1 < cLine) (he : PE X e (tD mg W fe)) (ha : PE X a (tVar sl)) (hi : PE X i (tD mg W fi)) (hsl : isSlice i = false) (hn : notComp e = true) (hw : swappedStores [.Subscript a i p2] e X.env = pure none) :
    PS X (.Assign [.Subscript a i p2] e pos) (sD P mg W (exprS (opE [.v fe, .b sl, .v fi] setG))) :=
  (ps_asg he (pg_sub (pos := p2) ha hi (PSet.or set_list (set_dict hu)) (fun _ => by cases i <;> first | rfl | (simp [isSlice] at hsl))) (swaps_noS hn) hw).imp fun D σ H h => tOs_three (o := .v fe) (o2 := .b sl) (o3 := .v fi) (opE_of setG_ok (sD_expr h))
end
end DN

set_option Elab.async false
set_option linter.all false
set_option maxRecDepth 100000
set_option maxHeartbeats 4000000
/-! DN, part N: slots hidden and brought back; a loop over what a hidden name owns; list comprehensions. -/
namespace DN
open PySem PySem.Spec PyProof.Rows L2
variable [KSeq]

def slotE (ρ : En) (i : Nat) : Sl := match ρ[i]? with
  | some s => s
  | none => none
def wipeE (ρ : En) : List Nat → En
  | [] => ρ
  | v :: vs => (wipeE ρ vs).set v none
/-- ρ' with the slots vs as in ρ -/
def unwipe (ρ' ρ : En) : List Nat → En
  | [] => ρ'
  | v :: vs => unwipe (ρ'.set v (slotE (wipeE ρ vs) v)) ρ vs
section
variable {F H : Hp} {A B : List Addr} {ρ : En} {σ : L2.St}
theorem set_none_same {σ : L2.St} {i : Nat} (h : σ.length ≤ i) (o : Option V) : σ.set i o = σ := List.set_eq_of_length_le h
/-- one slot brought back -/
theorem EnvR.back1 {i : Nat} {o : Option V} {sl : Sl} {F' H' : Hp} {ρ' : En} {A' Z : List Addr} (h : EnvR F' H' ρ' σ A') (hi : i < ρ'.length) (hs : ∀ k d, sl = some (k, d) → ∃ v, o = some v ∧ Own F' H' k v d Z) :
    ∃ A'' C, (A'' ++ C).Perm (A' ++ Z) ∧ EnvR F' H' (ρ'.set i sl) (σ.set i o) A'' := by
  obtain ⟨A1, Ai, A2, rfl, _, h2, h3⟩ := EnvR.split h hi
  cases sl with
  | none =>
    refine ⟨A1 ++ A2, Ai ++ Z, ?_, h3 F' H' o (Same.refl _) fun _ _ => rfl⟩
    simp only [List.append_assoc]
    refine List.Perm.append_left _ ?_
    rw [← List.append_assoc, ← List.append_assoc]
    exact List.perm_append_comm.append_right Z
  | some kd =>
    obtain ⟨v, rfl, ov⟩ := hs kd.1 kd.2 rfl
    refine ⟨A1 ++ (Z ++ A2), Ai, ?_, h2 F' H' kd.1 v kd.2 Z (Same.refl _) (fun _ _ => rfl) ov⟩
    simp only [List.append_assoc]
    refine List.Perm.append_left _ ?_
    have : (Z ++ (A2 ++ Ai)).Perm (Ai ++ (A2 ++ Z)) := by
      refine (List.perm_append_comm (l₁ := Z) (l₂ := A2 ++ Ai)).trans ?_
      rw [← List.append_assoc]
      exact List.perm_append_comm.append_right Z
    exact this
/-- one slot hidden -/
theorem EnvR.hide1 (h : EnvR F H ρ σ A) (i : Nat) : ∃ A1 Z, (A1 ++ Z).Perm A ∧ (∀ o, EnvR F H (ρ.set i none) (σ.set i o) A1) ∧ ∀ k d, ρ[i]? = some (some (k, d)) → ∃ v, σ[i]? = some (some v) ∧ Own F H k v d Z := by
  by_cases hi : i < ρ.length
  · obtain ⟨A1, Ai, A2, rfl, h1, h2, h3⟩ := EnvR.split h hi
    refine ⟨A1 ++ A2, Ai, ?_, fun o => h3 F H o (Same.refl _) fun _ _ => rfl, h1⟩
    rw [List.append_assoc]
    exact List.Perm.append_left _ List.perm_append_comm
  · have hi' : ρ.length ≤ i := by omega
    refine ⟨A, [], by simp, fun o => ?_, fun k d e => by rw [List.getElem?_eq_none hi'] at e; cases e⟩
    rw [List.set_eq_of_length_le hi', set_none_same (by rw [← h.length]; exact hi')]
    exact h
theorem wipeE_length : ∀ {vs : List Nat}, (wipeE ρ vs).length = ρ.length
  | [] => rfl
  | v :: vs => by unfold wipeE; rw [List.length_set, wipeE_length]
/-- slots hidden, and brought back later -/
theorem EnvR.hide : ∀ (vs : List Nat), EnvR F H ρ σ A → ∃ A1 Z, (A1 ++ Z).Perm A ∧ EnvR F H (wipeE ρ vs) (L2.wipe σ vs) A1 ∧ (∀ b ∈ Z, ∃ o, H b = some o ∧ Chg o) ∧
    ∀ F' H' ρ' A', Same F F' → (∀ b ∈ Z, H' b = H b) → EnvR F' H' ρ' (L2.wipe σ vs) A' → ∃ A'' C, (A'' ++ C).Perm (A' ++ Z) ∧ EnvR F' H' (unwipe ρ' ρ vs) σ A''
  | [], h => ⟨A, [], by simp, h, (fun _ z => nomatch z), fun F' H' ρ' A' _ _ h' => ⟨A', [], by simp, h'⟩⟩
  | v :: vs, h => by
    obtain ⟨A1, Z, p1, e1, c1, b1⟩ := EnvR.hide vs h
    obtain ⟨A2, Z2, p2, e2, o2⟩ := EnvR.hide1 e1 v
    have th : ∀ b ∈ Z2, ∃ o, H b = some o ∧ Chg o := fun b hb => EnvR.there e1 b (p2.subset (List.mem_append_right _ hb))
    refine ⟨A2, Z2 ++ Z, ?_, e2 none, fun b hb => (List.mem_append.mp hb).elim (th b) (c1 b), fun F' H' ρ' A' sf hZ h' => ?_⟩
    · rw [← List.append_assoc]
      exact (p2.append_right Z).trans p1
    · have hl : ρ'.length = ρ.length := by
        have := h'.length
        rw [this, wipe_length]
        exact h.length.symm
      have key : ∃ A'' C, (A'' ++ C).Perm (A' ++ Z2) ∧ EnvR F' H' (ρ'.set v (slotE (wipeE ρ vs) v)) (L2.wipe σ vs) A'' := by
        by_cases hv : v < ρ.length
        · have hw : (L2.wipe σ vs).length = ρ.length := by rw [wipe_length]; exact h.length.symm
          obtain ⟨o, eo⟩ : ∃ o, (L2.wipe σ vs)[v]? = some o := ⟨_, List.getElem?_eq_getElem (by rw [hw]; exact hv)⟩
          obtain ⟨A'', C, p, e⟩ := EnvR.back1 (σ := (L2.wipe σ (v :: vs))) (i := v) (o := o) (sl := slotE (wipeE ρ vs) v) (Z := Z2) h' (by rw [hl]; exact hv) fun k d ek => by
            have ek' : (wipeE ρ vs)[v]? = some (some (k, d)) := by
              unfold slotE at ek
              split at ek
              · rename_i s es; rw [es, ek]
              · cases ek
            obtain ⟨v', ev, ov⟩ := o2 k d ek'
            rw [eo] at ev
            exact ⟨v', Option.some.inj ev, Own.carry sf _ _ _ _ ov fun b hb => hZ b (List.mem_append_left _ hb)⟩
          refine ⟨A'', C, p, ?_⟩
          have es : (L2.wipe σ (v :: vs)).set v o = L2.wipe σ vs := by
            show ((L2.wipe σ vs).set v none).set v o = L2.wipe σ vs
            rw [List.set_set]
            obtain ⟨hlt, eo'⟩ := List.getElem?_eq_some_iff.mp eo
            rw [← eo']
            exact List.set_getElem_self hlt
          rw [es] at e
          exact e
        · have hv' : ρ.length ≤ v := by omega
          refine ⟨A', Z2, List.Perm.refl _, ?_⟩
          rw [List.set_eq_of_length_le (by rw [hl]; exact hv')]
          have es : L2.wipe σ (v :: vs) = L2.wipe σ vs := by
            exact set_none_same (σ := L2.wipe σ vs) (by rw [wipe_length, ← h.length]; exact hv') _
          rw [es] at h'
          exact h'
      obtain ⟨A3, C3, p3, e3⟩ := key
      obtain ⟨A4, C4, p4, e4⟩ := b1 F' H' _ A3 sf (fun b hb => hZ b (List.mem_append_right _ hb)) e3
      refine ⟨A4, C4 ++ C3, ?_, e4⟩
      rw [← List.append_assoc]
      refine (p4.append_right C3).trans ?_
      rw [← List.append_assoc]
      have : (A3 ++ Z ++ C3).Perm (A3 ++ C3 ++ Z) := by
        rw [List.append_assoc, List.append_assoc]
        exact List.Perm.append_left _ List.perm_append_comm
      exact this.trans (p3.append_right Z)
end

/-! ### for x in NAME, the name hidden meanwhile -/
def restS (i : Nat) (sl : Sl) : Option SO → Option SO
  | some (.nx ρ) => some (.nx (ρ.set i sl))
  | some (.rt k d ρ) => some (.rt k d (ρ.set i sl))
  | some (.ex x ρ) => some (.ex x (ρ.set i sl))
  | _ => none
/-- the items of what a hidden name owns (nothing that changes is among them) -/
def kidItems : D → Option (List KD)
  | .lst ds => if D.immAll ds = true then some (ds.map fun d => (9, d)) else none
  | _ => none
def forH (i : Nat) (t : Tg) (body : S) : S := fun ρ => match ρ[i]? with
  | some (some (k, d)) => (match k, kidItems d with
    | k + 1, some ds => restS i (some (k + 1, d)) (forL t body ds (ρ.set i none))
    | _, _ => forS (itsV (nameS i)) t body ρ)
  | _ => none
section
variable {P : List Nat} {mg : Str → Option Value} {W : WX} {F H : Hp} {A : List Addr} {ρ : En} {σ : L2.St} {D : Ends}
theorem Pk.less {i : Nat} {σ' : L2.St} (h : Pk (i :: P) σ σ') : Pk P σ σ' ∧ σ'[i]? = σ[i]? := ⟨fun j hj => h j (List.mem_cons_of_mem _ hj), h i List.mem_cons_self⟩
/-- a hidden slot brought back at the end -/
theorem rest_end {i k : Nat} {d : DN.D} {v : V} {A1 Z : List Addr} {r : Option SO} (hv : σ[i]? = some (some v)) (ho : Own F H k v d Z) (hA : (A1 ++ Z).Perm A)
    (h : SEnd P mg W F H A σ (restS i (some (k, d)) r) D)
    (noB : ∀ ρ', r ≠ some (.bk ρ') ∧ r ≠ some (.ct ρ')) : SZ (i :: P) mg W F H A1 Z σ r D := by
  have tA : ∀ {F' H' A'}, Tr F H (A1 ++ Z) F' H' A' → Tr F H A F' H' A' := fun t => t.grow fun b hb => hA.subset hb
  have bk : ∀ {F' H' ρ' σ' A'}, StR F' H' ρ' σ' A' → σ'[i]? = σ[i]? → Same F F' → (A' ++ Z).Nodup → (∀ b ∈ Z, H' b = H b) → (∀ b ∈ Z, F' b = none) →
      ∃ A'' C, (A'' ++ C).Perm (A' ++ Z) ∧ StR F' H' (ρ'.set i (some (k, d))) σ' A'' := fun {F' H' ρ' σ' A'} s pe sf nd z f => by
    have hi : i < σ'.length := by
      rw [hv] at pe
      exact (List.getElem?_eq_some_iff.mp pe).1
    obtain ⟨A'', C, p, e⟩ := EnvR.back1 (i := i) (o := some v) (sl := some (k, d)) (Z := Z) s.env (by rw [s.len]; exact hi) fun k' d' e => by
      cases e
      exact ⟨v, rfl, Own.carry sf _ _ _ _ ho z⟩
    rw [set_same (pe.trans hv)] at e
    have n2 := (List.nodup_append.mp (p.nodup_iff.mpr nd)).1
    refine ⟨A'', C, p, s.sub, e, n2, fun b hb => ?_⟩
    rcases List.mem_append.mp (p.subset (List.mem_append_left C hb)) with h | h
    · exact s.fr b h
    · exact f b h
  cases r with
  | none => exact h
  | some o =>
    cases o with
    | nx ρ' =>
        intro σ' F' H' A' s t nd z f p
        obtain ⟨A'', C, pm, s'⟩ := bk s p.less.2 t.ff nd z f
        exact h σ' F' H' A'' s' ((tA t).sub fun b hb => pm.subset (List.mem_append_left _ hb)) p.less.1
    | bk ρ' => exact absurd rfl (noB ρ').1
    | ct ρ' => exact absurd rfl (noB ρ').2
    | rt k' d' ρ' =>
        intro u σ' F' H' A' B s p o nd fr z f t
        have nd1 : (A' ++ Z).Nodup := nd.sublist (by rw [List.append_assoc]; exact List.Sublist.append (List.Sublist.refl _) (List.sublist_append_right _ _))
        obtain ⟨A'', C, pm, s'⟩ := bk s p.less.2 t.ff nd1 z f
        have pp : (A'' ++ B ++ C).Perm (A' ++ B ++ Z) := by
          have h1 : (A'' ++ B ++ C).Perm (A'' ++ C ++ B) := by
            rw [List.append_assoc, List.append_assoc]; exact List.Perm.append_left _ List.perm_append_comm
          have h2 : (A' ++ Z ++ B).Perm (A' ++ B ++ Z) := by
            rw [List.append_assoc, List.append_assoc]; exact List.Perm.append_left _ List.perm_append_comm
          exact h1.trans ((pm.append_right B).trans h2)
        refine h u σ' F' H' A'' B s' p.less.1 o (List.nodup_append.mp (pp.nodup_iff.mpr nd)).1 fr ((tA t).sub fun b hb => pp.subset (List.mem_append_left _ hb))
    | ex x ρ' =>
        intro cls dd σ' F' H' A' s p t nd z f x
        obtain ⟨A'', C, pm, s'⟩ := bk s p.less.2 t.ff nd z f
        exact h cls dd σ' F' H' A'' s' p.less.1 ((tA t).sub fun b hb => pm.subset (List.mem_append_left _ hb)) x
theorem forL_ends {t : Tg} {body : S} : ∀ {ds : List KD} {ρ : En} {ρ' : En}, forL t body ds ρ ≠ some (.bk ρ') ∧ forL t body ds ρ ≠ some (.ct ρ')
  | [], ρ, ρ' => by unfold forL; exact ⟨by simp, by simp⟩
  | kd :: r, ρ, ρ' => by
    unfold forL
    split
    · exact ⟨by simp, by simp⟩
    · rename_i ρ1 _
      cases body ρ1 with
      | none => exact ⟨by simp, by simp⟩
      | some o =>
        cases o with
        | nx ρ2 => exact forL_ends
        | ct ρ2 => exact forL_ends
        | bk ρ2 => exact ⟨by simp, by simp⟩
        | rt _ _ _ => exact ⟨by simp, by simp⟩
        | ex _ _ => exact ⟨by simp, by simp⟩
theorem SEnd.pins {i : Nat} {r : Option SO} (h : SEnd P mg W F H A σ r D) : SEnd (i :: P) mg W F H A σ r D := by
  cases r with
  | none => exact h
  | some o =>
    cases o with
    | nx ρ' => exact fun σ' F' H' A' s t p => h σ' F' H' A' s t p.less.1
    | bk ρ' => exact fun σ' F' H' A' s t p => h σ' F' H' A' s t p.less.1
    | ct ρ' => exact fun σ' F' H' A' s t p => h σ' F' H' A' s t p.less.1
    | rt k d ρ' => exact fun v σ' F' H' A' B s p o nd fr t => h v σ' F' H' A' B s p.less.1 o nd fr t
    | ex x ρ' => exact fun cls dd σ' F' H' A' s p t x => h cls dd σ' F' H' A' s p.less.1 t x
theorem immAll_zero : ∀ {ds : List DN.D} {k : Nat} {vs : List V} {Z : List Addr} {i : Nat} {x : V} {F H F' H' : Hp}, Owns F H k vs ds Z → DN.D.immAll ds = true → Same F F' → vs[i]? = some x → ∃ d, ds[i]? = some d ∧ Own F' H' 9 x d [] := fun o m sf e => by
  have o9 := (Owns.imm _ _ _ _ o m).2 0 (fun _ => none)
  obtain ⟨d, hd, od⟩ := Owns.at0 o9 e
  refine ⟨d, hd, ?_⟩
  have hm : ∀ {l : List DN.D} {j : Nat} {d : DN.D}, DN.D.immAll l = true → l[j]? = some d → d.imm = true := fun {l} => by
    induction l with
    | nil => intro j d _ e; simp at e
    | cons a r ih =>
      intro j d h e
      simp only [DN.D.immAll, Bool.and_eq_true] at h
      cases j with
      | zero => simp at e; subst e; exact h.1
      | succ j => exact ih h.2 (by simpa using e)
  exact Own.imm' (H := fun _ => none) (od.zero (H' := fun _ => none) sf) (hm m hd) 9 _
theorem sD_forH {K : PySem.W.Frag} {i : Nat} {t : Tg} {body : S} (h : sD P mg W (forH i t body) D σ H) :
    tFor (fun σ H R => (tVar i σ H fun x H1 => WkV K x H1 R) ∨ tI mg W (itsV (nameS i)) σ H R) (gD (i :: P) t) (sD (i :: P) mg W body) D σ H := by
  obtain ⟨F, ρ, A, s, e⟩ := h
  unfold forH at e
  have fall : SEnd P mg W F H A σ (forS (itsV (nameS i)) t body ρ) D → tFor (fun σ H R => (tVar i σ H fun x H1 => WkV K x H1 R) ∨ tI mg W (itsV (nameS i)) σ H R) (gD (i :: P) t) (sD (i :: P) mg W body) D σ H :=
    fun e => .inr (sD_for ⟨F, ρ, A, s, SEnd.pins e⟩)
  split at e
  · rename_i k d ek
    split at e
    · rename_i k' ds ed
      obtain ⟨A1, Z, pA, h1, h2⟩ := EnvR.hide1 s.env i
      obtain ⟨v, hv, ov⟩ := h2 _ _ ek
      have nd0 : (A1 ++ Z).Nodup := pA.nodup_iff.mpr s.nd
      have hr : SZ (i :: P) mg W F H A1 Z σ (forL t body ds (ρ.set i none)) D := rest_end hv ov pA e fun ρ' => forL_ends
      have es : StR F H (ρ.set i none) σ A1 := by
        have := h1 (some v)
        rw [set_same hv] at this
        exact ⟨s.sub, this, (List.nodup_append.mp nd0).1, fun b hb => s.fr b (pA.subset (List.mem_append_left _ hb))⟩
      refine .inl ⟨v, hv, ?_⟩
      cases d with
      | lst ds' =>
        unfold kidItems at ed
        simp only at ed
        split at ed
        · rename_i him
          cases ed
          cases ov with
          | @low _ a us _ A' g1 g2 =>
            refine .inl ⟨a, us, rfl, .of g1, ?_⟩
            refine for_core es ⟨us.length, fun H => SqL K H a us, YAt us, walk_list, ?_, fun F' H' sf sh hz => .of ?_, fun j F' H' ρ' σ' A2 x H2 sf s' y => ?_⟩ (fun b hb => EnvR.there s.env b (pA.subset (List.mem_append_right _ hb))) nd0 (fun b hb => s.fr b (pA.subset (List.mem_append_right _ hb))) hr
            · rw [List.length_map, g2.length]
            · rw [hz a List.mem_cons_self]; exact g1
            · obtain ⟨rfl, hx⟩ := y
              obtain ⟨d, hd, od⟩ := immAll_zero g2 him sf hx
              exact ⟨(9, d), F', by rw [List.getElem?_map, hd]; rfl, s', Tr.refl, od⟩
        · cases ed
      | _ => simp [kidItems] at ed
    · exact fall e
  · exact e.elim
end
section
variable {X : Cx} {P : List Nat} {mg : Str → Option Value} {W : WX} {tg : Expr} {bs : List Stmt} {t : Tg} {f : S} {pos : Pos} {i : Nat} {e : Expr}
theorem _root_.L2.PI.or {tg e : Expr} {t u : TI} (h : PI X tg e t) (h2 : PI X tg e u) : PI X tg e (fun σ H R => t σ H R ∨ u σ H R) := ⟨fun pins s σ H R I q => q.elim (h.run pins s σ H R I) (h2.run pins s σ H R I)⟩
theorem ps_forH (hK : X.K = KSeq.K) (hp : PassesOwn (model X.prog X.w) X.A X.env X.xe) (hc : X.calm = true) (hi : PE X e (tVar i)) (hg : PG X tg (gD (i :: P) t)) (hb : PSs X bs (sD (i :: P) mg W f)) (hs : notSet e = true) : PS X (.For tg e bs [] pos) (sD P mg W (forH i t f)) :=
  (ps_for hp hc ((pi_val hi).or (pi_valS hK (hi.imp fun _ _ _ h => tD_name h))) hg hb (folded_no hs)).imp fun _ _ _ h => sD_forH h
end
end DN

set_option Elab.async false
set_option linter.all false
set_option maxRecDepth 100000
set_option maxHeartbeats 4000000
/-! DN, part O: list comprehensions. -/
namespace DN
open PySem PySem.Spec PyProof.Rows L2
variable [KSeq]

/-- the turns: the items left, the depth and the data so far -/
def lcL (t : Tg) (c : M Bool) (el : M KD) (vs : List Nat) : List KD → Nat → List D → M KD
  | [], k, acc => fun ρ => some (.ok (k + 1, .lst acc) ρ)
  | kd :: r, k, acc => fun ρ => match asgT t kd.1 kd.2 ρ with
    | none => none
    | some ρ1 => match c ρ1 with
      | some (.ok true ρ2) => (match el ρ2 with
        | some (.ok (ke, d) ρ3) => if acc.length < lineN then (match joinLv k (D.immAll acc) ke d with
          | some k' => lcL t c el vs r k' (acc ++ [d]) (wipeE ρ3 vs)
          | none => none) else none
        | _ => none)
      | some (.ok false ρ2) => lcL t c el vs r k acc (wipeE ρ2 vs)
      | _ => none
def lcS (it : M (List KD)) (t : Tg) (c : M Bool) (el : M KD) (vs : List Nat) : M KD := M.bind it fun ds ρ => match lcL t c el vs ds 8 [] (wipeE ρ vs) with
  | some (.ok kd ρ') => some (.ok kd (unwipe ρ' ρ vs))
  | _ => none
/-- the slots that a block leaves alone -/
def pinsOf (n : Nat) (vs : List Nat) : List Nat := (List.range n).filter fun i => !vs.contains i
abbrev W0 : WX := fun _ _ _ _ => False
section
variable {mg : Str → Option Value} {W : WX} {F H : Hp} {A : List Addr} {ρ : En} {σ σ1 σ2 : L2.St}
mutual
theorem asgT_len : ∀ {t : Tg} {k : Nat} {d : DN.D} {ρ ρ' : En}, asgT t k d ρ = some ρ' → ρ'.length = ρ.length
  | .n i, k, d, ρ, ρ', h => by
    unfold asgT at h
    split at h
    · cases h; rw [List.length_set]
    · cases h
  | .t ts, k, .tup ds, ρ, ρ', h => by
    unfold asgT at h
    split at h
    · exact asgTs_len h
    · cases h
  | .t ts, k, .non, ρ, ρ', h => by simp [asgT] at h
  | .t ts, k, .bl _, ρ, ρ', h => by simp [asgT] at h
  | .t ts, k, .int _, ρ, ρ', h => by simp [asgT] at h
  | .t ts, k, .str _, ρ, ρ', h => by simp [asgT] at h
  | .t ts, k, .lst _, ρ, ρ', h => by simp [asgT] at h
  | .t ts, k, .dct _, ρ, ρ', h => by simp [asgT] at h
  | .t ts, k, .seq _, ρ, ρ', h => by simp [asgT] at h
theorem asgTs_len : ∀ {ts : List Tg} {k : Nat} {ds : List DN.D} {ρ ρ' : En}, asgTs ts k ds ρ = some ρ' → ρ'.length = ρ.length
  | [], k, ds, ρ, ρ', h => by
    cases ds with
    | nil => simp [asgTs] at h; rw [h]
    | cons d ds => simp [asgTs] at h
  | t :: ts, k, ds, ρ, ρ', h => by
    cases ds with
    | nil => simp [asgTs] at h
    | cons d ds =>
      unfold asgTs at h
      split at h
      · rename_i ρ1 e
        rw [asgTs_len h, asgT_len e]
      · cases h
end
theorem wipe_at {i : Nat} : ∀ {vs : List Nat}, i < σ.length → (L2.wipe σ vs)[i]? = if vs.contains i = true then some none else σ[i]?
  | [], _ => by simp [L2.wipe]
  | v :: vs, h => by
    unfold L2.wipe
    by_cases hi : v = i
    · subst hi
      rw [List.getElem?_set_self (by rw [wipe_length]; exact h)]
      simp
    · rw [List.getElem?_set_ne hi, wipe_at (vs := vs) h]
      have : (v :: vs).contains i = vs.contains i := by
        simp only [List.contains_cons]
        have : (i == v) = false := by simpa using fun e => hi e.symm
        rw [this, Bool.false_or]
      rw [this]
theorem wipe_eq {vs : List Nat} (hl : σ2.length = σ.length) (p : Pk (pinsOf σ.length vs) (L2.wipe σ vs) σ2) : L2.wipe σ2 vs = L2.wipe σ vs := by
  apply List.ext_getElem?
  intro i
  by_cases hi : i < σ.length
  · rw [wipe_at (by rw [hl]; exact hi), wipe_at hi]
    by_cases hv : vs.contains i = true
    · rw [if_pos hv, if_pos hv]
    · rw [if_neg hv, if_neg hv]
      have hm : i ∈ pinsOf σ.length vs := by
        unfold pinsOf
        rw [List.mem_filter]
        exact ⟨List.mem_range.mpr hi, by simpa using hv⟩
      have := p i hm
      rw [wipe_at hi, if_neg hv] at this
      exact this
  · rw [List.getElem?_eq_none (by rw [wipe_length]; omega), List.getElem?_eq_none (by rw [wipe_length]; omega)]
/-- what is held stands -/
theorem held_there {D' : Addr} {us : List V} {k : Nat} {acc : List DN.D} {Ba Z : List Addr} {F' H' H1 : Hp} (hD : H' D' = some (.lst us)) (ow : Owns F' H' k us acc Ba) (hZ : ∀ b ∈ Z, ∃ o, H1 b = some o ∧ Chg o) (eZ : ∀ b ∈ Z, H' b = H1 b) :
    ∀ b ∈ D' :: (Ba ++ Z), ∃ o, H' b = some o ∧ Chg o := fun b hb => by
  rcases List.mem_cons.mp hb with rfl | hb
  · exact ⟨_, hD, .inl ⟨us, rfl⟩⟩
  · rcases List.mem_append.mp hb with hb | hb
    · exact Owns.there _ _ _ _ ow b hb
    · rw [eZ b hb]; exact hZ b hb
theorem sD_lc {it : M (List KD)} {t : Tg} {c : M Bool} {el : M KD} {vs : List Nat} {Q : VK} (h : tD mg W (lcS it t c el vs) σ H Q) :
    tLc (tI mg W it) (gD (pinsOf σ.length vs) t) (tB mg W0 c) (tD mg W0 el) vs σ H Q := by
  obtain ⟨F, ρ, A, s, e⟩ := h
  refine ⟨F, ρ, A, s, End.bind e fun ds ρ1 J F1 H1 A1 B1 _ s1 r nd fr t1 h => ?_⟩
  intro D hD
  -- the result
  cases hl : lcL t c el vs ds 8 [] (wipeE ρ1 vs) with
  | none => rw [hl] at h; exact h.elim
  | some out =>
    cases out with
    | ex x ρ' => rw [hl] at h; exact h.elim
    | ok kd ρe =>
      rw [hl] at h
      have h : End mg W F H A σ (some (.ok kd (unwipe ρe ρ1 vs)) : Option (Out KD)) rKD Q := h
      obtain ⟨Ah, Zh, ph, eh, ch, bh⟩ := EnvR.hide vs s1.env
      obtain ⟨⟨n, G, Y, w, hn, hG, hY⟩, hB1⟩ := r
      subst hn
      -- all that is held
      have ndA : (Ah ++ Zh).Nodup := ph.nodup_iff.mpr s1.nd
      have ndZ : (Ah ++ (Zh ++ B1)).Nodup := by
        rw [← List.append_assoc]
        exact (ph.append_right B1).nodup_iff.mpr nd
      have thZ : ∀ b ∈ Zh ++ B1, ∃ o, H1 b = some o ∧ Chg o := fun b hb => (List.mem_append.mp hb).elim (ch b) (hB1 b)
      have frZ : ∀ b ∈ Zh ++ B1, F1 b = none := fun b hb => (List.mem_append.mp hb).elim (fun z => s1.fr b (ph.subset (List.mem_append_right _ z))) (fr b)
      have tZ : Tr F H A F1 H1 (Ah ++ (Zh ++ B1)) := t1.sub fun b hb => by
        rw [← List.append_assoc] at hb
        rcases List.mem_append.mp hb with hb | hb
        · exact List.mem_append_left _ (ph.subset hb)
        · exact List.mem_append_right _ hb
      generalize hZ0 : Zh ++ B1 = Z at ndZ thZ frZ tZ
      have hZl : ∀ b ∈ Zh, b ∈ Z := fun b hb => by rw [← hZ0]; exact List.mem_append_left _ hb
      have hZr : ∀ b ∈ B1, b ∈ Z := fun b hb => by rw [← hZ0]; exact List.mem_append_right _ hb
      have nDA : D ∉ Ah ++ Z := fun z => by
        rcases List.mem_append.mp z with z | z
        · obtain ⟨o, e, _⟩ := EnvR.there eh D z
          rw [hD] at e; cases e
        · obtain ⟨o, e, _⟩ := thZ D z
          rw [hD] at e; cases e
      have fD : F1 D = none := s1.sub.free hD
      have sm : Same H1 (upd H1 D (.lst [])) := fun b ob e => by rw [upd_ne (ne_of_none e hD)]; exact e
      refine lc_it w (fun i H' => ∃ F' ρ' A' us k acc Ba, StR F' H' ρ' (L2.wipe σ vs) A' ∧ Same F1 F' ∧ H' D = some (.lst us) ∧ Owns F' H' k us acc Ba ∧ (A' ++ (D :: (Ba ++ Z))).Nodup ∧ (∀ b ∈ D :: (Ba ++ Z), F' b = none) ∧ (∀ b ∈ Z, H' b = H1 b) ∧
          Tr F H A F' H' (A' ++ (D :: (Ba ++ Z))) ∧ lcL t c el vs (ds.drop i) k acc ρ' = some (.ok kd ρe)) ?_ (fun i H' _ q => ?_) (fun i x H' H2 hi q y => ?_) (fun H' q => ?_)
      · -- the start
        refine ⟨F1, wipeE ρ1 vs, Ah, [], 8, [], [], ⟨fun b ob e => sm b ob (s1.sub b ob e), EnvR.carry (Same.refl _) eh fun b hb => upd_ne fun z => nDA (by rw [← z]; exact List.mem_append_left _ hb), (List.nodup_append.mp ndA).1, fun b hb => s1.fr b (ph.subset (List.mem_append_left _ hb))⟩, Same.refl _, upd_same, .nil, ?_, ?_, fun b hb => upd_ne fun z => nDA (by rw [← z]; exact List.mem_append_right _ hb), ?_, by simpa using hl⟩
        · have pp : (Ah ++ (D :: ([] ++ Z))).Perm (D :: (Ah ++ Z)) := List.perm_middle
          exact pp.nodup_iff.mpr (List.nodup_cons.mpr ⟨nDA, ndZ⟩)
        · intro b hb
          rcases List.mem_cons.mp hb with rfl | hb
          · exact fD
          · exact frZ b (by simpa using hb)
        · have t2 : Tr F1 H1 (Ah ++ Z) F1 (upd H1 D (.lst [])) (Ah ++ (D :: ([] ++ Z))) := by
            refine ⟨Same.refl _, fun b ob e _ _ => sm b ob e, fun b ps e _ => ⟨ps, sm b _ e⟩, fun b hb => ?_, fun b ob e n => by rw [n] at e; cases e⟩
            rcases List.mem_append.mp hb with hb | hb
            · exact .inl (List.mem_append_left _ hb)
            · rcases List.mem_cons.mp hb with rfl | hb
              · exact .inr hD
              · exact .inl (List.mem_append_right _ (by simpa using hb))
          exact tZ.trans t2
      · obtain ⟨F', ρ', A', us, k, acc, Ba, s', sf, _, _, _, _, eZ, _⟩ := q
        exact hG F' H' sf s'.sub fun b hb => eZ b (hZr b hb)
      · obtain ⟨F', ρ', A', us, k, acc, Ba, s', sf, hDl, ow, nd', fr', eZ, tr', el'⟩ := q
        obtain ⟨kd1, F2, hd, s2, t2, o2⟩ := hY i F' H' ρ' (L2.wipe σ vs) A' x H2 sf s' y
        have ed : ds.drop i = kd1 :: ds.drop (i + 1) := by
          obtain ⟨h1, h2⟩ := List.getElem?_eq_some_iff.mp hd
          rw [← h2]; exact List.drop_eq_getElem_cons h1
        rw [ed] at el'
        obtain ⟨u1, u2, u3, u4⟩ := hold (held_there hDl ow thZ eZ) nd' fr' t2 s2.nd
        unfold lcL at el'
        split at el'
        · cases el'
        · rename_i ρ3 ea
          refine ⟨F2, ρ', A', [], kd1.1, kd1.2, s2, o2, by simpa using s2.nd, (fun _ z => nomatch z), ρ3, ea, fun σ3 A3 s3 hA p3 => ?_⟩
          have hA' : ∀ b ∈ A3, b ∈ A' := fun b hb => (hA b hb).elim id fun z => nomatch z
          have l3 : σ3.length = σ.length := by rw [← s3.len, asgT_len ea, s'.len, wipe_length]
          have w3 : L2.wipe σ3 vs = L2.wipe σ vs := wipe_eq l3 p3
          have nd3 : (A3 ++ (D :: (Ba ++ Z))).Nodup := List.nodup_append.mpr ⟨s3.nd, (List.nodup_append.mp u3).2.1, fun a ha b hb => (List.nodup_append.mp u3).2.2 a (hA' a ha) b hb⟩
          have t3 : Tr F H A F2 H2 (A3 ++ (D :: (Ba ++ Z))) := (tr'.trans u4).sub fun b hb => by
            rcases List.mem_append.mp hb with hb | hb
            · exact List.mem_append_left _ (hA' b hb)
            · exact List.mem_append_right _ hb
          have hD2 : H2 D = some (.lst us) := (u1 D List.mem_cons_self).trans hDl
          have eZ2 : ∀ b ∈ Z, H2 b = H1 b := fun b hb => (u1 b (List.mem_cons_of_mem _ (List.mem_append_right _ hb))).trans (eZ b hb)
          have ow2 : Owns F2 H2 k us acc Ba := Owns.carry t2.ff _ _ _ _ ow fun b hb => u1 b (List.mem_cons_of_mem _ (List.mem_append_left _ hb))
          refine ⟨w3, F2, ρ3, A3, s3, ?_⟩
          -- the way back to the block's state
          have back : ∀ {F5 H5 : Hp} {ρ5 : En} {A5 : List Addr} {us5 : List V} {k5 : Nat} {acc5 : List DN.D} {Ba5 : List Addr}, StR F5 H5 ρ5 σ3 A5 → Same F1 F5 → H5 D = some (.lst us5) → Owns F5 H5 k5 us5 acc5 Ba5 → (A5 ++ (D :: (Ba5 ++ Z))).Nodup → (∀ b ∈ D :: (Ba5 ++ Z), F5 b = none) →
              (∀ b ∈ Z, H5 b = H1 b) → Tr F H A F5 H5 (A5 ++ (D :: (Ba5 ++ Z))) → lcL t c el vs (ds.drop (i + 1)) k5 acc5 (wipeE ρ5 vs) = some (.ok kd ρe) →
              ∃ F' ρ' A' us k acc Ba, StR F' H5 ρ' (L2.wipe σ vs) A' ∧ Same F1 F' ∧ H5 D = some (.lst us) ∧ Owns F' H5 k us acc Ba ∧ (A' ++ (D :: (Ba ++ Z))).Nodup ∧ (∀ b ∈ D :: (Ba ++ Z), F' b = none) ∧ (∀ b ∈ Z, H5 b = H1 b) ∧
                Tr F H A F' H5 (A' ++ (D :: (Ba ++ Z))) ∧ lcL t c el vs (ds.drop (i + 1)) k acc ρ' = some (.ok kd ρe) := fun {F5 H5 ρ5 A5 us5 k5 acc5 Ba5} s5 sf5 d5 o5 n5 f5 z5 t5 e5 => by
            obtain ⟨A6, Z6, p6, e6, _, _⟩ := EnvR.hide vs s5.env
            rw [w3] at e6
            have sub6 : ∀ b ∈ A6, b ∈ A5 := fun b hb => p6.subset (List.mem_append_left _ hb)
            have nd6 : (A6 ++ Z6).Nodup := p6.nodup_iff.mpr s5.nd
            refine ⟨F5, wipeE ρ5 vs, A6, us5, k5, acc5, Ba5, ⟨s5.sub, e6, (List.nodup_append.mp nd6).1, fun b hb => s5.fr b (sub6 b hb)⟩, sf5, d5, o5, ?_, f5, z5, t5.sub fun b hb => ?_, e5⟩
            · exact List.nodup_append.mpr ⟨(List.nodup_append.mp nd6).1, (List.nodup_append.mp n5).2.1, fun a ha b hb => (List.nodup_append.mp n5).2.2 a (sub6 a ha) b hb⟩
            · rcases List.mem_append.mp hb with hb | hb
              · exact List.mem_append_left _ (sub6 b hb)
              · exact List.mem_append_right _ hb
          split at el'
          · -- taken
            rename_i ρ4 ec
            rw [ec]
            intro b F4 H4 A4 B4 s4 r4 nd4 fr4 t4
            obtain ⟨rfl, rfl⟩ := r4
            rw [List.append_nil] at t4
            obtain ⟨v1, v2, v3, v4⟩ := hold (held_there hD2 ow2 thZ eZ2) nd3 u2 t4 s4.nd
            rw [if_pos rfl]
            refine ⟨F4, ρ4, A4, s4, ?_⟩
            have hD4 : H4 D = some (.lst us) := (v1 D List.mem_cons_self).trans hD2
            have eZ4 : ∀ b ∈ Z, H4 b = H1 b := fun b hb => (v1 b (List.mem_cons_of_mem _ (List.mem_append_right _ hb))).trans (eZ2 b hb)
            have ow4 : Owns F4 H4 k us acc Ba := Owns.carry t4.ff _ _ _ _ ow2 fun b hb => v1 b (List.mem_cons_of_mem _ (List.mem_append_left _ hb))
            split at el'
            · rename_i ke d ρ5 ee
              rw [ee]
              intro y5 F5 H5 A5 B5 s5 r5 nd5 fr5 t5
              obtain ⟨x1, x2, x3, x4⟩ := hold (held_there hD4 ow4 thZ eZ4) v3 v2 t5 nd5
              split at el'
              · rename_i hlen
                split at el'
                · rename_i k' ej
                  have hD5 : H5 D = some (.lst us) := (x1 D List.mem_cons_self).trans hD4
                  have eZ5 : ∀ b ∈ Z, H5 b = H1 b := fun b hb => (x1 b (List.mem_cons_of_mem _ (List.mem_append_right _ hb))).trans (eZ4 b hb)
                  have ow5 : Owns F5 H5 k us acc Ba := Owns.carry t5.ff _ _ _ _ ow4 fun b hb => x1 b (List.mem_cons_of_mem _ (List.mem_append_left _ hb))
                  obtain ⟨ow6, ov6⟩ := join_own ej ow5 r5
                  have ow7 := Owns.snoc ow6 ov6
                  refine ⟨us, hD5, by rw [ow5.length, ← lineN_eq]; exact hlen, ?_⟩
                  have pp : (A5 ++ (D :: (Ba ++ B5 ++ Z))).Perm (A5 ++ B5 ++ (D :: (Ba ++ Z))) := by
                    rw [List.append_assoc A5 B5]
                    refine List.Perm.append_left _ ?_
                    have q1 : (B5 ++ (D :: (Ba ++ Z))).Perm (D :: (B5 ++ (Ba ++ Z))) := List.perm_middle
                    refine List.Perm.trans ?_ q1.symm
                    refine List.Perm.cons _ ?_
                    rw [← List.append_assoc B5]
                    exact List.perm_append_comm.append_right Z
                  have n7 : (A5 ++ (D :: (Ba ++ B5 ++ Z))).Nodup := pp.nodup_iff.mpr x3
                  have nD5 : ∀ b ∈ A5 ++ (Ba ++ B5 ++ Z), b ≠ D := fun b hb z => by
                    have q1 : (A5 ++ (D :: (Ba ++ B5 ++ Z))).Perm (D :: (A5 ++ (Ba ++ B5 ++ Z))) := List.perm_middle
                    have := (List.nodup_cons.mp (q1.nodup_iff.mp n7)).1
                    rw [z] at hb; exact this hb
                  have fD5 : F5 D = none := x2 D List.mem_cons_self
                  have s8 : StR F5 (upd H5 D (.lst (us ++ [y5]))) ρ5 σ3 A5 := ⟨fun b ob eb => by
                    rw [upd_ne (fun z => by rw [z, fD5] at eb; cases eb)]; exact s5.sub b ob eb, EnvR.carry (Same.refl _) s5.env fun b hb => upd_ne (nD5 b (List.mem_append_left _ hb)), s5.nd, s5.fr⟩
                  refine back s8 ((((sf.trans t2.ff).trans t4.ff)).trans t5.ff) upd_same (Owns.carry (Same.refl _) _ _ _ _ ow7 fun b hb => upd_ne (nD5 b (by simp at hb ⊢; rcases hb with hb | hb <;> simp [hb]))) n7 ?_ ?_ ?_ el'
                  · intro b hb
                    rcases List.mem_cons.mp hb with rfl | hb
                    · exact fD5
                    · simp only [List.mem_append] at hb
                      rcases hb with (hb | hb) | hb
                      · exact x2 b (by simp [hb])
                      · exact fr5 b hb
                      · exact x2 b (by simp [hb])
                  · intro b hb
                    rw [upd_ne (nD5 b (by simp [hb]))]
                    exact eZ5 b hb
                  · refine ((t3.trans v4).trans x4).trans (tr_upd (by simp) fun b hb => pp.subset hb)
                · cases el'
              · cases el'
            · cases el'
          · -- left out
            rename_i ρ4 ec
            rw [ec]
            intro b F4 H4 A4 B4 s4 r4 nd4 fr4 t4
            obtain ⟨rfl, rfl⟩ := r4
            rw [List.append_nil] at t4
            obtain ⟨v1, v2, v3, v4⟩ := hold (held_there hD2 ow2 thZ eZ2) nd3 u2 t4 s4.nd
            rw [if_neg (by decide)]
            exact back s4 ((sf.trans t2.ff).trans t4.ff) ((v1 D List.mem_cons_self).trans hD2) (Owns.carry t4.ff _ _ _ _ ow2 fun b hb => v1 b (List.mem_cons_of_mem _ (List.mem_append_left _ hb))) v3 v2
              (fun b hb => (v1 b (List.mem_cons_of_mem _ (List.mem_append_right _ hb))).trans (eZ2 b hb)) (t3.trans v4) el'
          · cases el'
      · obtain ⟨F', ρ', A', us, k, acc, Ba, s', sf, hDl, ow, nd', fr', eZ, tr', el'⟩ := q
        rw [List.drop_length] at el'
        have el2 : (some (.ok (k + 1, .lst acc) ρ') : Option (Out KD)) = some (.ok kd ρe) := el'
        simp only [Option.some.injEq, Out.ok.injEq] at el2
        obtain ⟨rfl, rfl⟩ := el2
        obtain ⟨A'', C, pc, e'⟩ := bh F' H' ρ' A' sf (fun b hb => eZ b (hZl b hb)) s'.env
        have pp : (A'' ++ (D :: Ba) ++ (C ++ B1)).Perm (A' ++ (D :: (Ba ++ Z))) := by
          rw [← hZ0]
          have q1 : (A'' ++ (D :: Ba) ++ (C ++ B1)).Perm ((A'' ++ C) ++ ((D :: Ba) ++ B1)) := by
            simp only [List.append_assoc]
            refine List.Perm.append_left _ ?_
            rw [← List.append_assoc, ← List.append_assoc]
            exact List.perm_append_comm.append_right B1
          refine q1.trans ((pc.append_right _).trans ?_)
          simp only [List.append_assoc]
          refine List.Perm.append_left _ ?_
          have q2 : (Zh ++ ((D :: Ba) ++ B1)).Perm ((D :: Ba) ++ (Zh ++ B1)) := by
            rw [← List.append_assoc, ← List.append_assoc]
            exact List.perm_append_comm.append_right B1
          simpa using q2
        have ndp := pp.nodup_iff.mpr nd'
        have nd2 := (List.nodup_append.mp ndp).1
        have frr : ∀ b ∈ A'' ++ (D :: Ba) ++ (C ++ B1), F' b = none := fun b hb => by
          rcases List.mem_append.mp (pp.subset hb) with hb | hb
          · exact s'.fr b hb
          · exact fr' b hb
        exact h (.ref D) F' H' A'' (D :: Ba) ⟨s'.sub, e', (List.nodup_append.mp nd2).1, fun b hb => frr b (by simp [hb])⟩ (.low hDl ow) nd2 (fun b hb => frr b (List.mem_append_left _ (List.mem_append_right _ hb))) (tr'.sub fun b hb => pp.subset (List.mem_append_left _ hb))
end
end DN

set_option Elab.async false
set_option linter.all false
set_option maxRecDepth 100000
set_option maxHeartbeats 4000000
/-! DN, part P: defs of the program and their calls. -/
namespace DN
open PySem PySem.Spec PyProof.Rows L2
variable [KSeq]

/-- a call's end: the value, and what the parameters that change hold -/
inductive FR where
  | rt (k : Nat) (d : D) (outs : List KD)
  | ex (x : Ex) (outs : List KD)
abbrev Fn := List KD → Option FR
def pick {α : Type} : List Bool → List α → List α
  | true :: ms, x :: xs => x :: pick ms xs
  | false :: ms, _ :: xs => pick ms xs
  | _, _ => []
section
variable (mg : Str → Option Value) (F H : Hp)
inductive Vls : List V → List KD → List Addr → Prop
  | nil : Vls [] [] []
  | cons {v : V} {vs : List V} {k : Nat} {d : D} {kds : List KD} {A B : List Addr} : Own F H k v d A → Vls vs kds B → Vls (v :: vs) ((k, d) :: kds) (A ++ B)
def FEnd (A : List Addr) (mvs : List V) (r : Option FR) (Q : VK) (E : XK) : Prop := match r with
  | none => False
  | some (.rt k d outs) => ∀ v F' H' A' B, Same F' H' → Vls F' H' mvs outs A' → Own F' H' k v d B → (A' ++ B).Nodup → (∀ b ∈ A' ++ B, F' b = none) → Tr F H A F' H' (A' ++ B) → Q v H'
  | some (.ex x outs) => ∀ cls dd F' H' A', Same F' H' → Vls F' H' mvs outs A' → A'.Nodup → (∀ b ∈ A', F' b = none) → Tr F H A F' H' A' → ExR mg F' x cls dd H' → E cls dd H'
end
def spFn (mg : Str → Option Value) (ms : List Bool) (n : Nat) (run : Fn) : Sp := fun vs H Q E => vs.length = n ∧ ∃ F kds A, Same F H ∧ Vls F H vs kds A ∧ A.Nodup ∧ (∀ b ∈ A, F b = none) ∧ FEnd mg F H A (pick ms vs) (run kds) Q E

/-! ### a def's body -/
def mIdx : Nat → List Bool → List Nat
  | _, [] => []
  | j, true :: ms => j :: mIdx (j + 1) ms
  | j, false :: ms => mIdx (j + 1) ms
def outsOf (ρ : En) : List Nat → Option (List KD)
  | [] => some []
  | i :: is => match ρ[i]? with
    | some (some kd) => match outsOf ρ is with
      | some r => some (kd :: r)
      | none => none
    | _ => none
def envOf (n : Nat) (kds : List KD) : En := kds.map some ++ List.replicate (n - kds.length) none
def runS (n : Nat) (ms : List Bool) (body : S) : Fn := fun kds => match body (envOf n kds) with
  | some (.nx ρ) => match outsOf ρ (mIdx 0 ms) with
    | some o => some (.rt 9 .non o)
    | none => none
  | some (.rt k d ρ) => match outsOf ρ (mIdx 0 ms) with
    | some o => some (.rt k d o)
    | none => none
  | some (.ex x ρ) => match outsOf ρ (mIdx 0 ms) with
    | some o => some (.ex x o)
    | none => none
  | _ => none
section
variable {mg : Str → Option Value} {F H : Hp} {A B : List Addr} {ρ : En} {σ : L2.St}
theorem Vls.length : ∀ {vs : List V} {kds : List KD} {A : List Addr}, Vls F H vs kds A → vs.length = kds.length
  | _, _, _, .nil => rfl
  | _, _, _, .cons _ r => by simp [Vls.length r]
theorem envR_none : ∀ n : Nat, EnvR F H (List.replicate n none) (List.replicate n none) []
  | 0 => .nil
  | n + 1 => .emp _ (envR_none n)
theorem Vls.env : ∀ {vs : List V} {kds : List KD} {A : List Addr} (n : Nat), Vls F H vs kds A → EnvR F H (kds.map some ++ List.replicate n none) (vs.map some ++ List.replicate n none) A
  | _, _, _, n, .nil => envR_none n
  | _, _, _, n, .cons o r => .put o (Vls.env n r)
theorem mIdx_ge : ∀ {ms : List Bool} {j i : Nat}, i ∈ mIdx j ms → j ≤ i
  | [], _, _, h => by simp [mIdx] at h
  | true :: ms, j, i, h => by
    simp only [mIdx, List.mem_cons] at h
    rcases h with rfl | h
    · exact Nat.le_refl _
    · exact Nat.le_of_succ_le (mIdx_ge h)
  | false :: ms, j, i, h => Nat.le_of_succ_le (mIdx_ge (by simpa [mIdx] using h))
theorem mIdx_nd : ∀ {ms : List Bool} {j : Nat}, (mIdx j ms).Nodup
  | [], _ => List.nodup_nil
  | true :: ms, j => List.nodup_cons.mpr ⟨fun h => Nat.lt_irrefl _ (mIdx_ge h), mIdx_nd⟩
  | false :: ms, j => mIdx_nd (ms := ms)
theorem mIdx_pick : ∀ {ms : List Bool} {vs : List V} {j : Nat} {σ : L2.St}, ms.length ≤ vs.length → (∀ i v, vs[i]? = some v → σ[j + i]? = some (some v)) → Paired (fun i v => σ[i]? = some (some v)) (mIdx j ms) (pick ms vs)
  | [], vs, j, σ, _, _ => by cases vs <;> exact .nil
  | true :: ms, [], j, σ, h, _ => by simp at h
  | false :: ms, [], j, σ, h, _ => by simp at h
  | true :: ms, v :: vs, j, σ, h, w => .cons (by simpa using w 0 v rfl) (mIdx_pick (by simpa using h) fun i u e => by
      have := w (i + 1) u (by simpa using e)
      rwa [show j + (i + 1) = j + 1 + i by omega] at this)
  | false :: ms, v :: vs, j, σ, h, w => mIdx_pick (ms := ms) (vs := vs) (by simpa using h) fun i u e => by
      have := w (i + 1) u (by simpa using e)
      rwa [show j + (i + 1) = j + 1 + i by omega] at this
theorem outsOf_set {i : Nat} : ∀ {is : List Nat}, i ∉ is → outsOf (ρ.set i none) is = outsOf ρ is
  | [], _ => rfl
  | j :: is, h => by
    rw [List.mem_cons, not_or] at h
    unfold outsOf
    rw [List.getElem?_set_ne h.1, outsOf_set h.2]
/-- what some names hold -/
theorem env_picks : ∀ {is : List Nat} {mvs : List V} {outs : List KD} {ρ : En} {A : List Addr}, EnvR F H ρ σ A → is.Nodup → outsOf ρ is = some outs → Paired (fun i v => σ[i]? = some (some v)) is mvs → ∃ A' C, (A' ++ C).Perm A ∧ Vls F H mvs outs A'
  | [], _, _, ρ, A, h, _, e, p => by
    cases p
    simp only [outsOf, Option.some.injEq] at e
    subst e
    exact ⟨[], A, by simp, .nil⟩
  | i :: is, _, _, ρ, A, h, nd, e, p => by
    cases p with
    | @cons _ v _ mvs hv p =>
      obtain ⟨n1, n2⟩ := List.nodup_cons.mp nd
      unfold outsOf at e
      split at e
      · rename_i kd ek
        split at e
        · rename_i r er
          simp only [Option.some.injEq] at e
          subst e
          obtain ⟨A1, Z, p1, h1, h2⟩ := EnvR.hide1 h i
          obtain ⟨v', ev, ov⟩ := h2 kd.1 kd.2 ek
          rw [hv] at ev
          cases ev
          have h3 := h1 (some v)
          rw [set_same hv] at h3
          obtain ⟨A', C, p2, w⟩ := env_picks h3 n2 (by rw [outsOf_set n1]; exact er) p
          refine ⟨Z ++ A', C, ?_, .cons ov w⟩
          have : (Z ++ A' ++ C).Perm (Z ++ A1) := by
            rw [List.append_assoc]; exact List.Perm.append_left _ p2
          exact this.trans (List.perm_append_comm.trans p1)
        · cases e
      · cases e
theorem start_at {N : List Str} {vs : List V} {i : Nat} {v : V} (h : vs[i]? = some v) : (L2.start N vs)[i]? = some (some v) := by
  unfold L2.start
  have hi : i < vs.length := (List.getElem?_eq_some_iff.mp h).1
  rw [List.getElem?_append_left (by simpa using hi), List.getElem?_map, h]
  rfl
theorem Pk.paired {P : List Nat} {σ σ' : L2.St} {mvs : List V} (p : Pk P σ σ') (h : Paired (fun i v => σ[i]? = some (some v)) P mvs) : Paired (fun i v => σ'[i]? = some (some v)) P mvs := by
  have : ∀ {is : List Nat} {mvs : List V}, (∀ i ∈ is, σ'[i]? = σ[i]?) → Paired (fun i v => σ[i]? = some (some v)) is mvs → Paired (fun i v => σ'[i]? = some (some v)) is mvs := by
    intro is mvs w h
    induction h with
    | nil => exact .nil
    | cons h1 _ ih => exact .cons ((w _ List.mem_cons_self).trans h1) (ih fun i hi => w i (List.mem_cons_of_mem _ hi))
  exact this p h
/-- the reading of a def's body -/
theorem body_rd {N : List Str} {ms : List Bool} {body : S} {vs : List V} {Q : VK} {E : XK} (hm : ms.length ≤ vs.length) (h : spFn mg ms vs.length (runS N.length ms body) vs H Q E) :
    sD (mIdx 0 ms) mg (fun cls d _ H => E cls d H) body { nx := fun _ H' => Q .non H', rt := Q } (L2.start N vs) H := by
  obtain ⟨_, F, kds, A, sm, vl, nd, fr, e⟩ := h
  have en := Vls.env (N.length - kds.length) vl
  rw [show (vs.map some ++ List.replicate (N.length - kds.length) none : L2.St) = L2.start N vs by unfold L2.start; rw [vl.length]] at en
  refine ⟨F, envOf N.length kds, A, ⟨sm, en, nd, fr⟩, ?_⟩
  have pp : Paired (fun i v => (L2.start N vs)[i]? = some (some v)) (mIdx 0 ms) (pick ms vs) := mIdx_pick hm fun i v e => by rw [Nat.zero_add]; exact start_at e
  unfold runS at e
  cases eb : body (envOf N.length kds) with
  | none => rw [eb] at e; exact e
  | some o =>
    rw [eb] at e
    cases o with
    | nx ρ' =>
      cases eo : outsOf ρ' (mIdx 0 ms) with
      | none => simp only [eo] at e; exact (show False from e).elim
      | some outs =>
        simp only [eo] at e
        intro σ' F' H' A' s t p
        obtain ⟨A'', C, pc, w⟩ := env_picks s.env mIdx_nd eo (Pk.paired p pp)
        have n2 := (List.nodup_append.mp (pc.nodup_iff.mpr s.nd)).1
        exact e .non F' H' A'' [] s.sub w .non (by simpa using n2) (fun b hb => s.fr b (pc.subset (List.mem_append_left _ (by simpa using hb)))) (t.sub fun b hb => pc.subset (List.mem_append_left _ (by simpa using hb)))
    | bk ρ' => exact (show False from e).elim
    | ct ρ' => exact (show False from e).elim
    | rt k d ρ' =>
      cases eo : outsOf ρ' (mIdx 0 ms) with
      | none => simp only [eo] at e; exact (show False from e).elim
      | some outs =>
        simp only [eo] at e
        intro v σ' F' H' A' B s p o nd2 fr2 t
        obtain ⟨A'', C, pc, w⟩ := env_picks s.env mIdx_nd eo (Pk.paired p pp)
        have sb : ∀ b ∈ A'', b ∈ A' := fun b hb => pc.subset (List.mem_append_left _ hb)
        have n2 : (A'' ++ B).Nodup := List.nodup_append.mpr ⟨(List.nodup_append.mp (pc.nodup_iff.mpr s.nd)).1, (List.nodup_append.mp nd2).2.1, fun a ha b hb => (List.nodup_append.mp nd2).2.2 a (sb a ha) b hb⟩
        refine e v F' H' A'' B s.sub w o n2 (fun b hb => (List.mem_append.mp hb).elim (fun z => s.fr b (sb b z)) (fr2 b)) (t.sub fun b hb => ?_)
        rcases List.mem_append.mp hb with hb | hb
        · exact List.mem_append_left _ (sb b hb)
        · exact List.mem_append_right _ hb
    | ex x ρ' =>
      cases eo : outsOf ρ' (mIdx 0 ms) with
      | none => simp only [eo] at e; exact (show False from e).elim
      | some outs =>
        simp only [eo] at e
        intro cls dd σ' F' H' A' s p t xr
        obtain ⟨A'', C, pc, w⟩ := env_picks s.env mIdx_nd eo (Pk.paired p pp)
        have sb : ∀ b ∈ A'', b ∈ A' := fun b hb => pc.subset (List.mem_append_left _ hb)
        exact e cls dd F' H' A'' s.sub w (List.nodup_append.mp (pc.nodup_iff.mpr s.nd)).1 (fun b hb => s.fr b (sb b hb)) (t.sub sb) xr
end

/-! ### a call -/
def prep : List Bool → List Opv → En → Option (List KD × List (Option Nat) × List (Nat × KD) × En)
  | [], [], ρ => some ([], [], [], ρ)
  | m :: ms, .v k d :: xs, ρ => match prep ms xs ρ with
    | some (kds, mi, vw, ρ') => some ((k, d) :: kds, (if m = true then none :: mi else mi), vw, ρ')
    | none => none
  | true :: ms, .b i :: xs, ρ => match ρ[i]? with
    | some (some kd) => match prep ms xs (ρ.set i none) with
      | some (kds, mi, vw, ρ') => some (kd :: kds, some i :: mi, vw, ρ')
      | none => none
    | _ => none
  | false :: ms, .b i :: xs, ρ => match ρ[i]? with
    | some (some kd) => if kd.2.imm = true then (match prep ms xs ρ with
        | some (kds, mi, vw, ρ') => some ((9, kd.2) :: kds, mi, vw, ρ')
        | none => none) else (match prep ms xs (ρ.set i none) with
        | some (kds, mi, vw, ρ') => some ((0, kd.2) :: kds, mi, (i, kd) :: vw, ρ')
        | none => none)
    | _ => none
  | _, _, _ => none
def puts (ρ : En) : List (Nat × KD) → En
  | [] => ρ
  | (i, kd) :: r => puts (ρ.set i (some kd)) r
def zipO : List (Option Nat) → List KD → List (Nat × KD)
  | some i :: mi, kd :: o => (i, kd) :: zipO mi o
  | none :: mi, _ :: o => zipO mi o
  | _, _ => []
def frz0 (vw : List (Nat × KD)) : List (Nat × KD) := vw.map fun p => (p.1, (0, p.2.2))
def callG (ms : List Bool) (run : Fn) (xs : List Opv) : M KD := fun ρ => match prep ms xs ρ with
  | none => none
  | some (kds, mi, vw, ρ') => match run kds with
    | none => none
    | some (.rt k d outs) => if (d.cln k && outs.all fun o => o.2.cln o.1) = true then some (.ok (k, d) (puts ρ' (zipO mi outs ++ vw))) else some (.ok (k, d) (puts ρ' (zipO mi outs ++ frz0 vw)))
    | some (.ex x outs) => some (.ex x (puts ρ' (zipO mi outs ++ frz0 vw)))
section
variable {mg : Str → Option Value} {W : WX} {F F' H H' : Hp} {A B : List Addr} {ρ : En} {σ : L2.St}
inductive VwR (F H : Hp) (σ : L2.St) : List (Nat × KD) → List Addr → Prop
  | nil : VwR F H σ [] []
  | cons {i k : Nat} {d : D} {v : V} {l : List (Nat × KD)} {Z S : List Addr} : σ[i]? = some (some v) → Own F H k v d Z → VwR F H σ l S → VwR F H σ ((i, (k, d)) :: l) (Z ++ S)
abbrev MiR (σ : L2.St) (mi : List (Option Nat)) (mvs : List V) : Prop := Paired (fun oi v => ∀ i, oi = some i → σ[i]? = some (some v)) mi mvs
theorem VwR.carry (e : Same F F') : ∀ {l : List (Nat × KD)} {S : List Addr}, VwR F H σ l S → (∀ b ∈ S, H' b = H b) → VwR F' H' σ l S
  | _, _, .nil, _ => .nil
  | _, _, .cons h o r, w => .cons h (Own.carry e _ _ _ _ o fun b hb => w b (List.mem_append_left _ hb)) (VwR.carry e r fun b hb => w b (List.mem_append_right _ hb))
theorem VwR.there : ∀ {l : List (Nat × KD)} {S : List Addr}, VwR F H σ l S → ∀ b ∈ S, ∃ o, H b = some o ∧ Chg o
  | _, _, .nil, b, hb => nomatch hb
  | _, _, .cons h o r, b, hb => (List.mem_append.mp hb).elim (Own.there _ _ _ _ o b) (VwR.there r b)
theorem VwR.app : ∀ {l l' : List (Nat × KD)} {S S' : List Addr}, VwR F H σ l S → VwR F H σ l' S' → VwR F H σ (l ++ l') (S ++ S')
  | _, _, _, _, .nil, r => r
  | _, _, _, _, .cons h o r, r' => by
    rw [List.append_assoc]
    exact .cons h o (VwR.app r r')
theorem own_frozen {k : Nat} {d : D} {v : V} {Z : List Addr} (e : Same F H) (o : Own F H k v d Z) (sf : Same F F') (fz : ∀ b ∈ Z, F' b = H b) {H' : Hp} : Own F' H' 0 v d [] := by
  refine (Own.freeze e _ _ _ _ o).zero fun b ob eb => ?_
  by_cases hb : b ∈ Z
  · rw [frz_in hb] at eb; rw [fz b hb]; exact eb
  · rw [frz_out hb] at eb; exact sf b ob eb
theorem VwR.frozen (e : Same F H) (sf : Same F F') {H' : Hp} : ∀ {l : List (Nat × KD)} {S : List Addr}, VwR F H σ l S → (∀ b ∈ S, F' b = H b) → VwR F' H' σ (frz0 l) []
  | _, _, .nil, _ => .nil
  | _, _, .cons h o r, w => .cons (Z := []) (S := []) h (own_frozen e o sf fun b hb => w b (List.mem_append_left _ hb)) (VwR.frozen e sf r fun b hb => w b (List.mem_append_right _ hb))
theorem puts_ok : ∀ {l : List (Nat × KD)} {Z : List Addr} {ρ : En} {A : List Addr}, EnvR F H ρ σ A → VwR F H σ l Z → ∃ A'' C, (A'' ++ C).Perm (A ++ Z) ∧ EnvR F H (puts ρ l) σ A''
  | _, _, ρ, A, h, .nil => ⟨A, [], by simp, h⟩
  | _, _, ρ, A, h, .cons (i := i) (k := k) (d := d) (v := v) (l := l) (Z := Z) (S := S) hv o r => by
    have hi : i < ρ.length := by rw [h.length]; exact (List.getElem?_eq_some_iff.mp hv).1
    obtain ⟨A1, C1, p1, e1⟩ := EnvR.back1 (i := i) (o := some v) (sl := some (k, d)) (Z := Z) h hi fun k' d' e => by cases e; exact ⟨v, rfl, o⟩
    rw [set_same hv] at e1
    obtain ⟨A2, C2, p2, e2⟩ := puts_ok e1 r
    refine ⟨A2, C2 ++ C1, ?_, e2⟩
    rw [← List.append_assoc]
    refine (p2.append_right C1).trans ?_
    have : (A1 ++ S ++ C1).Perm (A1 ++ C1 ++ S) := by
      rw [List.append_assoc, List.append_assoc]; exact List.Perm.append_left _ List.perm_append_comm
    refine this.trans ((p1.append_right S).trans ?_)
    rw [List.append_assoc]
theorem zipO_ok : ∀ {mi : List (Option Nat)} {outs : List KD} {mvs : List V} {A' : List Addr}, Vls F H mvs outs A' → MiR σ mi mvs → ∃ Z C, (Z ++ C).Perm A' ∧ VwR F H σ (zipO mi outs) Z
  | _, _, _, _, .nil, .nil => ⟨[], [], .nil, .nil⟩
  | none :: mi, _, _, _, .cons (A := A1) o r, .cons _ p => by
    obtain ⟨Z, C, pc, w⟩ := zipO_ok r p
    refine ⟨Z, C ++ A1, ?_, w⟩
    rw [← List.append_assoc]
    exact (pc.append_right A1).trans List.perm_append_comm
  | some i :: mi, _, _, _, .cons (A := A1) o r, .cons h p => by
    obtain ⟨Z, C, pc, w⟩ := zipO_ok r p
    refine ⟨A1 ++ Z, C, ?_, .cons (h i rfl) o w⟩
    rw [List.append_assoc]
    exact List.Perm.append_left _ pc
theorem perm_in {α : Type} (a b c d : List α) : (a ++ (b ++ c ++ d)).Perm (b ++ (a ++ (c ++ d))) := by
  rw [List.append_assoc b, ← List.append_assoc a b, ← List.append_assoc b a]
  exact List.perm_append_comm.append_right _
theorem prep_ok (sm : Same F H) : ∀ {ms : List Bool} {xs : List Opv} {vs : List V} {ρ : En} {A B : List Addr} {kds : List KD} {mi : List (Option Nat)} {vw : List (Nat × KD)} {ρ' : En}, EnvR F H ρ σ A → OpsR F H σ vs xs B → prep ms xs ρ = some (kds, mi, vw, ρ') →
    ∃ Ah Ba Sv, (Ah ++ (Ba ++ Sv)).Perm (A ++ B) ∧ EnvR F H ρ' σ Ah ∧ (∀ F', Same F F' → (∀ b ∈ Sv, F' b = H b) → Vls F' H vs kds Ba) ∧ VwR F H σ vw Sv ∧ MiR σ mi (pick ms vs) ∧ ms.length = vs.length
  | [], _, _, ρ, A, _, kds, mi, vw, ρ', h, .nil, e => by
    simp only [prep, Option.some.injEq, Prod.mk.injEq] at e
    obtain ⟨rfl, rfl, rfl, rfl⟩ := e
    exact ⟨A, [], [], by simp, h, fun _ _ _ => .nil, .nil, .nil, rfl⟩
  | [], _, _, ρ, A, _, kds, mi, vw, ρ', h, .bor _ _, e => by simp [prep] at e
  | [], _, _, ρ, A, _, kds, mi, vw, ρ', h, .val _ _, e => by simp [prep] at e
  | true :: ms, _, _, ρ, A, _, kds, mi, vw, ρ', h, .nil, e => by simp [prep] at e
  | false :: ms, _, _, ρ, A, _, kds, mi, vw, ρ', h, .nil, e => by simp [prep] at e
  | m :: ms, _, _, ρ, A, _, kds, mi, vw, ρ', h, .val (A := B1) (B := B2) (k := k) (d := d) (v := v) o r, e => by
    unfold prep at e
    split at e
    · rename_i kds2 mi2 vw2 ρ2 e2
      simp only [Option.some.injEq, Prod.mk.injEq] at e
      obtain ⟨rfl, rfl, rfl, rfl⟩ := e
      obtain ⟨Ah, Ba, Sv, p, e1, w, vr, mr, hl⟩ := prep_ok sm h r e2
      refine ⟨Ah, B1 ++ Ba, Sv, ?_, e1, fun F' sf fz => .cons (Own.carry sf _ _ _ _ o fun _ _ => rfl) (w F' sf fz), vr, ?_, by simp [hl]⟩
      · have q1 : (Ah ++ (B1 ++ Ba ++ Sv)).Perm (B1 ++ (Ah ++ (Ba ++ Sv))) := by
          exact perm_in _ _ _ _
        refine q1.trans ((List.Perm.append_left B1 p).trans ?_)
        rw [← List.append_assoc, ← List.append_assoc]
        exact List.perm_append_comm.append_right _
      · cases m with
        | true => exact .cons (fun i z => nomatch z) mr
        | false => exact mr
    · cases e
  | true :: ms, _, _, ρ, A, B, kds, mi, vw, ρ', h, .bor (i := i) (v := v) hv r, e => by
    unfold prep at e
    split at e
    · rename_i kd ek
      split at e
      · rename_i kds2 mi2 vw2 ρ2 e2
        simp only [Option.some.injEq, Prod.mk.injEq] at e
        obtain ⟨rfl, rfl, rfl, rfl⟩ := e
        obtain ⟨A1, Z, p1, h1, h2⟩ := EnvR.hide1 h i
        obtain ⟨v', ev, ov⟩ := h2 kd.1 kd.2 ek
        rw [hv] at ev
        cases ev
        have h3 := h1 (some v)
        rw [set_same hv] at h3
        obtain ⟨Ah, Ba, Sv, p, e1, w, vr, mr, hl⟩ := prep_ok sm h3 r e2
        refine ⟨Ah, Z ++ Ba, Sv, ?_, e1, fun F' sf fz => .cons (Own.carry sf _ _ _ _ ov fun _ _ => rfl) (w F' sf fz), vr, .cons (fun j z => by cases z; exact hv) mr, by simp [hl]⟩
        have q1 : (Ah ++ (Z ++ Ba ++ Sv)).Perm (Z ++ (Ah ++ (Ba ++ Sv))) := by
          exact perm_in _ _ _ _
        refine q1.trans ((List.Perm.append_left Z p).trans ?_)
        rw [← List.append_assoc]
        exact ((List.perm_append_comm.trans p1).append_right B)
      · cases e
    · cases e
  | false :: ms, _, _, ρ, A, B, kds, mi, vw, ρ', h, .bor (i := i) (v := v) hv r, e => by
    unfold prep at e
    split at e
    · rename_i kd ek
      obtain ⟨A1, Z, p1, h1, h2⟩ := EnvR.hide1 h i
      obtain ⟨v', ev, ov⟩ := h2 kd.1 kd.2 ek
      rw [hv] at ev
      cases ev
      split at e
      · rename_i him
        split at e
        · rename_i kds2 mi2 vw2 ρ2 e2
          simp only [Option.some.injEq, Prod.mk.injEq] at e
          obtain ⟨rfl, rfl, rfl, rfl⟩ := e
          obtain ⟨Ah, Ba, Sv, p, e1, w, vr, mr, hl⟩ := prep_ok sm h r e2
          exact ⟨Ah, Ba, Sv, p, e1, fun F' sf fz => .cons (A := []) (Own.carry sf _ _ _ _ (ov.imm' him 9 H) fun _ z => nomatch z) (w F' sf fz), vr, mr, by simp [hl]⟩
        · cases e
      · split at e
        · rename_i kds2 mi2 vw2 ρ2 e2
          simp only [Option.some.injEq, Prod.mk.injEq] at e
          obtain ⟨rfl, rfl, rfl, rfl⟩ := e
          have h3 := h1 (some v)
          rw [set_same hv] at h3
          obtain ⟨Ah, Ba, Sv, p, e1, w, vr, mr, hl⟩ := prep_ok sm h3 r e2
          refine ⟨Ah, Ba, Z ++ Sv, ?_, e1, fun F' sf fz => .cons (A := []) (own_frozen sm ov sf fun b hb => fz b (List.mem_append_left _ hb)) (w F' sf fun b hb => fz b (List.mem_append_right _ hb)), .cons hv ov vr, mr, by simp [hl]⟩
          have q1 : (Ah ++ (Ba ++ (Z ++ Sv))).Perm (Z ++ (Ah ++ (Ba ++ Sv))) := by
            have : (Ah ++ (Ba ++ (Z ++ Sv))) = (Ah ++ Ba) ++ (Z ++ Sv) := by simp
            rw [this]
            have q2 : ((Ah ++ Ba) ++ (Z ++ Sv)).Perm (Z ++ ((Ah ++ Ba) ++ Sv)) := by
              rw [← List.append_assoc, ← List.append_assoc]
              exact List.perm_append_comm.append_right _
            simpa using q2
          refine q1.trans ((List.Perm.append_left Z p).trans ?_)
          rw [← List.append_assoc]
          exact ((List.perm_append_comm.trans p1).append_right B)
        · cases e
    · cases e
/-- the state behind a call, put together -/
theorem call_env {Ah A' S : List Addr} {ρ' : En} {mi : List (Option Nat)} {outs : List KD} {mvs : List V} {l : List (Nat × KD)} (h : EnvR F H ρ' σ Ah) (vl : Vls F H mvs outs A') (mr : MiR σ mi mvs) (vr : VwR F H σ l S) : ∃ A3 C, (A3 ++ C).Perm (Ah ++ (A' ++ S)) ∧ EnvR F H (puts ρ' (zipO mi outs ++ l)) σ A3 := by
  obtain ⟨Z, C, pz, wz⟩ := zipO_ok vl mr
  obtain ⟨A3, C3, p3, e3⟩ := puts_ok h (VwR.app wz vr)
  refine ⟨A3, C3 ++ C, ?_, e3⟩
  rw [← List.append_assoc]
  refine (p3.append_right C).trans ?_
  rw [List.append_assoc]
  refine List.Perm.append_left _ ?_
  have : (Z ++ S ++ C).Perm (Z ++ C ++ S) := by
    rw [List.append_assoc, List.append_assoc]; exact List.Perm.append_left _ List.perm_append_comm
  exact this.trans (pz.append_right S)
theorem Vls.thaw {Wt : List Addr} (hW : ∀ b ∈ Wt, ∀ o, F b = some o → Chg o) : ∀ {vs : List V} {kds : List KD} {A : List Addr}, Vls F H vs kds A → (kds.all fun o => o.2.cln o.1) = true → Vls (thaw F Wt) H vs kds A
  | _, _, _, .nil, _ => .nil
  | _, _, _, .cons o r, h => by
    simp only [List.all_cons, Bool.and_eq_true] at h
    exact .cons (Own.thaw hW _ _ _ _ o h.1) (Vls.thaw hW r h.2)
theorem callG_ok {ms : List Bool} {run : Fn} {xs : List Opv} {vs : List V} {Q : VK} (s : StR F H ρ σ A) (o : OpsR F H σ vs xs B) (nd : (A ++ B).Nodup) (fr : ∀ b ∈ B, F b = none) (e : End mg W F H (A ++ B) σ (callG ms run xs ρ) rKD Q) :
    spFn mg ms vs.length run vs H Q (WE W σ) := by
  unfold callG at e
  split at e
  · exact e.elim
  · rename_i kds mi vw ρ' ep
    obtain ⟨Ah, Ba, Sv, pp, eh, wv, vr, mr, hl⟩ := prep_ok s.sub s.env o ep
    have nda : (Ah ++ (Ba ++ Sv)).Nodup := pp.nodup_iff.mpr nd
    have fra : ∀ b ∈ Ah ++ (Ba ++ Sv), F b = none := fun b hb => (List.mem_append.mp (pp.subset hb)).elim (s.fr b) (fr b)
    have nd2 := nda
    simp only [List.nodup_append, List.mem_append] at nd2
    obtain ⟨nA, ⟨nB, nS, nBS⟩, nABS⟩ := nd2
    have sF1 : Same F (frz F H Sv) := frz_same s.sub
    have inBa : ∀ b ∈ Ba, b ∉ Sv := fun b hb z => nBS b hb b z rfl
    have inAh : ∀ b ∈ Ah, b ∉ Sv ∧ b ∉ Ba := fun b hb => ⟨fun z => nABS b hb b (.inr z) rfl, fun z => nABS b hb b (.inl z) rfl⟩
    refine ⟨rfl, frz F H Sv, kds, Ba, frz_sub s.sub, wv _ sF1 fun b hb => frz_in hb, nB, fun b hb => by rw [frz_out (inBa b hb)]; exact fra b (by simp [hb]), ?_⟩
    -- what holds behind the callee
    have after : ∀ {F' H' : Hp} {A' : List Addr}, Tr (frz F H Sv) H Ba F' H' A' →
        (∀ b ∈ Ah, H' b = H b ∧ b ∉ A' ∧ F' b = none) ∧ (∀ b ∈ Sv, H' b = H b ∧ b ∉ A' ∧ F' b = H b) := fun {F' H' A'} t => by
      obtain ⟨a1, a2, a3⟩ := t.off (B := Ah) fun b hb => ⟨(inAh b hb).2, EnvR.there eh b hb⟩
      obtain ⟨b1, b2, _⟩ := t.off (B := Sv) fun b hb => ⟨fun z => inBa b z hb, VwR.there vr b hb⟩
      have a4 := a3 fun b hb => by rw [frz_out (inAh b hb).1]; exact fra b (by simp [hb])
      refine ⟨fun b hb => ⟨a1 b hb, a2 b hb, a4 b hb⟩, fun b hb => ⟨b1 b hb, b2 b hb, ?_⟩⟩
      obtain ⟨ob, eb, _⟩ := VwR.there vr b hb
      rw [eb]
      exact t.ff b ob (by rw [frz_in hb]; exact eb)
    have trh : ∀ {F' H' F2 : Hp} {A' A2 : List Addr}, Tr (frz F H Sv) H Ba F' H' A' → Same F F2 → (∀ b o, F2 b = some o → F' b = some o) → (∀ b ∈ A2, b ∈ Ah ∨ b ∈ Sv ∨ b ∈ A') → Tr F H (A ++ B) F2 H' A2 := fun {F' H' F2 A' A2} t sf h2 h3 => by
      have mem : ∀ {b}, b ∈ Ah ∨ b ∈ Sv ∨ b ∈ Ba → b ∈ A ++ B := fun {b} h => pp.subset (by simp only [List.mem_append]; rcases h with h | h | h <;> simp [h])
      refine ⟨sf, fun b o e n x => t.hh b o e (fun z => n (mem (.inr (.inr z)))) x, fun b ps e n => t.tb b ps e fun z => n (mem (.inr (.inr z))), fun b hb => ?_, fun b o e n => ?_⟩
      · rcases h3 b hb with h | h | h
        · exact .inl (mem (.inl h))
        · exact .inl (mem (.inr (.inl h)))
        · exact (t.aa b h).imp (fun z => mem (.inr (.inr z))) id
      · by_cases hb : b ∈ Sv
        · exact .inl (mem (.inr (.inl hb)))
        · exact (t.fn b o (h2 b o e) (by rw [frz_out hb]; exact n)).imp (fun z => mem (.inr (.inr z))) id
    -- kept frozen
    have cold : ∀ {F' H' : Hp} {A' : List Addr} {outs : List KD} {C' : List Addr}, Same F' H' → Vls F' H' (pick ms vs) outs A' → Tr (frz F H Sv) H Ba F' H' (A' ++ C') → (A' ++ C').Nodup → (∀ b ∈ A' ++ C', F' b = none) →
        ∃ A3, StR F' H' (puts ρ' (zipO mi outs ++ frz0 vw)) σ A3 ∧ (A3 ++ C').Nodup ∧ Tr F H (A ++ B) F' H' (A3 ++ C') := fun {F' H' A' outs C'} sm vl t nd' fr' => by
      obtain ⟨u1, u2⟩ := after t
      have sf : Same F F' := sF1.trans t.ff
      obtain ⟨A3, C, pc, e3⟩ := call_env (EnvR.carry sf eh fun b hb => (u1 b hb).1) vl mr (VwR.frozen s.sub sf (H' := H') vr fun b hb => (u2 b hb).2.2)
      have sb : ∀ b ∈ A3, b ∈ Ah ∨ b ∈ A' := fun b hb => by simpa using pc.subset (List.mem_append_left C hb)
      have n3 : (Ah ++ (A' ++ [])).Nodup := by
        rw [List.append_nil]
        exact List.nodup_append.mpr ⟨nA, (List.nodup_append.mp nd').1, fun a ha b hb z => (u1 a ha).2.1 (by rw [z]; exact List.mem_append_left _ hb)⟩
      have n4 := (List.nodup_append.mp (pc.nodup_iff.mpr n3)).1
      refine ⟨A3, ⟨sm, e3, n4, fun b hb => (sb b hb).elim (fun z => (u1 b z).2.2) fun z => fr' b (List.mem_append_left _ z)⟩, List.nodup_append.mpr ⟨n4, (List.nodup_append.mp nd').2.1, fun a ha b hb z => ?_⟩, trh t sf (fun _ _ h => h) fun b hb => ?_⟩
      · subst z
        rcases sb a ha with h | h
        · exact (u1 a h).2.1 (List.mem_append_right _ hb)
        · exact (List.nodup_append.mp nd').2.2 a h a hb rfl
      · rcases List.mem_append.mp hb with hb | hb
        · exact (sb b hb).imp id fun z => .inr (List.mem_append_left _ z)
        · exact .inr (.inr (List.mem_append_right _ hb))
    split at e
    · exact e.elim
    · rename_i k d outs er
      rw [er]
      intro v F' H' A' B' sm vl ov nd' fr' t
      split at e
      · rename_i hc
        simp only [Bool.and_eq_true] at hc
        obtain ⟨u1, u2⟩ := after t
        have hW : ∀ b ∈ Sv, ∀ ob, F' b = some ob → Chg ob := fun b hb ob eb => by
          obtain ⟨o', e', c'⟩ := VwR.there vr b hb
          rw [(u2 b hb).2.2, e'] at eb
          cases eb; exact c'
        have sf : Same F (thaw F' Sv) := fun b ob eb => by
          have hb : b ∉ Sv := fun z => by rw [fra b (by simp [z])] at eb; cases eb
          rw [thaw_out hb]
          exact (sF1.trans t.ff) b ob eb
        have smT : Same (thaw F' Sv) H' := thaw_sub.trans sm
        obtain ⟨A3, C, pc, e3⟩ := call_env (EnvR.carry sf eh fun b hb => (u1 b hb).1) (Vls.thaw hW vl hc.2) mr (VwR.carry sf vr fun b hb => (u2 b hb).1)
        have n3 : (Ah ++ (A' ++ Sv)).Nodup := by
          refine List.nodup_append.mpr ⟨nA, List.nodup_append.mpr ⟨(List.nodup_append.mp nd').1, nS, fun a ha b hb z => (u2 b hb).2.1 (by rw [← z]; exact List.mem_append_left _ ha)⟩, fun a ha b hb z => ?_⟩
          rcases List.mem_append.mp hb with hb | hb
          · exact (u1 a ha).2.1 (by rw [z]; exact List.mem_append_left _ hb)
          · exact (inAh a ha).1 (by rw [z]; exact hb)
        have n4 := (List.nodup_append.mp (pc.nodup_iff.mpr n3)).1
        have sb : ∀ b ∈ A3, b ∈ Ah ∨ b ∈ A' ∨ b ∈ Sv := fun b hb => by simpa using pc.subset (List.mem_append_left C hb)
        have f4 : ∀ b, b ∈ Ah ∨ b ∈ A' ++ B' ∨ b ∈ Sv → thaw F' Sv b = none := fun b hb => by
          by_cases hs : b ∈ Sv
          · exact thaw_in hs
          · rw [thaw_out hs]
            rcases hb with hb | hb | hb
            · exact (u1 b hb).2.2
            · exact fr' b hb
            · exact absurd hb hs
        refine e v (thaw F' Sv) H' A3 B' ⟨smT, e3, n4, fun b hb => f4 b ((sb b hb).imp id (.imp (List.mem_append_left _) id))⟩ (Own.thaw hW _ _ _ _ ov hc.1) (List.nodup_append.mpr ⟨n4, (List.nodup_append.mp nd').2.1, fun a ha b hb z => ?_⟩) (fun b hb => f4 b (.inr (.inl (List.mem_append_right _ hb))))
          (trh t sf (fun b ob h => ?_) fun b hb => ?_)
        · subst z
          rcases sb a ha with h | h | h
          · exact (u1 a h).2.1 (List.mem_append_right _ hb)
          · exact (List.nodup_append.mp nd').2.2 a h a hb rfl
          · exact (u2 a h).2.1 (List.mem_append_right _ hb)
        · exact thaw_sub b ob h
        · rcases List.mem_append.mp hb with hb | hb
          · rcases sb b hb with h | h | h
            · exact .inl h
            · exact .inr (.inr (List.mem_append_left _ h))
            · exact .inr (.inl h)
          · exact .inr (.inr (List.mem_append_right _ hb))
      · obtain ⟨A3, s3, n3, t3⟩ := cold sm vl t nd' fr'
        exact e v F' H' A3 B' s3 ov n3 (fun b hb => fr' b (List.mem_append_right _ hb)) t3
    · rename_i x outs er
      rw [er]
      intro cls dd F' H' A' sm vl nd' fr' t xr
      obtain ⟨A3, s3, n3, t3⟩ := cold (C' := []) sm vl (by simpa using t) (by simpa using nd') (by simpa using fr')
      exact e cls dd F' H' A3 s3 (by simpa using t3) xr
end
section
variable {X : Cx} {mg : Str → Option Value} {W : WX} {k : Nat} {f : Addr} {fd : FuncData} {ps : List Str} {ms : List Bool} {run : Fn} {x : Str} {p pos : Pos} {e : Expr} {es : List Expr} {os : List Opd}
theorem tOs_len : ∀ {os : List Opd} {ρ : En} {xs : List Opv} {ρ' : En}, evs os ρ = some (.ok xs ρ') → xs.length = os.length
  | [], ρ, xs, ρ', h => by
    unfold evs M.ret at h
    simp only [Option.some.injEq, Out.ok.injEq] at h
    rw [← h.1]; rfl
  | .b i :: os, ρ, xs, ρ', h => by
    unfold evs at h
    split at h
    · cases e : evs os ρ with
      | none => rw [e] at h; cases h
      | some o =>
        rw [e] at h
        cases o with
        | ex x ρ2 => cases h
        | ok ys ρ2 =>
          have h' : (some (Out.ok (Opv.b i :: ys) ρ2) : Option (Out (List Opv))) = some (.ok xs ρ') := h
          simp only [Option.some.injEq, Out.ok.injEq] at h'
          rw [← h'.1, List.length_cons, tOs_len e]; rfl
    · cases h
  | .v f :: os, ρ, xs, ρ', h => by
    unfold evs at h
    cases e1 : f ρ with
    | none => rw [e1] at h; cases h
    | some o1 =>
      rw [e1] at h
      cases o1 with
      | ex x ρ2 => cases h
      | ok kd ρ1 =>
        cases e : evs os ρ1 with
        | none =>
          have h' : bnd (evs os ρ1) (fun xs => M.ret (Opv.v kd.1 kd.2 :: xs)) = some (.ok xs ρ') := h
          rw [e] at h'; cases h'
        | some o =>
          have h' : bnd (evs os ρ1) (fun xs => M.ret (Opv.v kd.1 kd.2 :: xs)) = some (.ok xs ρ') := h
          rw [e] at h'
          cases o with
          | ex x ρ2 => cases h'
          | ok ys ρ2 =>
            have h'' : (some (Out.ok (Opv.v kd.1 kd.2 :: ys) ρ2) : Option (Out (List Opv))) = some (.ok xs ρ') := h'
            simp only [Option.some.injEq, Out.ok.injEq] at h''
            rw [← h''.1, List.length_cons, tOs_len e]; rfl
theorem OpsR.length {F H : Hp} {σ : L2.St} : ∀ {vs : List V} {xs : List Opv} {B : List Addr}, OpsR F H σ vs xs B → vs.length = xs.length
  | _, _, _, .nil => rfl
  | _, _, _, .bor _ r => by simp [OpsR.length r]
  | _, _, _, .val _ r => by simp [OpsR.length r]
/-- a call whose arguments are all written, in their places -/
theorem call_rd {σ : L2.St} {H : Hp} {Q : VK} (h : tD mg W (opE os (callG ms run)) σ H Q) : tCallSD (spFn mg ms os.length run) [] (WE W) (tOs mg W os) σ H Q := by
  obtain ⟨F, ρ, A, s, e⟩ := h
  refine ⟨F, ρ, A, s, End.bind e fun xs ρ1 vs F1 H1 A1 B1 er s1 o nd fr t h => ?_⟩
  rw [List.append_nil]
  have := callG_ok s1 o nd fr (End.later t h)
  rw [OpsR.length o, tOs_len er] at this
  exact this
theorem pe_callF (tk : Takes X W) (F : FnOk X.prog X.w X.K X.mg X.base (L2.CX X.prog X.w) k f fd ps (spFn mg ms os.length run)) (hr : Room k X.A) (hg : Gl X x) (hm : X.mg x = some (.ref f)) (hk : PySem.W.keepIn X.K (.ref f) = true) (hb : Binds X.K fd ps [])
    (ha : Paired (OpdOk X mg W) (e :: es) os) (hdb : (x == ("__debug__" : Str)) = false) (hs : (e :: es).all notStar = true) : PE X (.Call (.Name x p) (e :: es) [] pos) (tD mg W (opE os (callG ms run))) := by
  simp only [List.all_cons, Bool.and_eq_true] at hs
  exact (pe_callSD (E := WE W) F hr hg hm hk hb .nil (fun σ => passAt tk σ) (pa_of ha) hdb (starEach_of hs.1) (few_of hs.2).2).imp fun _ _ _ h => call_rd h
/-- a def of the program: its body's reading makes its promise -/
theorem fn_okS {P : Program} {w : World} {K : PySem.W.Frag} {base : Heap} {qual : Str} {st : Stmt} {N : List Str} {body : S} (Fu : Fun K x qual st f fd) (Sc : FnScope N ps (defScope st)) (hms : ms.length ≤ ps.length)
    (hbody : ∀ (cdv : Value) (A : Around) (outer : List Env) (s : Shared) (H : Hp) (E : XK) (Wt : WX), Room k (A.deeper (envOfC qual (defScope st) s.heap.objs.size f cdv)) →
      Takes (cxOf (L2.CX P w) P w K mg base N qual (defScope st) f cdv A outer s H E) Wt → PSs (cxOf (L2.CX P w) P w K mg base N qual (defScope st) f cdv A outer s H E) (defBody st) (sD (mIdx 0 ms) mg Wt body)) :
    FnOk P w K mg base (L2.CX P w) (k + 1) f fd ps (spFn mg ms ps.length (runS N.length ms body)) := by
  refine Fun.okX Fu Sc (fun vs H Q E h => h.1) fun cdv A outer s H vs Q E hr hsp => ?_
  have tk : Takes (cxOf (L2.CX P w) P w K mg base N qual (defScope st) f cdv A outer s H E) (fun cls d _ H => E cls d H) := takes_of rfl rfl rfl rfl
  refine ⟨_, hbody cdv A outer s H E _ hr tk, ?_⟩
  have hl := hsp.1
  rw [← hl] at hsp hms
  exact body_rd hms hsp
end
end DN

set_option Elab.async false
set_option linter.all false
set_option maxRecDepth 100000
set_option maxHeartbeats 4000000
/-! DN, part Q: one step down: what a name's list or dict holds at a key, used where it lies. -/
namespace DN
open PySem PySem.Spec PyProof.Rows L2
variable [KSeq]

def kidAt : KD → D → Option KD
  | (k + 1, .lst ds), .int j => match ixN ds.length j with
    | some i => match ds[i]? with
      | some c => some (k, c)
      | none => none
    | none => none
  | (k + 1, .dct kvs), y => match y.key with
    | some q => match valD kvs q with
      | some c => some (k, c)
      | none => none
    | none => none
  | _, _ => none
def kidPut : KD → D → KD → Option KD
  | (k + 1, .lst ds), .int j, kc => match ixN ds.length j with
    | some i => if (kc.2.imm || kc.1 == k) = true then some (k + 1, .lst (ds.set i kc.2)) else none
    | none => none
  | (k + 1, .dct kvs), y, kc => match y.key with
    | some q => if (kc.2.imm || kc.1 == k) = true then some (k + 1, .dct (kvs.map fun p => if p.1 = q then (p.1, kc.2) else p)) else none
    | none => none
  | _, _, _ => none
def pthG (T : D → Bool) (i : Nat) (fk : M KD) (os : List Opd) (g : List Opv → M KD) (xs0 : List Opv) : M KD := fun ρ => if has ρ i = true then bnd (fk ρ) fun y => fun ρ0 => if y.2.imm = true then (match ρ0[i]? with
  | some (some kd) => (match kidAt kd y.2 with
    | some kc => if T kc.2 = true then (bnd (evs os (ρ0.set i none)) fun xs => fun ρ1 => (match g (xs0 ++ .b ρ1.length :: xs) (ρ1 ++ [some kc]) with
      | some (.ok r ρ2) => (match slotE ρ2 ρ1.length with
        | some kc' => (match kidPut kd y.2 kc' with
          | some kd' => some (.ok r ((ρ2.take ρ1.length).set i (some kd')))
          | none => none)
        | none => none)
      | _ => none)) else none
    | none => none)
  | _ => none) else none else none
section
variable {mg : Str → Option Value} {W : WX} {F F' H H' : Hp} {A B : List Addr} {ρ : En} {σ : L2.St}
theorem lvl_ok {k : Nat} {kc : KD} {x : V} {Z : List Addr} (o : Own F H kc.1 x kc.2 Z) (h : (kc.2.imm || kc.1 == k) = true) : Own F H k x kc.2 Z := by
  simp only [Bool.or_eq_true, beq_iff_eq] at h
  rcases h with h | h
  · obtain ⟨rfl, q⟩ := Own.imm _ _ _ _ o h
    exact q k H
  · rw [← h]; exact o
theorem map_out {α : Type} {l : List (DK × α)} {q : DK} (z : α) (h : q ∉ l.map (·.1)) : (l.map fun p => if p.1 = q then (p.1, z) else p) = l := by
  induction l with
  | nil => rfl
  | cons p r ih =>
    rw [List.map_cons, List.mem_cons, not_or] at h
    rw [List.map_cons, if_neg (fun z => h.1 z.symm), ih h.2]
theorem map_same {kvv : List (DK × V)} {q : DK} {x : V} (nd : (kvv.map (·.1)).Nodup) (h : valV kvv q = some x) : (kvv.map fun p => if p.1 = q then (p.1, x) else p) = kvv := by
  induction kvv with
  | nil => rfl
  | cons p r ih =>
    rw [List.map_cons, List.nodup_cons] at nd
    by_cases hp : p.1 = q
    · rw [valV_pos hp] at h
      have hx : p.2 = x := by simpa using h
      rw [List.map_cons, if_pos hp, map_out x (by rw [← hp]; exact nd.1), ← hx]
    · rw [List.map_cons, if_neg hp, ih nd.2 (by rw [valV_neg hp] at h; exact h)]
theorem EnvR.snoc : ∀ {ρ : En} {σ : L2.St} {A : List Addr} {k : Nat} {d : D} {v : V} {Z : List Addr}, EnvR F H ρ σ A → Own F H k v d Z → EnvR F H (ρ ++ [some (k, d)]) (σ ++ [some v]) (A ++ Z)
  | _, _, _, k, d, v, Z, .nil, o => by
    have := EnvR.put (k := k) (d := d) o (EnvR.nil (F := F) (H := H))
    simpa using this
  | _, _, _, _, _, _, _, .emp o' r, o => .emp o' (EnvR.snoc r o)
  | _, _, _, _, _, _, _, .put o' r, o => by
    rw [List.append_assoc]
    exact .put o' (EnvR.snoc r o)
theorem EnvR.unsnoc : ∀ {σ : L2.St} {ρ : En} {A : List Addr} {o : Option V}, EnvR F H ρ (σ ++ [o]) A → ∃ A1 Z, (A1 ++ Z).Perm A ∧ EnvR F H (ρ.take σ.length) σ A1 ∧ ∀ kd, slotE ρ σ.length = some kd → ∃ v, o = some v ∧ Own F H kd.1 v kd.2 Z
  | [], _, _, o, h => by
    cases h with
    | emp _ r => cases r; exact ⟨[], [], by simp, .nil, fun kd e => by simp [slotE] at e⟩
    | @put _ _ A B k d v o' r =>
      cases r
      refine ⟨[], A, by simp, .nil, fun kd e => ?_⟩
      simp [slotE] at e
      subst e
      exact ⟨v, rfl, o'⟩
  | s :: σ, _, _, o, h => by
    cases h with
    | emp _ r =>
      obtain ⟨A1, Z, p, e, w⟩ := EnvR.unsnoc (σ := σ) r
      exact ⟨A1, Z, p, .emp _ e, fun kd ek => w kd (by simpa [slotE] using ek)⟩
    | @put _ _ A B k d v o' r =>
      obtain ⟨A1, Z, p, e, w⟩ := EnvR.unsnoc (σ := σ) r
      refine ⟨A ++ A1, Z, ?_, .put o' e, fun kd ek => w kd (by simpa [slotE] using ek)⟩
      rw [List.append_assoc]
      exact List.Perm.append_left _ p
theorem OpsR.more {vs : List V} {xs : List Opv} {o : Option V} : ∀ {vs : List V} {xs : List Opv} {B : List Addr}, OpsR F H σ vs xs B → OpsR F H (σ ++ [o]) vs xs B
  | _, _, _, .nil => .nil
  | _, _, _, .bor h r => .bor (by rw [List.getElem?_append_left (List.getElem?_eq_some_iff.mp h).1]; exact h) (OpsR.more (vs := vs) (xs := xs) r)
  | _, _, _, .val h r => .val h (OpsR.more (vs := vs) (xs := xs) r)
/-- a child where it lies -/
theorem kid_own {K : PySem.W.Frag} {i : Nat} {kd kc : KD} {y : DN.D} {u : V} {ky : Nat} {Ay : List Addr} (s : StR F H ρ σ A) (ei : ρ[i]? = some (some kd)) (ek : kidAt kd y = some kc) (oy : Own F H ky u y Ay) :
    ∃ v x Ah Zp Zc, σ[i]? = some (some v) ∧ (Ah ++ (Zp ++ Zc)).Perm A ∧ (∀ o, EnvR F H (ρ.set i none) (σ.set i o) Ah) ∧ Own F H kc.1 x kc.2 Zc ∧ (∀ Q : VK, Q x H → rIx K v u H Q ∨ rIxD v u H Q) ∧ (∀ b ∈ Zp, ∃ o, H b = some o ∧ Chg o) ∧
      (∀ F' H' kc' Zc' kd', Same F F' → (∀ b ∈ Zp, H' b = H b) → Own F' H' kc'.1 x kc'.2 Zc' → kidPut kd y kc' = some kd' → ∃ Z', Z'.Perm (Zp ++ Zc') ∧ Own F' H' kd'.1 v kd'.2 Z') ∧ ∃ Z, Z.Perm (Zp ++ Zc) ∧ Own F H kd.1 v kd.2 Z := by
  obtain ⟨Ah, Z, pz, h1, h2⟩ := EnvR.hide1 s.env i
  obtain ⟨v, ev, ov⟩ := h2 kd.1 kd.2 ei
  obtain ⟨kk, dd⟩ := kd
  cases kk with
  | zero => simp [kidAt] at ek
  | succ k =>
  cases dd with
  | lst ds =>
   cases y with
   | int j =>
    simp only [kidAt] at ek
    split at ek
    · rename_i jj ej
      split at ek
      · rename_i c ec
        cases ek
        obtain rfl := oy.int_eq
        cases ov with
        | @low _ a us _ A' g1 g2 =>
          obtain ⟨C1, Zc, C2, x, rfl, ex, ox, _, mk⟩ := Owns.split g2 ec
          refine ⟨.ref a, x, Ah, a :: (C1 ++ C2), Zc, ev, ?_, h1, ox, fun Q q => ?_, fun b hb => ?_, fun F' H' kc' Zc' kd' sf w o ep => ?_, a :: (C1 ++ (Zc ++ C2)), ?_, .low g1 g2⟩
          · refine List.Perm.trans (List.Perm.append_left Ah ?_) pz
            simp only [List.cons_append]
            refine List.Perm.cons _ ?_
            rw [List.append_assoc]
            exact List.Perm.append_left _ List.perm_append_comm
          · refine .inl (.inl ⟨a, us, j, x, rfl, rfl, .of g1, ?_, q⟩)
            unfold atI
            rw [g2.length, ej]
            exact ex
          · rcases List.mem_cons.mp hb with rfl | hb
            · exact ⟨_, g1, .inl ⟨us, rfl⟩⟩
            · exact Owns.there _ _ _ _ g2 b (by simp at hb ⊢; rcases hb with hb | hb <;> simp [hb])
          · unfold kidPut at ep
            simp only [ej] at ep
            split at ep
            · rename_i hl
              cases ep
              have o2 := mk F' H' x kc'.2 Zc' sf (fun b hb => w b (List.mem_cons_of_mem _ hb)) (lvl_ok o hl)
              have eu : us.set jj x = us := by
                obtain ⟨hi, e⟩ := List.getElem?_eq_some_iff.mp ex
                rw [← e]; exact List.set_getElem_self hi
              rw [eu] at o2
              refine ⟨a :: (C1 ++ (Zc' ++ C2)), ?_, .low ((w a List.mem_cons_self).trans g1) o2⟩
              simp only [List.cons_append]
              refine List.Perm.cons _ ?_
              rw [List.append_assoc]
              exact List.Perm.append_left _ List.perm_append_comm
            · cases ep
          · simp only [List.cons_append]
            refine List.Perm.cons _ ?_
            rw [List.append_assoc]
            exact List.Perm.append_left _ List.perm_append_comm
      · cases ek
    · cases ek
   | _ => simp [kidAt] at ek
  | dct kvs =>
    simp only [kidAt] at ek
    split at ek
    · rename_i q eq
      split at ek
      · rename_i c ec
        cases ek
        have kat := key_at s.sub oy eq
        cases ov with
        | @dow _ a ob kvv _ A' g1 g2 g3 =>
          have kn : kvv.map (·.1) = kvs.map (·.1) := g3.keys
          obtain ⟨C1, Zc, C2, x, rfl, ex, ox, mk⟩ := OwnK.split g3 (by rw [← kn]; exact g2.1) ec
          refine ⟨.ref a, x, Ah, a :: (C1 ++ C2), Zc, ev, ?_, h1, ox, fun Q h => .inr ⟨a, x, rfl, dget_at g1 g2 ex kat, h⟩, fun b hb => ?_, fun F' H' kc' Zc' kd' sf w o ep => ?_, a :: (C1 ++ (Zc ++ C2)), ?_, .dow g1 g2 g3⟩
          · refine List.Perm.trans (List.Perm.append_left Ah ?_) pz
            simp only [List.cons_append]
            refine List.Perm.cons _ ?_
            rw [List.append_assoc]
            exact List.Perm.append_left _ List.perm_append_comm
          · rcases List.mem_cons.mp hb with rfl | hb
            · exact ⟨_, g1, .inr ⟨kvv, g2.2⟩⟩
            · exact OwnK.there _ _ _ _ g3 b (by simp at hb ⊢; rcases hb with hb | hb <;> simp [hb])
          · unfold kidPut at ep
            simp only [eq] at ep
            split at ep
            · rename_i hl
              cases ep
              have o2 := mk F' H' x kc'.2 Zc' sf (fun b hb => w b (List.mem_cons_of_mem _ hb)) (lvl_ok o hl)
              rw [map_same g2.1 ex] at o2
              refine ⟨a :: (C1 ++ (Zc' ++ C2)), ?_, .dow ((w a List.mem_cons_self).trans g1) g2 o2⟩
              simp only [List.cons_append]
              refine List.Perm.cons _ ?_
              rw [List.append_assoc]
              exact List.Perm.append_left _ List.perm_append_comm
            · cases ep
          · simp only [List.cons_append]
            refine List.Perm.cons _ ?_
            rw [List.append_assoc]
            exact List.Perm.append_left _ List.perm_append_comm
      · cases ek
    · cases ek
  | _ => simp [kidAt] at ek
/-- what is used one step down, values held before -/
theorem pth_core {K : PySem.W.Frag} {i : Nat} {fk : M KD} {os : List Opd} {g : List Opv → M KD} {r : List V → Hp → VK → Prop} {Q : VK} {T : DN.D → Bool} (hr : OpS mg W r g) {xs0 : List Opv} {vs0 : List V} {B0 : List Addr} (s : StR F H ρ σ A) (o0 : OpsR F H σ vs0 xs0 B0)
    (ndB : (A ++ B0).Nodup) (frB0 : ∀ b ∈ B0, F b = none) (e : End mg W F H (A ++ B0) σ (pthG T i fk os g xs0 ρ) rKD Q) :
    tVar i σ H fun v H1 => tD mg W fk σ H1 fun u H2 => (rIx K v u H2 fun x H3 => (∃ d, T d = true ∧ Own H3 H3 0 x d []) ∧ tOs mg W os σ H3 fun vs H4 => r (vs0 ++ x :: vs) H4 Q) ∨ (rIxD v u H2 fun x H3 => (∃ d, T d = true ∧ Own H3 H3 0 x d []) ∧ tOs mg W os σ H3 fun vs H4 => r (vs0 ++ x :: vs) H4 Q) := by
  unfold pthG at e
  by_cases hi : has ρ i = true
  · rw [if_pos hi] at e
    obtain ⟨k0, d0, hk0⟩ := has_get hi
    obtain ⟨v0, ev0, _⟩ := s.get hk0
    refine ⟨v0, ev0, F, ρ, A, s, ?_⟩
    refine End.held (F := F) (H := H) (A := A ++ B0) Tr.refl (OpsR.there o0) ndB frB0 e fun y ρ0 u F1 H1 A1 B1 s1 oy nd1 fr1 frB1 sf0 eB0 t1 e1 => ?_
    split at e1
    · rename_i him
      obtain ⟨rfl, oyf⟩ := Own.imm _ _ _ _ oy him
      rw [List.append_nil] at nd1 t1
      have o1 : OpsR F1 H1 σ vs0 xs0 B0 := OpsR.carry sf0 o0 eB0
      split at e1
      · rename_i kd eρ
        split at e1
        · rename_i kc ekc
          obtain ⟨v, x, Ah, Zp, Zc, ev, pA, hE, ox, hix, hZp, hput, _⟩ := kid_own (K := K) s1 eρ ekc (oyf 0 H1)
          rw [ev0] at ev
          cases ev
          have pA0 : (Ah ++ (Zp ++ Zc ++ B0)).Perm (A1 ++ B0) := by
            have := pA.append_right B0
            simpa using this
          have nd0 : (Ah ++ (Zp ++ Zc ++ B0)).Nodup := pA0.nodup_iff.mpr nd1
          have fr0 : ∀ b ∈ Ah ++ (Zp ++ Zc ++ B0), F1 b = none := fun b hb => (List.mem_append.mp (pA0.subset hb)).elim (s1.fr b) (frB1 b)
          have th : ∀ b ∈ Zp ++ Zc ++ B0, ∃ o, H1 b = some o ∧ Chg o := fun b hb => (List.mem_append.mp hb).elim (fun h => (List.mem_append.mp h).elim (hZp b) (Own.there _ _ _ _ ox b)) (OpsR.there o1 b)
          have sH : StR F1 H1 (ρ0.set i none) σ Ah := by
            have := hE (some v0)
            rw [set_same ev0] at this
            exact ⟨s1.sub, this, (List.nodup_append.mp nd0).1, fun b hb => fr0 b (List.mem_append_left _ hb)⟩
          have tA : Tr F H (A ++ B0) F1 H1 (Ah ++ (Zp ++ Zc ++ B0)) := t1.sub fun b hb => pA0.subset hb
          split at e1
          case isFalse => exact e1.elim
          rename_i hTc
          have key : (fun x H3 => (∃ d, T d = true ∧ Own H3 H3 0 x d []) ∧ tOs mg W os σ H3 fun vs H4 => r (vs0 ++ x :: vs) H4 Q) x H1 := by
            refine ⟨⟨kc.2, hTc, Own.read s1.sub ox⟩, F1, ρ0.set i none, Ah, sH, ?_⟩
            refine End.held tA th nd0 (fun b hb => fr0 b (List.mem_append_right _ hb)) e1 fun xs ρ2 vs F2 H2 A2 B2 s2 os2 nd2 fr2 frZ sf2 eZ t2 e2 => ?_
            -- the operation over the names and the child
            split at e2
            · rename_i rr ρ3 eg
              split at e2
              · rename_i kc' esl
                split at e2
                · rename_i kd' ep
                  have oc : Own F2 H2 kc.1 x kc.2 Zc := Own.carry sf2 _ _ _ _ ox fun b hb => eZ b (by simp [hb])
                  have oB : OpsR F2 H2 σ vs0 xs0 B0 := OpsR.carry sf2 o1 fun b hb => eZ b (by simp [hb])
                  have en2 : EnvR F2 H2 (ρ2 ++ [some kc]) (σ ++ [some x]) (A2 ++ Zc) := EnvR.snoc s2.env oc
                  have l2 : ρ2.length = σ.length := s2.len
                  have nd3 : (A2 ++ Zc ++ (B0 ++ B2) ++ Zp).Nodup := by
                    have p : (A2 ++ Zc ++ (B0 ++ B2) ++ Zp).Perm (A2 ++ B2 ++ (Zp ++ Zc ++ B0)) := by
                      simp only [List.append_assoc]
                      refine List.Perm.append_left _ ?_
                      -- Zc B0 B2 Zp ~ B2 Zp Zc B0
                      have q : ((Zc ++ B0) ++ (B2 ++ Zp)).Perm ((B2 ++ Zp) ++ (Zc ++ B0)) := List.perm_append_comm
                      simpa using q
                    exact p.nodup_iff.mpr nd2
                  have nd4 : (A2 ++ Zc ++ (B0 ++ B2)).Nodup := (List.nodup_append.mp nd3).1
                  have s3 : StR F2 H2 (ρ2 ++ [some kc]) (σ ++ [some x]) (A2 ++ Zc) := ⟨s2.sub, en2, (List.nodup_append.mp nd4).1, fun b hb => (List.mem_append.mp hb).elim (s2.fr b) fun z => frZ b (by simp [z])⟩
                  have frB : ∀ b ∈ B0 ++ B2, F2 b = none := fun b hb => (List.mem_append.mp hb).elim (fun z => frZ b (by simp [z])) (fr2 b)
                  have opr : OpsR F2 H2 (σ ++ [some x]) (vs0 ++ x :: vs) (xs0 ++ .b ρ2.length :: xs) (B0 ++ B2) := OpsR.append (OpsR.more (vs := vs) (xs := xs) oB) (.bor (by rw [l2]; simp) (OpsR.more (vs := vs) (xs := xs) os2))
                  refine hr F2 H2 (A2 ++ Zc) (B0 ++ B2) (σ ++ [some x]) (ρ2 ++ [some kc]) _ _ Q s3 opr nd4 frB ?_
                  rw [eg]
                  intro w F4 H4 A4 B4 s4 ow nd5 fr5 t4
                  -- what is held of the parent
                  have thp : ∀ b ∈ Zp, ∃ o, H2 b = some o ∧ Chg o := fun b hb => by rw [eZ b (by simp [hb])]; exact hZp b hb
                  obtain ⟨z1, z2, z3, z4⟩ := hold thp nd3 (fun b hb => frZ b (by simp [hb])) t4 nd5
                  obtain ⟨A5, Z5, p5, e5, w5⟩ := EnvR.unsnoc s4.env
                  obtain ⟨x', ex', oc'⟩ := w5 kc' (by rw [← l2]; exact esl)
                  cases ex'
                  obtain ⟨Z6, p6, o6⟩ := hput F4 H4 kc' Z5 kd' (sf2.trans t4.ff) (fun b hb => (z1 b hb).trans (eZ b (by simp [hb]))) oc' ep
                  have hi5 : i < (ρ3.take σ.length).length := by rw [e5.length]; exact (List.getElem?_eq_some_iff.mp ev0).1
                  obtain ⟨A7, C7, p7, e7⟩ := EnvR.back1 (i := i) (o := some v0) (sl := some kd') (Z := Z6) e5 hi5 fun k' d' e => by cases e; exact ⟨v0, rfl, o6⟩
                  rw [set_same ev0, ← l2] at e7
                  have pp : (A7 ++ B4 ++ C7).Perm (A4 ++ B4 ++ Zp) := by
                    have q1 : (A7 ++ B4 ++ C7).Perm (A7 ++ C7 ++ B4) := by
                      rw [List.append_assoc, List.append_assoc]; exact List.Perm.append_left _ List.perm_append_comm
                    have q2 : (A5 ++ Z6).Perm (A5 ++ Z5 ++ Zp) := by
                      rw [List.append_assoc]; exact List.Perm.append_left _ (p6.trans List.perm_append_comm)
                    have q3 : (A5 ++ Z5 ++ Zp).Perm (A4 ++ Zp) := p5.append_right Zp
                    have q4 : (A4 ++ Zp ++ B4).Perm (A4 ++ B4 ++ Zp) := by
                      rw [List.append_assoc, List.append_assoc]; exact List.Perm.append_left _ List.perm_append_comm
                    exact q1.trans (((p7.trans (q2.trans q3)).append_right B4).trans q4)
                  have n7 : (A7 ++ B4 ++ C7).Nodup := pp.nodup_iff.mpr z3
                  have n8 := (List.nodup_append.mp n7).1
                  have f7 : ∀ b ∈ A7 ++ B4 ++ C7, F4 b = none := fun b hb => by
                    rcases List.mem_append.mp (pp.subset hb) with h | h
                    · rcases List.mem_append.mp h with h | h
                      · exact s4.fr b h
                      · exact fr5 b h
                    · exact z2 b h
                  refine e2 w F4 H4 A7 B4 ⟨s4.sub, e7, (List.nodup_append.mp n8).1, fun b hb => f7 b (by simp [hb])⟩ ow n8 (fun b hb => f7 b (by simp [hb])) ?_
                  refine t2.trans (Tr.sub (Tr.grow z4 fun b hb => ?_) fun b hb => pp.subset (List.mem_append_left _ hb))
                  simp only [List.mem_append] at hb ⊢
                  rcases hb with ((h | h) | (h | h)) | h <;> simp [h]
                · exact e2.elim
              · exact e2.elim
            · exact e2.elim
          rcases hix (fun x H3 => (∃ d, T d = true ∧ Own H3 H3 0 x d []) ∧ tOs mg W os σ H3 fun vs H4 => r (vs0 ++ x :: vs) H4 Q) key with h | h
          · exact .inl h
          · exact .inr h
        · exact e1.elim
      · exact e1.elim
    · exact e1.elim
  · rw [if_neg hi] at e
    exact e.elim
theorem pth_rd {K : PySem.W.Frag} {i : Nat} {fk : M KD} {os : List Opd} {g : List Opv → M KD} {r : List V → Hp → VK → Prop} {Q : VK} {T : DN.D → Bool} (hr : OpS mg W r g) (h : tD mg W (pthG T i fk os g []) σ H Q) :
    tVar i σ H fun v H1 => tD mg W fk σ H1 fun u H2 => (rIx K v u H2 fun x H3 => (∃ d, T d = true ∧ Own H3 H3 0 x d []) ∧ tOs mg W os σ H3 fun vs H4 => r (x :: vs) H4 Q) ∨ (rIxD v u H2 fun x H3 => (∃ d, T d = true ∧ Own H3 H3 0 x d []) ∧ tOs mg W os σ H3 fun vs H4 => r (x :: vs) H4 Q) := by
  obtain ⟨F, ρ, A, s, e⟩ := h
  exact pth_core (xs0 := []) (vs0 := []) (B0 := []) hr s .nil (by simpa using s.nd) (fun _ z => nomatch z) (by simpa using e)
end
end DN

set_option Elab.async false
set_option linter.all false
set_option maxRecDepth 100000
set_option maxHeartbeats 4000000
/-! DN, part R: defs whose callers are known to stand in no guard (for repr of lists and tuples); the end of a law's row. -/
namespace DN
open PySem PySem.Spec PyProof.Rows L2
variable [KSeq]

structure Rm (k : Nat) (A : Around) : Prop where
  rm : Room k A
  gd : A.guards = some []
theorem Rm.deeper {k : Nat} {A : Around} (h : Rm (k + 1) A) (en : PySem.Env) : Rm k (A.deeper en) := ⟨h.rm.deeper en, h.gd⟩
theorem Rm.mono {j k : Nat} {A : Around} (h : Rm k A) (hj : j ≤ k) : Rm j A := ⟨h.rm.mono hj, h.gd⟩
structure FnG (Pr : Program) (w : World) (K : PySem.W.Frag) (mg : Str → Option Value) (bs : Heap) (CX : CXT) (k : Nat) (f : Addr) (fd : FuncData) (ps : List Str) (sp : Sp) : Prop where
  len : ∀ vs H Q E, sp vs H Q E → vs.length = ps.length
  run : ∀ (A : Around) (out : List PySem.Env) (s : Shared) (H : Hp) (args : Args) (us : List Value) (vs : List V) (Q : VK) (E : XK), Rm k A → Env0 Pr w K mg bs A out s H →
    BindsTo s fd args (ps.zip us) → Vals vs us → sp vs H Q E → codeAny (model Pr w) A (.call (.ref f) args) (CR CX out Pr w H s Q E) s
theorem FnG.mono {Pr : Program} {w : World} {K : PySem.W.Frag} {mg : Str → Option Value} {bs : Heap} {CX : CXT} {j k : Nat} {f : Addr} {fd : FuncData} {ps : List Str} {sp : Sp} (F : FnG Pr w K mg bs CX j f fd ps sp) (h : j ≤ k) : FnG Pr w K mg bs CX k f fd ps sp :=
  ⟨F.len, fun A out s H args us vs Q E hr => F.run A out s H args us vs Q E (hr.mono h)⟩
/-- a def of the text, by its body -/
theorem fng_of {CX : CXT} {Pr : Program} {w : World} {K : PySem.W.Frag} {mg : Str → Option Value} {bs : Heap} {k : Nat} {f : Addr} {name qual : Str} {params : Arguments} {bd : List Stmt} {sc : Scope} {dV kV doc pm cdv ct oc : Value} {an od : Option Addr}
    {osl : Array (Option Value)} {N ps : List Str} {sp : Sp} (at1 : K.lookup f = some ⟨oc, od, .func (PySem.W.fnOf name qual params bd sc dV kV doc pm an cdv ct), osl⟩) (at2 : PySem.W.codeIn K cdv qual = true) (fs : FnScope N ps sc)
    (len : ∀ vs H Q E, sp vs H Q E → vs.length = ps.length)
    (hb : ∀ (A : Around) (out : List PySem.Env) (s : Shared) (H : Hp) (vs : List V) (Q : VK) (E : XK), Rm k (A.deeper (envOfC qual sc s.heap.objs.size f cdv)) → sp vs H Q E →
      ∃ t, PSs (cxOf CX Pr w K mg bs N qual sc f cdv A out s H E) bd t ∧ t { nx := fun _ H' => Q .non H', rt := Q } (L2.start N vs) H) :
    FnG Pr w K mg bs CX (k + 1) f (PySem.W.fnOf name qual params bd sc dV kV doc pm an cdv ct) ps sp := by
  constructor
  · exact len
  · intro A out s H args us vs Q E rm en bi rv hsp
    have lenv := len _ _ _ _ hsp
    have kin : K.In s.heap := en.mod.kin.keeps fun b o e => (en.bs b o e).1
    have nol : s.heap.NoLimit := en.mod.nolimit.keeps fun b o e => (en.bs b o e).1
    have kinds : ∀ y ∈ ps.zip us, sc.names.lookup y.1 = some .local ∨ (sc.names.lookup y.1 = some .cell ∧ ((cellsFrom (s.heap.objs.size + 1) sc.names []).lookup y.1).isSome = true) := by
      rintro ⟨y, u⟩ hy
      exact (fs.par y (List.of_mem_zip hy).1).imp id fun q => ⟨q, PySem.W.cellsFrom_some _ _ _ (.inl q)⟩
    refine codeAny_call_function rm.rm.depth (kin _ _ at1) rfl fs.co fs.gen rfl (PySem.W.codeRec_of kin at2) (bi _ _ _ _ ?_)
    refine wpAny_newFunctionEnv_cells fs.kind kinds fun ev eev s1 x => ?_
    subst eev
    constructor
    · exact nol.keeps x.toInCall.keep
    · apply codeAny_func
      obtain ⟨t, ht, hq⟩ := hb A out s H vs Q E (rm.deeper _) hsp
      have iv := inv_start (CX := CX) (E := E) (cd := cdv) fs rm.rm.hd en lenv rv x
      refine wpAny_mono (ht.run [] s1 (L2.start N vs) H _ iv hq) ?_ fun e s' hs => hs
      intro fl s' hs
      cases fl with
      | brk => exact (let ⟨_, _, _, q⟩ := hs; q : False).elim
      | cont => exact (let ⟨_, _, _, q⟩ := hs; q : False).elim
      | next =>
        obtain ⟨σ', H', J, q⟩ := hs
        exact (⟨V.non, H', J.os, J.bare, J.base, J.hok, rfl, q⟩ : CE out Pr w H s Q .none s')
      | ret u =>
        obtain ⟨v, σ', H', J, rv', q⟩ := hs
        exact (⟨v, H', J.os, J.bare, J.base, J.hok, rv', q⟩ : CE out Pr w H s Q u s')
section
variable {X : Cx} {mg : Str → Option Value} {W : WX} {k : Nat} {f : Addr} {fd : FuncData} {ps : List Str} {ms : List Bool} {run : Fn} {x : Str} {p pos : Pos} {e : Expr} {es : List Expr} {os : List Opd} {CX : CXT} {sp : Sp}
/-- the callee runs, its arguments bound somehow -/
theorem fng_run {pins : List (Addr × Obj)} {σ : L2.St} {H : Hp} {s : Shared} {Q : VK} {us ws : List Value} {ks : List Str} {as : List Value} {vs : List V} {Ex : XK} (F : FnG X.prog X.w X.K X.mg X.base CX k f fd ps sp) (hr : Rm k X.A)
    (hb : BindsTo s fd ⟨us, ks.zip ws⟩ (ps.zip as)) (hx : PassesAt CX X σ Ex) (I : L2.Inv X pins σ H s) (r : Vals vs as) (h : sp vs H Q Ex) : wpAny (model X.prog X.w) X.A (call (.ref f) us (ks.zip ws)) (EP X pins σ Q) X.xe s :=
  wpAny_call (codeAny_mono (F.run X.A X.stack s H _ as vs Q Ex hr I.env0 hb r h) fun r s' hq => by
    cases r with
    | error e => exact hx pins H s e s' I hq
    | ok fl => cases fl with
      | ret u => exact I.after hq
      | next => exact (show False from hq).elim
      | brk => exact (show False from hq).elim
      | cont => exact (show False from hq).elim)
theorem pe_fng {Ex : L2.St → XK} {t : TA} {ds : List Value} {dvs : List V} (F : FnG X.prog X.w X.K X.mg X.base CX k f fd ps sp) (hr : Rm k X.A) (hg : Gl X x) (hm : X.mg x = some (.ref f)) (hk : PySem.W.keepIn X.K (.ref f) = true) (hb : Binds X.K fd ps ds) (hd : Vals dvs ds)
    (hx : ∀ σ, PassesAt CX X σ (Ex σ)) (ha : PA X (e :: es) t) (hdb : (x == ("__debug__" : Str)) = false) (hs : (e :: es).all notStar = true) : PE X (.Call (.Name x p) (e :: es) [] pos) (tCallSD sp dvs Ex t) := by
  simp only [List.all_cons, Bool.and_eq_true] at hs
  constructor
  intro pins s σ H Q I h
  refine wpAny_Call_Name_kw (ld_glob I hg hm (PySem.W.callWith_K (h₀ := X.base) I.ok.mod.kin hk (thn (ha.run pos pins s σ H _ I h) ?_) (starEach_of hs.1) (few_of hs.2).2) hdb)
  rintro us s1 ⟨vs, H1, I1, r, q⟩
  have r2 : Vals (vs ++ dvs) (us ++ ds) := r.append hd
  refine ⟨I1.kIn, fng_run (ks := []) (ws := []) F hr (hb s1 us I1.kIn ?_) (hx σ) I1 r2 q⟩
  rw [← r2.length]
  exact F.len _ _ _ _ q
theorem pe_fng0 {Ex : L2.St → XK} {ds : List Value} {dvs : List V} (F : FnG X.prog X.w X.K X.mg X.base CX k f fd ps sp) (hr : Rm k X.A) (hg : Gl X x) (hm : X.mg x = some (.ref f)) (hk : PySem.W.keepIn X.K (.ref f) = true) (hb : Binds X.K fd ps ds) (hd : Vals dvs ds)
    (hx : ∀ σ, PassesAt CX X σ (Ex σ)) (hdb : (x == ("__debug__" : Str)) = false) : PE X (.Call (.Name x p) [] [] pos) (tCallSD sp dvs Ex tNil) := by
  constructor
  intro pins s σ H Q I h
  refine wpAny_Call_Name_kw (ld_glob I hg hm (PySem.W.callWith_K0 I.kIn hk ?_) hdb)
  have h' : sp dvs H Q (Ex σ) := h
  refine fng_run (us := []) (ks := []) (ws := []) F hr (hb s [] I.kIn ?_) (hx σ) I (as := [] ++ ds) (by simpa using hd) h'
  rw [List.nil_append, ← hd.length]
  exact F.len _ _ _ _ h'
/-- a call of a def, all its arguments written in their places -/
theorem pe_callF2 (tk : Takes X W) (F : FnG X.prog X.w X.K X.mg X.base (L2.CX X.prog X.w) k f fd ps (spFn mg ms os.length run)) (hr : Rm k X.A) (hg : Gl X x) (hm : X.mg x = some (.ref f)) (hk : PySem.W.keepIn X.K (.ref f) = true) (hb : Binds X.K fd ps [])
    (ha : Paired (OpdOk X mg W) (e :: es) os) (hdb : (x == ("__debug__" : Str)) = false) (hs : (e :: es).all notStar = true) : PE X (.Call (.Name x p) (e :: es) [] pos) (tD mg W (opE os (callG ms run))) :=
  (pe_fng (Ex := WE W) F hr hg hm hk hb .nil (fun σ => passAt tk σ) (pa_of ha) hdb hs).imp fun _ _ _ h => call_rd h
/-- a def of the program: its body's reading makes its promise -/
theorem fng_okS {Pr : Program} {w : World} {K : PySem.W.Frag} {bs : Heap} {qual : Str} {st : Stmt} {N : List Str} {body : S} (Fu : Fun K x qual st f fd) (Sc : FnScope N ps (defScope st)) (hms : ms.length ≤ ps.length)
    (hbody : ∀ (cdv : Value) (A : Around) (out : List PySem.Env) (s : Shared) (H : Hp) (E : XK) (Wt : WX), Rm k (A.deeper (envOfC qual (defScope st) s.heap.objs.size f cdv)) →
      Takes (cxOf (L2.CX Pr w) Pr w K mg bs N qual (defScope st) f cdv A out s H E) Wt → PSs (cxOf (L2.CX Pr w) Pr w K mg bs N qual (defScope st) f cdv A out s H E) (defBody st) (sD (mIdx 0 ms) mg Wt body)) :
    FnG Pr w K mg bs (L2.CX Pr w) (k + 1) f fd ps (spFn mg ms ps.length (runS N.length ms body)) := by
  obtain ⟨oc, od, kV, doc, pm, an, cdv, ct, osl, rfl, at1, at2⟩ := Fu.ex
  refine fng_of at1 at2 Sc (fun vs H Q E h => h.1) fun A out s H vs Q E hr hsp => ?_
  have tk : Takes (cxOf (L2.CX Pr w) Pr w K mg bs N qual (defScope st) f cdv A out s H E) (fun cls d _ H => E cls d H) := takes_of rfl rfl rfl rfl
  refine ⟨_, hbody cdv A out s H E _ hr tk, ?_⟩
  have hl := hsp.1
  rw [← hl] at hsp hms
  exact body_rd hms hsp
end

/-! ### the end of a law's row -/
omit [KSeq] in
theorem lawG {Pr : Program} {w : World} {K : PySem.W.Frag} {mg mb : Str → Option Value} {CX : CXT} {k : Nat} {fa a : Addr} {fd : FuncData} {x : Str} {sp : Sp} {s₁ : Shared} {vs : List Value} {ns : List Int}
    (kin : K.In s₁.heap) (hns : s₁.heap.Ns mainGlobals mg) (hb : s₁.heap.Ns builtinsNs mb) (hbb : ∀ x : Str, x ≠ "__name__" → mb x = bootBuiltins x) (lim : s₁.heap.NoLimit) (hg : s₁.gens = #[])
    (ha : s₁.heap.get? a = some { cls := .type "list", data := .seq vs.toArray }) (hi : IntsAre vs ns) (hl : ns.length ≤ sizeLine) (hr : Rm k callerA)
    (F : ∀ bs : Heap, K.In bs → bs.Ns mainGlobals mg → FnG Pr w K mg bs CX k fa fd [x] sp) (bi : ∀ (s : Shared) (u : Value), BindsTo s fd ⟨[u], []⟩ [(x, u)])
    (hsp : ∀ H : Hp, Only H → SqL K H a (ns.map V.int) → sp [.ref a] H (fun v _ => v = .bl true) fun _ _ _ => False)
    (hCX : ∀ H e s', CX [] H s₁ (fun _ _ _ => False) e s' → False) :
    codeAny (model Pr w) callerA (.call (.ref fa) ⟨[.ref a], []⟩) (fun r s' => r = .ok (.ret (.bool true)) ∧ OldK s₁.heap s'.heap ∧ s'.os = s₁.os ∧ AllBare s'.gens) s₁ := by
  have rv := vals_ints hi
  have lenV := hi.length
  have core : ∀ H : Hp, Only H → SqL K H a (ns.map V.int) → HOk Pr w H s₁.heap → (∀ b, H b ≠ none → b = a) → (H a ≠ none → K.lookup a = none) →
      codeAny (model Pr w) callerA (.call (.ref fa) ⟨[.ref a], []⟩) (fun r s' => r = .ok (.ret (.bool true)) ∧ OldK s₁.heap s'.heap ∧ s'.os = s₁.os ∧ AllBare s'.gens) s₁ := by
    intro H only sq ok isA notK
    have cases0 : ∀ b, H b = none ∨ b = a := fun b => by
      cases q : H b with
      | none => exact .inl rfl
      | some u => exact .inr (isA b (by rw [q]; simp))
    have noDict : ∀ {b : Addr} {o : Obj} {es : Array DictEntry} {ep : Nat}, s₁.heap.get? b = some o → o.data = .dict es ep → H b = none := by
      intro b o es ep e d
      rcases cases0 b with h | rfl
      · exact h
      · rw [ha] at e
        cases e
        exact absurd (show Data.seq vs.toArray _ = Data.dict es ep from d) (by simp)
    have nsOf : ∀ {b : Addr} {m : Str → Option Value}, s₁.heap.Ns b m → (hidT s₁.heap H).Ns b m := by
      rintro b m ⟨o, es, ep, e, d, r⟩
      exact ⟨o, es, ep, hidT_get e (noDict e d), d, r⟩
    have kin2 : K.In (hidT s₁.heap H) := by
      intro b o e
      refine hidT_get (kin b o e) ((cases0 b).elim id fun hba => ?_)
      subst hba
      cases q : H b with
      | none => rfl
      | some u =>
        rw [notK (by rw [q]; simp)] at e
        cases e
    have modOk : Mod K mg (hidT s₁.heap H) := ⟨kin2, nsOf hns, ⟨mb, nsOf hb, hbb⟩, lim.elim fun mc h => ⟨mc, nsOf h.1, h.2⟩⟩
    have en : Env0 Pr w K mg (hidT s₁.heap H) callerA [] s₁ H := ⟨rfl, modOk, fun b o e => of_hidT e, Nat.le_of_eq (hidT_size _ _), trivial, (fun b z => absurd (show b ∈ ([] : List Addr) from z) List.not_mem_nil), ok, .of_eq hg⟩
    have go := (F _ kin2 (nsOf hns)).run callerA [] s₁ H ⟨[.ref a], []⟩ [.ref a] [.ref a] _ _ hr en (bi s₁ (.ref a)) (.cons rfl .nil) (hsp H only sq)
    refine codeAny_mono go ?_
    intro r s' h
    cases r with
    | error e => exact (hCX H e s' h).elim
    | ok fl =>
      cases fl with
      | brk => exact (show False from h).elim
      | cont => exact (show False from h).elim
      | next => exact (show False from h).elim
      | ret u =>
        obtain ⟨v, H', eos, bare, un, hok', r', q⟩ := h
        obtain rfl : v = .bl true := q
        obtain rfl : u = Value.bool true := r'
        refine ⟨rfl, OldK.of_keep fun b o e => ?_, eos, bare⟩
        rcases only b with z | ⟨ob, xs, z⟩
        · exact un.keep b o e z (fun z => absurd (show b ∈ ([] : List Addr) from z) List.not_mem_nil) List.not_mem_nil
        · have h1 := (ok b _ z).1
          rw [e] at h1
          cases h1
          exact (hok' b _ (un.frzs b _ _ z)).1
  cases hk : K.lookup a with
  | some o =>
    have e := kin a o hk
    rw [ha] at e
    cases e
    refine core (fun _ => none) (fun _ => .inl rfl) (.inr ⟨_, vs.toArray, _, hk, rfl, rfl, rfl, ?_, by simpa using rv⟩) (fun b u z => ?_) (fun b z => absurd rfl z) (fun z => absurd rfl z)
    · rw [List.size_toArray, lenV]; exact hl
    · cases (show (none : Option HO) = some u from z)
  | none =>
    let Ha : Hp := fun b => if b = a then some (.frz { cls := .type "list", data := .seq vs.toArray } (.lst (ns.map V.int))) else none
    have pos : Ha a = some (.frz { cls := .type "list", data := .seq vs.toArray } (.lst (ns.map V.int))) := if_pos rfl
    have neg : ∀ b, b ≠ a → Ha b = none := fun b hb => if_neg hb
    refine core Ha (fun b => ?_) (.inl (.inr ⟨_, pos⟩)) (fun b u z => ?_) (fun b z => ?_) fun _ => hk
    · by_cases hb : b = a
      · subst hb; exact .inr ⟨_, _, pos⟩
      · exact .inl (neg b hb)
    · by_cases hb : b = a
      · subst hb
        rw [pos] at z
        cases z
        exact ⟨ha, by rw [List.length_map]; exact hl, vs, _, rv, ha⟩
      · rw [neg b hb] at z
        cases z
    · exact Classical.byContradiction fun hb => z (neg b hb)
omit [KSeq] in
theorem walkG {l : PySem.W.OpenLaw} {n k : Nat} {q : Program} {loose : List Str} {XP : (Str → Option Value) → Heap → Prop} {YP : World → Heap → Prop} {d : DefRec} {K : Params → PySem.W.Frag} {CX : World → CXT} {sp : World → Sp} {x : Str}
    (hn : l.most = some n) (hn2 : n ≤ sizeLine) (hdf : d.params.defaults = []) (hr : Rm k callerA) (hY : ∀ (w : World) (h : Heap), YP w h → (K w.params).In h)
    (F : ∀ (w : World) (mg : Str → Option Value) (fa : Addr) (h : Heap), (K w.params).In h → h.Ns mainGlobals mg → mg d.name = some (.ref fa) → ∃ fd : FuncData, (∀ (s : Shared) (u : Value), BindsTo s fd ⟨[u], []⟩ [(x, u)]) ∧
      ∀ bs : Heap, (K w.params).In bs → bs.Ns mainGlobals mg → FnG l.prog w (K w.params) mg bs (CX w) k fa fd [x] (sp w))
    (hsp : ∀ (w : World) (H : Hp) (a : Addr) (ns : List Int), ns.length ≤ n → Only H → SqL (K w.params) H a (ns.map V.int) → sp w [.ref a] H (fun v _ => v = .bl true) fun _ _ _ => False)
    (hCX : ∀ (w : World) (H : Hp) (s : Shared) (e : Value) (s' : Shared), CX w [] H s (fun _ _ _ => False) e s' → False) :
    PySem.W.WalkO q loose XP YP l.row.toRowW d [] (fun f vs => PySem.call f vs) :=
  Att.attach_call hn hdf fun w s₀ s₁ mg mb fa o pm cd doc a vs ns G Y ho hd hcd hmg hobj hints hlen hg => by
    have kin := hY w _ Y
    obtain ⟨fd, hb, hF⟩ := F w mg fa _ kin G.T.g hmg
    exact lawG kin G.T.g G.T.b G.T.builtins G.T.nolimit hg hobj hints (Nat.le_trans hlen hn2) hr hF hb (fun H hO hS => hsp w H a ns hlen hO hS) fun H e s' => hCX w H s₁ e s'
end DN

set_option Elab.async false
set_option linter.all false
set_option maxRecDepth 100000
set_option maxHeartbeats 4000000
/-! DN, part S: rules: comprehensions, parallel stores, texts of data, ranges asked, lists of signs. -/
namespace DN
open PySem PySem.Spec PyProof.Rows L2
variable [KSeq]

theorem _root_.L2.PE.impL {X : Cx} {e : Expr} {t t' : TE} (h : PE X e t) (i : ∀ σ H Q, σ.length = X.N.length → t' σ H Q → t σ H Q) : PE X e t' := ⟨fun pins s σ H Q I q => h.run pins s σ H Q I (i σ H Q I.len q)⟩
theorem _root_.L2.PS.impL {X : Cx} {e : Stmt} {t t' : TS} (h : PS X e t) (i : ∀ D σ H, σ.length = X.N.length → t' D σ H → t D σ H) : PS X e t' := ⟨fun pins s σ H D I q => h.run pins s σ H D I (i D σ H I.len q)⟩
section
variable {X : Cx} {P : List Nat} {mg : Str → Option Value} {W : WX} {tg iter elt : Expr} {ifs : List Expr} {scope : Scope} {own : List (Str × Nat)} {it : M (List KD)} {t : Tg} {c : M Bool} {el : M KD} {pos : Pos}
/-- what a block's parts must show -/
structure LcOk (X : Cx) (mg : Str → Option Value) (W : WX) (tg iter elt : Expr) (ifs : List Expr) (scope : Scope) (own : List (Str × Nat)) (it : M (List KD)) (t : Tg) (c : M Bool) (el : M KD) : Prop where
  calm : X.calm = true
  nd : X.N.Nodup
  hi : PI X tg iter (tI mg W it)
  blk : BlkOk X.N X.env.scope scope own
  hg : ∀ (s : Shared) (H : Hp) (C : Addr) (cl : List (Str × Addr)) (fp : List Addr), PG (X.blk s H scope (compEnvC scope cl C X.env) fp) tg (gD (pinsOf X.N.length (own.map (·.2))) t)
  hc : ∀ (s : Shared) (H : Hp) (C : Addr) (cl : List (Str × Addr)) (fp : List Addr), PTs (X.blk s H scope (compEnvC scope cl C X.env) fp) ifs (tB mg W0 c)
  he : ∀ (s : Shared) (H : Hp) (C : Addr) (cl : List (Str × Addr)) (fp : List Addr), PE (X.blk s H scope (compEnvC scope cl C X.env) fp) elt (tD mg W0 el)
  st : notSet iter = true
theorem pe_lcS (h : LcOk X mg W tg iter elt ifs scope own it t c el) : PE X (.ListComp elt [⟨tg, iter, ifs, 0⟩] scope pos) (tD mg W (lcS it t c el (own.map (·.2)))) :=
  (pe_lc h.calm h.nd h.hi h.blk h.hg h.hc h.he (folded_no h.st)).impL fun σ H Q hl q => by rw [← hl]; exact sD_lc q
theorem ps_setLcS {i : Nat} {y : Str} {py spos : Pos} (h : LcOk X mg W tg iter elt ifs scope own it t c el) (hy : X.N[i]? = some y) (hyl : X.env.scope.names.lookup y = some .local) (hP : i ∉ P)
    (hsw : swapsWith (.ListComp elt [⟨tg, iter, ifs, 0⟩] scope pos) (some (.Name y py)) spos.line X.env = pure true) :
    PS X (.Assign [.Name y py] (.ListComp elt [⟨tg, iter, ifs, 0⟩] scope pos) spos) (sD P mg W (asgS (.n i) (lcS it t c el (own.map (·.2))))) :=
  (ps_setLc h.calm h.nd hy hyl hsw h.hi h.blk h.hg h.hc h.he (folded_no h.st)).impL fun D σ H hl q => by
    rw [← hl]
    have := sD_asg q
    exact sD_lc (tD_mono (fun v H1 z => gD_n hP z) this)
end

/-! ### stores side by side: values first, then all names -/
def parT : List Nat → List Opv → En → Option En
  | [], [], ρ => some ρ
  | i :: is, .v k d :: xs, ρ => if i < ρ.length then parT is xs (ρ.set i (some (k, d))) else none
  | _, _, _ => none
def parS (is : List Nat) (os : List Opd) : S := thenS (evs os) fun xs ρ => match parT is xs ρ with
  | some ρ' => some (.nx ρ')
  | none => none
section
variable {P : List Nat} {mg : Str → Option Value} {W : WX} {F H : Hp} {A B : List Addr} {ρ : En} {σ : L2.St}
def setAll : L2.St → List Nat → List V → L2.St
  | σ, i :: is, v :: vs => setAll (σ.set i (some v)) is vs
  | σ, _, _ => σ
theorem par_ok : ∀ {is : List Nat} {xs : List Opv} {vs : List V} {ρ ρ' : En} {σ : L2.St} {A B : List Addr}, StR F H ρ σ A → OpsR F H σ vs xs B → (A ++ B).Nodup → (∀ b ∈ B, F b = none) → parT is xs ρ = some ρ' → (∀ i ∈ is, i ∉ P) →
    vs.length = is.length ∧ ∃ A', StR F H ρ' (setAll σ is vs) A' ∧ (∀ b ∈ A', b ∈ A ∨ b ∈ B) ∧ Pk P σ (setAll σ is vs)
  | [], _, _, ρ, ρ', σ, A, _, s, .nil, nd, fr, e, _ => by
    simp only [parT, Option.some.injEq] at e
    subst e
    exact ⟨rfl, A, s, fun b hb => .inl hb, Pk.refl⟩
  | [], _, _, ρ, ρ', σ, A, _, s, .bor _ _, nd, fr, e, _ => by simp [parT] at e
  | [], _, _, ρ, ρ', σ, A, _, s, .val _ _, nd, fr, e, _ => by simp [parT] at e
  | i :: is, _, _, ρ, ρ', σ, A, _, s, .nil, nd, fr, e, _ => by simp [parT] at e
  | i :: is, _, _, ρ, ρ', σ, A, _, s, .bor _ _, nd, fr, e, _ => by simp [parT] at e
  | i :: is, _, _, ρ, ρ', σ, A, _, s, .val (A := B1) (B := B2) (k := k) (d := d) (v := v) (vs := vs) (xs := xs) o r, nd, fr, e, hP => by
    unfold parT at e
    split at e
    · rename_i hi
      have nd' := nd
      simp only [List.nodup_append, List.mem_append] at nd'
      obtain ⟨n1, ⟨n2, n3, n4⟩, n5⟩ := nd'
      obtain ⟨A1, s1, hA⟩ := s.put hi o (List.nodup_append.mpr ⟨n1, n2, fun a ha b hb => n5 a ha b (.inl hb)⟩) fun b hb => fr b (List.mem_append_left _ hb)
      have r' : OpsR F H (σ.set i (some v)) vs xs B2 := by
        have : ∀ {xs : List Opv} {vs : List V} {B : List Addr} {is : List Nat} {ρ ρ' : En}, OpsR F H σ vs xs B → parT is xs ρ = some ρ' → OpsR F H (σ.set i (some v)) vs xs B := by
          intro xs
          induction xs with
          | nil => intro vs B is ρ ρ' h _; cases h; exact .nil
          | cons x xs ih =>
            intro vs B is ρ ρ' h e
            cases h with
            | bor _ _ => cases is <;> simp [parT] at e
            | val o r =>
              cases is with
              | nil => simp [parT] at e
              | cons j is =>
                unfold parT at e
                split at e
                · exact .val o (ih r e)
                · cases e
        exact this r e
      obtain ⟨l, A2, s2, hA2, p2⟩ := par_ok s1 r' (List.nodup_append.mpr ⟨s1.nd, n3, fun a ha b hb => (hA a ha).elim (fun z => n5 a z b (.inr hb)) fun z => n4 a z b hb⟩) (fun b hb => fr b (List.mem_append_right _ hb)) e (fun j hj => hP j (List.mem_cons_of_mem _ hj))
      refine ⟨by simp [l], A2, s2, fun b hb => ?_, Pk.trans (fun j hj => ?_) p2⟩
      · rcases hA2 b hb with z | z
        · exact (hA b z).imp id (List.mem_append_left _)
        · exact .inr (List.mem_append_right _ z)
      · rw [List.getElem?_set_ne]
        exact fun z => hP i List.mem_cons_self (by rw [z]; exact hj)
    · cases e
theorem par_rd {is : List Nat} {os : List Opd} {D : Ends} (hP : ∀ i ∈ is, i ∉ P) (h : sD P mg W (parS is os) D σ H) : tOs mg W os σ H fun vs H1 => vs.length = is.length ∧ D.nx (setAll σ is vs) H1 := by
  obtain ⟨F, ρ, A, s, e⟩ := h
  refine ⟨F, ρ, A, s, SEnd.then e fun xs ρ1 vs F1 H1 A1 B1 s1 o nd fr _ h => ?_⟩
  split at h
  · rename_i ρ' ep
    obtain ⟨l, A', s', hA, p⟩ := par_ok s1 o nd fr ep hP
    exact ⟨l, h _ F1 H1 A' s' (Tr.refl.sub fun b hb => List.mem_append.mpr (hA b hb)) p⟩
  · exact h.elim
end
section
variable {X : Cx} {P : List Nat} {mg : Str → Option Value} {W : WX} {a b c : Expr} {os : List Opd} {x y z : Str} {px py pz pt pos pt2 : Pos} {kt k2 : Nat} {i j l : Nat}
theorem ps_par2S (hc : X.calm = true) (hN : X.N.Nodup) (hi : X.N[i]? = some x) (hj : X.N[j]? = some y) (hij : i ≠ j) (hx : X.env.scope.names.lookup x = some .local) (hy : X.env.scope.names.lookup y = some .local) (hPi : i ∉ P) (hPj : j ∉ P)
    (ha : Paired (OpdOk X mg W) [a, b] os) (hw : swappedStores [.Tuple [.Name x px, .Name y py] kt pt] (.Tuple [a, b] k2 pt2) X.env = pure (some [x, y])) :
    PS X (.Assign [.Tuple [.Name x px, .Name y py] kt pt] (.Tuple [a, b] k2 pt2) pos) (sD P mg W (parS [i, j] os)) :=
  (ps_par hc hN hi hj hij hx hy (pa_of ha) hw).imp fun D σ H h => by
    obtain ⟨F, ρ, A, s, e⟩ := par_rd (fun n hn => by simp at hn; rcases hn with rfl | rfl <;> assumption) h
    refine ⟨F, ρ, A, s, ?_⟩
    revert e
    cases evs os ρ with
    | none => exact id
    | some o =>
      cases o with
      | ex x ρ' => exact id
      | ok xs ρ' =>
        intro e vs F' H' A' B s' r nd fr t
        obtain ⟨l, q⟩ := e vs F' H' A' B s' r nd fr t
        match vs, l with
        | [v, w], _ => exact ⟨v, w, rfl, q⟩
theorem ps_par3S (hc : X.calm = true) (hN : X.N.Nodup) (hi : X.N[i]? = some x) (hj : X.N[j]? = some y) (hl : X.N[l]? = some z) (hij : i ≠ j) (hil : i ≠ l) (hjl : j ≠ l) (hx : X.env.scope.names.lookup x = some .local) (hy : X.env.scope.names.lookup y = some .local)
    (hz : X.env.scope.names.lookup z = some .local) (hPi : i ∉ P) (hPj : j ∉ P) (hPl : l ∉ P)
    (ha : Paired (OpdOk X mg W) [a, b, c] os) (hw : swappedStores [.Tuple [.Name x px, .Name y py, .Name z pz] kt pt] (.Tuple [a, b, c] k2 pt2) X.env = pure (some [x, y, z])) :
    PS X (.Assign [.Tuple [.Name x px, .Name y py, .Name z pz] kt pt] (.Tuple [a, b, c] k2 pt2) pos) (sD P mg W (parS [i, j, l] os)) :=
  (ps_par3 hc hN hi hj hl hij hil hjl hx hy hz (pa_of ha) hw).imp fun D σ H h => by
    obtain ⟨F, ρ, A, s, e⟩ := par_rd (fun n hn => by simp at hn; rcases hn with rfl | rfl | rfl <;> assumption) h
    refine ⟨F, ρ, A, s, ?_⟩
    revert e
    cases evs os ρ with
    | none => exact id
    | some o =>
      cases o with
      | ex x ρ' => exact id
      | ok xs ρ' =>
        intro e vs F' H' A' B s' r nd fr t
        obtain ⟨l, q⟩ := e vs F' H' A' B s' r nd fr t
        match vs, l with
        | [u, v, w], _ => exact ⟨u, v, w, rfl, q⟩
end

/-! ### the text of data; signs of a text; ranges that are asked -/
def reprS : List D → Option D
  | [d] => match d.py with
    | some p => if (p.showable && !p.hasDict && decide (p.depth ≤ 40) && decide (p.shown.length ≤ lineN)) = true then some (.str p.shown) else none
    | none => none
  | _ => none
def signsK : List KD → Option KD
  | [(_, .str x)] => if x.cps.size ≤ lineN then some (9, .lst (x.cps.toList.map fun c => .str ⟨#[c]⟩)) else none
  | _ => none
def listK2 (l : List KD) : Option KD := match l with
  | [(_, .str _)] => signsK l
  | _ => listK l
def joinS : List D → Option D
  | [.str a, .lst ds] => match strsOf ds with
    | some ys => if (ys.map (·.length)).sum + ys.length * a.length ≤ 16777216 then some (.str (Txt.join a ys)) else none
    | none => none
  | [.str a, .tup ds] => match strsOf ds with
    | some ys => if (ys.map (·.length)).sum + ys.length * a.length ≤ 16777216 then some (.str (Txt.join a ys)) else none
    | none => none
  | _ => none
where strsOf : List D → Option (List Str)
  | [] => some []
  | .str x :: r => match strsOf r with
    | some l => some (x :: l)
    | none => none
  | _ => none
def rngS (neg : Bool) : List D → Option D
  | [.int i, .int hi] => some (.bl (neg ^^ decide (0 ≤ i ∧ i < hi)))
  | [.int i, .int lo, .int hi] => some (.bl (neg ^^ decide (lo ≤ i ∧ i < hi)))
  | _ => none
section
variable {X : Cx} {mg : Str → Option Value} {W : WX}
def rRepr (K : PySem.W.Frag) : List V → Hp → VK → Prop := fun xs H Q => ∃ x p, xs = [x] ∧ Dp K H x p ∧ p.showable = true ∧ p.hasDict = false ∧ p.depth ≤ 40 ∧ p.shown.length ≤ sizeLine ∧ Q (.str p.shown) H
theorem cr_reprD (hg : X.A.guards = some []) (hu : X.A.units + 64 < cLine) : CallR X (.builtin "repr") (rRepr X.K) := by
  intro pins s σ H xs us Q I r h
  obtain ⟨x, p, rfl, hd, h1, h2, h3, h4, q⟩ := h
  obtain ⟨u, rfl, ru⟩ := vals1 r
  cases hd with
  | non => cases ru; exact PySem.P.repr_of_none ⟨.str _, H, I.tok _, ⟨_, rfl⟩, q⟩
  | bl b => cases ru; exact PySem.P.repr_of_bool ⟨.str _, H, I.tok _, ⟨_, rfl⟩, q⟩
  | int i =>
    obtain ⟨t, rfl⟩ := ru
    exact PySem.P.repr_of_int (by simpa [PyData.showable] using h1) ⟨.str _, H, I.tok _, ⟨_, rfl⟩, q⟩
  | str x =>
    obtain ⟨t, rfl⟩ := ru
    exact PySem.P.repr_of_str ⟨.str _, H, I.tok _, ⟨_, rfl⟩, q⟩ h4
  | lst a b =>
    cases ru
    obtain ⟨as, rd⟩ := Dp.reads I _ _ _ (.lst a b) rfl
    exact repr_of_reads' rd h1 (PyData.noDict_hsm h2) hg (by omega) (fun _ _ e => e) (fun h' u tk k => ⟨.str _, H, I.kept (t' := tk) k, ⟨_, rfl⟩, q⟩) h4
  | tup a b =>
    cases ru
    obtain ⟨as, rd⟩ := Dp.reads I _ _ _ (.tup a b) rfl
    exact repr_of_reads' rd h1 (PyData.noDict_hsm h2) hg (by omega) (fun _ _ e => e) (fun h' u tk k => ⟨.str _, H, I.kept (t' := tk) k, ⟨_, rfl⟩, q⟩) h4
theorem reprS_ok {K : PySem.W.Frag} : OpS mg W (rRepr K) (sop reprS) := sop_ok fun vs ds d H rd e => by
  unfold reprS at e
  split at e
  · split at e
    · rename_i p ep
      split at e
      · rename_i hc
        cases e
        simp only [Bool.and_eq_true, Bool.not_eq_true', decide_eq_true_eq] at hc
        obtain ⟨v, rfl, o⟩ := rd.one
        exact ⟨_, rfl, fun Q q => ⟨v, p, rfl, Own.dp _ _ _ o ep, hc.1.1.1, hc.1.1.2, hc.1.2, by rw [← lineN_eq]; exact hc.2, q⟩⟩
      · cases e
    · cases e
  · cases e
end
end DN

set_option Elab.async false
set_option linter.all false
set_option maxRecDepth 100000
set_option maxHeartbeats 4000000
/-! DN, part T: the rules in the short form in which they are printed for a def. -/
namespace DN
open PySem PySem.Spec PyProof.Rows L2
variable [KSeq]

/-- what a context must show: its names N, its scope sc, the scope fs whose cells are its own -/
structure Cd (X : Cx) (N : List Str) (sc fs : Scope) (k : Nat) (mg : Str → Option Value) : Prop where
  hN : X.N = N
  nd : N.Nodup
  hs : X.env.scope = sc
  kd : sc.kind = .function
  calm : X.calm = true
  hm : X.mg = mg
  rm : Rm k X.A
  fnc : ∀ x, fs.names.lookup x = some .cell → X.fn x = true
  hK : X.K = KSeq.K
def vnB (N : List Str) (sc : Scope) (i : Nat) (x : Str) : Bool := decide (N[i]? = some x) && (match sc.names.lookup x with
  | some .local => true
  | some .cell => true
  | some .free => true
  | _ => false) && !(x == ("__debug__" : Str)) && !(x == ("__classdict__" : Str))
def gnB (sc : Scope) (x : Str) : Bool := (match sc.names.lookup x with
  | some .globalImplicit => true
  | _ => false) && !(x == ("__debug__" : Str)) && decide (x ≠ ("__name__" : Str))
/-- a name that is stored: local, or a cell of its own -/
def tnB (N : List Str) (sc fs : Scope) (i : Nat) (x : Str) : Bool := decide (N[i]? = some x) && (match sc.names.lookup x with
  | some .local => true
  | some .cell => (match fs.names.lookup x with
    | some .cell => true
    | _ => false)
  | _ => false)
def lnB (N : List Str) (sc : Scope) (i : Nat) (x : Str) : Bool := decide (N[i]? = some x) && (match sc.names.lookup x with
  | some .local => true
  | _ => false)
section
variable {X : Cx} {N : List Str} {sc fs : Scope} {k : Nat} {mg : Str → Option Value} {W : WX} {P : List Nat} {x : Str} {pos p p2 : Pos} {i : Nat}
theorem Cd.u66 (c : Cd X N sc fs k mg) : X.A.units + 66 < cLine := by have := c.rm.rm.un; omega
theorem Cd.u64 (c : Cd X N sc fs k mg) : X.A.units + 64 < cLine := by have := c.rm.rm.un; omega
theorem Cd.u1 (c : Cd X N sc fs k mg) : X.A.units + 1 < cLine := by have := c.rm.rm.un; omega
theorem Cd.blk (c : Cd X N sc fs k mg) (s : Shared) (H : Hp) (scope : Scope) (cl : List (Str × Addr)) (C : Addr) (fp : List Addr) (hk : scope.kind = .function) : Cd (X.blk s H scope (compEnvC scope cl C X.env) fp) N (relS scope sc) scope k mg :=
  ⟨c.hN, c.nd, by rw [← c.hs]; rfl, hk, c.calm, c.hm, c.rm, fun x h => by
    show (scope.names.lookup x == some .cell) = true
    rw [h]; rfl, c.hK⟩
theorem pe_v (c : Cd X N sc fs k mg) (h : vnB N sc i x = true) : PE X (.Name x pos) (tVar i) := by
  unfold vnB at h
  simp only [Bool.and_eq_true, decide_eq_true_eq, Bool.not_eq_true'] at h
  refine pe_var (by rw [c.hN]; exact h.1.1.1) ?_ h.1.2 h.2
  rw [c.hs]
  have := h.1.1.2
  unfold Vis
  split at this <;> simp_all
theorem gl_of (c : Cd X N sc fs k mg) (h : gnB sc x = true) : Gl X x ∧ (x == ("__debug__" : Str)) = false ∧ x ≠ "__name__" := by
  unfold gnB at h
  simp only [Bool.and_eq_true, decide_eq_true_eq, Bool.not_eq_true'] at h
  refine ⟨?_, h.1.2, h.2⟩
  have := h.1.1
  show X.env.scope.names.lookup x = some .globalImplicit
  rw [c.hs]
  split at this <;> simp_all
/-- an operand that is a name -/
theorem ob (c : Cd X N sc fs k mg) (h : vnB N sc i x = true) : OpdOk X mg W (.Name x pos) (.b i) := ⟨pe_v c h, rfl⟩
/-- an operand that is a value -/
theorem ov {e : Expr} {f : M KD} (h : PE X e (tD mg W f)) (hs : notStar e = true) : OpdOk X mg W e (.v f) := ⟨h, hs⟩
def cst (d : D) : M KD := M.ret (9, d)
theorem rd_cst {d : D} {v : V} {σ : L2.St} {H : Hp} {Q : VK} (hp : pv0 d = some v) (h : tD mg W (cst d) σ H Q) : tC v σ H Q := by
  obtain ⟨F, ρ, A, s, e⟩ := h
  have e' : End mg W F H A σ (M.ret ((9 : Nat), d) ρ) rKD Q := e
  exact End.done (B := []) (by simpa using e') s (own_pv hp 9)
theorem kI {n : Int} {j} : PE X (.Constant (.int n) j pos) (tD mg W (cst (.int n))) := pe_int.imp fun _ _ _ h => rd_cst rfl h
theorem kB {n : Bool} {j} : PE X (.Constant (.bool n) j pos) (tD mg W (cst (.bl n))) := pe_bl.imp fun _ _ _ h => rd_cst rfl h
theorem kN {j} : PE X (.Constant .none j pos) (tD mg W (cst .non)) := pe_non.imp fun _ _ _ h => rd_cst rfl h
theorem kS {n : Str} {j} : PE X (.Constant (.str n) j pos) (tD mg W (cst (.str n))) := pe_str.imp fun _ _ _ h => rd_cst rfl h
/-- a module's plain constant -/
def KonD (K : PySem.W.Frag) (mg : Str → Option Value) (x : Str) (d : D) : Prop := ∃ v u, pv0 d = some v ∧ mg x = some u ∧ RelV v u
theorem kG {d : D} (c : Cd X N sc fs k mg) (h : gnB sc x = true) (hd : KonD X.K mg x d) : PE X (.Name x pos) (tD mg W (cst d)) := by
  obtain ⟨v, u, h1, h2, h3⟩ := hd
  obtain ⟨g1, g2, _⟩ := gl_of c h
  exact (pe_glob g1 (by rw [c.hm]; exact h2) h3 g2).imp fun _ _ _ h => rd_cst h1 h
theorem kNm (c : Cd X N sc fs k mg) (h : vnB N sc i x = true) : PE X (.Name x pos) (tD mg W (nameS i)) := (pe_v c h).imp fun _ _ _ h => tD_name h
theorem kMv (c : Cd X N sc fs k mg) (h : vnB N sc i x = true) : PE X (.Name x pos) (tD mg W (movS i)) := (pe_v c h).imp fun _ _ _ h => tD_mov h
variable {a b d e : Expr} {oa oc : Opd} {es : List Expr} {os : List Opd} {f g : M KD} {t u : M Bool}

/-! operators -/
theorem eAdd (ha : OpdOk X mg W a oa) (hb : OpdOk X mg W b oc) : PE X (.BinOp a .Add b pos) (tD mg W (opE [oa, oc] (frzOps (nop addK)))) := let ⟨_, h1, h2⟩ := addS_ok (X := X); pe_bin h1 (fz_ok h2) ha hb
theorem eMul (ha : OpdOk X mg W a oa) (hb : OpdOk X mg W b oc) : PE X (.BinOp a .Mult b pos) (tD mg W (opE [oa, oc] (frzOps (nop mulK)))) := let ⟨_, h1, h2⟩ := mulS_ok (X := X); pe_bin h1 (fz_ok h2) ha hb
theorem eSub (ha : OpdOk X mg W a oa) (hb : OpdOk X mg W b oc) : PE X (.BinOp a .Sub b pos) (tD mg W (opE [oa, oc] (sop subD))) := pe_bin op_sub subS_ok ha hb
theorem eFdiv (ha : OpdOk X mg W a oa) (hb : OpdOk X mg W b oc) : PE X (.BinOp a .FloorDiv b pos) (tD mg W (opE [oa, oc] (sop fdivD))) := pe_bin op_fdivN fdivS_ok ha hb
theorem eMod (ha : OpdOk X mg W a oa) (hb : OpdOk X mg W b oc) : PE X (.BinOp a .Mod b pos) (tD mg W (opE [oa, oc] (sop modD))) := pe_bin op_modN modS_ok ha hb
theorem ePow (ha : OpdOk X mg W a oa) (hb : OpdOk X mg W b oc) : PE X (.BinOp a .Pow b pos) (tD mg W (opE [oa, oc] (sop powD))) := pe_bin op_pow powS_ok ha hb
theorem eEq (c : Cd X N sc fs k mg) (ha : OpdOk X mg W a oa) (hb : OpdOk X mg W b oc) (hm : behindInMarks .Eq b = false) : PE X (.Compare a [.Eq] [b] pos) (tD mg W (opE [oa, oc] (sop (eqS false)))) := pe_cmpS (op_eqD c.u64) eqS_ok ha hb hm
theorem eNe (c : Cd X N sc fs k mg) (ha : OpdOk X mg W a oa) (hb : OpdOk X mg W b oc) (hm : behindInMarks .NotEq b = false) : PE X (.Compare a [.NotEq] [b] pos) (tD mg W (opE [oa, oc] (sop (eqS true)))) := pe_cmpS (op_neD c.u64) neS_ok ha hb hm
theorem eIn (c : Cd X N sc fs k mg) (ha : OpdOk X mg W a oa) (hb : OpdOk X mg W b oc) (hm : behindInMarks .In b = false) : PE X (.Compare a [.In] [b] pos) (tD mg W (opE [oa, oc] (sop (inS false)))) := let ⟨_, h1, h2⟩ := inS_ok (X := X) c.u66 false; pe_cmpS h1 h2 ha hb hm
theorem eNotIn (c : Cd X N sc fs k mg) (ha : OpdOk X mg W a oa) (hb : OpdOk X mg W b oc) (hm : behindInMarks .NotIn b = false) : PE X (.Compare a [.NotIn] [b] pos) (tD mg W (opE [oa, oc] (sop (inS true)))) := let ⟨_, h1, h2⟩ := inS_ok (X := X) c.u66 true; pe_cmpS h1 h2 ha hb hm
theorem eOrd (o : Ord4) (ha : OpdOk X mg W a oa) (hb : OpdOk X mg W b oc) (hm : behindInMarks o.op b = false) : PE X (.Compare a [o.op] [b] pos) (tD mg W (opE [oa, oc] (sop (ordS o)))) := let ⟨_, h1, h2⟩ := ordS_ok (X := X) o; pe_cmpS h1 h2 ha hb hm
theorem tEq (c : Cd X N sc fs k mg) (ha : OpdOk X mg W a oa) (hb : OpdOk X mg W b oc) (hm : behindInMarks .Eq b = false) : PT X (.Compare a [.Eq] [b] pos) (tB mg W (boolM (opE [oa, oc] (sop (eqS false))))) := pt_cmpS (op_eqD c.u64) eqS_ok ha hb hm
theorem tNe (c : Cd X N sc fs k mg) (ha : OpdOk X mg W a oa) (hb : OpdOk X mg W b oc) (hm : behindInMarks .NotEq b = false) : PT X (.Compare a [.NotEq] [b] pos) (tB mg W (boolM (opE [oa, oc] (sop (eqS true))))) := pt_cmpS (op_neD c.u64) neS_ok ha hb hm
theorem tIn (c : Cd X N sc fs k mg) (ha : OpdOk X mg W a oa) (hb : OpdOk X mg W b oc) (hm : behindInMarks .In b = false) : PT X (.Compare a [.In] [b] pos) (tB mg W (boolM (opE [oa, oc] (sop (inS false))))) := let ⟨_, h1, h2⟩ := inS_ok (X := X) c.u66 false; pt_cmpS h1 h2 ha hb hm
theorem tNotIn (c : Cd X N sc fs k mg) (ha : OpdOk X mg W a oa) (hb : OpdOk X mg W b oc) (hm : behindInMarks .NotIn b = false) : PT X (.Compare a [.NotIn] [b] pos) (tB mg W (boolM (opE [oa, oc] (sop (inS true))))) := let ⟨_, h1, h2⟩ := inS_ok (X := X) c.u66 true; pt_cmpS h1 h2 ha hb hm
theorem tOrd (o : Ord4) (ha : OpdOk X mg W a oa) (hb : OpdOk X mg W b oc) (hm : behindInMarks o.op b = false) : PT X (.Compare a [o.op] [b] pos) (tB mg W (boolM (opE [oa, oc] (sop (ordS o))))) := let ⟨_, h1, h2⟩ := ordS_ok (X := X) o; pt_cmpS h1 h2 ha hb hm
theorem eSubS (c : Cd X N sc fs k mg) (ha : OpdOk X mg W a oa) (hb : OpdOk X mg W b oc) (hs : isSlice b = false) : PE X (.Subscript a b pos) (tD mg W (opE [oa, oc] (frzOps idxOp))) :=
  (pe_ix (IxR.or ix_seq (ix_dict c.u1)) (opd_pe ha) (opd_pe hb) (plainIx_of hs)).imp fun _ _ _ h => tOs_two (opE_of (fz_ok (idx_ok (X := X) c.hK)) h)

/-! built-ins -/
theorem ePos {r : List V → Hp → VK → Prop} {gf : List Opv → M KD} {id : String} (c : Cd X N sc fs k mg) (h : gnB sc x = true) (hm : mg x = none) (hv : bootBuiltins x = some (.builtin id)) (hc : CallR X (.builtin id) r) (hg : OpS mg W r gf)
    (ha : Paired (OpdOk X mg W) (e :: es) os) (hs : (e :: es).all notStar = true) : PE X (.Call (.Name x p) (e :: es) [] pos) (tD mg W (opE os gf)) := by
  obtain ⟨g1, g2, g3⟩ := gl_of c h
  have hs' := hs
  simp only [List.all_cons, Bool.and_eq_true] at hs'
  exact pe_bltS hc g1 (by rw [c.hm]; exact hm) hv g3 g2 hg ha hs'.1 (few_of hs'.2).2
theorem eTyp {r : List V → Hp → VK → Prop} {gf : List Opv → M KD} {T : String} (c : Cd X N sc fs k mg) (h : gnB sc x = true) (hm : mg x = none) (hv : bootBuiltins x = some (.type T)) (hc : CallR X (.type T) r) (hg : OpS mg W r gf)
    (ha : Paired (OpdOk X mg W) (e :: es) os) (hs : (e :: es).all notStar = true) : PE X (.Call (.Name x p) (e :: es) [] pos) (tD mg W (opE os gf)) := by
  obtain ⟨g1, g2, g3⟩ := gl_of c h
  have hs' := hs
  simp only [List.all_cons, Bool.and_eq_true] at hs'
  exact pe_tyS hc g1 (by rw [c.hm]; exact hm) hv g3 g2 hg ha hs'.1 (few_of hs'.2).2
theorem eLen (c : Cd X N sc fs k mg) (h : gnB sc "len" = true) (hm : mg "len" = none) (ha : OpdOk X mg W a oa) (hs : notStar a = true) : PE X (.Call (.Name "len" p) [a] [] pos) (tD mg W (opE [oa] (sop lenS))) :=
  ePos c h hm boot_len call_len (lenS_ok c.hK) (.cons ha .nil) (by simp [hs])
theorem eAbs (c : Cd X N sc fs k mg) (h : gnB sc "abs" = true) (hm : mg "abs" = none) (ha : OpdOk X mg W a oa) (hs : notStar a = true) : PE X (.Call (.Name "abs" p) [a] [] pos) (tD mg W (opE [oa] (sop absS))) :=
  ePos c h hm (by decide +kernel) call_abs absS_ok (.cons ha .nil) (by simp [hs])
theorem eInt (c : Cd X N sc fs k mg) (h : gnB sc "int" = true) (hm : mg "int" = none) (ha : OpdOk X mg W a oa) (hs : notStar a = true) : PE X (.Call (.Name "int" p) [a] [] pos) (tD mg W (opE [oa] (sop intOfS))) :=
  eTyp c h hm (by decide +kernel) call_int1 intOfS_ok (.cons ha .nil) (by simp [hs])
theorem eMax2 (c : Cd X N sc fs k mg) (h : gnB sc "max" = true) (hm : mg "max" = none) (ha : OpdOk X mg W a oa) (hb : OpdOk X mg W b oc) (hs : notStar a = true) (hs2 : notStar b = true) : PE X (.Call (.Name "max" p) [a, b] [] pos) (tD mg W (opE [oa, oc] (sop max2S))) :=
  ePos c h hm (by decide +kernel) (call_max2 c.calm) max2S_ok (.cons ha (.cons hb .nil)) (by simp [hs, hs2])
theorem eMin2 (c : Cd X N sc fs k mg) (h : gnB sc "min" = true) (hm : mg "min" = none) (ha : OpdOk X mg W a oa) (hb : OpdOk X mg W b oc) (hs : notStar a = true) (hs2 : notStar b = true) : PE X (.Call (.Name "min" p) [a, b] [] pos) (tD mg W (opE [oa, oc] (sop min2S))) :=
  ePos c h hm (by decide +kernel) (call_min2 c.calm) min2S_ok (.cons ha (.cons hb .nil)) (by simp [hs, hs2])
theorem eTup (c : Cd X N sc fs k mg) (h : gnB sc "tuple" = true) (hm : mg "tuple" = none) (ha : OpdOk X mg W a oa) (hs : notStar a = true) : PE X (.Call (.Name "tuple" p) [a] [] pos) (tD mg W (opE [oa] (frzOps (nop tupK)))) :=
  eTyp c h hm (by decide +kernel) call_tuple_of (fz_ok tupK_ok) (.cons ha .nil) (by simp [hs])
theorem eRepr (c : Cd X N sc fs k mg) (h : gnB sc "repr" = true) (hm : mg "repr" = none) (ha : OpdOk X mg W a oa) (hs : notStar a = true) : PE X (.Call (.Name "repr" p) [a] [] pos) (tD mg W (opE [oa] (sop reprS))) :=
  ePos c h hm (by decide +kernel) (cr_reprD c.rm.gd c.u64) reprS_ok (.cons ha .nil) (by simp [hs])
theorem eIsi {T : String} (c : Cd X N sc fs k mg) (h : gnB sc "isinstance" = true) (hm : mg "isinstance" = none) (h2 : gnB sc x = true) (hm2 : mg x = none) (hv : bootBuiltins x = some (.type T)) (ha : OpdOk X mg W a oa) (hs : notStar a = true) :
    PE X (.Call (.Name "isinstance" p) [a, .Name x p2] [] pos) (tD mg W (opE [oa] (sop (isiS T)))) := by
  obtain ⟨g1, _, _⟩ := gl_of c h
  obtain ⟨q1, q2, q3⟩ := gl_of c h2
  exact pe_isi (c := a) g1 (by rw [c.hm]; exact hm) q1 (by rw [c.hm]; exact hm2) hv q3 q2 ha hs

/-! calls of defs -/
/-- a def that is there: its name, its parameters that change, how many, what it does -/
structure Cal (X : Cx) (mg : Str → Option Value) (x : Str) (ps : List Str) (k : Nat) (ms : List Bool) (run : Fn) : Prop where
  ex : ∃ f fd, FnG X.prog X.w X.K X.mg X.base (L2.CX X.prog X.w) k f fd ps (spFn mg ms ps.length run) ∧ mg x = some (.ref f) ∧ PySem.W.keepIn X.K (.ref f) = true ∧ Binds X.K fd ps []
theorem Cal.blk {ps : List Str} {ms : List Bool} {run : Fn} {j : Nat} (h : Cal X mg x ps j ms run) (s : Shared) (H : Hp) (scope : Scope) (cl : List (Str × Addr)) (C : Addr) (fp : List Addr) : Cal (X.blk s H scope (compEnvC scope cl C X.env) fp) mg x ps j ms run := ⟨h.ex⟩
theorem eCall {ps : List Str} {ms : List Bool} {run : Fn} {j : Nat} (c : Cd X N sc fs k mg) (tk : Takes X W) (h : gnB sc x = true) (cal : Cal X mg x ps j ms run) (hj : j ≤ k) (hl : ps.length = os.length) (ha : Paired (OpdOk X mg W) (e :: es) os) (hs : (e :: es).all notStar = true) :
    PE X (.Call (.Name x p) (e :: es) [] pos) (tD mg W (opE os (callG ms run))) := by
  obtain ⟨f, fd, F, hm, hk, hb⟩ := cal.ex
  obtain ⟨g1, g2, _⟩ := gl_of c h
  rw [hl] at F
  exact pe_callF2 tk F (c.rm.mono hj) g1 (by rw [c.hm]; exact hm) hk hb ha g2 hs

/-! targets, stores -/
theorem gN (c : Cd X N sc fs k mg) (h : tnB N sc fs i x = true) (hP : P.contains i = false) : PG X (.Name x pos) (gD P (.n i)) := by
  unfold tnB at h
  simp only [Bool.and_eq_true, decide_eq_true_eq] at h
  have h2 := h.2
  refine pg_nS (by rw [c.hN]; exact c.nd) (by rw [c.hN]; exact h.1) ?_ ?_ (by simpa using hP)
  · rw [c.hs]
    unfold L2.Loc
    split at h2 <;> simp_all
  · rw [c.hs]
    split at h2
    · rename_i q; exact .inr q
    · rename_i q
      split at h2
      · rename_i q2; exact .inl (c.fnc x q2)
      · cases h2
    · cases h2
theorem gT {ts : List Tg} {j : Nat} (c : Cd X N sc fs k mg) (h : PGs X es (gDs P ts)) (hl : es.length = ts.length) (hs : es.all notStar = true) : PG X (.Tuple es j pos) (gD P (.t ts)) := pg_tupS c.calm h hl hs
theorem sAsg {t : Tg} {b : Expr} (he : PE X e (tD mg W f)) (hg : PG X b (gD P t)) (hn : notComp e = true) (hs : notStar b = true) (hw : swappedStores [b] e X.env = pure none) : PS X (.Assign [b] e pos) (sD P mg W (asgS t f)) := ps_asgS he hg hn hs hw
theorem sName (c : Cd X N sc fs k mg) (he : PE X e (tD mg W f)) (h : tnB N sc fs i x = true) (hP : P.contains i = false) (hn : notComp e = true) : PS X (.Assign [.Name x p] e pos) (sD P mg W (asgS (.n i) f)) := ps_asgS he (gN c h hP) hn rfl rfl
theorem sSet (c : Cd X N sc fs k mg) (he : PE X e (tD mg W f)) (hv : vnB N sc i x = true) (hi : PE X a (tD mg W g)) (hs : isSlice a = false) (hn : notComp e = true) : PS X (.Assign [.Subscript (.Name x p) a p2] e pos) (sD P mg W (exprS (opE [.v f, .b i, .v g] setG))) :=
  ps_setS c.u1 he (pe_v c hv) hi hs hn rfl
end
end DN

set_option Elab.async false
set_option linter.all false
set_option maxRecDepth 100000
set_option maxHeartbeats 4000000
/-! DN, part U: rules for what lies one step down; methods; further forms. -/
namespace DN
open PySem PySem.Spec PyProof.Rows L2
variable [KSeq]
section
variable {K : PySem.W.Frag} {mg : Str → Option Value} {W : WX} {σ : L2.St} {H : Hp}
theorem rIx_mono {x y : V} {C C' : VK} (i : ∀ z H, C z H → C' z H) (h : rIx K x y H C) : rIx K x y H C' := by
  rcases h with ⟨p, xs, j, v, h1, h2, h3, h4, h5⟩ | ⟨p, xs, j, v, h1, h2, h3, h4, h5⟩ | ⟨p, xs, j, v, h1, h2, h3, h5⟩
  · exact .inl ⟨p, xs, j, v, h1, h2, h3, h4, i _ _ h5⟩
  · exact .inr (.inl ⟨p, xs, j, v, h1, h2, h3, h4, i _ _ h5⟩)
  · exact .inr (.inr ⟨p, xs, j, v, h1, h2, h3, i _ _ h5⟩)
theorem rIxD_mono {x y : V} {C C' : VK} (i : ∀ z H, C z H → C' z H) (h : rIxD x y H C) : rIxD x y H C' := by
  obtain ⟨a, v, h1, h2, h3⟩ := h
  exact ⟨a, v, h1, h2, i _ _ h3⟩
/-- a name's part at a key, as it is read -/
def tPth (K : PySem.W.Frag) (mg : Str → Option Value) (W : WX) (i : Nat) (fk : M KD) : TE := tOp (fun x y H Q => rIx K x y H Q ∨ rIxD x y H Q) (tVar i) (tD mg W fk)
theorem tPth_mono {i : Nat} {fk : M KD} {C C' : VK} (j : ∀ z H, C z H → C' z H) (h : tPth K mg W i fk σ H C) : tPth K mg W i fk σ H C' := by
  obtain ⟨v, e, h⟩ := h
  exact ⟨v, e, tD_mono (fun u H2 q => q.imp (rIx_mono j) (rIxD_mono j)) h⟩
/-- the first values, then a name's part at a key, then the others -/
theorem pth2_rd {i : Nat} {fk : M KD} {oas os : List Opd} {g : List Opv → M KD} {r : List V → Hp → VK → Prop} {Q : VK} {T : DN.D → Bool} (hr : OpS mg W r g) (h : tD mg W (opE oas (pthG T i fk os g)) σ H Q) :
    tOs mg W oas σ H fun vs0 H0 => tPth K mg W i fk σ H0 fun x H3 => (∃ d, T d = true ∧ Own H3 H3 0 x d []) ∧ tOs mg W os σ H3 fun vs H4 => r (vs0 ++ x :: vs) H4 Q := by
  obtain ⟨F, ρ, A, s, e⟩ := h
  refine ⟨F, ρ, A, s, End.bind e fun xs ρ1 vs F1 H1 A1 B1 _ s1 o nd fr t h => ?_⟩
  exact pth_core hr s1 o nd fr (End.later t h)
theorem pth1_rd {i : Nat} {fk : M KD} {os : List Opd} {g : List Opv → M KD} {r : List V → Hp → VK → Prop} {Q : VK} {T : DN.D → Bool} (hr : OpS mg W r g) (h : tD mg W (pthG T i fk os g []) σ H Q) :
    tPth K mg W i fk σ H fun x H3 => (∃ d, T d = true ∧ Own H3 H3 0 x d []) ∧ tOs mg W os σ H3 fun vs H4 => r (x :: vs) H4 Q := pth_rd hr h
end
def anyT : D → Bool := fun _ => true
def isT (T : String) : D → Bool := fun d => d.ty == T
section
variable {X : Cx} {N : List Str} {sc fs : Scope} {k : Nat} {mg : Str → Option Value} {W : WX} {P : List Nat} {x name : Str} {pos p p2 p3 apos cpos : Pos} {i : Nat} {a b e ke : Expr} {oa oc : Opd} {es : List Expr} {os : List Opd} {f fk g : M KD} {T id : String} {r : V → List V → Hp → VK → Prop} {gf : List Opv → M KD}
/-- NAME[key] -/
structure PthOk (X : Cx) (mg : Str → Option Value) (W : WX) (o : Expr) (i : Nat) (fk : M KD) : Prop where
  pe : PE X o (tPth X.K mg W i fk)
  ns : notStar o = true
  pb : plainBase o = true
theorem pth (c : Cd X N sc fs k mg) (hv : vnB N sc i x = true) (hk : PE X ke (tD mg W fk)) (hs : isSlice ke = false) : PthOk X mg W (.Subscript (.Name x p) ke p2) i fk := ⟨pe_ix (IxR.or ix_seq (ix_dict c.u1)) (pe_v c hv) hk (plainIx_of hs), rfl, rfl⟩
theorem mthP (h : PthOk X mg W a i fk) (pa : PlainAttrs T) (slot : Slot T name id) (hty : typeOf (.builtin id) = pure (.type "method_descriptor")) (hm : MtR X id r) (hT : goodT T = true) (hg : OpS mg W (rMth r) gf) (ha : Paired (OpdOk X mg W) (e :: es) os)
    (hst : (e :: es).all notStar = true) (hlen : fewArgs (e :: es) = true) (hline : (apos.endLine == cpos.line) = true) : PE X (.Call (.Attribute a name apos) (e :: es) [] cpos) (tD mg W (pthG (isT T) i fk os gf [])) := by
  have hst' := hst
  simp only [List.all_cons, Bool.and_eq_true] at hst'
  refine (pe_bm pa slot hty hm h.pe (pa_of ha) (base_of h.pb) ?_ hline (starEach_of hst'.1) (few_of hst'.2).2).imp fun σ H Q h => tPth_mono (fun x H1 q => ?_) (pth1_rd hg h)
  · rw [(few_of (X := X) (cpos := cpos) hst).1]
    unfold fewArgs at hlen
    simpa [backToKw, keywordEach] using hlen
  · obtain ⟨⟨d, hd, od⟩, q⟩ := q
    exact ⟨tyV_of (by simpa [isT] using hd) (goodT_of hT).1 od (goodT_of hT).2, q⟩
theorem mthP0 (h : PthOk X mg W a i fk) (pa : PlainAttrs T) (slot : Slot T name id) (hty : typeOf (.builtin id) = pure (.type "method_descriptor")) (hm : MtR X id r) (hT : goodT T = true) (hg : OpS mg W (rMth r) gf) (hline : (apos.endLine == cpos.line) = true) :
    PE X (.Call (.Attribute a name apos) [] [] cpos) (tD mg W (pthG (isT T) i fk [] gf [])) := by
  refine (pe_bm0 pa slot hty hm h.pe (base_of h.pb) hline).imp fun σ H Q h => tPth_mono (fun x H1 q => ?_) (pth1_rd hg h)
  obtain ⟨⟨d, hd, od⟩, q⟩ := q
  exact ⟨tyV_of (by simpa [isT] using hd) (goodT_of hT).1 od (goodT_of hT).2, tOs_nil q⟩
/-- NAME[key][b] -/
theorem subP (c : Cd X N sc fs k mg) (h : PthOk X mg W a i fk) (hb : OpdOk X mg W b oc) (hs : isSlice b = false) : PE X (.Subscript a b pos) (tD mg W (pthG anyT i fk [oc] idxOp [])) :=
  (pe_ix (IxR.or ix_seq (ix_dict c.u1)) h.pe (opd_pe hb) (plainIx_of hs)).imp fun σ H Q h => tPth_mono (fun x H1 q => tOs_one q.2) (pth1_rd (idx_ok (X := X) c.hK) h)
theorem cmpP {op : CmpOp} {r : R2} (h : PthOk X mg W a i fk) (ho : OpR X (compareOp op) r) (hg : OpS mg W (r2L r) gf) (hb : OpdOk X mg W b oc) (hm : behindInMarks op b = false) : PE X (.Compare a [op] [b] pos) (tD mg W (pthG anyT i fk [oc] gf [])) :=
  (pe_cmpR ho h.pe (opd_pe hb) hm).imp fun σ H Q h => tPth_mono (fun x H1 q => tOs_one q.2) (pth1_rd hg h)
theorem cmpPt {op : CmpOp} {r : R2} (h : PthOk X mg W a i fk) (ho : OpR X (compareOp op) r) (hg : OpS mg W (r2L r) gf) (hb : OpdOk X mg W b oc) (hm : behindInMarks op b = false) : PT X (.Compare a [op] [b] pos) (tB mg W (boolM (pthG anyT i fk [oc] gf []))) :=
  (pt_cmpR ho h.pe (opd_pe hb) hm).imp fun σ H Q h => tPth_mono (fun x H1 q => tOs_one q.2) (pth1_rd hg (tB_bool h))
theorem cmpQ {op : CmpOp} {r : R2} (h : PthOk X mg W b i fk) (ho : OpR X (compareOp op) r) (hg : OpS mg W (r2L r) gf) (ha : OpdOk X mg W a oa) (hm : behindInMarks op b = false) : PE X (.Compare a [op] [b] pos) (tD mg W (opE [oa] (pthG anyT i fk [] gf))) :=
  (pe_cmpR ho (opd_pe ha) h.pe hm).imp fun σ H Q h => tOpd_mono (fun v H1 q => tPth_mono (fun x H3 q => (tOs_nil q.2 : tNil σ H3 fun vs H4 => r2L r ([v] ++ x :: vs) H4 Q)) q) (tOs_one (pth2_rd (K := X.K) hg h))
theorem cmpQt {op : CmpOp} {r : R2} (h : PthOk X mg W b i fk) (ho : OpR X (compareOp op) r) (hg : OpS mg W (r2L r) gf) (ha : OpdOk X mg W a oa) (hm : behindInMarks op b = false) : PT X (.Compare a [op] [b] pos) (tB mg W (boolM (opE [oa] (pthG anyT i fk [] gf)))) :=
  (pt_cmpR ho (opd_pe ha) h.pe hm).imp fun σ H Q h => tOpd_mono (fun v H1 q => tPth_mono (fun x H3 q => (tOs_nil q.2 : tNil σ H3 fun vs H4 => r2L r ([v] ++ x :: vs) H4 fun x H => ∃ c, x = .bl c ∧ Q c H)) q) (tOs_one (pth2_rd (K := X.K) hg (tB_bool h)))
/-- f(NAME[key]) of a built-in -/
theorem bltP {r1 : List V → Hp → VK → Prop} (h : PthOk X mg W a i fk) (c : Cd X N sc fs k mg) (h0 : gnB sc x = true) (hm : mg x = none) (hv : bootBuiltins x = some (.builtin id)) (hc : CallR X (.builtin id) r1) (hg : OpS mg W r1 gf) :
    PE X (.Call (.Name x p) [a] [] pos) (tD mg W (pthG anyT i fk [] gf [])) := by
  obtain ⟨g1, g2, g3⟩ := gl_of c h0
  refine (pe_callB hc g1 (by rw [c.hm]; exact hm) hv (pa_cons h.pe pa_nil (starEach_of h.ns)) g3 g2 (starEach_of h.ns)).imp fun σ H Q h => ?_
  exact tPth_mono (fun x H1 q => (tOs_nil q.2 : tNil σ H1 fun vs H2 => r1 (x :: vs) H2 Q)) (pth1_rd hg h)
/-- NAME[key][a] = e -/
theorem setP {o : Expr} (c : Cd X N sc fs k mg) (h : PthOk X mg W o i fk) (he : PE X e (tD mg W f)) (hi : PE X a (tD mg W g)) (hs : isSlice a = false) (hn : notComp e = true) : PS X (.Assign [.Subscript o a p2] e pos) (sD P mg W (exprS (opE [.v f] (pthG anyT i fk [.v g] setG)))) :=
  (ps_asg he (pg_sub (pos := p2) h.pe hi (PSet.or set_list (set_dict c.u1)) (fun _ => by cases a <;> first | rfl | (simp [isSlice] at hs))) (swaps_noS hn) rfl).imp fun D σ H h =>
    tD_mono (fun v H1 q => tPth_mono (fun x H3 q => by have z := tOs_one (o := .v g) q.2; exact z) q) (tOs_one (o := .v f) (pth2_rd (K := X.K) setG_ok (sD_expr h)))

/-! methods of names and values -/
theorem mth (ho : OpdOk X mg W a oa) (pa : PlainAttrs T) (slot : Slot T name id) (hty : typeOf (.builtin id) = pure (.type "method_descriptor")) (hm : MtR X id r) (hT : goodT T = true) (hg : OpS mg W (rMth r) gf) (ha : Paired (OpdOk X mg W) (e :: es) os) (hb : plainBase a = true)
    (hst : (e :: es).all notStar = true) (hlen : fewArgs (e :: es) = true) (hline : (apos.endLine == cpos.line) = true) : PE X (.Call (.Attribute a name apos) (e :: es) [] cpos) (tD mg W (mthE T oa os gf)) := pe_mthS pa slot hty hm hT hg ho ha hst hlen (base_of hb) hline
theorem mth0 (ho : OpdOk X mg W a oa) (pa : PlainAttrs T) (slot : Slot T name id) (hty : typeOf (.builtin id) = pure (.type "method_descriptor")) (hm : MtR X id r) (hT : goodT T = true) (hg : OpS mg W (rMth r) gf) (hb : plainBase a = true)
    (hline : (apos.endLine == cpos.line) = true) : PE X (.Call (.Attribute a name apos) [] [] cpos) (tD mg W (mthE T oa [] gf)) := pe_mthS0 pa slot hty hm hT hg ho (base_of hb) hline
theorem mApp (ho : OpdOk X mg W a oa) (ha : OpdOk X mg W e oc) (hb : plainBase a = true) (hs : notStar e = true) (hline : (apos.endLine == cpos.line) = true) : PE X (.Call (.Attribute a "append" apos) [e] [] cpos) (tD mg W (mthE "list" oa [oc] appG)) :=
  mth ho F.plainAttrs_list F.slot_list_append F.type_list_append mt_append (by decide) appG_ok (.cons ha .nil) hb (by simp [hs]) rfl hline
theorem mPopAt (ho : OpdOk X mg W a oa) (ha : OpdOk X mg W e oc) (hb : plainBase a = true) (hs : notStar e = true) (hline : (apos.endLine == cpos.line) = true) : PE X (.Call (.Attribute a "pop" apos) [e] [] cpos) (tD mg W (mthE "list" oa [oc] popAtG)) :=
  mth ho F.plainAttrs_list F.slot_list_pop F.type_list_pop mt_popAt (by decide) popAtG_ok (.cons ha .nil) hb (by simp [hs]) rfl hline
theorem mPop (ho : OpdOk X mg W a oa) (hb : plainBase a = true) (hline : (apos.endLine == cpos.line) = true) : PE X (.Call (.Attribute a "pop" apos) [] [] cpos) (tD mg W (mthE "list" oa [] popG)) :=
  mth0 ho F.plainAttrs_list F.slot_list_pop F.type_list_pop mt_pop (by decide) popG_ok hb hline
theorem mPopAtP (h : PthOk X mg W a i fk) (ha : OpdOk X mg W e oc) (hs : notStar e = true) (hline : (apos.endLine == cpos.line) = true) : PE X (.Call (.Attribute a "pop" apos) [e] [] cpos) (tD mg W (pthG (isT "list") i fk [oc] popAtG [])) :=
  mthP h F.plainAttrs_list F.slot_list_pop F.type_list_pop mt_popAt (by decide) popAtG_ok (.cons ha .nil) (by simp [hs]) rfl hline
theorem mPopP (h : PthOk X mg W a i fk) (hline : (apos.endLine == cpos.line) = true) : PE X (.Call (.Attribute a "pop" apos) [] [] cpos) (tD mg W (pthG (isT "list") i fk [] popG [])) :=
  mthP0 h F.plainAttrs_list F.slot_list_pop F.type_list_pop mt_pop (by decide) popG_ok hline
theorem mAppP (h : PthOk X mg W a i fk) (ha : OpdOk X mg W e oc) (hs : notStar e = true) (hline : (apos.endLine == cpos.line) = true) : PE X (.Call (.Attribute a "append" apos) [e] [] cpos) (tD mg W (pthG (isT "list") i fk [oc] appG [])) :=
  mthP h F.plainAttrs_list F.slot_list_append F.type_list_append mt_append (by decide) appG_ok (.cons ha .nil) (by simp [hs]) rfl hline
theorem eNeP (c : Cd X N sc fs k mg) (h : PthOk X mg W a i fk) (hb : OpdOk X mg W b oc) (hm : behindInMarks .NotEq b = false) : PE X (.Compare a [.NotEq] [b] pos) (tD mg W (pthG anyT i fk [oc] (sop (eqS true)) [])) := cmpP h (op_neD c.u64) neS_ok hb hm
theorem tNeP (c : Cd X N sc fs k mg) (h : PthOk X mg W a i fk) (hb : OpdOk X mg W b oc) (hm : behindInMarks .NotEq b = false) : PT X (.Compare a [.NotEq] [b] pos) (tB mg W (boolM (pthG anyT i fk [oc] (sop (eqS true)) []))) := cmpPt h (op_neD c.u64) neS_ok hb hm
theorem tEqP (c : Cd X N sc fs k mg) (h : PthOk X mg W a i fk) (hb : OpdOk X mg W b oc) (hm : behindInMarks .Eq b = false) : PT X (.Compare a [.Eq] [b] pos) (tB mg W (boolM (pthG anyT i fk [oc] (sop (eqS false)) []))) := cmpPt h (op_eqD c.u64) eqS_ok hb hm
end
end DN

set_option Elab.async false
set_option linter.all false
set_option maxRecDepth 100000
set_option maxHeartbeats 4000000
/-! DN, part V: lists of signs, joined texts, ranges asked, dict displays, calls by names. -/
namespace DN
open PySem PySem.Spec PyProof.Rows L2
variable [KSeq]
section
variable {X : Cx} {N : List Str} {sc fs : Scope} {k : Nat} {mg : Str → Option Value} {W : WX} {P : List Nat} {x name : Str} {pos p p2 p3 apos cpos : Pos} {i : Nat} {a b e ke : Expr} {oa oc od : Opd} {es : List Expr} {os : List Opd} {f fk g : M KD}

/-! ### list(text) -/
def rListStr : List V → Hp → VK → Prop := fun xs H Q => ∃ z : Str, xs = [.str z] ∧ z.cps.size ≤ sizeLine ∧ ∀ l, H l = none → Q (.ref l) (upd H l (.lst (z.cps.toList.map fun c => V.str ⟨#[c]⟩)))
theorem cr_listStr (hc : X.calm = true) : CallR X (.type "list") rListStr := by
  intro pins s σ H xs us Q I r h
  obtain ⟨z, rfl, hz, q⟩ := h
  obtain ⟨u, rfl, t, rfl⟩ := vals1 r
  refine PySem.call_list_str (I.ok.hd hc) z t (fun h' tk acc c keep hS his => ?_) hz
  have new : ObjOk X.prog X.w (upd H s.heap.objs.size (.lst (z.cps.toList.map fun c => V.str ⟨#[c]⟩))) h' s.heap.objs.size (.lst (z.cps.toList.map fun c => V.str ⟨#[c]⟩)) := by
    refine ⟨by simpa using hz, acc.toList, c, ?_, by simpa using hS⟩
    obtain ⟨hsz, hat⟩ := his
    have gen : ∀ (vs : List V) (us : List Value), vs.length = us.length → (∀ (j : Nat) u, us[j]? = some u → ∃ v, vs[j]? = some v ∧ RelV v u) → Vals vs us := by
      intro vs
      induction vs with
      | nil => intro us hl _; cases us with
        | nil => exact .nil
        | cons _ _ => simp at hl
      | cons v vs ih =>
        intro us hl w
        cases us with
        | nil => simp at hl
        | cons u us =>
          refine .cons ?_ (ih us (by simpa using hl) fun j u' e => by simpa using w (j + 1) u' (by simpa using e))
          obtain ⟨v', e, r⟩ := w 0 u rfl
          simp at e; subst e; exact r
    refine gen _ _ (by simp [hsz]) fun j u e => ?_
    obtain ⟨c, t, ec, rfl⟩ := hat j u (by simpa using e)
    refine ⟨.str ⟨#[c]⟩, ?_, t, rfl⟩
    rw [List.getElem?_map, Array.getElem?_toList, ec]
    rfl
  exact ⟨.ref s.heap.objs.size, _, I.laid (t' := tk) keep (Nat.le_refl _) new, rfl, q _ (I.hok.fresh (Nat.le_refl _))⟩
def rListAny (K : PySem.W.Frag) : List V → Hp → VK → Prop := fun xs H Q => (∃ p ys, xs = [.ref p] ∧ (SqL K H p ys ∨ SqT K H p ys) ∧ ∀ l, H l = none → Q (.ref l) (upd H l (.lst ys))) ∨ rListStr xs H Q
theorem listK2_ok (hK : X.K = KSeq.K) : OpS mg W (rListAny X.K) (nop listK2) := by
  intro F H A B σ ρ vs xs Q s o nd fr e
  unfold nop at e
  split at e
  · rename_i kds ek
    have rest : ∀ l, listK l = listK2 l ∨ ∃ k z, l = [(k, .str z)] := fun l => by
      unfold listK2
      split
      · rename_i k z
        exact .inr ⟨_, _, rfl⟩
      · exact .inl rfl
    rcases rest kds with h | ⟨kk, z, rfl⟩
    · refine .inl (listK_ok (X := X) (mg := mg) (W := W) hK F H A B σ ρ vs xs Q s o nd fr ?_)
      unfold nop
      rw [ek]
      simp only [h]
      exact e
    · have vw := vw_of s o ek
      obtain ⟨v, A1, rfl, ov⟩ := vw.one
      obtain rfl := Own.str_eq ov
      simp only [listK2, signsK] at e
      split at e
      · rename_i kd ed
        split at ed
        · rename_i hz
          cases ed
          refine .inr ⟨z, rfl, by rw [← lineN_eq]; exact hz, fun l hl => ?_⟩
          have him : ∀ (cs : List Nat), D.immAll (cs.map fun c => D.str ⟨#[c]⟩) = true := fun cs => by
            induction cs with
            | nil => rfl
            | cons c cs ih => simp only [List.map_cons, D.immAll, D.imm, ih, Bool.and_self]
          have ow : ∀ (cs : List Nat), Owns F H 0 (cs.map fun c => V.str ⟨#[c]⟩) (cs.map fun c => D.str ⟨#[c]⟩) [] := fun cs => by
            induction cs with
            | nil => exact .nil
            | cons c cs ih => exact .cons (A := []) (.str _) ih
          refine newL (mg := mg) (W := W) (B := B) s hl (ow z.cps.toList) ?_
          have : kL (z.cps.toList.map fun c => D.str ⟨#[c]⟩) = 9 := by
            unfold kL
            rw [if_pos (him _)]
          rw [this]
          exact e
        · cases ed
      · exact e.elim
  · exact e.elim
theorem eList (c : Cd X N sc fs k mg) (h : gnB sc "list" = true) (hm : mg "list" = none) (ha : OpdOk X mg W a oa) (hs : notStar a = true) : PE X (.Call (.Name "list" p) [a] [] pos) (tD mg W (opE [oa] (frzOps (nop listK2)))) :=
  eTyp c h hm (by decide +kernel) (CallR.or call_list_of (cr_listStr c.calm)) (fz_ok (listK2_ok c.hK)) (.cons ha .nil) (by simp [hs])

/-! ### sep.join(list) -/
theorem strs_own {F H : Hp} : ∀ {ds : List D} {ys : List Str} {k : Nat} {vs : List V} {A : List Addr}, Owns F H k vs ds A → joinS.strsOf ds = some ys → vs = ys.map V.str
  | [], _, _, _, _, h, e => by
    cases h
    simp only [joinS.strsOf, Option.some.injEq] at e
    subst e; rfl
  | d :: ds, _, _, _, _, h, e => by
    cases h with
    | cons h1 h2 =>
      cases d with
      | str z =>
        simp only [joinS.strsOf] at e
        split at e
        · rename_i l el
          cases e
          rw [h1.str_eq, strs_own h2 el]; rfl
        · cases e
      | _ => simp [joinS.strsOf] at e
def rJoin (K : PySem.W.Frag) : V → List V → Hp → VK → Prop := fun x xs H Q => ∃ a p, ∃ ys : List Str, x = .str a ∧ xs = [.ref p] ∧ (SqL K H p (ys.map V.str) ∨ SqT K H p (ys.map V.str)) ∧ (ys.map (·.length)).sum + ys.length * a.length ≤ 16777216 ∧ Q (.str (Txt.join a ys)) H
theorem joinS_ok {K : PySem.W.Frag} : OpS mg W (rMth (rJoin K)) (sop joinS) := sop_ok fun vs ds d H rd e => by
  unfold joinS at e
  split at e
  · split at e
    · rename_i ys ey
      split at e
      · rename_i hz
        cases e
        obtain ⟨v, u, rfl, o1, o2⟩ := rd.two
        obtain rfl := o1.str_eq
        cases o2 with
        | lfz h1 h2 => exact ⟨_, rfl, fun Q q => ⟨_, _, ys, rfl, rfl, .inl (by rw [← strs_own h2 ey]; exact .of h1), hz, q⟩⟩
      · cases e
    · cases e
  · split at e
    · rename_i ys ey
      split at e
      · rename_i hz
        cases e
        obtain ⟨v, u, rfl, o1, o2⟩ := rd.two
        obtain rfl := o1.str_eq
        cases o2 with
        | tup h1 h2 => exact ⟨_, rfl, fun Q q => ⟨_, _, ys, rfl, rfl, .inr (by rw [← strs_own h2 ey]; exact .of h1), hz, q⟩⟩
      · cases e
    · cases e
  · cases e
theorem mJoin (ho : OpdOk X mg W a oa) (ha : OpdOk X mg W e oc) (hb : plainBase a = true) (hs : notStar e = true) (hline : (apos.endLine == cpos.line) = true) : PE X (.Call (.Attribute a "join" apos) [e] [] cpos) (tD mg W (mthE "str" oa [oc] (sop joinS))) :=
  mth ho F.plainAttrs_str F.slot_str_join F.type_str_join mt_join (by decide) joinS_ok (.cons ha .nil) hb (by simp [hs]) rfl hline

/-! ### x in range(..) -/
theorem cr_range1 : CallR X (.type "range") (fun vs H Q => ∃ j, vs = [V.int j] ∧ ∀ p, H p = none → Q (.ref p) (upd H p (.rng 0 j))) := by
  intro pins s σ H vs us Q I r h
  obtain ⟨j, rfl, q⟩ := h
  obtain ⟨u1, rfl, t, rfl⟩ := vals1 r
  refine call_range_1 ⟨.ref s.heap.objs.size, upd H s.heap.objs.size (.rng 0 j), I.laid (t' := s.toks + 1 + 1) (fun b o e => Heap.get?_push_of_some _ e) (Nat.le_refl _) ?_, rfl, q _ (I.hok.fresh (Nat.le_refl _))⟩
  exact ⟨s.toks, t, s.toks + 1, Heap.get?_push_size _ rfl⟩
def rInRng (neg : Bool) : R2 := fun x y H Q => ∃ i a lo hi, x = V.int i ∧ y = V.ref a ∧ H a = some (.rng lo hi) ∧ Q (.bl (neg ^^ decide (lo ≤ i ∧ i < hi))) H
theorem op_inRng (neg : Bool) : OpR X (compareOp (if neg = true then .NotIn else .In)) (rInRng neg) := by
  intro pins s σ H x y v u Q I rx ry h
  obtain ⟨i, a, lo, hi, rfl, rfl, ha, q⟩ := h
  obtain ⟨k, rfl⟩ := rx
  obtain rfl : u = Value.ref a := ry
  obtain ⟨t1, t2, t3, ho⟩ := I.hok a _ ha
  have core : ∀ (R : Bool → Sem Value) (Qf : Value → Shared → Prop), (∀ c, R c = pure (.bool (neg ^^ c))) → (∀ c, c = decide (lo ≤ i ∧ i < hi) → Qf (.bool (neg ^^ c)) s) → wpAny (model X.prog X.w) X.A (contains (Value.ref a) (Value.int i k) >>= R) Qf X.xe s := by
    intro R Qf hR hq
    refine wpAny_bind (wpAny_contains_slot (T := "range") ⟨_, ho, rfl⟩ F.slot_range_contains (call_meets F.slot_range_contains ⟨_, ho, rfl⟩ F.entry_range_contains (F.args_range_contains_2 _ _) (q_contains a lo hi i t1 t2 t3 k)
      ⟨ho, wpAny_truthy_bool ?_⟩))
    rw [hR]
    exact wpAny_pure (hq _ (place1 _ _ _))
  cases neg with
  | false =>
    show wpAny _ _ (do return Value.bool (← contains (Value.ref a) (Value.int i k))) _ _ s
    exact core _ _ (fun c => by simp) fun c hc => ⟨.bl _, H, I, rfl, by rw [← hc] at q; exact q⟩
  | true =>
    show wpAny _ _ (do return Value.bool (!(← contains (Value.ref a) (Value.int i k)))) _ _ s
    exact core _ _ (fun c => by simp) fun c hc => ⟨.bl _, H, I, rfl, by rw [← hc] at q; exact q⟩
/-- the range is laid, asked, and forgotten -/
def r1Rng (neg : Bool) : List V → Hp → VK → Prop := fun vs H Q => match vs with
  | [x, hi] => (∃ j, hi = V.int j ∧ ∀ p, H p = none → rInRng neg x (.ref p) (upd H p (.rng 0 j)) Q)
  | _ => False
def r2Rng (neg : Bool) : List V → Hp → VK → Prop := fun vs H Q => match vs with
  | [x, lo, hi] => (∃ l j, lo = V.int l ∧ hi = V.int j ∧ ∀ p, H p = none → rInRng neg x (.ref p) (upd H p (.rng l j)) Q)
  | _ => False
def rng1S (neg : Bool) : List D → Option D
  | [.int i, .int hi] => some (.bl (neg ^^ decide (0 ≤ i ∧ i < hi)))
  | _ => none
def rng2S (neg : Bool) : List D → Option D
  | [.int i, .int lo, .int hi] => some (.bl (neg ^^ decide (lo ≤ i ∧ i < hi)))
  | _ => none
theorem new_any {F H : Hp} {A B : List Addr} {ρ : En} {σ : L2.St} {d : D} {v : V} {Q : VK} {q : Addr} {ob : HO} (s : StR F H ρ σ A) (hq : H q = none) (hp : pv0 d = some v) (h : End mg W F H (A ++ B) σ (M.ret (9, d) ρ) rKD Q) : Q v (upd H q ob) := by
  have sm : Same H (upd H q ob) := fun b o e => by rw [upd_ne (ne_of_none e hq)]; exact e
  have nq : q ∉ A := fun z => by
    obtain ⟨o, e, _⟩ := EnvR.there s.env q z
    rw [hq] at e; cases e
  refine h v F (upd H q ob) A [] ⟨fun b o e => sm b o (s.sub b o e), EnvR.carry (Same.refl _) s.env fun b hb => upd_ne (fun z => nq (by rw [← z]; exact hb)), s.nd, s.fr⟩ (own_pv hp 9) (by simpa using s.nd) (fun _ z => nomatch z) ?_
  exact ⟨Same.refl _, fun b o e _ _ => sm b o e, fun b ps e _ => ⟨ps, sm b _ e⟩, fun b hb => .inl (List.mem_append_left _ (by simpa using hb)), fun b o e n => by rw [n] at e; cases e⟩
theorem rng1_ok (neg : Bool) : OpS mg W (r1Rng neg) (sop (rng1S neg)) := by
  intro F H A B σ ρ vs xs Q s o nd fr e
  unfold sop at e
  split at e
  · rename_i ds e1
    have rd := rds_of s o e1
    split at e
    · rename_i d e2
      unfold rng1S at e2
      split at e2
      · cases e2
        obtain ⟨v, u, rfl, o1, o2⟩ := rd.two
        obtain rfl := o1.int_eq
        obtain rfl := o2.int_eq
        exact ⟨_, rfl, fun p hp => ⟨_, p, _, _, rfl, rfl, upd_same, new_any s hp rfl e⟩⟩
      · cases e2
    · exact e.elim
  · exact e.elim
theorem rng2_ok (neg : Bool) : OpS mg W (r2Rng neg) (sop (rng2S neg)) := by
  intro F H A B σ ρ vs xs Q s o nd fr e
  unfold sop at e
  split at e
  · rename_i ds e1
    have rd := rds_of s o e1
    split at e
    · rename_i d e2
      unfold rng2S at e2
      split at e2
      · cases e2
        cases rd with
        | cons o1 r =>
          obtain ⟨v, u, rfl, o2, o3⟩ := r.two
          obtain rfl := o1.int_eq
          obtain rfl := o2.int_eq
          obtain rfl := o3.int_eq
          exact ⟨_, _, rfl, rfl, fun p hp => ⟨_, p, _, _, rfl, rfl, upd_same, new_any s hp rfl e⟩⟩
      · cases e2
    · exact e.elim
  · exact e.elim
theorem pe_rng1 (c : Cd X N sc fs k mg) (h : gnB sc "range" = true) (hm : mg "range" = none) (hb : OpdOk X mg W b oc) (hs : notStar b = true) : PE X (.Call (.Name "range" p) [b] [] p2) (tCB (fun vs H Q => ∃ j, vs = [V.int j] ∧ ∀ p, H p = none → Q (.ref p) (upd H p (.rng 0 j))) (tOs mg W [oc])) := by
  obtain ⟨g1, g2, g3⟩ := gl_of c h
  exact pe_callTy cr_range1 g1 (by rw [c.hm]; exact hm) (by decide +kernel) (pa_of (.cons hb .nil)) g3 g2 (starEach_of hs)
theorem pe_rng2 (c : Cd X N sc fs k mg) (h : gnB sc "range" = true) (hm : mg "range" = none) (hb : OpdOk X mg W b oc) (hd : OpdOk X mg W e od) (hs : notStar b = true) (hs2 : notStar e = true) :
    PE X (.Call (.Name "range" p) [b, e] [] p2) (tCB (fun vs H Q => ∃ i j, vs = [V.int i, V.int j] ∧ ∀ p, H p = none → Q (.ref p) (upd H p (.rng i j))) (tOs mg W [oc, od])) := by
  obtain ⟨g1, g2, g3⟩ := gl_of c h
  exact pe_callTy cr_range2 g1 (by rw [c.hm]; exact hm) (by decide +kernel) (pa_of (.cons hb (.cons hd .nil))) g3 g2 (starEach_of hs) (by rw [starEach_of hs2]; rfl)
theorem tOs_mono {os : List Opd} {σ : L2.St} {H : Hp} {Q Q' : List V → Hp → Prop} (j : ∀ v H, Q v H → Q' v H) (h : tOs mg W os σ H Q) : tOs mg W os σ H Q' := by
  obtain ⟨F, ρ, A, s, e⟩ := h
  refine ⟨F, ρ, A, s, ?_⟩
  revert e
  cases evs os ρ with
  | none => exact id
  | some o =>
    cases o with
    | ok a ρ' => exact fun e b F' H' A' B s r nd fr t => j _ _ (e b F' H' A' B s r nd fr t)
    | ex x ρ' => exact id
theorem rng1_rd {neg : Bool} {σ : L2.St} {H : Hp} {Q : VK} (h : tD mg W (opE [oa, oc] (sop (rng1S neg))) σ H Q) : tOp (rInRng neg) (tOpd mg W oa) (tCB (fun vs H Q => ∃ j, vs = [V.int j] ∧ ∀ p, H p = none → Q (.ref p) (upd H p (.rng 0 j))) (tOs mg W [oc])) σ H Q :=
  tOpd_mono (fun x H1 q => tOs_mono (fun vs H2 q => by
    match vs, q with
    | [], q => exact q.elim
    | [hi], q => obtain ⟨j, rfl, w⟩ := q; exact ⟨j, rfl, w⟩
    | _ :: _ :: _, q => exact q.elim) q) (tOs_cons (opE_of (rng1_ok neg) h))
theorem rng2_rd {neg : Bool} {σ : L2.St} {H : Hp} {Q : VK} (h : tD mg W (opE [oa, oc, od] (sop (rng2S neg))) σ H Q) : tOp (rInRng neg) (tOpd mg W oa) (tCB (fun vs H Q => ∃ i j, vs = [V.int i, V.int j] ∧ ∀ p, H p = none → Q (.ref p) (upd H p (.rng i j))) (tOs mg W [oc, od])) σ H Q :=
  tOpd_mono (fun x H1 q => tOs_mono (fun vs H2 q => by
    match vs, q with
    | [], q => exact q.elim
    | [_], q => exact q.elim
    | [lo, hi], q => obtain ⟨l, j, rfl, rfl, w⟩ := q; exact ⟨l, j, rfl, w⟩
    | _ :: _ :: _ :: _, q => exact q.elim) q) (tOs_cons (opE_of (rng2_ok neg) h))
theorem eInR1 (neg : Bool) (c : Cd X N sc fs k mg) (h : gnB sc "range" = true) (hm : mg "range" = none) (ha : OpdOk X mg W a oa) (hb : OpdOk X mg W b oc) (hs : notStar b = true) (hmk : behindInMarks (if neg = true then .NotIn else .In) (.Call (.Name "range" p) [b] [] p2) = false) :
    PE X (.Compare a [if neg = true then .NotIn else .In] [.Call (.Name "range" p) [b] [] p2] pos) (tD mg W (opE [oa, oc] (sop (rng1S neg)))) := (pe_cmpR (op_inRng neg) (opd_pe ha) (pe_rng1 c h hm hb hs) hmk).imp fun _ _ _ h => rng1_rd h
theorem tInR1 (neg : Bool) (c : Cd X N sc fs k mg) (h : gnB sc "range" = true) (hm : mg "range" = none) (ha : OpdOk X mg W a oa) (hb : OpdOk X mg W b oc) (hs : notStar b = true) (hmk : behindInMarks (if neg = true then .NotIn else .In) (.Call (.Name "range" p) [b] [] p2) = false) :
    PT X (.Compare a [if neg = true then .NotIn else .In] [.Call (.Name "range" p) [b] [] p2] pos) (tB mg W (boolM (opE [oa, oc] (sop (rng1S neg))))) := (pt_cmpR (op_inRng neg) (opd_pe ha) (pe_rng1 c h hm hb hs) hmk).imp fun _ _ _ h => rng1_rd (tB_bool h)
theorem eInR2 (neg : Bool) (c : Cd X N sc fs k mg) (h : gnB sc "range" = true) (hm : mg "range" = none) (ha : OpdOk X mg W a oa) (hb : OpdOk X mg W b oc) (hd : OpdOk X mg W e od) (hs : notStar b = true) (hs2 : notStar e = true) (hmk : behindInMarks (if neg = true then .NotIn else .In) (.Call (.Name "range" p) [b, e] [] p2) = false) :
    PE X (.Compare a [if neg = true then .NotIn else .In] [.Call (.Name "range" p) [b, e] [] p2] pos) (tD mg W (opE [oa, oc, od] (sop (rng2S neg)))) := (pe_cmpR (op_inRng neg) (opd_pe ha) (pe_rng2 c h hm hb hd hs hs2) hmk).imp fun _ _ _ h => rng2_rd h
theorem tInR2 (neg : Bool) (c : Cd X N sc fs k mg) (h : gnB sc "range" = true) (hm : mg "range" = none) (ha : OpdOk X mg W a oa) (hb : OpdOk X mg W b oc) (hd : OpdOk X mg W e od) (hs : notStar b = true) (hs2 : notStar e = true) (hmk : behindInMarks (if neg = true then .NotIn else .In) (.Call (.Name "range" p) [b, e] [] p2) = false) :
    PT X (.Compare a [if neg = true then .NotIn else .In] [.Call (.Name "range" p) [b, e] [] p2] pos) (tB mg W (boolM (opE [oa, oc, od] (sop (rng2S neg))))) := (pt_cmpR (op_inRng neg) (opd_pe ha) (pe_rng2 c h hm hb hd hs hs2) hmk).imp fun _ _ _ h => rng2_rd (tB_bool h)
end
end DN

set_option Elab.async false
set_option linter.all false
set_option maxRecDepth 100000
set_option maxHeartbeats 4000000
/-! DN, part W: dict displays; calls with names; a loop over what lies one step down. -/
namespace DN
open PySem PySem.Spec PyProof.Rows L2
variable [KSeq]

/-! ### {k: v, ..} -/
/-- keys and values by turns -/
def pairsU : List Opv → Option (List Key × List Opv)
  | [] => some ([], [])
  | .v _ kd :: .v k d :: r => match kd.key1, pairsU r with
    | some q, some (qs, vs) => some (q :: qs, .v k d :: vs)
    | _, _ => none
  | _ => none
def dispD (xs : List Opv) : M KD := fun ρ => match pairsU xs with
  | some (qs, vs) => match uni vs with
    | some (q, ds) => if (decide (qs.Nodup) && decide (qs.length ≤ 15)) = true then some (.ok (uniK q + 1, .dct ((qs.zip ds).map fun p => (DK.k p.1, p.2))) ρ) else none
    | none => none
  | none => none
/-- keys and values, and their operands by turns -/
inductive Paired3 (R : Expr → Opd → Prop) : List (Option Expr) → List Expr → List Opd → Prop
  | nil : Paired3 R [] [] []
  | cons {k v : Expr} {a b : Opd} {ks : List (Option Expr)} {vs : List Expr} {os : List Opd} : R k a → R v b → Paired3 R ks vs os → Paired3 R (some k :: ks) (v :: vs) (a :: b :: os)
section
variable {X : Cx} {mg : Str → Option Value} {W : WX} {F H : Hp} {A B : List Addr} {ρ : En} {σ : L2.St}
theorem pairs_own : ∀ {xs : List Opv} {vs : List V} {B : List Addr} {qs : List Key} {ys : List Opv}, OpsR F H σ vs xs B → pairsU xs = some (qs, ys) → ∃ us, vs = (qs.zip us).flatMap (fun p => [kV p.1, p.2]) ∧ us.length = qs.length ∧ OpsR F H σ us ys B
  | [], _, _, _, _, .nil, e => by
    simp only [pairsU, Option.some.injEq, Prod.mk.injEq] at e
    obtain ⟨rfl, rfl⟩ := e
    exact ⟨[], rfl, rfl, .nil⟩
  | [.v _ _], _, _, _, _, h, e => by simp [pairsU] at e
  | .b _ :: _, _, _, _, _, h, e => by simp [pairsU] at e
  | .v _ _ :: .b _ :: _, _, _, _, _, h, e => by simp [pairsU] at e
  | .v k1 d1 :: .v k2 d2 :: r, _, _, _, _, .val o1 (.val o2 rr), e => by
    unfold pairsU at e
    split at e
    · rename_i q qs vs e1 e2
      simp only [Option.some.injEq, Prod.mk.injEq] at e
      obtain ⟨rfl, rfl⟩ := e
      obtain ⟨us, rfl, hl, w⟩ := pairs_own rr e2
      have hv := key1_v o1 e1
      have hi : d1.imm = true := by cases d1 <;> simp [D.key1] at e1 <;> rfl
      obtain ⟨rfl, _⟩ := Own.imm _ _ _ _ o1 hi
      refine ⟨_ :: us, by rw [hv]; rfl, by simp [hl], ?_⟩
      have z := OpsR.val o2 w
      rw [List.nil_append]
      exact z
    · cases e
theorem ownK_zip : ∀ {qs : List Key} {ds : List D} {us : List V} {k : Nat} {B : List Addr}, Owns F H k us ds B → qs.length = us.length → OwnK F H k ((qs.zip us).map fun p => (DK.k p.1, p.2)) ((qs.zip ds).map fun p => (DK.k p.1, p.2)) B
  | [], _, us, _, _, h, hl => by
    cases us with
    | nil => cases h; exact .nil
    | cons _ _ => simp at hl
  | q :: qs, _, us, _, _, h, hl => by
    cases us with
    | nil => simp at hl
    | cons u us =>
      cases h with
      | cons h1 h2 => exact .cons h1 (ownK_zip h2 (by simpa using hl))
theorem putK_new {κ : Type} [DecidableEq κ] {kv : List (κ × V)} {q : κ} {v : V} (h : q ∉ kv.map (·.1)) : putK kv q v = kv ++ [(q, v)] := by
  unfold putK
  rw [if_neg]
  intro hx
  obtain ⟨p, hp, e⟩ := List.any_eq_true.mp hx
  exact h (List.mem_map.mpr ⟨p, hp, by simpa using e⟩)
theorem mergeK_new : ∀ {more kvs : List (Key × V)}, ((kvs ++ more).map (·.1)).Nodup → mergeK kvs more = kvs ++ more
  | [], kvs, _ => by simp [mergeK]
  | p :: more, kvs, h => by
    have hp : p.1 ∉ kvs.map (·.1) := fun z => by
      rw [List.map_append, List.map_cons, List.nodup_append] at h
      exact h.2.2 p.1 z p.1 List.mem_cons_self rfl
    show mergeK (putK kvs p.1 p.2) more = _
    rw [putK_new hp, mergeK_new (by simpa using h)]
    simp
/-- the pairs of operands as they are read -/
def prs (mg : Str → Option Value) (W : WX) : List Opd → List (TE × TE)
  | a :: b :: r => (tOpd mg W a, tOpd mg W b) :: prs mg W r
  | _ => []
def flat2 (ps : List (V × V)) : List V := ps.flatMap fun p => [p.1, p.2]
theorem prs_rd : ∀ {os : List Opd} {σ : L2.St} {H : Hp} {Q : List V → Hp → Prop}, os.length % 2 = 0 → tOs mg W os σ H Q → tPairs (prs mg W os) σ H fun ps H2 => Q (flat2 ps) H2
  | [], σ, H, Q, _, h => (tOs_nil h : tNil σ H Q)
  | [_], σ, H, Q, hl, h => by simp at hl
  | a :: b :: r, σ, H, Q, hl, h => tOpd_mono (fun v H1 q => tOpd_mono (fun u H2 q => prs_rd (by simp at hl; omega) q) (tOs_cons q)) (tOs_cons h)
theorem flat2_inj : ∀ {ps : List (V × V)} {qs : List Key} {us : List V}, qs.length = us.length → flat2 ps = (qs.zip us).flatMap (fun p => [kV p.1, p.2]) → ps = (qs.zip us).map fun p => (kV p.1, p.2)
  | [], [], us, _, _ => by simp
  | [], q :: qs, [], hl, _ => by simp at hl
  | [], q :: qs, u :: us, _, h => by simp [flat2] at h
  | p :: ps, [], us, _, h => by simp [flat2] at h
  | p :: ps, q :: qs, [], hl, _ => by simp at hl
  | (x, y) :: ps, q :: qs, u :: us, hl, h => by
    simp only [flat2, List.flatMap_cons, List.zip_cons_cons, List.cons_append, List.nil_append, List.cons.injEq] at h
    obtain ⟨rfl, rfl, h⟩ := h
    rw [List.zip_cons_cons, List.map_cons, ← flat2_inj (by simpa using hl) h]
theorem disp_rd {os : List Opd} {σ : L2.St} {H : Hp} {Q : VK} (hl : os.length % 2 = 0) (h : tD mg W (opE os dispD) σ H Q) : tDisp (prs mg W os) σ H Q := by
  obtain ⟨F, ρ, A, s, e⟩ := h
  intro p hp
  have fp : F p = none := s.sub.free hp
  have np : p ∉ A := fun z => by
    obtain ⟨o, e, _⟩ := EnvR.there s.env p z
    rw [hp] at e; cases e
  have sm : Same H (upd H p (.dK [])) := fun b o e => by rw [upd_ne (ne_of_none e hp)]; exact e
  have s1 : StR F (upd H p (.dK [])) ρ σ A := ⟨fun b o e => sm b o (s.sub b o e), EnvR.carry (Same.refl _) s.env fun b hb => upd_ne fun z => np (by rw [← z]; exact hb), s.nd, s.fr⟩
  have nd1 : (A ++ [p]).Nodup := List.nodup_append.mpr ⟨s.nd, by simp, fun a ha b hb z => np (by simp at hb; rw [← hb, ← z]; exact ha)⟩
  have t1 : Tr F H A F (upd H p (.dK [])) (A ++ [p]) := ⟨Same.refl _, fun b o e _ _ => sm b o e, fun b ps e _ => ⟨ps, sm b _ e⟩, fun b hb => (List.mem_append.mp hb).imp id fun z => by simp at z; rw [z]; exact hp, fun b o e n => by rw [n] at e; cases e⟩
  have hB : ∀ b ∈ [p], ∃ o, upd H p (.dK []) b = some o ∧ Chg o := fun b hb => by
    simp at hb; subst hb
    exact ⟨_, upd_same, .inr ⟨[], .inl ⟨[], rfl, rfl⟩⟩⟩
  have key : tOs mg W os σ (upd H p (.dK [])) fun vs H2 => H2 p = some (.dK []) ∧ ∃ (qs : List Key) (us : List V), vs = (qs.zip us).flatMap (fun p => [kV p.1, p.2]) ∧ qs.length = us.length ∧ qs.Nodup ∧ qs.length ≤ 15 ∧ Q (.ref p) (upd H2 p (.dK (qs.zip us))) := by
    refine ⟨F, ρ, A, s1, End.held t1 hB nd1 (fun b hb => by simp at hb; rw [hb]; exact fp) e fun xs ρ2 vs F2 H2 A2 B2 s2 os2 nd2 fr2 frp sf eH t2 e2 => ?_⟩
    have hp2 : H2 p = some (.dK []) := (eH p (by simp)).trans upd_same
    refine ⟨hp2, ?_⟩
    unfold dispD at e2
    split at e2
    · rename_i qs ys ep
      split at e2
      · rename_i q ds eu
        split at e2
        · rename_i hc
          simp only [Bool.and_eq_true, decide_eq_true_eq] at hc
          obtain ⟨us, rfl, hlu, ou⟩ := pairs_own os2 ep
          refine ⟨qs, us, rfl, hlu.symm, hc.1, hc.2, ?_⟩
          have ow := uni_own ou eu (uniK q) uniK_ok
          have pp : (A2 ++ (p :: B2)).Perm (A2 ++ B2 ++ [p]) := by
            rw [List.append_assoc]
            exact List.Perm.append_left _ (List.perm_append_comm (l₁ := [p]) (l₂ := B2))
          have nd3 := pp.nodup_iff.mpr nd2
          have nps : ∀ b ∈ A2 ++ B2, b ≠ p := fun b hb z => by
            have := (List.nodup_append.mp nd2).2.2 b hb p (by simp)
            exact this z
          have kn : ((qs.zip us).map (·.1)) = qs := List.map_fst_zip (by omega)
          refine e2 (.ref p) F2 _ A2 (p :: B2) ⟨fun b o eb => ?_, EnvR.carry (Same.refl _) s2.env fun b hb => upd_ne (nps b (List.mem_append_left _ hb)), s2.nd, s2.fr⟩ ?_ nd3 ?_ ?_
          · rw [upd_ne (fun z => by rw [z, frp p (by simp)] at eb; cases eb)]; exact s2.sub b o eb
          · refine .dow (kvv := (qs.zip us).map fun p => (DK.k p.1, p.2)) upd_same ⟨?_, .inl ⟨_, rfl, rfl⟩⟩ (OwnK.carry (Same.refl _) _ _ _ _ (ownK_zip ow hlu.symm) fun b hb => upd_ne (nps b (List.mem_append_right _ hb)))
            rw [List.map_map]
            have : ((qs.zip us).map ((fun x : DK × V => x.1) ∘ fun p => (DK.k p.1, p.2))) = qs.map DK.k := by
              conv => rhs; rw [← kn]
              rw [List.map_map]; rfl
            rw [this]
            exact List.Pairwise.map DK.k (fun a b h z => h (by cases z; rfl)) hc.1
          · intro b hb
            rcases List.mem_cons.mp hb with rfl | hb
            · exact frp b (by simp)
            · exact fr2 b hb
          · have t3 : Tr F2 H2 (A2 ++ B2 ++ [p]) F2 (upd H2 p (.dK (qs.zip us))) (A2 ++ (p :: B2)) := tr_upd (by simp) fun b hb => pp.subset hb
            exact t2.trans t3
        · exact e2.elim
      · exact e2.elim
    · exact e2.elim
  have kp := prs_rd hl key
  have mono : ∀ {trs : List (TE × TE)}, (∀ t ∈ trs, ∀ (σ : L2.St) (H : Hp) (C C' : VK), (∀ v H, C v H → C' v H) → (t.1 σ H C → t.1 σ H C') ∧ (t.2 σ H C → t.2 σ H C')) → ∀ {σ : L2.St} {H : Hp} {R R' : List (V × V) → Hp → Prop}, (∀ ps H, R ps H → R' ps H) → tPairs trs σ H R → tPairs trs σ H R' := by
    intro trs
    induction trs with
    | nil => intro _ σ H R R' j h; exact j _ _ h
    | cons t r ih =>
      intro w σ H R R' j h
      obtain ⟨ta, tb⟩ := t
      have w0 := w (ta, tb) List.mem_cons_self
      exact (w0 _ _ _ _ fun v H1 q => (w0 _ _ _ _ fun u H2 q => ih (fun t ht => w t (List.mem_cons_of_mem _ ht)) (fun ps H3 q => j _ _ q) q).2 q).1 h
  refine mono (fun t ht => ?_) (fun ps H2 q => ?_) kp
  · have : ∀ {os : List Opd}, t ∈ prs mg W os → ∃ a b, t = (tOpd mg W a, tOpd mg W b) := by
      intro os
      induction os using prs.induct with
      | case1 a b r ih =>
        intro h
        simp only [prs, List.mem_cons] at h
        rcases h with rfl | h
        · exact ⟨a, b, rfl⟩
        · exact ih h
      | case2 l hl => intro h; unfold prs at h; split at h <;> first | (cases h; done) | (exact absurd rfl (hl _ _ _)) | simp at h
    obtain ⟨a, b, rfl⟩ := this ht
    exact fun σ H C C' j => ⟨tOpd_mono j, tOpd_mono j⟩
  · obtain ⟨h1, qs, us, ev, hq, hn, h15, hQ⟩ := q
    refine ⟨h1, qs.zip us, flat2_inj hq ev, by rw [List.length_zip, hq, Nat.min_self, ← hq]; exact h15, ?_⟩
    rw [mergeK_new (by rw [List.nil_append, List.map_fst_zip (by omega)]; exact hn)]
    exact hQ
theorem pps_of : ∀ {keys : List (Option Expr)} {vals : List Expr} {os : List Opd} {pos : Pos}, Paired3 (OpdOk X mg W) keys vals os → PPs X pos keys vals (prs mg W os)
  | _, _, _, _, .nil => pps_nil
  | _, _, _, _, .cons ha hb r => pps_cons (opd_pe ha) (opd_pe hb) (pps_of r)
variable {N : List Str} {sc fs : Scope} {k : Nat} {P : List Nat} {x : Str} {pos p p2 : Pos} {i : Nat} {e : Expr} {es : List Expr} {os : List Opd} {keys : List (Option Expr)} {vals : List Expr}
theorem P3_len {R : Expr → Opd → Prop} : ∀ {keys : List (Option Expr)} {vals : List Expr} {os : List Opd}, Paired3 R keys vals os → keys.length = vals.length ∧ os.length % 2 = 0 ∧ keys.all (·.isSome) = true
  | _, _, _, .nil => ⟨rfl, rfl, rfl⟩
  | _, _, _, .cons _ _ r => by
    obtain ⟨h1, h2, h3⟩ := P3_len r
    exact ⟨by simp [h1], by simp; omega, by simpa using h3⟩
/-- {k: v, ..}, at most fifteen -/
theorem eDict (h : Paired3 (OpdOk X mg W) keys vals os) (h0 : keys.isEmpty = false) (h15 : decide (keys.length ≤ 15) = true) : PE X (.Dict keys vals pos) (tD mg W (opE os dispD)) := by
  obtain ⟨l1, l2, l3⟩ := P3_len h
  exact (pe_disp (pps_of h) l3 l1 (by rintro rfl; cases h0) (by simpa using h15)).imp fun _ _ _ h => disp_rd l2 h
theorem eDict0 : PE X (.Dict [] [] pos) (tD mg W (M.ret (9, .dct []))) := pe_dnewK.imp fun σ H Q h => by
  obtain ⟨F, ρ, A, s, e⟩ := h
  intro p hp
  have fp : F p = none := s.sub.free hp
  have np : p ∉ A := fun z => by
    obtain ⟨o, e, _⟩ := EnvR.there s.env p z
    rw [hp] at e; cases e
  have sm : Same H (upd H p (.dK [])) := fun b o e => by rw [upd_ne (ne_of_none e hp)]; exact e
  refine e (.ref p) F (upd H p (.dK [])) A [p] ⟨fun b o e => sm b o (s.sub b o e), EnvR.carry (Same.refl _) s.env fun b hb => upd_ne fun z => np (by rw [← z]; exact hb), s.nd, s.fr⟩ (.dow (k := 8) (kvv := []) upd_same ⟨List.nodup_nil, .inl ⟨[], rfl, rfl⟩⟩ .nil) ?_ ?_ ?_
  · exact List.nodup_append.mpr ⟨s.nd, by simp, fun a ha b hb z => np (by simp at hb; rw [← hb, ← z]; exact ha)⟩
  · intro b hb; simp at hb; rw [hb]; exact fp
  · exact ⟨Same.refl _, fun b o e _ _ => sm b o e, fun b ps e _ => ⟨ps, sm b _ e⟩, fun b hb => (List.mem_append.mp hb).imp id fun z => by simp at z; rw [z]; exact hp, fun b o e n => by rw [n] at e; cases e⟩

/-! ### calls with names -/
/-- how a def binds: some in their places, the others by name, in the parameters' order -/
structure KwB (K : PySem.W.Frag) (fd : FuncData) (ps : List Str) (n : Nat) : Prop where
  to : ∀ (s : Shared) (us ws : List Value), us.length = n → us.length + ws.length = ps.length → BindsTo s fd ⟨us, (ps.drop n).zip ws⟩ (ps.zip (us ++ ws))
/-- the keywords' values -/
inductive PairedK (R : Expr → Opd → Prop) : List Keyword → List Opd → Prop
  | nil : PairedK R [] []
  | cons {nm : Option Str} {e : Expr} {kp : Pos} {ks : List Keyword} {o : Opd} {os : List Opd} : R e o → PairedK R ks os → PairedK R (⟨nm, e, kp⟩ :: ks) (o :: os)
theorem pk_of : ∀ {kws : List Keyword} {os : List Opd}, PairedK (OpdOk X mg W) kws os → PK X kws (tOs mg W os)
  | _, _, .nil => pk_nil.imp fun _ _ _ h => tOs_nil h
  | _, _, .cons (o := o) h r => (pk_cons (opd_pe h) (pk_of r)).imp fun _ _ _ h => tOs_cons h
/-- a def that is there, called with names: n in their places -/
structure CalK (X : Cx) (mg : Str → Option Value) (x : Str) (ps : List Str) (n k : Nat) (ms : List Bool) (run : Fn) : Prop where
  ex : ∃ f fd, FnG X.prog X.w X.K X.mg X.base (L2.CX X.prog X.w) k f fd ps (spFn mg ms ps.length run) ∧ mg x = some (.ref f) ∧ PySem.W.keepIn X.K (.ref f) = true ∧ KwB X.K fd ps n
theorem CalK.blk {ps : List Str} {n j : Nat} {ms : List Bool} {run : Fn} (h : CalK X mg x ps n j ms run) (s : Shared) (H : Hp) (scope : Scope) (cl : List (Str × Addr)) (C : Addr) (fp : List Addr) : CalK (X.blk s H scope (compEnvC scope cl C X.env) fp) mg x ps n j ms run := ⟨h.ex⟩
/-- the keywords' names -/
def kwNames (kws : List Keyword) : List (Option Str) := kws.map (·.arg)
theorem eCallK {ps : List Str} {j : Nat} {ms : List Bool} {run : Fn} {kws : List Keyword} (c : Cd X N sc fs k mg) (tk : Takes X W) (h : gnB sc x = true) (cal : CalK X mg x ps 0 j ms run) (hj : j ≤ k) (hl : ps.length = os.length) (ha : PairedK (OpdOk X mg W) kws os)
    (hall : (backToKw pos (keywordEach kws X.env)).all (·.1.isSome) = true) (hks : (backToKw pos (keywordEach kws X.env)).filterMap (·.1) = ps) (hno : (backToKw pos (keywordEach kws X.env)).any (·.1.isNone) = false) :
    PE X (.Call (.Name x p) [] kws pos) (tD mg W (opE os (callG ms run))) := by
  obtain ⟨f, fd, F, hm, hk, hb⟩ := cal.ex
  obtain ⟨g1, g2, _⟩ := gl_of c h
  rw [hl] at F
  have base : PE X (.Call (.Name x p) [] kws pos) (tCallSD (spFn mg ms os.length run) [] (WE W) (tOs mg W os)) := by
    constructor
    intro pins s σ H Q I q
    refine wpAny_Call_Name_kw (ld_glob I g1 (by rw [c.hm]; exact hm) (PySem.W.callWith_KW0 (h₀ := X.base) I.ok.mod.kin hk hall (thn ((pk_of ha).run pos pins s σ H _ I q) ?_) (by rw [hno]; rfl)) g2)
    rintro ws s1 ⟨vs, H1, I1, r, q⟩
    rw [List.append_nil] at q
    have hlen := F.len _ _ _ _ q
    refine ⟨I1.kIn, ?_⟩
    rw [hks]
    have bi := hb.to s1 [] ws rfl (by rw [← r.length, hlen]; simp)
    exact fng_run (us := []) (ks := ps) F (c.rm.mono hj) bi (passAt tk σ) I1 r q
  exact base.imp fun _ _ _ h => call_rd h
end
end DN

set_option Elab.async false
set_option linter.all false
set_option maxRecDepth 100000
set_option maxHeartbeats 4000000
/-! DN, part X: a loop over what a name's part holds; a tuple backwards. -/
namespace DN
open PySem PySem.Spec PyProof.Rows L2
variable [KSeq]

def pthItems (i : Nat) (fk : M KD) (ρ : En) : Option (KD × List KD × En) := if has ρ i = true then (match fk ρ with
  | some (.ok y ρ0) => if y.2.imm = true then (match ρ0[i]? with
    | some (some kd) => (match kidAt kd y.2 with
      | some kc => (match kidItems kc.2 with
        | some ds => some (kd, ds, ρ0)
        | none => none)
      | none => none)
    | _ => none) else none
  | _ => none) else none
def forP (i : Nat) (fk : M KD) (t : Tg) (body : S) : S := fun ρ => match pthItems i fk ρ with
  | some (kd, ds, ρ0) => restS i (some kd) (forL t body ds (ρ0.set i none))
  | none => forS (itsV (opE [.b i, .v fk] (frzOps idxOp))) t body ρ
section
variable {P : List Nat} {mg : Str → Option Value} {W : WX} {F H : Hp} {A : List Addr} {ρ : En} {σ : L2.St} {D : Ends}
theorem sD_forP {K : PySem.W.Frag} {i : Nat} {fk : M KD} {t : Tg} {body : S} (h : sD P mg W (forP i fk t body) D σ H) :
    tFor (fun σ H R => (tPth K mg W i fk σ H fun x H1 => WkV K x H1 R) ∨ tI mg W (itsV (opE [.b i, .v fk] (frzOps idxOp))) σ H R) (gD (i :: P) t) (sD (i :: P) mg W body) D σ H := by
  obtain ⟨F, ρ, A, s, e⟩ := h
  unfold forP at e
  split at e
  · rename_i kd ds ρ0 ep
    unfold pthItems at ep
    split at ep
    · rename_i hi
      obtain ⟨k0, d0, hk0⟩ := has_get hi
      obtain ⟨v0, ev0, _⟩ := s.get hk0
      split at ep
      · rename_i y ρ1 ef
        split at ep
        · rename_i him
          split at ep
          · rename_i kd1 ekd
            split at ep
            · rename_i kc ekc
              split at ep
              · rename_i ds1 eds
                simp only [Option.some.injEq, Prod.mk.injEq] at ep
                obtain ⟨rfl, rfl, rfl⟩ := ep
                refine .inl ⟨v0, ev0, F, ρ, A, s, ?_⟩
                rw [ef]
                intro u F1 H1 A1 B1 s1 oy nd1 fr1 t1
                obtain ⟨rfl, oyf⟩ := Own.imm _ _ _ _ oy him
                rw [List.append_nil] at t1
                obtain ⟨v, x, Ah, Zp, Zc, ev, pA, hE, ox, hix, hZp, _, Z, pZ, oZ⟩ := kid_own (K := K) s1 ekd ekc (oyf 0 H1)
                rw [ev0] at ev
                cases ev
                have pA2 : (Ah ++ Z).Perm A1 := (List.Perm.append_left Ah pZ).trans pA
                have nd0 : (Ah ++ Z).Nodup := pA2.nodup_iff.mpr s1.nd
                have hr : SZ (i :: P) mg W F1 H1 Ah Z σ (forL t body ds1 (ρ1.set i none)) D := rest_end ev0 oZ pA2 (SEnd.later t1 Pk.refl e) fun ρ' => forL_ends
                have es : StR F1 H1 (ρ1.set i none) σ Ah := by
                  have := hE (some v0)
                  rw [set_same ev0] at this
                  exact ⟨s1.sub, this, (List.nodup_append.mp nd0).1, fun b hb => s1.fr b (pA2.subset (List.mem_append_left _ hb))⟩
                have thZ : ∀ b ∈ Z, ∃ o, H1 b = some o ∧ Chg o := fun b hb => EnvR.there s1.env b (pA2.subset (List.mem_append_right _ hb))
                have frZ : ∀ b ∈ Z, F1 b = none := fun b hb => s1.fr b (pA2.subset (List.mem_append_right _ hb))
                have cZ : ∀ b ∈ Zc, b ∈ Z := fun b hb => pZ.symm.subset (List.mem_append_right _ hb)
                obtain ⟨kk, cd⟩ := kc
                cases cd with
                | lst ds' =>
                  unfold kidItems at eds
                  simp only at eds
                  split at eds
                  · rename_i him2
                    cases eds
                    have wk : ∀ {a : Addr} {us : List V} {kq : Nat} {Aq : List Addr}, H1 a = some (.lst us) → (∀ F' H' : Hp, Same F1 F' → Same F' H' → (∀ b ∈ Z, H' b = H1 b) → H' a = some (.lst us)) → Owns F1 H1 kq us ds' Aq → ItH (Itl K a) F1 H1 Z (ds'.map fun d => ((9 : Nat), d)) := fun {a us kq Aq} ea st ow => by
                      refine ⟨us.length, fun H => SqL K H a us, YAt us, walk_list, ?_, fun F' H' sf sh hz => .of (st F' H' sf sh hz), fun j F' H' ρ' σ' A2 x H2 sf s' y => ?_⟩
                      · rw [List.length_map, ow.length]
                      · obtain ⟨rfl, hx⟩ := y
                        obtain ⟨d, hd, od⟩ := immAll_zero ow him2 sf hx
                        exact ⟨(9, d), F', by rw [List.getElem?_map, hd]; rfl, s', Tr.refl, od⟩
                    cases ox with
                    | @low _ a us _ A' g1 g2 =>
                      have it := wk g1 (fun F' H' sf sh hz => (hz a (cZ a List.mem_cons_self)).trans g1) g2
                      refine hix _ ?_
                      exact Or.inl ⟨a, us, rfl, .of g1, for_core es it thZ nd0 frZ hr⟩
                    | @lfz a us _ g1 g2 =>
                      have it := wk (s1.sub _ _ g1) (fun F' H' sf sh hz => sh _ _ (sf _ _ g1)) g2
                      refine hix _ ?_
                      exact Or.inl ⟨a, us, rfl, .of (s1.sub _ _ g1), for_core es it thZ nd0 frZ hr⟩
                  · cases eds
                | _ => simp [kidItems] at eds
              · cases ep
            · cases ep
          · cases ep
        · cases ep
      · cases ep
    · cases ep
  · exact .inr (sD_for ⟨F, ρ, A, s, SEnd.pins e⟩)
end
section
variable {X : Cx} {N : List Str} {sc fs : Scope} {k : Nat} {mg : Str → Option Value} {W : WX} {P : List Nat} {tg : Expr} {bs : List Stmt} {t : Tg} {f : S} {pos : Pos} {i : Nat} {o a b e : Expr} {fk : M KD} {x : Str} {p p2 : Pos}
theorem ps_forP {ke : Expr} (hp : PassesOwn (model X.prog X.w) X.A X.env X.xe) (c : Cd X N sc fs k mg) (hv : vnB N sc i x = true) (hk : PE X ke (tD mg W fk)) (hs : isSlice ke = false) (hn : notStar ke = true)
    (hg : PG X tg (gD (i :: P) t)) (hb : PSs X bs (sD (i :: P) mg W f)) : PS X (.For tg (.Subscript (.Name x p) ke p2) bs [] pos) (sD P mg W (forP i fk t f)) :=
  (ps_for hp c.calm ((pi_val (pth (mg := mg) (W := W) c hv hk hs).pe).or (pi_valS c.hK (eSubS c (ob c hv) (ov hk hn) hs))) hg hb (folded_no rfl)).imp fun _ _ _ h => sD_forP h
end
end DN

set_option Elab.async false
set_option linter.all false
set_option maxRecDepth 100000
set_option maxHeartbeats 4000000
/-! DN, part Y: blocks, stores by the text's own sequence, tests, the parts of a def's facts. -/
namespace DN
open PySem PySem.Spec PyProof.Rows L2
variable [KSeq]
section
variable {X : Cx} {N : List Str} {sc fs : Scope} {k : Nat} {mg : Str → Option Value} {W : WX} {P : List Nat} {x y z : Str} {pos p p2 px py pz pt pt2 : Pos} {i j l : Nat} {a b d e : Expr} {oa oc : Opd} {es rest : List Expr} {os : List Opd} {f g : M KD} {t u : M Bool}
theorem qN : PTs X [] (tB mg W (M.ret true)) := ⟨fun pins s σ H Q I h => pts_nil.run pins s σ H Q I (by
  obtain ⟨F, ρ, A, s, e⟩ := h
  exact ret_Bl s e)⟩
theorem q1 (h : PT X e (tB mg W t)) : PTs X [e] (tB mg W t) := pts_one h
theorem bk {scope : Scope} {own : List (Str × Nat)} (c : Cd X N sc fs k mg) (h : blkC N sc scope own = true) : BlkOk X.N X.env.scope scope own := by
  rw [c.hN, c.hs]
  exact blkOk_by h
/-- a block -/
theorem lcOk {tg iter elt : Expr} {ifs : List Expr} {scope : Scope} {own : List (Str × Nat)} {it : M (List KD)} {tt : Tg} {c0 : M Bool} {el : M KD} (c : Cd X N sc fs k mg) (hb : blkC N sc scope own = true) (hi : PI X tg iter (tI mg W it)) (st : notSet iter = true)
    (hg : ∀ (s : Shared) (H : Hp) (C : Addr) (cl : List (Str × Addr)) (fp : List Addr), PG (X.blk s H scope (compEnvC scope cl C X.env) fp) tg (gD (pinsOf N.length (own.map (·.2))) tt))
    (hc : ∀ (s : Shared) (H : Hp) (C : Addr) (cl : List (Str × Addr)) (fp : List Addr), PTs (X.blk s H scope (compEnvC scope cl C X.env) fp) ifs (tB mg W0 c0))
    (he : ∀ (s : Shared) (H : Hp) (C : Addr) (cl : List (Str × Addr)) (fp : List Addr), PE (X.blk s H scope (compEnvC scope cl C X.env) fp) elt (tD mg W0 el)) : LcOk X mg W tg iter elt ifs scope own it tt c0 el :=
  ⟨c.calm, by rw [c.hN]; exact c.nd, hi, bk c hb, by rw [c.hN]; exact hg, hc, he, st⟩
theorem eAnd1 {op : BoolOp} (h : PE X a (tD mg W f)) : PE X (.BoolOp op [a] pos) (tD mg W f) := pe_one h
theorem bkind (c : Cd X N sc fs k mg) : X.env.blockKind = .function := by
  unfold PySem.Env.blockKind
  rw [c.hs, c.kd]
  rfl
theorem ln_of (c : Cd X N sc fs k mg) (h : lnB N sc i x = true) : X.N[i]? = some x ∧ X.env.scope.names.lookup x = some .local := by
  unfold lnB at h
  simp only [Bool.and_eq_true, decide_eq_true_eq] at h
  refine ⟨by rw [c.hN]; exact h.1, ?_⟩
  have h2 := h.2
  rw [c.hs]
  split at h2 <;> simp_all
/-- name = [..] on its line, the name a local of the def alone -/
theorem sLc {elt tg iter : Expr} {ifs : List Expr} {scope : Scope} {own : List (Str × Nat)} {it : M (List KD)} {tt : Tg} {c0 : M Bool} {el : M KD} {spos : Pos} (c : Cd X N sc fs k mg) (h : LcOk X mg W tg iter elt ifs scope own it tt c0 el) (hy : lnB N sc i y = true) (hP : P.contains i = false)
    (hl : (py.line == pos.line) = true) (ha : (scope.names.any fun (n, k) => n == y && (k == .local || k == .cell)) = false) : PS X (.Assign [.Name y py] (.ListComp elt [⟨tg, iter, ifs, 0⟩] scope pos) spos) (sD P mg W (asgS (.n i) (lcS it tt c0 el (own.map (·.2))))) := by
  obtain ⟨h1, h2⟩ := ln_of c hy
  exact ps_setLcS h h1 h2 (by simpa using hP) (sw_true (by rw [c.hs]; exact c.kd) h2 hl ha)
/-- name = [..], the name a cell -/
theorem sw_cell {elt : Expr} {gs : List Comprehension} {scope : Scope} {n : Nat} (c : Cd X N sc fs k mg) (h : sc.names.lookup y = some .cell) : swapsWith (.ListComp elt gs scope pos) (some (.Name y py)) n X.env = pure false := by
  have hk : X.env.kindOf y = some .cell := by
    show X.env.scope.names.lookup y = _
    rw [c.hs]; exact h
  unfold swapsWith
  simp only [hk]
  rw [show (some NameKind.cell == some NameKind.local) = false from rfl]
  simp
theorem sLcC {elt : Expr} {gs : List Comprehension} {scope : Scope} {spos : Pos} (c : Cd X N sc fs k mg) (he : PE X (.ListComp elt gs scope pos) (tD mg W f)) (hy : tnB N sc fs i y = true) (hc : sc.names.lookup y = some .cell) (hP : P.contains i = false) :
    PS X (.Assign [.Name y py] (.ListComp elt gs scope pos) spos) (sD P mg W (asgS (.n i) f)) :=
  (ps_asg he (gN c hy hP) (sw_cell (n := spos.line) c hc) rfl rfl).imp fun _ _ _ h => sD_asg h
/-- x, y = a, b -/
theorem sPar2 {kt k2 : Nat} (c : Cd X N sc fs k mg) (hx : lnB N sc i x = true) (hy : lnB N sc j y = true) (hij : decide (i ≠ j) = true) (hxy : decide (x ≠ y) = true) (hPi : P.contains i = false) (hPj : P.contains j = false) (ha : Paired (OpdOk X mg W) [a, b] os)
    (hl : (py.line == px.line) = true) (hst : [a, b].all notStar = true) (hf : [a, b].all (foldedForSure 8) = false) (hc : [a, b].all (constantsAlone 8) = false) : PS X (.Assign [.Tuple [.Name x px, .Name y py] kt pt] (.Tuple [a, b] k2 pt2) pos) (sD P mg W (parS [i, j] os)) := by
  obtain ⟨x1, x2⟩ := ln_of c hx
  obtain ⟨y1, y2⟩ := ln_of c hy
  refine ps_par2S c.calm (by rw [c.hN]; exact c.nd) x1 y1 (by simpa using hij) x2 y2 (by simpa using hPi) (by simpa using hPj) ha ?_
  have e1 : X.env.kindOf x = some .local := x2
  have e2 : X.env.kindOf y = some .local := y2
  have hxy' : x ≠ y := by simpa using hxy
  have hs : ([a, b].any fun | .Starred .. => true | _ => false) = false := by
    simp only [List.all_cons, List.all_nil, Bool.and_true, Bool.and_eq_true] at hst
    cases a <;> cases b <;> first | rfl | (simp [notStar] at hst)
  have hl' : py.line = px.line := by simpa using hl
  have hyx : (y == x) = false := beq_eq_false_iff_ne.mpr (Ne.symm hxy')
  have bk' : (X.env.blockKind != .function) = false := by rw [bkind c]; rfl
  simp only [List.all_cons, List.all_nil, Bool.and_true, Bool.and_eq_true] at hst
  unfold swappedStores
  simp only [List.length_cons, List.length_nil, bk', e1, e2, hf, hc, List.filterMap_cons, List.filterMap_nil, List.head?_cons, Option.map_some, Option.getD_some, Expr.pos, hl']
  simp [List.eraseDups, List.eraseDupsBy, List.eraseDupsBy.loop]
  rw [if_neg, hyx]
  · rfl
  · rintro (h | h)
    · split at h
      · simp [notStar] at hst
      · cases h
    · split at h
      · simp [notStar] at hst
      · cases h
end
/-! ### facts of a def -/
structure Df (K : PySem.W.Frag) (mg : Str → Option Value) (x : Str) (st : Stmt) (ps : List Str) : Prop where
  ex : ∃ f fd, Fun K x x st f fd ∧ mg x = some (.ref f) ∧ ∀ us : List Value, us.length = ps.length → bindArgs fd ⟨us, []⟩ = pure (ps.zip us)
theorem df_mk {K : PySem.W.Frag} {h : Heap} {mg : Str → Option Value} {x : Str} {st : Stmt} {ps : List Str} {f : Addr} {oc : Value} {od an : Option Addr} {osl : Array (Option Value)} {kV doc pm cdv ct : Value} (X : K.In h) (G : h.Ns mainGlobals mg)
    (hb : ∀ (kV doc pm : Value) (an : Option Addr) (cdv ct : Value) (us : List Value), us.length = ps.length → bindArgs (PySem.W.fnOf x x (defArgs st) (defBody st) (defScope st) .none kV doc pm an cdv ct) ⟨us, []⟩ = pure (ps.zip us))
    (a : PySem.W.nsIn K mainGlobals x = some (some (.ref f))) (l : K.lookup f = some ⟨oc, od, .func (PySem.W.fnOf x x (defArgs st) (defBody st) (defScope st) .none kV doc pm an cdv ct), osl⟩) (c : PySem.W.codeIn K cdv x = true) (k : PySem.W.keepIn K (.ref f) = true) : Df K mg x st ps :=
  ⟨f, _, fun_mk l c k, PySem.W.mg_of X G a, hb kV doc pm an cdv ct⟩
/-- what a def's body must show, over a base -/
def Bdy (Pr : Program) (w : World) (K : PySem.W.Frag) (mg : Str → Option Value) (bs : Heap) (st : Stmt) (N : List Str) (k : Nat) (ms : List Bool) (body : S) : Prop :=
  ∀ (X : Cx) (Wt : WX), Cd X N (defScope st) (defScope st) k mg → Takes X Wt → PassesOwn (model X.prog X.w) X.A X.env X.xe → X.prog = Pr → X.w = w → X.K = K → X.mg = mg → X.base = bs → PSs X (defBody st) (sD (mIdx 0 ms) mg Wt body)
/-- the promise of a def at a level, over a base -/
def Pm (Pr : Program) (w : World) (K : PySem.W.Frag) (mg : Str → Option Value) (bs : Heap) (x : Str) (ps : List Str) (k : Nat) (ms : List Bool) (run : Fn) : Prop :=
  ∃ f fd, FnG Pr w K mg bs (L2.CX Pr w) k f fd ps (spFn mg ms ps.length run) ∧ mg x = some (.ref f) ∧ PySem.W.keepIn K (.ref f) = true ∧ Binds K fd ps []
def PmK (Pr : Program) (w : World) (K : PySem.W.Frag) (mg : Str → Option Value) (bs : Heap) (x : Str) (ps : List Str) (n k : Nat) (ms : List Bool) (run : Fn) : Prop :=
  ∃ f fd, FnG Pr w K mg bs (L2.CX Pr w) k f fd ps (spFn mg ms ps.length run) ∧ mg x = some (.ref f) ∧ PySem.W.keepIn K (.ref f) = true ∧ KwB K fd ps n
theorem Pm.cal {X : Cx} {mg : Str → Option Value} {x : Str} {ps : List Str} {k : Nat} {ms : List Bool} {run : Fn} (h : Pm X.prog X.w X.K X.mg X.base x ps k ms run) (hm : X.mg = mg) : Cal X mg x ps k ms run := ⟨by subst hm; exact h⟩
theorem PmK.cal {X : Cx} {mg : Str → Option Value} {x : Str} {ps : List Str} {n k : Nat} {ms : List Bool} {run : Fn} (h : PmK X.prog X.w X.K X.mg X.base x ps n k ms run) (hm : X.mg = mg) : CalK X mg x ps n k ms run := ⟨by subst hm; exact h⟩
section
variable {Pr : Program} {w : World} {K : PySem.W.Frag} {mg : Str → Option Value} {bs : Heap} {x : Str} {st : Stmt} {ps N : List Str} {k n : Nat} {ms : List Bool} {body : S}
theorem Df.fng {f : Addr} {fd : FuncData} (hK : K = KSeq.K) (Fu : Fun K x x st f fd) (Sc : FnScope N ps (defScope st)) (hms : ms.length ≤ ps.length) (hbody : Bdy Pr w K mg bs st N k ms body) : FnG Pr w K mg bs (L2.CX Pr w) (k + 1) f fd ps (spFn mg ms ps.length (runS N.length ms body)) :=
  fng_okS Fu Sc hms fun cdv A out s H E Wt hr tk => hbody _ Wt ⟨rfl, Sc.nd, rfl, Sc.kind, rfl, rfl, hr, fun _ _ => rfl, hK⟩ tk (passes_of rfl) rfl rfl rfl rfl rfl
theorem Df.pm (hK : K = KSeq.K) (D : Df K mg x st ps) (Sc : FnScope N ps (defScope st)) (hms : ms.length ≤ ps.length) (hbody : Bdy Pr w K mg bs st N k ms body) : Pm Pr w K mg bs x ps (k + 1) ms (runS N.length ms body) := by
  obtain ⟨f, fd, Fu, hm, hb⟩ := D.ex
  exact ⟨f, fd, Df.fng hK Fu Sc hms hbody, hm, Fu.kp, .all hb⟩
theorem Df.pmk (hK : K = KSeq.K) (D : Df K mg x st ps) (Sc : FnScope N ps (defScope st)) (hms : ms.length ≤ ps.length) (hbody : Bdy Pr w K mg bs st N k ms body)
    (hkw : ∀ (kV doc pm : Value) (an : Option Addr) (cdv ct : Value) (us ws : List Value), us.length = n → us.length + ws.length = ps.length → bindArgs (PySem.W.fnOf x x (defArgs st) (defBody st) (defScope st) .none kV doc pm an cdv ct) ⟨us, (ps.drop n).zip ws⟩ = pure (ps.zip (us ++ ws))) :
    PmK Pr w K mg bs x ps n (k + 1) ms (runS N.length ms body) := by
  obtain ⟨f, fd, Fu, hm, hb⟩ := D.ex
  refine ⟨f, fd, Df.fng hK Fu Sc hms hbody, hm, Fu.kp, ⟨fun s us ws h1 h2 => ?_⟩⟩
  obtain ⟨oc, od, kV, doc, pm, an, cdv, ct, osl, rfl, _, _⟩ := Fu.ex
  exact .of_eq (hkw kV doc pm an cdv ct us ws h1 h2)
theorem Df.pm0 (D : Df K mg x st ps) : Pm Pr w K mg bs x ps k ms (fun _ => none) := by
  obtain ⟨f, fd, Fu, hm, hb⟩ := D.ex
  refine ⟨f, fd, ⟨fun vs H Q E h => h.1, fun A out s H args us vs Q E _ _ _ _ h => ?_⟩, hm, Fu.kp, .all hb⟩
  obtain ⟨_, F, kds, A, _, _, _, _, e⟩ := h
  exact (show False from e).elim
theorem Pm.mono {j : Nat} {run : Fn} (h : Pm Pr w K mg bs x ps j ms run) (hj : j ≤ k) : Pm Pr w K mg bs x ps k ms run := by
  obtain ⟨f, fd, F, r⟩ := h
  exact ⟨f, fd, F.mono hj, r⟩
/-- the law's own promise: at a list of numbers it gives True -/
def spLaw (K : PySem.W.Frag) (n : Nat) : Sp := fun vs H Q _ => ∃ (a : Addr) (ns : List Int), vs = [.ref a] ∧ SqL K H a (ns.map V.int) ∧ ns.length ≤ n ∧ Only H ∧ ∀ H', Q (.bl true) H'
theorem ints_own {F H : Hp} : ∀ ns : List Int, Owns F H 0 (ns.map V.int) (ns.map D.int) []
  | [] => .nil
  | i :: r => .cons (A := []) (.int i) (ints_own r)
theorem law_imp {n : Nat} {run : Fn} (hK : K = KSeq.K) (plain : ∀ ns : List Int, ns.length ≤ n → ∃ k, run [(0, .seq (ns.map D.int))] = some (.rt k (.bl true) [])) : ∀ vs H Q E, spLaw K n vs H Q E → spFn mg [false] 1 run vs H Q E := by
  rintro vs H Q E ⟨a, ns, rfl, hS, hl, only, q⟩
  obtain ⟨k, e⟩ := plain ns hl
  have fin : ∀ F : Hp, Same F H → SeqAt F a (ns.map V.int) → spFn mg [false] 1 run [.ref a] H Q E := fun F sf sa => by
    refine ⟨rfl, F, [(0, .seq (ns.map D.int))], [], sf, ?_, List.nodup_nil, (fun _ z => nomatch z), ?_⟩
    · exact .cons (A := []) (.seq sa (ints_own ns)) .nil
    · rw [e]
      intro v F' H' A' B _ _ o _ _ _
      obtain rfl := Own.bl_eq o
      exact q H'
  rcases hS with hS | hS
  · rcases hS with hS | ⟨o, hS⟩
    · rcases only a with h | ⟨o, xs, h⟩
      · rw [h] at hS; cases hS
      · rw [h] at hS; cases hS
    · exact fin H (Same.refl _) (.inl ⟨o, hS⟩)
  · subst hK
    exact fin (fun _ => none) (fun b o z => nomatch z) (.inr hS)
theorem FnG.imp {CX : CXT} {f : Addr} {fd : FuncData} {sp sp' : Sp} (F : FnG Pr w K mg bs CX k f fd ps sp) (h : ∀ vs H Q E, sp' vs H Q E → sp vs H Q E) : FnG Pr w K mg bs CX k f fd ps sp' :=
  ⟨fun vs H Q E q => F.len vs H Q E (h _ _ _ _ q), fun A out s H args us vs Q E r1 r2 r3 r4 r5 => F.run A out s H args us vs Q E r1 r2 r3 r4 (h _ _ _ _ r5)⟩
omit [KSeq] in
theorem no_cx {out : List PySem.Env} {H : Hp} {s : Shared} {e : Value} {s' : Shared} (h : L2.CX Pr w out H s (fun _ _ _ => False) e s') : False := by
  obtain ⟨_, _, _, _, _, _, _, _, _, _, _, _, z⟩ := h
  exact z
/-- the law's def -/
theorem Df.law {fa : Addr} {n : Nat} {p : Str} (hK : K = KSeq.K) (Dl : Df K mg x st [p]) (hfa : mg x = some (.ref fa)) (Sc : FnScope N [p] (defScope st)) (hbody : ∀ bs : Heap, Bdy Pr w K mg bs st N k [false] body)
    (plain : ∀ ns : List Int, ns.length ≤ n → ∃ k, runS N.length [false] body [(0, .seq (ns.map D.int))] = some (.rt k (.bl true) [])) :
    ∃ fd : FuncData, (∀ (s : Shared) (u : Value), BindsTo s fd ⟨[u], []⟩ [(p, u)]) ∧ ∀ bs : Heap, FnG Pr w K mg bs (L2.CX Pr w) (k + 1) fa fd [p] (spLaw K n) := by
  obtain ⟨f, fd, Fu, hm, hb⟩ := Dl.ex
  rw [hfa] at hm
  cases hm
  exact ⟨fd, fun s u => .of_eq (hb [u] rfl), fun bs => FnG.imp (Df.fng hK Fu Sc (by simp) (hbody bs)) (law_imp hK plain)⟩
end
end DN

set_option Elab.async false
set_option linter.all false
set_option maxRecDepth 100000
set_option maxHeartbeats 4000000
/-! DN, part Z: further short forms. -/
namespace DN
open PySem PySem.Spec PyProof.Rows L2
variable [KSeq]
section
variable {X : Cx} {N : List Str} {sc fs : Scope} {k : Nat} {mg : Str → Option Value} {W : WX} {P : List Nat} {x y z : Str} {pos p p2 px py pz pt pt2 : Pos} {i j l : Nat} {a b d e : Expr} {oa oc : Opd} {es rest : List Expr} {os : List Opd} {f g fk : M KD} {t u : M Bool}
theorem eNeg (ha : OpdOk X mg W a oa) : PE X (.UnaryOp .USub a pos) (tD mg W (opE [oa] (sop negD))) := pe_unS un_neg negS_ok ha
theorem eIs (c : Cd X N sc fs k mg) (ha : OpdOk X mg W a oa) (hb : OpdOk X mg W b oc) (hm : behindInMarks .Is b = false) : PE X (.Compare a [.Is] [b] pos) (tD mg W (opE [oa, oc] (sop (isNonS false)))) := pe_cmpS op_isN isS_ok ha hb hm
theorem eIsNot (c : Cd X N sc fs k mg) (ha : OpdOk X mg W a oa) (hb : OpdOk X mg W b oc) (hm : behindInMarks .IsNot b = false) : PE X (.Compare a [.IsNot] [b] pos) (tD mg W (opE [oa, oc] (sop (isNonS true)))) := pe_cmpS op_notN isNotS_ok ha hb hm
theorem tIs (c : Cd X N sc fs k mg) (ha : OpdOk X mg W a oa) (hb : OpdOk X mg W b oc) (hm : behindInMarks .Is b = false) : PT X (.Compare a [.Is] [b] pos) (tB mg W (boolM (opE [oa, oc] (sop (isNonS false))))) := pt_cmpS op_isN isS_ok ha hb hm
theorem tIsNot (c : Cd X N sc fs k mg) (ha : OpdOk X mg W a oa) (hb : OpdOk X mg W b oc) (hm : behindInMarks .IsNot b = false) : PT X (.Compare a [.IsNot] [b] pos) (tB mg W (boolM (opE [oa, oc] (sop (isNonS true))))) := pt_cmpS op_notN isNotS_ok ha hb hm
theorem eLenP (c : Cd X N sc fs k mg) (h : gnB sc "len" = true) (hm : mg "len" = none) (hp : PthOk X mg W a i fk) : PE X (.Call (.Name "len" p) [a] [] pos) (tD mg W (pthG anyT i fk [] (sop lenS) [])) := bltP hp c h hm boot_len call_len (lenS_ok c.hK)
theorem fm_lt {α β : Type} {f : α → Option β} : ∀ {l : List α}, (l.filterMap f).length ≤ l.length ∧ ((∃ x ∈ l, f x = none) → (l.filterMap f).length < l.length)
  | [] => ⟨Nat.le_refl _, fun ⟨x, h, _⟩ => nomatch h⟩
  | x :: r => by
    obtain ⟨h1, h2⟩ := fm_lt (f := f) (l := r)
    rw [List.filterMap_cons]
    cases e : f x with
    | none => exact ⟨Nat.le_succ_of_le h1, fun _ => Nat.lt_succ_of_le h1⟩
    | some y =>
      refine ⟨Nat.succ_le_succ h1, fun ⟨z, hz, ez⟩ => Nat.succ_lt_succ (h2 ?_)⟩
      rcases List.mem_cons.mp hz with rfl | hz
      · rw [e] at ez; cases ez
      · exact ⟨z, hz, ez⟩
def nlB (sc : Scope) (ts : List Expr) : Bool := ts.any fun t => match t with
  | .Name id _ => (match sc.names.lookup id with
    | some .local => false
    | _ => true)
  | _ => true
theorem sw_none {ts vs : List Expr} {kt k2 : Nat} (c : Cd X N sc fs k mg) (h : nlB sc ts = true) : swappedStores [.Tuple ts kt pt] (.Tuple vs k2 pt2) X.env = pure none := by
  unfold swappedStores
  dsimp only
  split
  · rfl
  · split
    · rfl
    · split
      · rfl
      · rename_i hx
        exfalso
        obtain ⟨t, ht, e⟩ := List.any_eq_true.mp h
        simp only [Bool.or_eq_true, bne_iff_ne, ne_eq, not_or, Decidable.not_not] at hx
        have := (fm_lt (l := ts) (f := fun t => match t with
          | .Name id pos => if (X.env.kindOf id == some .local && pos.line == (Option.map (fun x => x.pos.line) ts.head?).getD 0) = true then some id else none
          | _ => none)).2 ⟨t, ht, by
            cases t with
            | Name id ps =>
              simp only at e ⊢
              rw [if_neg]
              intro q
              have q1 : X.env.kindOf id = some .local := by simp at q; exact q.1
              have q2 : X.env.scope.names.lookup id = some .local := q1
              rw [c.hs] at q2
              rw [q2] at e
              cases e
            | _ => rfl⟩
        exact absurd hx.1 (Nat.ne_of_lt this)
/-- a tuple built and taken apart -/
theorem sTT {ts vs : List Expr} {kt k2 : Nat} {tt : Tg} (c : Cd X N sc fs k mg) (he : PE X (.Tuple vs k2 pt2) (tD mg W f)) (hg : PG X (.Tuple ts kt pt) (gD P tt)) (h : nlB sc ts = true) : PS X (.Assign [.Tuple ts kt pt] (.Tuple vs k2 pt2) pos) (sD P mg W (asgS tt f)) := ps_asgS he hg rfl rfl (sw_none c h)
end
omit [KSeq] in
theorem kon_str {K : PySem.W.Frag} {h : Heap} {mg : Str → Option Value} {x z : Str} {u : Value} (X : K.In h) (G : h.Ns mainGlobals mg) (a : PySem.W.nsIn K mainGlobals x = some (some u)) (r : RelV (.str z) u) : KonD K mg x (.str z) := ⟨_, u, rfl, PySem.W.mg_of X G a, r⟩
omit [KSeq] in
theorem kon_int {K : PySem.W.Frag} {h : Heap} {mg : Str → Option Value} {x : Str} {z : Int} {u : Value} (X : K.In h) (G : h.Ns mainGlobals mg) (a : PySem.W.nsIn K mainGlobals x = some (some u)) (r : RelV (.int z) u) : KonD K mg x (.int z) := ⟨_, u, rfl, PySem.W.mg_of X G a, r⟩
end DN

set_option Elab.async false
set_option linter.all false
set_option maxRecDepth 100000
set_option maxHeartbeats 4000000
/-! DN, part Za: sequences backwards. -/
namespace DNT
open PySem PySem.Spec PyProof.Rows L2 HT
section
variable {prog : Program} {w : World} {A : Around} {E : Value → Shared → Prop} {s : Shared}
theorem adj_back (n : Nat) : Builtin.Slice.sliceAdjust none none (-1) (n : Int) = ((n : Int) - 1, -1) := by
  unfold Builtin.Slice.sliceAdjust
  simp
theorem plc_back (n : Nat) : Builtin.Slice.slicePlaces ((n : Int) - 1) (-1) (-1) = n := by
  unfold Builtin.Slice.slicePlaces
  have h1 : ¬ ((-1 : Int) > 0) := by omega
  rw [if_neg h1, show (- -1 : Int) = 1 by decide, Int.ediv_one]
  by_cases h : ((n : Int) - 1) > -1
  · rw [if_pos h]; omega
  · rw [if_neg h]; omega
theorem applied_back {sl : Addr} {vl vu vs : Value} {n : Nat} {Q : Int × Int × Nat → Shared → Prop} (hs : s.heap.IsSliceOf sl vl vu vs) (pl : IsPart vl none) (pu : IsPart vu none) (ps : IsPart vs (some (-1)))
    (h : Q ((n : Int) - 1, -1, n) s) : wpAny (model prog w) A (Builtin.Slice.sliceApplied (.ref sl) (pure (n : Int))) Q E s := by
  obtain ⟨os, hos, hcs, hds⟩ := id hs
  unfold Builtin.Slice.sliceApplied Builtin.Slice.sliceFields
  apply wpAny_bind
  apply wpAny_bind
  refine wpAny_field hos hds (x := vl) rfl (wpAny_bind (wpAny_field hos hds (x := vu) rfl (wpAny_bind (wpAny_field hos hds (x := vs) rfl (wpAny_pure ?_)))))
  refine wpAny_bind (slicePart_ ps ?_)
  show wpAny _ _ (if ((-1 : Int) == 0) = true then _ else _) _ _ s
  rw [if_neg (by decide)]
  refine wpAny_bind (slicePart_ pl (wpAny_bind (slicePart_ pu (wpAny_bind (wpAny_pure ?_)))))
  show wpAny _ _ (match Builtin.Slice.sliceAdjust none none (-1) (n : Int) with | (lo, hi) => pure (lo, (-1 : Int), Builtin.Slice.slicePlaces lo hi (-1))) _ _ s
  rw [adj_back n]
  show wpAny _ _ (pure ((n : Int) - 1, (-1 : Int), Builtin.Slice.slicePlaces ((n : Int) - 1) (-1) (-1))) _ _ s
  rw [plc_back]
  exact wpAny_pure h
theorem fm_some {α β : Type} {f : α → Option β} {g : α → β} : ∀ {l : List α}, (∀ m ∈ l, f m = some (g m)) → l.filterMap f = l.map g
  | [], _ => rfl
  | x :: r, h => by rw [List.filterMap_cons, h x List.mem_cons_self, List.map_cons, fm_some fun m hm => h m (List.mem_cons_of_mem _ hm)]
theorem pick_back (xs : Array Value) : ((List.range xs.size).filterMap fun (m : Nat) => xs[(((xs.size : Int) - 1) + (m : Int) * (-1)).toNat]?).toArray = xs.toList.reverse.toArray := by
  congr 1
  apply List.ext_getElem?
  intro i
  have hall : ∀ m ∈ List.range xs.size, (fun (m : Nat) => xs[(((xs.size : Int) - 1) + (m : Int) * (-1)).toNat]?) m = some (xs.toList.reverse.getD m default) := fun m hm => by
    have hm' := List.mem_range.mp hm
    have e : (((xs.size : Int) - 1) + (m : Int) * (-1)).toNat = xs.size - 1 - m := by omega
    show xs[(((xs.size : Int) - 1) + (m : Int) * (-1)).toNat]? = _
    rw [e, List.getD_eq_getElem?_getD, List.getElem?_reverse (by simpa using hm'), Array.length_toList, Array.getElem?_toList]
    rw [Array.getElem?_eq_getElem (by omega)]
    rfl
  have e2 : (List.range xs.size).filterMap (fun (m : Nat) => xs[(((xs.size : Int) - 1) + (m : Int) * (-1)).toNat]?) = (List.range xs.size).map fun m => xs.toList.reverse.getD m default := fm_some hall
  rw [e2, List.getElem?_map]
  by_cases hi : i < xs.size
  · rw [List.getElem?_range hi]
    show some (xs.toList.reverse.getD i default) = _
    rw [List.getD_eq_getElem?_getD, List.getElem?_eq_getElem (by simpa using hi)]
    rfl
  · rw [List.getElem?_eq_none (by simpa using hi), List.getElem?_eq_none (by simpa using hi)]
    rfl
theorem item_back {t sl : Addr} {items : Array Value} {vl vu vs : Value} {Q : Value → Shared → Prop} (ht : IsTup s.heap t items) (hs : s.heap.IsSliceOf sl vl vu vs) (pl : IsPart vl none) (pu : IsPart vu none) (ps : IsPart vs (some (-1)))
    (h : Q (.ref s.heap.objs.size) { s with heap := s.heap.push { cls := .type "tuple", data := .seq items.toList.reverse.toArray } }) (hsz : items.size ≤ sizeLine) : wpAny (model prog w) A (getItem (.ref t) (.ref sl)) Q E s := by
  have hok : sizeOk (.seq items.toList.reverse.toArray) := by
    show items.toList.reverse.toArray.size ≤ sizeLine
    rw [List.size_toArray, List.length_reverse, Array.length_toList]
    exact hsz
  obtain ⟨os, hos, hcs, hds⟩ := id hs
  have hTs : s.TypeIs (.ref sl) "slice" := ⟨os, hos, hcs⟩
  unfold getItem
  try with_reducible apply wpAny_holding
  first | (refine wpAny_bind (wpAny_pure ?_)) | skip
  refine wpAny_bind (wpAny_sequenceKey ht.typeIs (by decide) ?_)
  refine wpAny_bind (wpAny_callSpecial?_slot (name := Str.ofString "__getitem__") ht.typeIs PyProof.Rows.slot_tuple_getitem (wpAny_call_entry PyProof.Rows.slot_tuple_getitem ht.typeIs entry_tuple_getitem ?_ (args_tuple_getitem _ _)))
  show wpAny _ _ (Builtin.Tuple.tupleItemsOf (.ref t) >>= _) _ _ s
  refine wpAny_bind (tupleItemsOf_ ht (wpAny_bind (wpAny_typeOf hTs ?_)))
  rw [if_pos (by decide)]
  refine wpAny_bind (applied_back (n := items.size) hs pl pu ps ?_)
  have hno : ¬ ((((items.size : Int) - 1) == 0 && (-1 : Int) == 1 && items.size == items.size) = true) := by
    intro q
    rw [Bool.and_eq_true, Bool.and_eq_true] at q
    exact absurd (eq_of_beq q.1.2) (by decide)
  show wpAny _ _ (if (((items.size : Int) - 1) == 0 && (-1 : Int) == 1 && items.size == items.size) = true then _ else _) _ _ s
  rw [if_neg hno, pick_back]
  first
    | exact wpAny_bind (m := Builtin.Tuple.tupleExact _) (wpAny_newObj_type (wpAny_pure ⟨_, rfl, wpAny_pure h⟩) hok)
    | exact wpAny_bind (m := Builtin.Tuple.tupleExact _) (wpAny_newObj_type (wpAny_bind (wpAny_pure (wpAny_pure ⟨_, rfl, wpAny_pure h⟩))) hok)
    | exact wpAny_bind (wpAny_bind (m := Builtin.Tuple.tupleExact _) (wpAny_newObj_type (wpAny_pure (wpAny_pure ⟨_, rfl, wpAny_pure h⟩)) hok))
    | exact wpAny_bind (wpAny_bind (m := Builtin.Tuple.tupleExact _) (wpAny_newObj_type (wpAny_pure ⟨_, rfl, wpAny_pure h⟩) hok))
end
end DNT
namespace DN
open PySem PySem.Spec PyProof.Rows L2
variable [KSeq]
def rBack (K : PySem.W.Frag) : V → Hp → VK → Prop := fun x H Q => ∃ a xs, x = .ref a ∧ ((SqL K H a xs ∧ ∀ p, H p = none → Q (.ref p) (upd H p (.lst xs.reverse))) ∨ (SqT K H a xs ∧ ∀ p, H p = none → Q (.ref p) (upd H p (.tup xs.reverse))))
def revK : List KD → Option KD
  | [(k, .lst ds)] => if kidsOk k ds = true then some (kL ds.reverse, .lst ds.reverse) else none
  | [(k, .tup ds)] => if kids0 k ds = true then some (kT ds.reverse, .tup ds.reverse) else none
  | _ => none
section
variable {X : Cx} {mg : Str → Option Value} {W : WX} {a e : Expr} {oa : Opd} {k : Nat} {p1 p2 p3 pos : Pos} {te : TE}
theorem pe_back (he : PE X e te) : PE X (.Subscript e (.Slice none none (some (.UnaryOp .USub (.Constant (.int 1) k p1) p2)) p3) pos) (fun σ H Q => te σ H fun x H1 => rBack X.K x H1 Q) := by
  constructor
  intro pins s σ H Q I h
  refine Subscript_ (thn (he.run pins s σ H _ I h) ?_)
  rintro v s1 ⟨x, H1, I1, r1, a, xs, rfl, q⟩
  cases r1
  have hst : PO X (some (.UnaryOp .USub (.Constant (.int 1) k p1) p2)) (tPart (tUn (rU fun i => .int (-i)) (tC (.int 1)))) := po_some (pe_un un_neg pe_int)
  refine wpAny_Slice (thn (po_none.run pins s1 σ H1 (fun o H2 => o = none ∧ H2 = H1) I1 ⟨rfl, rfl⟩) ?_)
  rintro vl s2 ⟨l, H2, I2, pl, rfl, rfl⟩
  refine thn (po_none.run pins s2 σ H2 (fun o H3 => o = none ∧ H3 = H2) I2 ⟨rfl, rfl⟩) ?_
  rintro vu s3 ⟨u, H3, I3, pu, rfl, rfl⟩
  refine thn (hst.run pins s3 σ H3 (fun o H4 => o = some (-1) ∧ H4 = H3) I3 ⟨1, rfl, -1, rfl, rfl, rfl⟩) ?_
  rintro vs s4 ⟨o, H4, I4, ps, rfl, rfl⟩
  have I5 : L2.Inv X pins σ H4 { s4 with heap := s4.heap.push { cls := .type "slice", data := .fields #[vl, vu, vs] } } := I4.kept (t' := s4.toks) fun b ob q => Heap.get?_push_of_some _ q
  rcases q with ⟨hx, q⟩ | ⟨hx, q⟩
  · obtain ⟨its, r, ht, hz⟩ := I5.list hx
    refine tail_any (ops := [.ref a, .ref s4.heap.objs.size]) ht.isList.typeIs PySem.slot_list_getitem.lookup ?_ (by with_unfolding_all rfl)
    refine wpAny_getItem_list_slice ht.isList (Heap.IsSliceOf.new _ vl vu vs) pl pu ps (by decide) ?_ (by rw [List.size_toArray, ← r.length]; exact hz)
    rw [PySem.W.krv_pick]
    refine ⟨.ref _, _, I5.laid (t' := s4.toks) (o := .lst xs.reverse) (fun b ob q => Heap.get?_push_of_some _ q) (Nat.le_refl _) ?_, rfl, q _ (I5.hok.fresh (Nat.le_refl _))⟩
    exact ⟨by rw [List.length_reverse]; exact hz, _, 0, r.reverse, Heap.get?_push_size _ rfl⟩
  · obtain ⟨its, r, ht, hz⟩ := I5.tuple hx
    refine tail_any (ops := [.ref a, .ref s4.heap.objs.size]) ht.typeIs PyProof.Rows.slot_tuple_getitem.lookup ?_ (by with_unfolding_all rfl)
    refine DNT.item_back ht (Heap.IsSliceOf.new _ vl vu vs) pl pu ps ?_ (by rw [List.size_toArray, ← r.length]; exact hz)
    refine ⟨.ref _, _, I5.laid (t' := s4.toks) (o := .tup xs.reverse) (fun b ob q => Heap.get?_push_of_some _ q) (Nat.le_refl _) ?_, rfl, q _ (I5.hok.fresh (Nat.le_refl _))⟩
    exact ⟨by rw [List.length_reverse]; exact hz, _, r.reverse, IsTup.new _ _⟩
theorem revK_ok {K : PySem.W.Frag} : OpS mg W (r1L (rBack K)) (nop revK) := nop_ok fun F H A B σ ρ vs kds kd Q s vw e h => by
  unfold revK at e
  split at e
  · split at e
    · rename_i hk
      cases e
      obtain ⟨v, A1, rfl, o1⟩ := vw.one
      obtain ⟨a, us, rfl, q1, w1⟩ := Own.kidsL s.sub o1 hk
      exact ⟨a, us, rfl, .inl ⟨.of q1, fun p hp => newL s hp (Owns.reverse w1) h⟩⟩
    · cases e
  · split at e
    · rename_i hk
      cases e
      obtain ⟨v, A1, rfl, o1⟩ := vw.one
      obtain ⟨a, us, rfl, f1, q1, w1⟩ := Own.kidsT s.sub o1 hk
      exact ⟨a, us, rfl, .inr ⟨.of q1, fun p hp => newT s hp (Owns.reverse w1) h⟩⟩
    · cases e
  · cases e
theorem eRev (ha : OpdOk X mg W a oa) : PE X (.Subscript a (.Slice none none (some (.UnaryOp .USub (.Constant (.int 1) k p1) p2)) p3) pos) (tD mg W (opE [oa] (frzOps (nop revK)))) :=
  (pe_back (opd_pe ha)).imp fun σ H Q h => tOs_one (opE_of (fz_ok revK_ok) h)
end
end DN

set_option Elab.async false
set_option linter.all false
set_option maxRecDepth 100000
set_option maxHeartbeats 4000000
/-! DN, part Zb: len(set(..)) of texts. -/
namespace DNT
open PySem PySem.Spec PyProof.Rows L2
def eSet (led : Bool) : Obj := { cls := .type "set", dict := none, data := .set #[] 0 (.fresh 0 0 led) }
/-- how many different ones are among the first i -/
def cnt (xs : List Str) : Nat → Nat
  | 0 => 0
  | i + 1 => if (xs.take i).any (· == xs.getD i Str.empty) = true then cnt xs i else cnt xs i + 1
theorem cnt_le (xs : List Str) : ∀ i, cnt xs i ≤ i
  | 0 => Nat.le_refl _
  | i + 1 => by
    have := cnt_le xs i
    unfold cnt
    split <;> omega
abbrev inFirst (xs : List Str) (i : Nat) : Str → Bool := fun q => (xs.take i).any (· == q)
section
variable {prog : Program} {w : World} {A : Around} {R : Result → Shared → Prop} {I : Addr} {fp wr : List Addr} {G : Array GenState → Array GenState → Prop} {n : Nat} {Pi : Nat → Value → Prop} {St : Nat → Shared → Prop}
theorem setloop (wk : WalksS prog w A.in1 I fp wr G n Pi St) (S : Addr) (nS : S ∉ fp) (xs : List Str) (len : xs.length = n) (small : n + 1 < scanBound) (item : ∀ i v, Pi i v → ∃ t, v = .str (xs.getD i Str.empty) t) :
    ∀ (k i : Nat) (q : Shared), n - i = k → i ≤ n → St i q → q.heap.SetOf (PySem.strKind prog w) S (inFirst xs i) (cnt xs i) →
      (∀ q', Moved (S :: wr) G q q' → q'.heap.SetOf (PySem.strKind prog w) S (inFirst xs n) (cnt xs n) → R (.ok (.ret .none)) q') → codeAny (model prog w) A (.builtin "set.update.loop" ⟨[.ref S, .ref I], []⟩) R q := by
  have nSw : S ∉ wr := fun h => nS (wk.sub _ h)
  have wsub : ∀ b ∈ wr, b ∈ S :: wr := fun b hb => .tail _ hb
  have kept : ∀ {q q' : Shared} {f : Str → Bool} {c : Nat}, q.heap.SetOf (PySem.strKind prog w) S f c → Moved wr G q q' → q'.heap.SetOf (PySem.strKind prog w) S f c := by
    rintro q q' f c ⟨o, es, ep, t, ho, more⟩ mv
    exact ⟨o, es, ep, t, mv.heap S _ nSw ho, more⟩
  intro k
  induction k with
  | zero =>
    intro i q hk hi st hS hR
    obtain rfl : i = n := by omega
    apply codeAny_builtin PyProof.Rows.F.entry_set_update_loop
    rw [Around.under_plainId PyProof.Rows.F.plain_set_update_loop _]
    show wpAny _ A.in1 (pyNext (.ref I) >>= _) _ _ q
    apply wpAny_bind
    apply wk.done q _ _ st
    intro q' mv
    show wpAny _ A.in1 (ret Value.none) _ _ q'
    exact wpAny_pure (hR q' (mv.mono wsub) (kept hS mv))
  | succ k ih =>
    intro i q hk hi st hS hR
    have lt : i < n := by omega
    apply codeAny_builtin PyProof.Rows.F.entry_set_update_loop
    rw [Around.under_plainId PyProof.Rows.F.plain_set_update_loop _]
    show wpAny _ A.in1 (pyNext (.ref I) >>= _) _ _ q
    apply wpAny_bind
    apply wk.item i q _ _ lt st
    intro v q' hP st' mv
    obtain ⟨t, rfl⟩ := item i v hP
    generalize hx : xs.getD i Str.empty = x
    have hS1 := kept hS mv
    show wpAny _ A.in1 (holding [Value.str x t] (setAdd S (.str x t)) >>= _) _ _ q'
    apply wpAny_bind
    apply wpAny_holding
    unfold setAdd
    apply wpAny_holding
    apply wpAny_bind
    apply (PySem.strKind prog w).pyHash (k := x) (strKind_is _ _ _ _)
    have room : cnt xs i + 1 < scanBound := by have := cnt_le xs i; omega
    refine wpAny_setAddHashed_of (knd := PySem.strKind prog w) (s := { q' with toks := q'.toks + 1 }) (strKind_is _ _ _ _) rfl hS1 room fun h' same hS2 => ?_
    have hT : xs.take (i + 1) = xs.take i ++ [x] := by
      have hi' : i < xs.length := by omega
      rw [List.take_add_one, List.getElem?_eq_getElem hi', ← hx, List.getD_eq_getElem?_getD, List.getElem?_eq_getElem hi']
      rfl
    have hS3 : h'.SetOf (PySem.strKind prog w) S (inFirst xs (i + 1)) (cnt xs (i + 1)) := by
      refine SetOf_congr hS2 (fun y => ?_) ?_
      · show ((xs.take i).any (· == y) || decide (y = x)) = (xs.take (i + 1)).any (· == y)
        rw [hT, List.any_append]
        congr 1
        simp only [List.any_cons, List.any_nil, Bool.or_false]
        by_cases e : y = x
        · subst e; simp
        · rw [decide_eq_false e, beq_eq_false_iff_ne.mpr fun z => e z.symm]
      · show (if (xs.take i).any (· == x) = true then cnt xs i else cnt xs i + 1) = cnt xs (i + 1)
        rw [← hx]; rfl
    refine wpAny_pure ⟨plainId_quiet PyProof.Rows.F.plain_set_update_loop _, ih (i + 1) _ (by omega) lt ?_ hS3 ?_⟩
    · apply wk.frame _ q' _ _ st' (Nat.le_succ _)
      intro b hb o e
      rw [same.2 b fun z => nS (by rw [← z]; exact hb)]
      exact e
    · intro q'' mv2 hS4
      refine hR q'' (Moved.trans wk.gtrans ((mv.mono wsub).then_heap (Nat.le_succ _) fun b o hb e => ?_) mv2) hS4
      rw [same.2 b fun z => hb (by rw [z]; exact .head _)]
      exact e
end
section
variable {prog : Program} {w : World} {A : Around} {E : Value → Shared → Prop} {s : Shared}
set_option maxHeartbeats 3200000 in
/-- set(xs), xs a list or a tuple of texts -/
theorem set_texts {l : Addr} {items : Array Value} {xs : List Str} {Q : Value → Shared → Prop} (hh : A.handled = none) (hl : s.heap.IsList l items ∨ s.heap.IsTuple l items) (texts : PyProof.Rows.StrsAre items.toList xs) (small : xs.length + 1 < scanBound)
    (fin : ∀ (h' : Heap) (tk : Nat), h'.SetOf (PySem.strKind prog w) s.heap.objs.size (inFirst xs items.size) (cnt xs items.size) → (∀ b o, b < s.heap.objs.size → s.heap.get? b = some o → h'.get? b = some o) → Q (.ref s.heap.objs.size) { s with heap := h', toks := tk }) :
    wpAny (model prog w) A (call (.type "set") [.ref l]) Q E s := by
  have z0 : items.size = xs.length := by have := StrsAre.len_eq texts; rw [Array.length_toList] at this; exact this
  have item : ∀ (i : Nat) (v : Value), items[i]? = some v → ∃ t, v = .str (xs.getD i Str.empty) t := fun i v hv => SS.strs_at texts i v (by rw [Array.getElem?_toList]; exact hv)
  obtain ⟨c, tl, hmro⟩ := PySem.F.called_set.mro
  have k1 := PySem.F.called_set.made
  have k2 := PySem.F.called_set.sub
  apply wpAny_call
  apply codeAny_of_tree
  show wpAny _ _ (callAny (.type "set") _) _ _ _
  apply wpAny_pure
  refine ⟨Code.quiet_builtin _ (by decide +kernel), codeAny_builtin PySem.F.entry_type_call ?_⟩
  rw [Around.under_plain (weight_type_call_type "set" [.ref l] []) rfl]
  have k3 := PySem.F.called_set.notType
  have k4 := PySem.F.called_set.canCreate
  have k5 := PySem.F.typeCall_set_1 (.ref l)
  repeat (any_goals (first | assumption | wp_step))
  refine codeAny_mono (code_set_new_1 (.ref l) (E := E) (Q₁ := fun obj q => ∃ led : Bool, obj = .ref s.heap.objs.size ∧ q = { s with heap := s.heap.push (eSet led) }) fun led => ⟨led, rfl, rfl⟩) ?_
  intro r q hr
  cases r with
  | error e => exact hr
  | ok fl =>
    cases fl with
    | ret obj =>
      obtain ⟨led, rfl, rfl⟩ := hr
      have newS : (s.heap.push (eSet led)).get? s.heap.objs.size = some (eSet led) := Heap.get?_push_size _ rfl
      have hT : Shared.TypeIs { s with heap := s.heap.push (eSet led) } (.ref s.heap.objs.size) "set" := ⟨_, newS, rfl⟩
      have k6 := PySem.F.called_set.init.lookup
      have k7 := PySem.F.called_set.init.bind (.ref s.heap.objs.size)
      repeat (any_goals (first | assumption | wp_step))
      refine codeAny_mono (codeAny_call_builtin (R := wants (fun r q => r = .none ∧ ∃ h' tk, q = { s with heap := h', toks := tk } ∧ h'.SetOf (PySem.strKind prog w) s.heap.objs.size (inFirst xs items.size) (cnt xs items.size) ∧ (∀ b o, b < s.heap.objs.size → s.heap.get? b = some o → h'.get? b = some o)) E)
        PySem.F.called_set.init.plain PySem.F.entry_set_init (check_set_init_1 hT ?_)) ?_
      · have pz : (s.heap.push (eSet led)).objs.size = s.heap.objs.size + 1 := Heap.size_push ..
        have h3 : A.in1.in1.in1.handled = none := by simp [hh]
        rcases hl with hl | hl
        · obtain ⟨ol, hol, hcl, nl, hdl⟩ := hl
          obtain ⟨ocls, odict, odata, oslots⟩ := ol
          dsimp only at hcl hdl
          subst hcl
          subst hdl
          have lt : l < s.heap.objs.size := Heap.lt_size hol
          have at1 : (s.heap.push (eSet led)).get? l = some { cls := .type "list", dict := odict, data := .seq items nl, slots := oslots } := Heap.get?_push_of_some _ hol
          have k8 := PySem.F.sub_list_set
          have k9 := PySem.F.sub_list_frozenset
          have k10 : (Value.type "list" == Value.type "dict") = false := by decide
          have is1 : (s.heap.push (eSet led)).IsList l items := ⟨_, at1, rfl, nl, rfl⟩
          unfold Builtin.«set.__init__» noKeywords Builtin.Frozenset.updateFrom
          generalize hPI : pyIter = PI
          wp_walk
          subst hPI
          apply wpAny_pyIter_list is1
          apply wpAny_bind
          apply wpAny_runValue
          have ne1 : l ≠ (s.heap.push (eSet led)).objs.size := by rw [pz]; exact Nat.ne_of_lt (Nat.lt_succ_of_lt lt)
          have nf : s.heap.objs.size ∉ [(s.heap.push (eSet led)).objs.size, l] := by
            rw [pz]
            simp only [List.mem_cons, List.not_mem_nil, or_false, not_or]
            exact ⟨Nat.ne_of_lt (Nat.lt_succ_self _), Nat.ne_of_gt lt⟩
          refine setloop ((Walks.list h3 _ l ne1 items).toS) s.heap.objs.size nf xs z0.symm (by rw [z0]; exact small) item (items.size - 0) 0 _ rfl (Nat.zero_le _) ⟨⟨_, Heap.get?_push_size _ rfl, rfl, rfl⟩, is1.push _⟩ ?_ ?_
          · have got : ((s.heap.push (eSet led)).push { cls := .type "list_iterator", data := .fields #[.ref l, .int 0 0] }).get? s.heap.objs.size = some (eSet led) := Heap.get?_push_of_some _ newS
            exact PyProof.Rows.SetOf_congr ((PyProof.Rows.setObjOf_fresh (knd := PySem.strKind prog w) led).setOf got (by unfold scanBound; omega)) (fun _ => rfl) rfl
          · intro q' mv hS'
            obtain ⟨h', g', d', tk', os'⟩ := q'
            obtain rfl : g' = s.gens := mv.gens
            obtain rfl : d' = s.drawn := mv.drawn
            obtain rfl : os' = s.os := mv.os
            show wpAny _ _ _ _ _ _
            apply wpAny_pure
            show wpAny _ _ (ret Value.none) _ _ _
            apply wpAny_pure
            refine ⟨rfl, h', tk', rfl, hS', fun b o hb e => mv.heap b o ?_ (Heap.get?_push_of_some _ (Heap.get?_push_of_some _ e))⟩
            rw [pz]
            simp only [List.mem_cons, List.not_mem_nil, or_false, not_or]
            exact ⟨Nat.ne_of_lt hb, Nat.ne_of_lt (Nat.lt_succ_of_lt hb)⟩
        · obtain ⟨ol, hol, hcl, nl, hdl⟩ := hl
          obtain ⟨ocls, odict, odata, oslots⟩ := ol
          dsimp only at hcl hdl
          subst hcl
          subst hdl
          have lt : l < s.heap.objs.size := Heap.lt_size hol
          have at1 : (s.heap.push (eSet led)).get? l = some { cls := .type "tuple", dict := odict, data := .seq items nl, slots := oslots } := Heap.get?_push_of_some _ hol
          have k8 := PySem.F.sub_tuple_set
          have k9 := PySem.F.sub_tuple_frozenset
          have k10 : (Value.type "tuple" == Value.type "dict") = false := by decide
          have is1 : (s.heap.push (eSet led)).IsTuple l items := ⟨_, at1, rfl, nl, rfl⟩
          unfold Builtin.«set.__init__» noKeywords Builtin.Frozenset.updateFrom
          generalize hPI : pyIter = PI
          wp_walk
          subst hPI
          apply wpAny_pyIter_tuple is1
          apply wpAny_bind
          apply wpAny_runValue
          have ne1 : l ≠ (s.heap.push (eSet led)).objs.size := by rw [pz]; exact Nat.ne_of_lt (Nat.lt_succ_of_lt lt)
          have nf : s.heap.objs.size ∉ [(s.heap.push (eSet led)).objs.size, l] := by
            rw [pz]
            simp only [List.mem_cons, List.not_mem_nil, or_false, not_or]
            exact ⟨Nat.ne_of_lt (Nat.lt_succ_self _), Nat.ne_of_gt lt⟩
          refine setloop ((Walks.tuple h3 _ l ne1 items).toS) s.heap.objs.size nf xs z0.symm (by rw [z0]; exact small) item (items.size - 0) 0 _ rfl (Nat.zero_le _) ⟨⟨_, Heap.get?_push_size _ rfl, rfl, rfl⟩, is1.push _⟩ ?_ ?_
          · have got : ((s.heap.push (eSet led)).push { cls := .type "tuple_iterator", data := .fields #[.ref l, .int 0 0] }).get? s.heap.objs.size = some (eSet led) := Heap.get?_push_of_some _ newS
            exact PyProof.Rows.SetOf_congr ((PyProof.Rows.setObjOf_fresh (knd := PySem.strKind prog w) led).setOf got (by unfold scanBound; omega)) (fun _ => rfl) rfl
          · intro q' mv hS'
            obtain ⟨h', g', d', tk', os'⟩ := q'
            obtain rfl : g' = s.gens := mv.gens
            obtain rfl : d' = s.drawn := mv.drawn
            obtain rfl : os' = s.os := mv.os
            show wpAny _ _ _ _ _ _
            apply wpAny_pure
            show wpAny _ _ (ret Value.none) _ _ _
            apply wpAny_pure
            refine ⟨rfl, h', tk', rfl, hS', fun b o hb e => mv.heap b o ?_ (Heap.get?_push_of_some _ (Heap.get?_push_of_some _ e))⟩
            rw [pz]
            simp only [List.mem_cons, List.not_mem_nil, or_false, not_or]
            exact ⟨Nat.ne_of_lt hb, Nat.ne_of_lt (Nat.lt_succ_of_lt hb)⟩
      · intro r₂ q₂ hr₂
        cases r₂ with
        | error e => exact hr₂
        | ok fl₂ =>
          cases fl₂ with
          | ret r =>
            obtain ⟨rfl, h', tk, rfl, hS', hk'⟩ := hr₂
            repeat (any_goals (first | assumption | wp_step))
            exact fin _ _ hS' hk'
          | _ => exact hr₂.elim
    | _ => exact hr.elim
end
end DNT
namespace DN
open PySem PySem.Spec PyProof.Rows L2
variable [KSeq]
def rLenSet (K : PySem.W.Frag) : V → Hp → VK → Prop := fun x H Q => ∃ l, ∃ xs : List Str, x = .ref l ∧ (SqL K H l (xs.map V.str) ∨ SqT K H l (xs.map V.str)) ∧ xs.length ≤ 1000 ∧ Q (.int (DNT.cnt xs xs.length : Nat)) H
def lenSetS : List D → Option D
  | [.lst ds] => match joinS.strsOf ds with
    | some ys => if ys.length ≤ 1000 then some (.int (DNT.cnt ys ys.length : Nat)) else none
    | none => none
  | [.tup ds] => match joinS.strsOf ds with
    | some ys => if ys.length ≤ 1000 then some (.int (DNT.cnt ys ys.length : Nat)) else none
    | none => none
  | _ => none
section
variable {X : Cx} {N : List Str} {sc fs : Scope} {k : Nat} {mg : Str → Option Value} {W : WX} {a : Expr} {oa : Opd} {p p2 q pos : Pos} {ta : TE}
theorem pe_lset (hc : X.calm = true) (hg : Gl X "len") (hm : X.mg "len" = none) (hg2 : Gl X "set") (hm2 : X.mg "set" = none) (ha : PE X a ta) (na : notStar a = true) :
    PE X (.Call (.Name "len" p) [.Call (.Name "set" p2) [a] [] q] [] pos) (fun σ H Q => ta σ H fun x H1 => rLenSet X.K x H1 Q) := by
  constructor
  intro pins s σ H Q I h
  refine Call_ (ld_blt I hg hm boot_len (PyProof.Rows.callWith_builtin1 (PyProof.Rows.args_cons ?_ rfl) rfl rfl))
  refine Call_ (ld_blt I hg2 hm2 boot_set ?_)
  refine PyProof.Rows.callWith_type1 (PyProof.Rows.args_cons (thn (ha.run pins s σ H _ I h) ?_) (starEach_of na)) (starEach_of na) rfl
  rintro v s1 ⟨x, H1, I1, r1, l, xs, rfl, hq, h1, q1⟩
  cases r1
  apply PyProof.Rows.args_nil
  have fin : ∀ (its : List Value), Vals (xs.map V.str) its → ∀ (h' : Heap) (tk : Nat), h'.SetOf (PySem.strKind X.prog X.w) s1.heap.objs.size (DNT.inFirst xs its.toArray.size) (DNT.cnt xs its.toArray.size) → (∀ b o, b < s1.heap.objs.size → s1.heap.get? b = some o → h'.get? b = some o) →
      wpAny (model X.prog X.w) X.A (spliced (backTo pos (starEach [] X.env))) (fun vs s₂ => wpAny (model X.prog X.w) X.A (call (.builtin "len") (Value.ref s1.heap.objs.size :: vs)) (EP X pins σ Q) X.xe s₂) X.xe { s1 with heap := h', toks := tk } := by
    intro its r h' tk hS keep
    apply PyProof.Rows.args_nil
    have hl : its.toArray.size = xs.length := by rw [List.size_toArray, ← r.length, List.length_map]
    rw [hl] at hS
    obtain ⟨o, es, ep, t, ho, hex, hd, _, _, _, hf, hn⟩ := hS
    have I2 : L2.Inv X pins σ H1 { s1 with heap := h', toks := tk } := I1.kept fun b o e => keep b o (Heap.lt_size e) e
    have hle := DNT.cnt_le xs xs.length
    exact call_len_set ho hex hd hf (by rw [hn]; omega) ⟨.int (DNT.cnt xs xs.length : Nat), H1, I2.tok _, ⟨_, by rw [hn]⟩, q1⟩
  have small : xs.length + 1 < scanBound := by unfold scanBound; omega
  rcases hq with hq | hq
  · obtain ⟨its, r, pl, hz⟩ := I1.list hq
    exact DNT.set_texts (I1.ok.hd hc) (.inl pl.isList) (by simpa using strsAre_of r) small fun h' tk hS keep => fin its r h' tk hS keep
  · obtain ⟨its, r, pl, hz⟩ := I1.tuple hq
    exact DNT.set_texts (I1.ok.hd hc) (.inr pl) (by simpa using strsAre_of r) small fun h' tk hS keep => fin its r h' tk hS keep
theorem lenSet_ok {K : PySem.W.Frag} : OpS mg W (r1L (rLenSet K)) (sop lenSetS) := sop_ok fun vs ds d H rd e => by
  unfold lenSetS at e
  split at e
  · split at e
    · rename_i ys ey
      split at e
      · rename_i hz
        cases e
        obtain ⟨v, rfl, o⟩ := rd.one
        cases o with
        | lfz h1 h2 => exact ⟨_, rfl, fun Q q => ⟨_, ys, rfl, .inl (by rw [← strs_own h2 ey]; exact .of h1), hz, q⟩⟩
      · cases e
    · cases e
  · split at e
    · rename_i ys ey
      split at e
      · rename_i hz
        cases e
        obtain ⟨v, rfl, o⟩ := rd.one
        cases o with
        | tup h1 h2 => exact ⟨_, rfl, fun Q q => ⟨_, ys, rfl, .inr (by rw [← strs_own h2 ey]; exact .of h1), hz, q⟩⟩
      · cases e
    · cases e
  · cases e
theorem eLenSet (c : Cd X N sc fs k mg) (h : gnB sc "len" = true) (hm : mg "len" = none) (h2 : gnB sc "set" = true) (hm2 : mg "set" = none) (ha : OpdOk X mg W a oa) (hs : notStar a = true) : PE X (.Call (.Name "len" p) [.Call (.Name "set" p2) [a] [] q] [] pos) (tD mg W (opE [oa] (sop lenSetS))) := by
  obtain ⟨g1, _, _⟩ := gl_of c h
  obtain ⟨g2, _, _⟩ := gl_of c h2
  exact (pe_lset c.calm g1 (by rw [c.hm]; exact hm) g2 (by rw [c.hm]; exact hm2) (opd_pe ha) hs).imp fun σ H Q h => tOs_one (opE_of lenSet_ok h)
end
end DN

set_option Elab.async false
set_option linter.all false
set_option maxRecDepth 100000
set_option maxHeartbeats 4000000
/-! DN, part Gv: values frozen where they don't stand alike. -/
namespace DN
open PySem PySem.Spec PyProof.Rows L2
variable [KSeq]
def frzOpv : Opv → Opv
  | .v k d => .v (if d.imm = true then 9 else 0) d
  | .b i => .b i
def frzV (g : List Opv → M KD) (xs : List Opv) : M KD := fun ρ => match g xs ρ with
  | none => g (xs.map frzOpv) ρ
  | r => r
section
variable {X : Cx} {mg : Str → Option Value} {W : WX} {F H : Hp} {A B : List Addr} {ρ : En} {σ : L2.St}
theorem OpsR.frzV {S : List Addr} (e : Same F H) : ∀ {vs : List V} {xs : List Opv} {B : List Addr}, OpsR F H σ vs xs B → (∀ b ∈ B, b ∈ S) → OpsR (frz F H S) H σ vs (xs.map frzOpv) []
  | _, _, _, .nil, _ => .nil
  | _, _, _, .bor h r, w => .bor h (OpsR.frzV e r w)
  | _, _, _, .val (k := k) (d := d) (A := A1) h r, w => by
    have o2 := Own.freeze e _ _ _ _ h
    have o3 : Own (frz F H S) H 0 _ d [] := Own.carry (frz_mono e fun b hb => w b (List.mem_append_left _ hb)) d _ _ _ o2 (fun b hb => nomatch hb)
    have r2 := OpsR.frzV e r fun b hb => w b (List.mem_append_right _ hb)
    refine .val (A := []) (B := []) ?_ r2
    by_cases hd : d.imm = true
    · rw [if_pos hd]; exact o3.imm' hd 9 H
    · rw [if_neg hd]; exact o3
theorem fv_ok {r : List V → Hp → VK → Prop} {g : List Opv → M KD} (h : OpS mg W r g) : OpS mg W r (frzV g) := by
  intro F H A B σ ρ vs xs Q s o nd fr e
  cases eg : g xs ρ with
  | some r0 =>
    refine h F H A B σ ρ vs xs Q s o nd fr ?_
    unfold frzV at e
    rw [eg] at e ⊢
    exact e
  | none =>
  have e : End mg W F H (A ++ B) σ (g (xs.map frzOpv) ρ) rKD Q := by
    unfold frzV at e
    rw [eg] at e
    exact e
  have ap : ∀ b ∈ A, b ∉ B := fun b hb z => (List.nodup_append.mp nd).2.2 b hb b z rfl
  have sm : Same F (frz F H B) := frz_same s.sub
  have env : EnvR (frz F H B) H ρ σ A := EnvR.carry sm s.env fun _ _ => rfl
  have s' : StR (frz F H B) H ρ σ A := ⟨frz_sub s.sub, env, s.nd, fun b hb => (frz_out (ap b hb)).trans (s.fr b hb)⟩
  refine h (frz F H B) H A [] σ ρ vs _ Q s' (OpsR.frzV s.sub o fun b hb => hb) (by simpa using s.nd) (fun _ z => nomatch z) ?_
  rw [List.append_nil]
  refine End.later ⟨sm, fun b ob e _ _ => e, fun b ps e _ => ⟨ps, e⟩, fun b hb => .inl (List.mem_append_left _ hb), fun b ob e n => ?_⟩ e
  by_cases hb : b ∈ B
  · exact .inl (List.mem_append_right _ hb)
  · rw [frz_out hb, n] at e; cases e
end
section
variable {X : Cx} {mg : Str → Option Value} {W : WX} {es : List Expr} {os : List Opd} {pos : Pos}
theorem pe_lstV (h : Paired (OpdOk X mg W) es os) : PE X (.List es pos) (tD mg W (opE os (frzV dispL))) := (pe_lst (pa_of h)).imp fun _ _ _ h => opE_of (fv_ok dispL_ok) h
end
end DN

set_option Elab.async false
set_option linter.all false
set_option maxRecDepth 100000
set_option maxHeartbeats 4000000
/-! DN, part Zd: reasoning about readings. -/
namespace DN
open PySem PySem.Spec PyProof.Rows L2
variable [KSeq]
/-- the reading ends with a value, and Q holds of it -/
def WE {α : Type} (Q : α → En → Prop) : Option (Out α) → Prop
  | some (.ok a ρ) => Q a ρ
  | _ => False
def WS (Q : SO → Prop) : Option SO → Prop
  | some o => Q o
  | none => False
def WR (Q : Nat → D → List KD → Prop) : Option FR → Prop
  | some (.rt k d o) => Q k d o
  | _ => False
section
variable {α β : Type} {Q : α → En → Prop}
theorem WE.ok {a : α} {ρ : En} (h : Q a ρ) : WE Q (some (.ok a ρ)) := h
theorem WE.ret {a : α} {ρ : En} (h : Q a ρ) : WE Q (M.ret a ρ) := h
theorem WE.to {r : Option (Out α)} (h : WE Q r) : ∃ a ρ, r = some (.ok a ρ) ∧ Q a ρ := match r, h with
  | some (.ok a ρ), h => ⟨a, ρ, rfl, h⟩
theorem WE.of {r : Option (Out α)} {a : α} {ρ : En} (e : r = some (.ok a ρ)) (h : Q a ρ) : WE Q r := by rw [e]; exact h
theorem WE.mono {P : α → En → Prop} {r : Option (Out α)} (h : WE P r) (w : ∀ a ρ, P a ρ → Q a ρ) : WE Q r := match r, h with
  | some (.ok a ρ), h => w _ _ h
theorem WE.bnd {r : Option (Out β)} {g : β → M α} (h : WE (fun a ρ => WE Q (g a ρ)) r) : WE Q (bnd r g) := match r, h with
  | some (.ok a ρ), h => h
theorem WE.bind {f : M β} {g : β → M α} {ρ : En} (h : WE (fun a ρ => WE Q (g a ρ)) (f ρ)) : WE Q (M.bind f g ρ) := WE.bnd h
end
theorem WS.to {Q : SO → Prop} {r : Option SO} (h : WS Q r) : ∃ o, r = some o ∧ Q o := match r, h with
  | some o, h => ⟨o, rfl, h⟩
theorem WS.of {Q : SO → Prop} {r : Option SO} {o : SO} (e : r = some o) (h : Q o) : WS Q r := by rw [e]; exact h
theorem WS.mono {P Q : SO → Prop} {r : Option SO} (h : WS P r) (w : ∀ o, P o → Q o) : WS Q r := match r, h with
  | some o, h => w _ h
theorem WR.mono {P Q : Nat → D → List KD → Prop} {r : Option FR} (h : WR P r) (w : ∀ k d o, P k d o → Q k d o) : WR Q r := match r, h with
  | some (.rt k d o), h => w _ _ _ h
theorem WR.to {Q : Nat → D → List KD → Prop} {r : Option FR} (h : WR Q r) : ∃ k d o, r = some (.rt k d o) ∧ Q k d o := match r, h with
  | some (.rt k d o), h => ⟨k, d, o, rfl, h⟩
theorem WR.of {Q : Nat → D → List KD → Prop} {r : Option FR} {k : Nat} {d : D} {o : List KD} (e : r = some (.rt k d o)) (h : Q k d o) : WR Q r := by rw [e]; exact h
section
variable {Q : KD → En → Prop} {ρ : En}
theorem WE.cst {d : D} (h : Q (9, d) ρ) : WE Q (cst d ρ) := h
theorem WE.opE {os : List Opd} {g : List Opv → M KD} (h : WE (fun xs ρ1 => WE Q (g xs ρ1)) (evs os ρ)) : WE Q (opE os g ρ) := WE.bnd h
theorem WE.e0 {P : List Opv → En → Prop} (h : P [] ρ) : WE P (evs [] ρ) := h
theorem WE.eb {P : List Opv → En → Prop} {i : Nat} {r : List Opd} (hb : has ρ i = true) (h : WE (fun xs ρ1 => P (.b i :: xs) ρ1) (evs r ρ)) : WE P (evs (.b i :: r) ρ) := by
  unfold evs; rw [if_pos hb]; exact WE.bnd h
theorem WE.ev {P : List Opv → En → Prop} {f : M KD} {r : List Opd} (h : WE (fun kd ρ1 => WE (fun xs ρ2 => P (.v kd.1 kd.2 :: xs) ρ2) (evs r ρ1)) (f ρ)) : WE P (evs (.v f :: r) ρ) :=
  WE.bnd (h.mono fun _ _ h => WE.bnd h)
theorem WE.nameI {i k : Nat} {d : D} (e : ρ[i]? = some (some (k, d))) (im : d.imm = true) (q : Q (9, d) ρ) : WE Q (nameS i ρ) := by
  unfold nameS; rw [e]; show WE Q (if d.imm = true then _ else _); rw [if_pos im]; exact q
theorem WE.nameF {i k : Nat} {d : D} (e : ρ[i]? = some (some (k, d))) (im : d.imm = false) (q : Q (0, d) (ρ.set i (some (0, d)))) : WE Q (nameS i ρ) := by
  unfold nameS; rw [e]; show WE Q (if d.imm = true then _ else _); rw [im, if_neg Bool.false_ne_true]; exact q
theorem WE.movI {i k : Nat} {d : D} (e : ρ[i]? = some (some (k, d))) (im : d.imm = true) (q : Q (9, d) ρ) : WE Q (movS i ρ) := by
  unfold movS; rw [e]; show WE Q (if d.imm = true then _ else _); rw [if_pos im]; exact q
theorem WE.movF {i k : Nat} {d : D} (e : ρ[i]? = some (some (k, d))) (im : d.imm = false) (q : Q (k, d) (ρ.set i none)) : WE Q (movS i ρ) := by
  unfold movS; rw [e]; show WE Q (if d.imm = true then _ else _); rw [im, if_neg Bool.false_ne_true]; exact q
theorem WE.frzS {f : M KD} (h : WE (fun kd ρ1 => Q (if kd.2.imm = true then 9 else 0, kd.2) ρ1) (f ρ)) : WE Q (frzS f ρ) := WE.bind (h.mono fun _ _ h => h)
theorem WE.intS {f : M KD} (h : WE (fun kd ρ1 => ∃ i, kd.2 = .int i ∧ Q (9, .int i) ρ1) (f ρ)) : WE Q (intS f ρ) := WE.bind (h.mono fun kd _ h => by
  obtain ⟨i, e, q⟩ := h
  obtain ⟨k0, d0⟩ := kd
  obtain rfl := (e : d0 = .int i)
  exact q)
theorem WE.sop {h : List D → Option D} {xs : List Opv} {ds : List D} {d : D} (e1 : dsOf ρ xs = some ds) (e2 : h ds = some d) (q : Q (9, d) ρ) : WE Q (sop h xs ρ) := by
  unfold DN.sop; rw [e1]; show WE Q (match h ds with | some d => M.ret (9, d) ρ | none => none); rw [e2]; exact q
theorem WE.nop {h : List KD → Option KD} {xs : List Opv} {ds : List KD} {d : KD} (e1 : kdsOf ρ xs = some ds) (e2 : h ds = some d) (q : Q d ρ) : WE Q (nop h xs ρ) := by
  unfold DN.nop; rw [e1]; show WE Q (match h ds with | some d => M.ret d ρ | none => none); rw [e2]; exact q
theorem WE.idx {xs : List Opv} {ds : List KD} {d : KD} (e1 : kdsOf ρ xs = some ds) (e2 : idxK ds = some d) (q : Q d ρ) : WE Q (idxOp xs ρ) := WE.nop e1 e2 q
theorem WE.frz {g : List Opv → M KD} {xs : List Opv} (h : WE Q (g xs ρ)) : WE Q (frzOps g xs ρ) := by
  obtain ⟨a, ρ1, e, q⟩ := h.to
  unfold frzOps; rw [e]; exact q
theorem WE.frz2 {g : List Opv → M KD} {xs : List Opv} (e : g xs ρ = none) (h : WE Q (g xs (frzSlots xs ρ))) : WE Q (frzOps g xs ρ) := by
  unfold frzOps; rw [e]; exact h
theorem WE.boolM {P : Bool → En → Prop} {f : M KD} (h : WE (fun kd ρ1 => ∃ b, kd.2 = .bl b ∧ P b ρ1) (f ρ)) : WE P (boolM f ρ) := WE.bind (h.mono fun kd _ h => by
  obtain ⟨i, e, q⟩ := h
  obtain ⟨k0, d0⟩ := kd
  obtain rfl := (e : d0 = .bl i)
  exact q)
theorem WE.andM {P : Bool → En → Prop} {f g : M Bool} (h : WE (fun b ρ1 => (b = true → WE P (g ρ1)) ∧ (b = false → P false ρ1)) (f ρ)) : WE P (andM f g ρ) := WE.bind (h.mono fun b _ h => by
  cases b with
  | true => exact h.1 rfl
  | false => exact h.2 rfl)
theorem WE.orM {P : Bool → En → Prop} {f g : M Bool} (h : WE (fun b ρ1 => (b = true → P true ρ1) ∧ (b = false → WE P (g ρ1))) (f ρ)) : WE P (orM f g ρ) := WE.bind (h.mono fun b _ h => by
  cases b with
  | true => exact h.1 rfl
  | false => exact h.2 rfl)
theorem WE.notM {P : Bool → En → Prop} {f : M Bool} (h : WE (fun b ρ1 => P (!b) ρ1) (f ρ)) : WE P (notM f ρ) := WE.bind (h.mono fun b _ h => h)
theorem WE.valM {f : M Bool} (h : WE (fun b ρ1 => Q (9, .bl b) ρ1) (f ρ)) : WE Q (valM f ρ) := WE.bind (h.mono fun b _ h => h)
theorem WE.andV {f g : M KD} (h : WE (fun b ρ1 => (b = true → WE Q (g ρ1)) ∧ (b = false → Q (9, .bl false) ρ1)) (DN.boolM f ρ)) : WE Q (andV f g ρ) := WE.bind (h.mono fun b _ h => by
  cases b with
  | true => exact h.1 rfl
  | false => exact h.2 rfl)
theorem WE.orV {f g : M KD} (h : WE (fun b ρ1 => (b = true → Q (9, .bl true) ρ1) ∧ (b = false → WE Q (g ρ1))) (DN.boolM f ρ)) : WE Q (orV f g ρ) := WE.bind (h.mono fun b _ h => by
  cases b with
  | true => exact h.1 rfl
  | false => exact h.2 rfl)
theorem WE.notV {f : M KD} (h : WE (fun b ρ1 => Q (9, .bl (!b)) ρ1) (DN.boolM f ρ)) : WE Q (notV f ρ) := WE.bind (h.mono fun b _ h => h)
theorem WE.ifV {c : M Bool} {f g : M KD} (h : WE (fun b ρ1 => (b = true → WE Q (f ρ1)) ∧ (b = false → WE Q (g ρ1))) (c ρ)) : WE Q (ifV c f g ρ) := WE.bind (h.mono fun b _ h => by
  cases b with
  | true => exact h.1 rfl
  | false => exact h.2 rfl)
theorem WE.chainV {o o' : Ord4} {fa fb fc : M KD} (h : WE (fun a ρ1 => ∃ i, a.2 = .int i ∧ WE (fun b ρ2 => ∃ j, b.2 = .int j ∧ (o.i i j = true → WE (fun c ρ3 => ∃ l, c.2 = .int l ∧ Q (9, .bl (o'.i j l)) ρ3) (fc ρ2)) ∧ (o.i i j = false → Q (9, .bl false) ρ2)) (fb ρ1)) (fa ρ)) : WE Q (chainV o o' fa fb fc ρ) := by
  unfold DN.chainV
  refine WE.bind (WE.intS (h.mono fun a ρ1 h => ?_))
  obtain ⟨i, ea, h⟩ := h
  refine ⟨i, ea, WE.bind (WE.intS (h.mono fun b ρ2 h => ?_))⟩
  obtain ⟨j, eb, h1, h2⟩ := h
  refine ⟨j, eb, ?_⟩
  show WE Q ((if o.i i j = true then M.bind (DN.intS fc) fun c => (match c.2 with
      | .int l => M.ret (9, .bl (o'.i j l))
      | _ => M.fail) else M.ret (9, .bl false)) ρ2)
  cases e : o.i i j with
  | true =>
    rw [if_pos rfl]
    refine WE.bind (WE.intS ((h1 e).mono fun c ρ3 h => ?_))
    obtain ⟨l, ec, q⟩ := h
    exact ⟨l, ec, q⟩
  | false =>
    rw [if_neg Bool.false_ne_true]
    exact h2 e
theorem WE.call {ms : List Bool} {run : Fn} {xs : List Opv} {kds : List KD} {mi : List (Option Nat)} {ρ' : En} (h : prep ms xs ρ = some (kds, mi, [], ρ')) (r : WR (fun k d o => Q (k, d) (puts ρ' (zipO mi o))) (run kds)) : WE Q (callG ms run xs ρ) := by
  obtain ⟨k, d, o, e, q⟩ := r.to
  unfold callG
  rw [h]
  show WE Q (match run kds with
    | none => none
    | some (.rt k d outs) => if (d.cln k && outs.all fun o => o.2.cln o.1) = true then some (.ok (k, d) (puts ρ' (zipO mi outs ++ []))) else some (.ok (k, d) (puts ρ' (zipO mi outs ++ frz0 [])))
    | some (.ex x outs) => some (.ex x (puts ρ' (zipO mi outs ++ frz0 []))))
  rw [e]
  show WE Q (if (d.cln k && o.all fun o => o.2.cln o.1) = true then some (.ok (k, d) (puts ρ' (zipO mi o ++ []))) else some (.ok (k, d) (puts ρ' (zipO mi o ++ []))))
  rw [List.append_nil, ite_self]
  exact q
theorem WE.callC {ms : List Bool} {run : Fn} {xs : List Opv} {kds : List KD} {mi : List (Option Nat)} {vw : List (Nat × KD)} {ρ' : En} (h : prep ms xs ρ = some (kds, mi, vw, ρ')) (r : WR (fun k d o => (d.cln k && o.all fun o => o.2.cln o.1) = true ∧ Q (k, d) (puts ρ' (zipO mi o ++ vw))) (run kds)) : WE Q (callG ms run xs ρ) := by
  obtain ⟨k, d, o, e, c, q⟩ := r.to
  unfold callG
  rw [h]
  show WE Q (match run kds with
    | none => none
    | some (.rt k d outs) => if (d.cln k && outs.all fun o => o.2.cln o.1) = true then some (.ok (k, d) (puts ρ' (zipO mi outs ++ vw))) else some (.ok (k, d) (puts ρ' (zipO mi outs ++ frz0 vw)))
    | some (.ex x outs) => some (.ex x (puts ρ' (zipO mi outs ++ frz0 vw))))
  rw [e]
  show WE Q (if (d.cln k && o.all fun o => o.2.cln o.1) = true then some (.ok (k, d) (puts ρ' (zipO mi o ++ vw))) else some (.ok (k, d) (puts ρ' (zipO mi o ++ frz0 vw))))
  rw [if_pos c]
  exact q
theorem WE.callF {ms : List Bool} {run : Fn} {xs : List Opv} {kds : List KD} {mi : List (Option Nat)} {vw : List (Nat × KD)} {ρ' : En} (h : prep ms xs ρ = some (kds, mi, vw, ρ')) (r : WR (fun k d o => (d.cln k && o.all fun o => o.2.cln o.1) = false ∧ Q (k, d) (puts ρ' (zipO mi o ++ frz0 vw))) (run kds)) : WE Q (callG ms run xs ρ) := by
  obtain ⟨k, d, o, e, c, q⟩ := r.to
  unfold callG
  rw [h]
  show WE Q (match run kds with
    | none => none
    | some (.rt k d outs) => if (d.cln k && outs.all fun o => o.2.cln o.1) = true then some (.ok (k, d) (puts ρ' (zipO mi outs ++ vw))) else some (.ok (k, d) (puts ρ' (zipO mi outs ++ frz0 vw)))
    | some (.ex x outs) => some (.ex x (puts ρ' (zipO mi outs ++ frz0 vw))))
  rw [e]
  show WE Q (if (d.cln k && o.all fun o => o.2.cln o.1) = true then some (.ok (k, d) (puts ρ' (zipO mi o ++ vw))) else some (.ok (k, d) (puts ρ' (zipO mi o ++ frz0 vw))))
  rw [c, if_neg Bool.false_ne_true]
  exact q
theorem WE.mth {T : String} {o : Opd} {os : List Opd} {g : List Opv → M KD} (h : WE (fun xs ρ1 => ∃ kd, kdsOf ρ1 xs = some [kd] ∧ (kd.2.ty == T) = true ∧ WE (fun ys ρ2 => WE Q (g (xs ++ ys) ρ2)) (evs os ρ1)) (evs [o] ρ)) : WE Q (mthE T o os g ρ) := by
  unfold mthE
  refine WE.bnd (h.mono fun xs ρ1 h => ?_)
  obtain ⟨kd, e, t, h⟩ := h
  show WE Q (match kdsOf ρ1 xs with
    | some [kd] => if (kd.2.ty == T) = true then DN.bnd (evs os ρ1) fun ys => g (xs ++ ys) else none
    | _ => none)
  rw [e]
  show WE Q (if (kd.2.ty == T) = true then DN.bnd (evs os ρ1) fun ys => g (xs ++ ys) else none)
  rw [if_pos t]
  exact WE.bnd h
theorem WE.uniL {xs : List Opv} {q : Option Nat} {ds : List D} (e : uni xs = some (q, ds)) (l : ds.length ≤ lineN) (h : Q (uniK q + 1, .lst ds) ρ) : WE Q (dispL xs ρ) := by
  unfold dispL; rw [e]; show WE Q ((if ds.length ≤ lineN then M.ret (uniK q + 1, .lst ds) ρ else none)); rw [if_pos l]; exact h
theorem WE.uniT {xs : List Opv} {q : Option Nat} {ds : List D} (e : uni xs = some (q, ds)) (l : ds.length ≤ lineN) (h : Q (uniK q, .tup ds) ρ) : WE Q (dispT xs ρ) := by
  unfold dispT; rw [e]; show WE Q ((if ds.length ≤ lineN then M.ret (uniK q, .tup ds) ρ else none)); rw [if_pos l]; exact h
theorem WE.itsV {P : List KD → En → Prop} {f : M KD} (h : WE (fun kd ρ1 => (∃ ds, (kd.2 = .lst ds ∨ kd.2 = .tup ds ∨ kd.2 = .seq ds) ∧ P (ds.map kz) ρ1) ∨ ∃ x, kd.2 = .str x ∧ P (DN.signs x) ρ1) (f ρ)) : WE P (itsV f ρ) := by
  unfold DN.itsV
  refine WE.bind (WE.frzS (h.mono fun kd ρ1 h => ?_))
  rcases h with ⟨ds, e | e | e, h⟩ | ⟨x, e, h⟩ <;> (dsimp only; rw [e]; exact h)
theorem WE.itsR1 {P : List KD → En → Prop} {f : M KD} (h : WE (fun kd ρ1 => ∃ j, kd.2 = .int j ∧ small62 j = true ∧ P (rngI 0 j.toNat) ρ1) (f ρ)) : WE P (itsR1 f ρ) := by
  unfold DN.itsR1
  refine WE.bind (WE.intS (h.mono fun kd ρ1 h => ?_))
  obtain ⟨j, e, s, h⟩ := h
  refine ⟨j, e, ?_⟩
  show WE P ((if small62 j = true then M.ret (rngI 0 j.toNat) else M.fail) ρ1)
  rw [if_pos s]; exact h
end
section
variable {Q : SO → Prop} {ρ : En}
theorem WS.thenS {α : Type} {f : M α} {g : α → S} (h : WE (fun a ρ1 => WS Q (g a ρ1)) (f ρ)) : WS Q (thenS f g ρ) := by
  obtain ⟨a, ρ1, e, q⟩ := h.to
  unfold DN.thenS; rw [e]; exact q
/-- what a step does, then the next -/
def SqP (Q : SO → Prop) (g : S) : SO → Prop
  | .nx ρ1 => WS Q (g ρ1)
  | o => Q o
theorem WS.seq {f g : S} (h : WS (SqP Q g) (f ρ)) : WS Q (seqS f g ρ) := by
  obtain ⟨o, e, q⟩ := h.to
  unfold seqS; rw [e]
  cases o <;> exact q
theorem SqP.nx {g : S} {ρ1 : En} (h : WS Q (g ρ1)) : SqP Q g (.nx ρ1) := h
theorem SqP.rt {g : S} {k : Nat} {d : D} {ρ1 : En} (h : Q (.rt k d ρ1)) : SqP Q g (.rt k d ρ1) := h
theorem WS.skip (h : Q (.nx ρ)) : WS Q (skipS ρ) := h
theorem WS.brk (h : Q (.bk ρ)) : WS Q (brkS ρ) := h
theorem WS.cont (h : Q (.ct ρ)) : WS Q (contS ρ) := h
theorem WS.expr {f : M KD} (h : WE (fun _ ρ1 => Q (.nx ρ1)) (f ρ)) : WS Q (exprS f ρ) := WS.thenS (h.mono fun _ _ h => h)
theorem WS.retv {f : M KD} (h : WE (fun kd ρ1 => Q (.rt kd.1 kd.2 ρ1)) (f ρ)) : WS Q (retS f ρ) := WS.thenS (h.mono fun _ _ h => h)
theorem WS.retn (h : Q (.rt 9 .non ρ)) : WS Q (retN ρ) := h
theorem WS.ifS {c : M Bool} {f g : S} (h : WE (fun b ρ1 => (b = true → WS Q (f ρ1)) ∧ (b = false → WS Q (g ρ1))) (c ρ)) : WS Q (ifS c f g ρ) := WS.thenS (h.mono fun b _ h => by
  cases b with
  | true => exact h.1 rfl
  | false => exact h.2 rfl)
theorem WS.asg {t : Tg} {f : M KD} (h : WE (fun kd ρ1 => ∃ ρ2, asgT t kd.1 kd.2 ρ1 = some ρ2 ∧ Q (.nx ρ2)) (f ρ)) : WS Q (asgS t f ρ) := WS.thenS (h.mono fun kd ρ1 h => by
  obtain ⟨ρ2, e, q⟩ := h
  show WS Q (match asgT t kd.1 kd.2 ρ1 with | some ρ' => some (.nx ρ') | none => none)
  rw [e]; exact q)
theorem WS.par {is : List Nat} {os : List Opd} (h : WE (fun xs ρ1 => ∃ ρ2, parT is xs ρ1 = some ρ2 ∧ Q (.nx ρ2)) (evs os ρ)) : WS Q (parS is os ρ) := WS.thenS (h.mono fun xs ρ1 h => by
  obtain ⟨ρ2, e, q⟩ := h
  show WS Q (match parT is xs ρ1 with | some ρ' => some (.nx ρ') | none => none)
  rw [e]; exact q)
theorem WS.forS {it : M (List KD)} {t : Tg} {body : S} (h : WE (fun ds ρ1 => WS Q (forL t body ds ρ1)) (it ρ)) : WS Q (forS it t body ρ) := WS.thenS h
theorem WS.env {f : S} {ρ1 : En} (e : ρ = ρ1) (h : WS Q (f ρ1)) : WS Q (f ρ) := e ▸ h
theorem WE.env {α : Type} {f : M α} {P : α → En → Prop} {ρ1 : En} (e : ρ = ρ1) (h : WE P (f ρ1)) : WE P (f ρ) := e ▸ h
/-- a loop that goes through: the invariant counts what is left -/
theorem WS.forL {t : Tg} {body : S} (I : List KD → En → Prop) : ∀ (ds : List KD) {ρ : En}, I ds ρ → (∀ kd r ρ, I (kd :: r) ρ → ∃ ρ1, asgT t kd.1 kd.2 ρ = some ρ1 ∧ WS (fun o => match o with | .nx ρ2 => I r ρ2 | .ct ρ2 => I r ρ2 | .bk ρ2 => Q (.nx ρ2) | .rt k d ρ2 => Q (.rt k d ρ2) | .ex x ρ2 => Q (.ex x ρ2)) (body ρ1)) → (∀ ρ, I [] ρ → Q (.nx ρ)) → WS Q (forL t body ds ρ)
  | [], ρ, h, _, e => e ρ h
  | kd :: r, ρ, h, w, e => by
    obtain ⟨ρ1, e1, h1⟩ := w kd r ρ h
    obtain ⟨o, e2, q⟩ := h1.to
    unfold DN.forL
    rw [e1]
    show WS Q (match body ρ1 with | some (.nx ρ2) => DN.forL t body r ρ2 | some (.ct ρ2) => DN.forL t body r ρ2 | some (.bk ρ2) => some (.nx ρ2) | x => x)
    rw [e2]
    cases o with
    | nx ρ2 => exact WS.forL I r q w e
    | ct ρ2 => exact WS.forL I r q w e
    | bk ρ2 => exact q
    | rt k d ρ2 => exact q
    | ex x ρ2 => exact q
theorem WS.forH {i : Nat} {t : Tg} {body : S} {k : Nat} {ds : List D} (e : ρ[i]? = some (some (k + 1, .lst ds))) (im : D.immAll ds = true) (h : WS (fun o => ∃ o', restS i (some (k + 1, .lst ds)) (some o) = some o' ∧ Q o') (DN.forL t body (ds.map fun d => (9, d)) (ρ.set i none))) : WS Q (forH i t body ρ) := by
  obtain ⟨o, e1, o', e2, q⟩ := h.to
  unfold DN.forH
  rw [e]
  show WS Q (match k + 1, kidItems (.lst ds) with | k + 1, some ds' => restS i (some (k + 1, .lst ds)) (DN.forL t body ds' (ρ.set i none)) | _, _ => DN.forS (DN.itsV (nameS i)) t body ρ)
  have e3 : kidItems (.lst ds) = some (ds.map fun d => (9, d)) := if_pos im
  rw [e3]
  show WS Q (restS i (some (k + 1, .lst ds)) (DN.forL t body (ds.map fun d => (9, d)) (ρ.set i none)))
  rw [e1, e2]; exact q
theorem WS.forH0 {i : Nat} {t : Tg} {body : S} {k : Nat} {d : D} (e : ρ[i]? = some (some (k, d))) (n : k = 0 ∨ kidItems d = none) (h : WS Q (DN.forS (DN.itsV (nameS i)) t body ρ)) : WS Q (DN.forH i t body ρ) := by
  unfold DN.forH
  rw [e]
  dsimp only
  cases k with
  | zero => exact h
  | succ m =>
    have n : kidItems d = none := n.resolve_left (by omega)
    rw [n]
    exact h
end
theorem WR.run {Q : Nat → D → List KD → Prop} {n : Nat} {ms : List Bool} {body : S} {kds : List KD} (h : WS (fun o => match o with
    | .nx ρ => ∃ o, outsOf ρ (mIdx 0 ms) = some o ∧ Q 9 .non o
    | .rt k d ρ => ∃ o, outsOf ρ (mIdx 0 ms) = some o ∧ Q k d o
    | _ => False) (body (envOf n kds))) : WR Q (runS n ms body kds) := by
  obtain ⟨o, e, q⟩ := h.to
  unfold runS
  rw [e]
  cases o with
  | nx ρ => obtain ⟨o, e1, q⟩ := q; show WR Q (match outsOf ρ (mIdx 0 ms) with | some o => some (.rt 9 .non o) | none => none); rw [e1]; exact q
  | rt k d ρ => obtain ⟨o, e1, q⟩ := q; show WR Q (match outsOf ρ (mIdx 0 ms) with | some o => some (.rt k d o) | none => none); rw [e1]; exact q
  | bk ρ => exact q.elim
  | ct ρ => exact q.elim
  | ex x ρ => exact q.elim
/-! ### list comprehensions -/
theorem WE.lcL {Q : KD → En → Prop} {t : Tg} {c : M Bool} {el : M KD} {vs : List Nat} (I : List KD → Nat → List D → En → Prop) : ∀ (ds : List KD) {k : Nat} {acc : List D} {ρ : En}, I ds k acc ρ → (∀ kd r k acc ρ, I (kd :: r) k acc ρ → ∃ ρ1, asgT t kd.1 kd.2 ρ = some ρ1 ∧ WE (fun b ρ2 => (b = true → WE (fun x ρ3 => acc.length < lineN ∧ ∃ k', joinLv k (D.immAll acc) x.1 x.2 = some k' ∧ I r k' (acc ++ [x.2]) (wipeE ρ3 vs)) (el ρ2)) ∧ (b = false → I r k acc (wipeE ρ2 vs))) (c ρ1)) → (∀ k acc ρ, I [] k acc ρ → Q (k + 1, .lst acc) ρ) → WE Q (lcL t c el vs ds k acc ρ)
  | [], k, acc, ρ, h, _, e => e _ _ _ h
  | kd :: r, k, acc, ρ, h, w, e => by
    obtain ⟨ρ1, e1, h1⟩ := w kd r k acc ρ h
    obtain ⟨b, ρ2, e2, q⟩ := h1.to
    unfold DN.lcL
    rw [e1]
    dsimp only
    rw [e2]
    cases b with
    | false => exact WE.lcL I r (q.2 rfl) w e
    | true =>
      obtain ⟨x, ρ3, e3, l, k', e4, q⟩ := (q.1 rfl).to
      dsimp only
      rw [e3]
      obtain ⟨ke, d⟩ := x
      dsimp only at e4 q ⊢
      rw [if_pos l, e4]
      exact WE.lcL I r q w e
theorem WE.lcS {Q : KD → En → Prop} {it : M (List KD)} {t : Tg} {c : M Bool} {el : M KD} {vs : List Nat} {ρ : En} (h : WE (fun ds ρ1 => WE (fun kd ρ' => Q kd (unwipe ρ' ρ1 vs)) (DN.lcL t c el vs ds 8 [] (wipeE ρ1 vs))) (it ρ)) : WE Q (lcS it t c el vs ρ) := WE.bind (h.mono fun ds ρ1 h => by
  obtain ⟨kd, ρ', e, q⟩ := h.to
  rw [e]; exact q)
/-! ### pops, appends, stores on names -/
section
variable {Q : KD → En → Prop} {ρ : En}
theorem WE.app {i k kv k' : Nat} {dv : D} {ds : List D} (e : ρ[i]? = some (some (k + 1, .lst ds))) (l : ds.length < lineN) (j : joinLv k (D.immAll ds) kv dv = some k') (q : Q (9, .non) (ρ.set i (some (k' + 1, .lst (ds ++ [dv]))))) : WE Q (appG [.b i, .v kv dv] ρ) := by
  unfold appG; dsimp only; rw [e]; dsimp only; rw [if_pos l, j]; exact q
theorem WE.popAt {s k kk : Nat} {i : Int} {ds : List D} {j : Nat} {d : D} (e : ρ[s]? = some (some (k + 1, .lst ds))) (e2 : ixN ds.length i = some j) (e3 : ds[j]? = some d) (b : (decide (-(9223372036854775808 : Int) ≤ i) && decide (i < 9223372036854775808)) = true) (q : Q (if d.imm = true then 9 else k, d) (ρ.set s (some (k + 1, .lst (ds.eraseIdx j))))) : WE Q (popAtG [.b s, .v kk (.int i)] ρ) := by
  unfold popAtG; dsimp only; rw [e]; dsimp only; rw [e2]; dsimp only; rw [e3]; dsimp only; rw [if_pos b]; exact q
theorem WE.setD {s k kv kk k' : Nat} {dv y : D} {kvs : List (DK × D)} {q0 : DK} (e : ρ[s]? = some (some (k + 1, .dct kvs))) (ek : y.key = some q0) (hk : (kindOk kvs q0 && decide (kvs.length < lineN)) = true) (j : joinLv k (immKs kvs) kv dv = some k') (q : Q (9, .non) (ρ.set s (some (k' + 1, .dct (putD kvs q0 dv))))) : WE Q (setG [.v kv dv, .b s, .v kk y] ρ) := by
  unfold setG; dsimp only; rw [e]; dsimp only; rw [ek]; dsimp only; rw [if_pos hk, j]; exact q
theorem WE.setL {s k kv kk k' : Nat} {dv : D} {i : Int} {ds : List D} {n : Nat} (e : ρ[s]? = some (some (k + 1, .lst ds))) (ek : ixN ds.length i = some n) (j : joinLv k (D.immAll ds) kv dv = some k') (q : Q (9, .non) (ρ.set s (some (k' + 1, .lst (ds.set n dv))))) : WE Q (setG [.v kv dv, .b s, .v kk (.int i)] ρ) := by
  unfold setG; dsimp only; rw [e]; dsimp only; rw [ek]; dsimp only; rw [j]; exact q
end
end DN

set_option Elab.async false
set_option linter.all false
set_option maxRecDepth 100000
set_option maxHeartbeats 4000000
/-! DN, part Ze: reasoning about readings: steps. -/
namespace DN
open PySem PySem.Spec PyProof.Rows L2
variable [KSeq]
/-- how a def's reading ends -/
def RnP (Q : Nat → D → List KD → Prop) (ms : List Bool) : SO → Prop
  | .nx ρ => ∃ o, outsOf ρ (mIdx 0 ms) = some o ∧ Q 9 .non o
  | .rt k d ρ => ∃ o, outsOf ρ (mIdx 0 ms) = some o ∧ Q k d o
  | _ => False
theorem WR.fn {Q : Nat → D → List KD → Prop} {n : Nat} {ms : List Bool} {body : S} {kds : List KD} {ρ : En} (e : envOf n kds = ρ) (h : WS (RnP Q ms) (body ρ)) : WR Q (runS n ms body kds) := by
  subst e
  exact WR.run (h.mono fun o h => by cases o <;> exact h)
theorem RnP.rt {Q : Nat → D → List KD → Prop} {ms : List Bool} {k : Nat} {d : D} {ρ : En} {o : List KD} (e : outsOf ρ (mIdx 0 ms) = some o) (q : Q k d o) : RnP Q ms (.rt k d ρ) := ⟨o, e, q⟩
theorem RnP.nx {Q : Nat → D → List KD → Prop} {ms : List Bool} {ρ : En} {o : List KD} (e : outsOf ρ (mIdx 0 ms) = some o) (q : Q 9 .non o) : RnP Q ms (.nx ρ) := ⟨o, e, q⟩
def LpP (Q : SO → Prop) (I : List KD → En → Prop) (r : List KD) : SO → Prop
  | .nx ρ2 => I r ρ2
  | .ct ρ2 => I r ρ2
  | .bk ρ2 => Q (.nx ρ2)
  | .rt k d ρ2 => Q (.rt k d ρ2)
  | .ex x ρ2 => Q (.ex x ρ2)
theorem LpP.nx {Q : SO → Prop} {I : List KD → En → Prop} {r : List KD} {ρ : En} (h : I r ρ) : LpP Q I r (.nx ρ) := h
theorem LpP.rt {Q : SO → Prop} {I : List KD → En → Prop} {r : List KD} {k : Nat} {d : D} {ρ : En} (h : Q (.rt k d ρ)) : LpP Q I r (.rt k d ρ) := h
theorem WS.loop {Q : SO → Prop} {t : Tg} {body : S} (I : List KD → En → Prop) {ds : List KD} {ρ : En} (h : I ds ρ) (w : ∀ kd r ρ, I (kd :: r) ρ → ∃ ρ1, asgT t kd.1 kd.2 ρ = some ρ1 ∧ WS (LpP Q I r) (body ρ1)) (e : ∀ ρ, I [] ρ → Q (.nx ρ)) : WS Q (DN.forL t body ds ρ) :=
  WS.forL I ds h (fun kd r ρ h => by
    obtain ⟨ρ1, e1, h1⟩ := w kd r ρ h
    exact ⟨ρ1, e1, h1.mono fun o h => by cases o <;> exact h⟩) e
theorem WS.asgN {Q : SO → Prop} {i : Nat} {f : M KD} {ρ : En} (h : WE (fun kd ρ1 => i < ρ1.length ∧ Q (.nx (ρ1.set i (some kd)))) (f ρ)) : WS Q (asgS (.n i) f ρ) := WS.asg (h.mono fun kd ρ1 h => by
  refine ⟨_, ?_, h.2⟩
  unfold asgT
  rw [if_pos h.1])
theorem AsgN {Q : SO → Prop} {i k : Nat} {d : D} {ρ : En} (l : i < ρ.length) (q : Q (.nx (ρ.set i (some (k, d))))) : ∃ ρ2, asgT (.n i) k d ρ = some ρ2 ∧ Q (.nx ρ2) := ⟨_, by unfold asgT; rw [if_pos l], q⟩
theorem asgN_to {i k : Nat} {d : D} {ρ : En} (l : i < ρ.length) : asgT (.n i) k d ρ = some (ρ.set i (some (k, d))) := by unfold asgT; rw [if_pos l]
theorem WE.e0' {P : List Opv → En → Prop} {ρ : En} (h : P [] ρ) : WE P (evs [] ρ) := h
/-! ### what operations say -/
theorem lenS_lst (ds : List D) : lenS [.lst ds] = some (.int ds.length) := rfl
theorem lenS_tup (ds : List D) : lenS [.tup ds] = some (.int ds.length) := rfl
theorem lenS_seq (ds : List D) : lenS [.seq ds] = some (.int ds.length) := rfl
theorem lenS_str {x : Str} (h : x.length ≤ lineN) : lenS [.str x] = some (.int x.length) := if_pos h
theorem eqS_int (a b : Int) (n : Bool) : eqS n [.int a, .int b] = some (.bl (n ^^ (a == b))) := by
  simp [eqS, eqD, D.py, SeqAt.shaped, PyData.eqv, PyData.canLay0, PyData.depth]
theorem ordS_int (o : Ord4) (a b : Int) : ordS o [.int a, .int b] = some (.bl (o.i a b)) := rfl
theorem addK_int (k j : Nat) (a b : Int) : addK [(k, .int a), (j, .int b)] = some (9, .int (a + b)) := rfl
theorem subD_int (a b : Int) : subD [.int a, .int b] = some (.int (a - b)) := rfl
theorem modD_int {a b : Int} (h : b ≠ 0) : modD [.int a, .int b] = some (.int (a.fmod b)) := if_pos h
theorem fdivD_int {a b : Int} (h : b ≠ 0) (l : b.natAbs < 1073741824) : fdivD [.int a, .int b] = some (.int (a.fdiv b)) := if_pos (by rw [decide_eq_true h, decide_eq_true l]; rfl)
theorem mulK_int {k j : Nat} {a b : Int} (h : (decide (a.natAbs < 18446744073709551616) || decide (b.natAbs < 18446744073709551616)) = true) : mulK [(k, .int a), (j, .int b)] = some (9, .int (a * b)) := if_pos h
theorem mulK_intR {k j : Nat} {a b : Int} (h : b.natAbs < 18446744073709551616) : mulK [(k, .int a), (j, .int b)] = some (9, .int (a * b)) := mulK_int (by rw [decide_eq_true h, Bool.or_true])
theorem mulK_intL {k j : Nat} {a b : Int} (h : a.natAbs < 18446744073709551616) : mulK [(k, .int a), (j, .int b)] = some (9, .int (a * b)) := mulK_int (by rw [decide_eq_true h, Bool.true_or])
theorem powD_int {a b : Int} (h0 : 0 ≤ b) (h1 : b ≤ 1000000) (h2 : a.natAbs < 18446744073709551616) : powD [.int a, .int b] = some (.int (a ^ b.toNat)) := if_pos (by rw [decide_eq_true h0, decide_eq_true h1, decide_eq_true h2]; rfl)
theorem addK_str {k j : Nat} {x y : Str} (h : x.length + y.length ≤ lineN) : addK [(k, .str x), (j, .str y)] = some (9, .str (x ++ y)) := if_pos h
theorem idxK_lstI {k j : Nat} {ds : List D} {i : Int} {d : D} (e : atI ds i = some d) (im : d.imm = true) : idxK [(k, .lst ds), (j, .int i)] = some (9, d) := by
  unfold idxK; dsimp only; rw [e]; dsimp only; rw [if_pos im]
theorem idxK_tupI {k j : Nat} {ds : List D} {i : Int} {d : D} (e : atI ds i = some d) (im : d.imm = true) : idxK [(k, .tup ds), (j, .int i)] = some (9, d) := by
  unfold idxK; dsimp only; rw [e]; dsimp only; rw [if_pos im]
theorem idxK_tup0 {j : Nat} {ds : List D} {i : Int} {d : D} (e : atI ds i = some d) : idxK [(0, .tup ds), (j, .int i)] = some (kz d) := by
  unfold idxK kz; dsimp only; rw [e]; dsimp only
  split <;> rfl
theorem slHi_tupI {k j : Nat} {ds : List D} {i : Int} (im : D.immAll ds = true) : slHi [(k, .tup ds), (j, .int i)] = some (kT (cutD ds none (some i)), .tup (cutD ds none (some i))) := by
  show (if kids0 k ds = true then _ else _) = _
  rw [if_pos]
  unfold kids0; rw [im]; rfl
theorem immAll_map {α : Type} (f : α → D) (h : ∀ a, (f a).imm = true) : ∀ l : List α, D.immAll (l.map f) = true
  | [] => rfl
  | a :: r => by rw [List.map_cons, D.immAll, h a, immAll_map f h r]; rfl
theorem immAll_mem : ∀ {l : List D}, (∀ d ∈ l, d.imm = true) → D.immAll l = true
  | [], _ => rfl
  | a :: r, h => by rw [D.immAll, h a List.mem_cons_self, immAll_mem fun d hd => h d (List.mem_cons_of_mem _ hd)]; rfl
theorem mem_imm : ∀ {l : List D}, D.immAll l = true → ∀ d ∈ l, d.imm = true
  | a :: r, h, d, hd => by
    rw [D.immAll, Bool.and_eq_true] at h
    rcases List.mem_cons.mp hd with rfl | hd
    · exact h.1
    · exact mem_imm h.2 d hd
theorem immAll_append : ∀ {l m : List D}, D.immAll l = true → D.immAll m = true → D.immAll (l ++ m) = true := fun h1 h2 => immAll_mem fun d hd => by
  rcases List.mem_append.mp hd with hd | hd
  · exact mem_imm h1 d hd
  · exact mem_imm h2 d hd
end DN

set_option Elab.async false
set_option linter.all false
set_option maxRecDepth 100000
set_option maxHeartbeats 4000000
/-! DN, part Zf: reasoning about readings: the bag of drawn numbers. -/
namespace DN
open PySem PySem.Spec PyProof.Rows L2
variable [KSeq]
theorem WE.pth {Q : KD → En → Prop} {ρ ρ0 : En} {T : D → Bool} {i : Nat} {fk : M KD} {os : List Opd} {g : List Opv → M KD} {xs0 : List Opv} {y kd kc : KD} (hb : has ρ i = true) (hf : fk ρ = some (.ok y ρ0)) (hy : y.2.imm = true) (e0 : ρ0[i]? = some (some kd)) (ek : kidAt kd y.2 = some kc) (tt : T kc.2 = true)
    (h : WE (fun xs ρ1 => WE (fun r ρ2 => ∃ kc' kd', slotE ρ2 ρ1.length = some kc' ∧ kidPut kd y.2 kc' = some kd' ∧ Q r ((ρ2.take ρ1.length).set i (some kd'))) (g (xs0 ++ .b ρ1.length :: xs) (ρ1 ++ [some kc]))) (evs os (ρ0.set i none))) : WE Q (pthG T i fk os g xs0 ρ) := by
  obtain ⟨xs, ρ1, e1, h⟩ := h.to
  obtain ⟨r, ρ2, e2, kc', kd', e3, e4, q⟩ := h.to
  unfold pthG
  rw [if_pos hb, hf]
  dsimp only [DN.bnd]
  rw [if_pos hy, e0]
  dsimp only
  rw [ek]
  dsimp only
  rw [if_pos tt, e1]
  dsimp only [DN.bnd]
  rw [e2]
  dsimp only
  rw [e3]
  dsimp only
  rw [e4]
  exact q
theorem WS.forP {Q : SO → Prop} {ρ ρ0 : En} {i : Nat} {fk : M KD} {t : Tg} {body : S} {kd : KD} {ds : List KD} (e : pthItems i fk ρ = some (kd, ds, ρ0)) (h : WS (fun o => ∃ o', restS i (some kd) (some o) = some o' ∧ Q o') (DN.forL t body ds (ρ0.set i none))) : WS Q (DN.forP i fk t body ρ) := by
  obtain ⟨o, e1, o', e2, q⟩ := h.to
  unfold DN.forP
  rw [e]
  dsimp only
  rw [e1, e2]; exact q
/-! ### numbers as data -/
theorem imm_ints (ws : List Int) : D.immAll (ws.map .int) = true := immAll_map _ (fun _ => rfl) _
theorem pyAll_ints : ∀ ws : List Int, D.pyAll (ws.map .int) = some (ws.map .int)
  | [] => rfl
  | a :: r => by rw [List.map_cons, D.pyAll, pyAll_ints r]; rfl
theorem lay_ints : ∀ ws : List Int, PyData.canLayAll0 (ws.map .int) = true
  | [] => by simp [PyData.canLayAll0]
  | a :: r => by rw [List.map_cons, PyData.canLayAll0, lay_ints r]; simp [PyData.canLay0]
theorem dep_ints : ∀ ws : List Int, PyData.depthAll (ws.map .int) = 0
  | [] => by simp [PyData.depthAll]
  | a :: r => by rw [List.map_cons, PyData.depthAll, dep_ints r]; simp [PyData.depth]
theorem shaped_lst {ps : List PyData} (h1 : PyData.canLayAll0 ps = true) (h2 : PyData.depthAll ps ≤ 63) : SeqAt.shaped (.list ps) = true := by
  unfold SeqAt.shaped
  rw [Bool.and_eq_true, decide_eq_true_eq]
  refine ⟨by simpa [PyData.canLay0] using h1, ?_⟩
  simp only [PyData.depth]; omega
theorem shaped_tup {ps : List PyData} (h1 : PyData.canLayAll0 ps = true) (h2 : PyData.depthAll ps ≤ 63) : SeqAt.shaped (.tuple ps) = true := by
  unfold SeqAt.shaped
  rw [Bool.and_eq_true, decide_eq_true_eq]
  refine ⟨by simpa [PyData.canLay0] using h1, ?_⟩
  simp only [PyData.depth]; omega
theorem eqS_of {d e : D} {p q : PyData} {n : Bool} (h1 : d.py = some p) (h2 : e.py = some q) (s1 : SeqAt.shaped p = true) (s2 : SeqAt.shaped q = true) : eqS n [d, e] = some (.bl (n ^^ PyData.eqv p q)) := by
  have : eqD d e = some (PyData.eqv p q) := by
    unfold eqD
    rw [h1, h2]
    dsimp only
    rw [s1, s2]; rfl
  unfold eqS
  dsimp only
  rw [this]
theorem eqS_nil {ds : List D} {ps : List PyData} (e : D.pyAll ds = some ps) (h1 : PyData.canLayAll0 ps = true) (h2 : PyData.depthAll ps ≤ 63) (n : Bool) : eqS n [.lst ds, .lst []] = some (.bl (n ^^ ds.isEmpty)) := by
  have e1 : D.py (.lst ds) = some (.list ps) := by rw [D.py, e]
  have e2 : D.py (.lst []) = some (.list []) := rfl
  have e3 : SeqAt.shaped (.list []) = true := by decide
  have e4 : PyData.eqv (.list ps) (.list []) = ds.isEmpty := by
    cases ds with
    | nil => cases e; simp [PyData.eqv, PyData.eqvAll]
    | cons a r =>
      rw [D.pyAll] at e
      split at e
      · cases e; simp [PyData.eqv, PyData.eqvAll]
      · cases e
  rw [eqS_of e1 e2 (shaped_lst h1 h2) e3, e4]
theorem eqS_ints_nil (ws : List Int) (n : Bool) : eqS n [.lst (ws.map .int), .lst []] = some (.bl (n ^^ ws.isEmpty)) := by
  rw [eqS_nil (pyAll_ints ws) (lay_ints ws) (by rw [dep_ints]; omega), List.isEmpty_map]
/-! ### the bag -/
structure Bag where
  w : List Int
  c : List Int
  r : Int
  t : Int
def Bag.d (s : Bag) : D := .dct [(.k (.inr "wide"), .lst (s.w.map .int)), (.k (.inr "cells"), .lst (s.c.map .int)), (.k (.inr "rest"), .int s.r), (.k (.inr "turn"), .int s.t)]
/-- B numbers may yet be mixed -/
def Bag.Ok (s : Bag) (B : Nat) : Prop := 0 ≤ s.t ∧ (s.c ≠ [] ∨ s.t + (B : Int) ≤ 1000000000000)
theorem Bag.Ok.mono {s : Bag} {B C : Nat} (h : s.Ok B) (l : C ≤ B) : s.Ok C := ⟨h.1, h.2.imp id fun h => by omega⟩
theorem clnAll_ints : ∀ (k : Nat) (ws : List Int), D.clnAll k (ws.map .int) = true := fun k ws => D.clnAll_of_imm _ k (imm_ints ws)
theorem Bag.cln (s : Bag) : s.d.cln 10 = true := by
  unfold Bag.d
  simp [D.cln, D.clnKs, clnAll_ints]
theorem Bag.immN (s : Bag) : s.d.imm = false := rfl
theorem Bag.items (s : Bag) : kidItems (.lst (s.c.map .int)) = some ((s.c.map .int).map fun d => (9, d)) := if_pos (imm_ints s.c)
section
variable {Q : KD → En → Prop} {ρ : En} {s : Bag} {i k k2 : Nat} {v : Int}
theorem setG_dct {kk : Nat} {kvs : List (DK × D)} {q0 : DK} {y dv : D} {kv : Nat} (e : ρ[i]? = some (some (kk + 1, .dct kvs))) (ek : y.key = some q0) (hk : (kindOk kvs q0 && decide (kvs.length < lineN)) = true) (im : dv.imm = true) : setG [.v kv dv, .b i, .v k2 y] ρ = some (.ok (9, .non) (ρ.set i (some (kk + 1, .dct (putD kvs q0 dv))))) := by
  unfold setG; dsimp only; rw [e]; dsimp only; rw [ek]; dsimp only; rw [if_pos hk]
  have : joinLv kk (immKs kvs) kv dv = some kk := by unfold joinLv; rw [if_pos im]
  rw [this]; rfl
theorem WE.setTurn (e : ρ[i]? = some (some (10, s.d))) (q : Q (9, .non) (ρ.set i (some (10, Bag.d { s with t := v })))) : WE Q (setG [.v k (.int v), .b i, .v k2 (.str (Str.ofString "turn"))] ρ) := by
  have := setG_dct (k2 := k2) (kv := k) (dv := .int v) (y := .str (Str.ofString "turn")) (q0 := .k (.inr "turn")) (kk := 9) e rfl rfl rfl
  exact WE.of this q
theorem WE.setRest (e : ρ[i]? = some (some (10, s.d))) (q : Q (9, .non) (ρ.set i (some (10, Bag.d { s with r := v })))) : WE Q (setG [.v k (.int v), .b i, .v k2 (.str (Str.ofString "rest"))] ρ) := by
  have := setG_dct (k2 := k2) (kv := k) (dv := .int v) (y := .str (Str.ofString "rest")) (q0 := .k (.inr "rest")) (kk := 9) e rfl rfl rfl
  exact WE.of this q
end
theorem pth_cells {ρ : En} {i : Nat} {s : Bag} (e : ρ[i]? = some (some (10, s.d))) : pthItems i (cst (.str (Str.ofString "cells"))) ρ = some ((10, s.d), (s.c.map .int).map fun d => (9, d), ρ) := by
  have hb : has ρ i = true := by unfold has; rw [e]
  have ek : kidAt (10, s.d) (.str (Str.ofString "cells")) = some (9, .lst (s.c.map .int)) := rfl
  unfold pthItems
  rw [if_pos hb]
  dsimp only [cst, M.ret]
  rw [if_pos (show (D.str (Str.ofString "cells")).imm = true from rfl), e]
  dsimp only
  rw [ek]
  dsimp only
  rw [s.items]
theorem ixN_zero (ds : List Int) (a : Int) : ixN (List.map D.int (a :: ds)).length 0 = some 0 := by
  simp [ixN]
theorem Bag.cln1 (s : Bag) (k : Nat) (d : D) (h : d.imm = true) : (d.cln k && [((10 : Nat), s.d)].all fun o => o.2.cln o.1) = true := by
  simp [s.cln, D.cln_of_imm _ _ h]
theorem kz_str (x : Str) : kz (.str x) = (9, .str x) := rfl
theorem kz_int (x : Int) : kz (.int x) = (9, .int x) := rfl
theorem imm_tup {ds : List D} (h : D.immAll ds = true) : (D.tup ds).imm = true := h
theorem immAll_cons {d : D} {ds : List D} (h1 : d.imm = true) (h2 : D.immAll ds = true) : D.immAll (d :: ds) = true := by rw [D.immAll, h1, h2]; rfl
theorem uni_nil : uni [] = some (none, []) := rfl
theorem uni_I {k : Nat} {d : D} {r : List Opv} {q : Option Nat} {ds : List D} (im : d.imm = true) (h : uni r = some (q, ds)) : uni (.v k d :: r) = some (q, d :: ds) := by
  unfold uni; rw [h]; dsimp only; rw [if_pos im]
theorem uni_1 {k : Nat} {d : D} {r : List Opv} {ds : List D} (im : d.imm = false) (h : uni r = some (none, ds)) : uni (.v k d :: r) = some (some k, d :: ds) := by
  unfold uni; rw [h]; dsimp only; rw [im]; rfl
theorem uni_j {k : Nat} {d : D} {r : List Opv} {ds : List D} (im : d.imm = false) (h : uni r = some (some k, ds)) : uni (.v k d :: r) = some (some k, d :: ds) := by
  unfold uni; rw [h]; dsimp only; rw [im, if_neg Bool.false_ne_true, if_pos rfl]
end DN

set_option Elab.async false
set_option linter.all false
set_option maxRecDepth 100000
set_option maxHeartbeats 4000000
/-! DN, part Zg: reasoning about readings: while, strings as data. -/
namespace DN
open PySem PySem.Spec PyProof.Rows L2
variable [KSeq]
theorem whileN_inv {Q : SO → Prop} {c : M Bool} {body : S} (I : Nat → En → Prop) (w : ∀ n ρ, I n ρ → WE (fun b ρ1 => (b = true → ∃ m, n = m + 1 ∧ WS (LpP Q (fun _ ρ2 => I m ρ2) []) (body ρ1)) ∧ (b = false → Q (.nx ρ1))) (c ρ)) : ∀ n ρ, I n ρ → ∃ r, whileN (n + 1) c body ρ = some r ∧ Q r
  | n, ρ, h => by
    obtain ⟨b, ρ1, e, q⟩ := (w n ρ h).to
    cases b with
    | false =>
      refine ⟨.nx ρ1, ?_, q.2 rfl⟩
      unfold whileN thenS
      rw [e]; rfl
    | true =>
      obtain ⟨m, rfl, h2⟩ := q.1 rfl
      obtain ⟨o, e2, q2⟩ := h2.to
      cases o with
      | nx ρ2 =>
        obtain ⟨r, e3, q3⟩ := whileN_inv I w m ρ2 q2
        refine ⟨r, ?_, q3⟩
        unfold whileN thenS
        rw [e]
        show (match body ρ1 with | some (.nx ρ2) => whileN (m + 1) c body ρ2 | some (.ct ρ2) => whileN (m + 1) c body ρ2 | some (.bk ρ2) => some (.nx ρ2) | x => x) = _
        rw [e2]
        exact e3
      | ct ρ2 =>
        obtain ⟨r, e3, q3⟩ := whileN_inv I w m ρ2 q2
        refine ⟨r, ?_, q3⟩
        unfold whileN thenS
        rw [e]
        show (match body ρ1 with | some (.nx ρ2) => whileN (m + 1) c body ρ2 | some (.ct ρ2) => whileN (m + 1) c body ρ2 | some (.bk ρ2) => some (.nx ρ2) | x => x) = _
        rw [e2]
        exact e3
      | bk ρ2 =>
        refine ⟨.nx ρ2, ?_, q2⟩
        unfold whileN thenS
        rw [e]
        show (match body ρ1 with | some (.nx ρ2) => whileN (m + 1) c body ρ2 | some (.ct ρ2) => whileN (m + 1) c body ρ2 | some (.bk ρ2) => some (.nx ρ2) | x => x) = _
        rw [e2]
      | rt k d ρ2 =>
        refine ⟨.rt k d ρ2, ?_, q2⟩
        unfold whileN thenS
        rw [e]
        show (match body ρ1 with | some (.nx ρ2) => whileN (m + 1) c body ρ2 | some (.ct ρ2) => whileN (m + 1) c body ρ2 | some (.bk ρ2) => some (.nx ρ2) | x => x) = _
        rw [e2]
      | ex x ρ2 =>
        refine ⟨.ex x ρ2, ?_, q2⟩
        unfold whileN thenS
        rw [e]
        show (match body ρ1 with | some (.nx ρ2) => whileN (m + 1) c body ρ2 | some (.ct ρ2) => whileN (m + 1) c body ρ2 | some (.bk ρ2) => some (.nx ρ2) | x => x) = _
        rw [e2]
theorem WS.whil {Q : SO → Prop} {c : M Bool} {body : S} (I : Nat → En → Prop) {n : Nat} {ρ : En} (h : I n ρ) (w : ∀ n ρ, I n ρ → WE (fun b ρ1 => (b = true → ∃ m, n = m + 1 ∧ WS (LpP Q (fun _ ρ2 => I m ρ2) []) (body ρ1)) ∧ (b = false → Q (.nx ρ1))) (c ρ)) : WS Q (whileS c body ρ) := by
  obtain ⟨r, e, q⟩ := whileN_inv I w n ρ h
  exact WS.of (whileS_of e) q
/-! ### indices -/
theorem atI_in {α : Type} {ds : List α} {v : Int} (h0 : 0 ≤ v) (h1 : v < ds.length) : ∃ d, atI ds v = some d ∧ ds[v.toNat]? = some d ∧ d ∈ ds := by
  have hl : v.toNat < ds.length := by omega
  refine ⟨ds[v.toNat], ?_, List.getElem?_eq_getElem hl, List.getElem_mem hl⟩
  unfold atI ixN
  rw [if_pos h0, if_pos h1]
  exact List.getElem?_eq_getElem hl
theorem ixN_in {n : Nat} {v : Int} (h0 : 0 ≤ v) (h1 : v < n) : ixN n v = some v.toNat := by
  unfold ixN
  rw [if_pos h0, if_pos h1]
theorem idxK_lst {k j : Nat} {ds : List D} {i : Int} {d : D} (e : atI ds i = some d) (hk : d.imm = true ∨ k ≤ 1) : idxK [(k, .lst ds), (j, .int i)] = some (kz d) := by
  unfold idxK kz; dsimp only; rw [e]; dsimp only
  cases hi : d.imm with
  | true => rfl
  | false =>
    rw [hi] at hk
    rcases hk with hk | hk
    · cases hk
    · rw [if_pos hk]; rfl
theorem idxK_str {k j : Nat} {x : Str} {i : Int} {c : Nat} (l : x.length ≤ lineN) (e : atI x.cps.toList i = some c) : idxK [(k, .str x), (j, .int i)] = some (9, .str ⟨#[c]⟩) := by
  unfold idxK; dsimp only; rw [if_pos l, e]
/-! ### strings as data -/
theorem imm_strs (ws : List Str) : D.immAll (ws.map .str) = true := immAll_map _ (fun _ => rfl) _
theorem imm_tupS (ws : List Str) : (D.tup (ws.map .str)).imm = true := imm_strs ws
theorem pyAll_strs : ∀ ws : List Str, D.pyAll (ws.map .str) = some (ws.map .str)
  | [] => rfl
  | a :: r => by rw [List.map_cons, D.pyAll, pyAll_strs r]; rfl
theorem lay_strs : ∀ ws : List Str, (∀ x ∈ ws, PyData.strOk x = true) → PyData.canLayAll0 (ws.map .str) = true
  | [], _ => by simp [PyData.canLayAll0]
  | a :: r, h => by rw [List.map_cons, PyData.canLayAll0, lay_strs r fun x hx => h x (List.mem_cons_of_mem _ hx)]; simp [PyData.canLay0, h a List.mem_cons_self]
theorem dep_strs : ∀ ws : List Str, PyData.depthAll (ws.map .str) = 0
  | [] => by simp [PyData.depthAll]
  | a :: r => by rw [List.map_cons, PyData.depthAll, dep_strs r]; simp [PyData.depth]
theorem shaped_str {x : Str} (h : PyData.strOk x = true) : SeqAt.shaped (.str x) = true := by
  unfold SeqAt.shaped
  simp [PyData.canLay0, PyData.depth, h]
theorem eqS_str {a b : Str} (n : Bool) (h1 : PyData.strOk a = true) (h2 : PyData.strOk b = true) : eqS n [.str a, .str b] = some (.bl (n ^^ (a == b))) := by
  rw [eqS_of (p := .str a) (q := .str b) rfl rfl (shaped_str h1) (shaped_str h2)]
  simp [PyData.eqv]
theorem any_strs (x : Str) : ∀ ws : List Str, (ws.map PyData.str).any (fun z => PyData.eqv z (.str x)) = ws.contains x
  | [] => rfl
  | a :: r => by
    rw [List.map_cons, List.any_cons, any_strs x r, List.contains_cons]
    congr 1
    simp only [PyData.eqv]
    exact BEq.comm
theorem inAll_strs {x : Str} {ws : List Str} (h1 : PyData.strOk x = true) (h2 : ∀ x ∈ ws, PyData.strOk x = true) : inAll (.str x) (ws.map .str) = some (ws.contains x) := by
  unfold inAll
  rw [pyAll_strs]
  show (if (SeqAt.shaped (.str x) && SeqAt.shaped (.tuple (ws.map .str))) = true then _ else _) = _
  rw [shaped_str h1, shaped_tup (lay_strs ws h2) (by rw [dep_strs]; omega)]
  simp only [Bool.and_self, if_true, any_strs]
theorem inS_lst {x : Str} {ws : List Str} (n : Bool) (h1 : PyData.strOk x = true) (h2 : ∀ x ∈ ws, PyData.strOk x = true) : inS n [.str x, .lst (ws.map .str)] = some (.bl (n ^^ ws.contains x)) := by
  unfold inS; dsimp only; rw [inAll_strs h1 h2]
theorem inS_tup {x : Str} {ws : List Str} (n : Bool) (h1 : PyData.strOk x = true) (h2 : ∀ x ∈ ws, PyData.strOk x = true) : inS n [.str x, .tup (ws.map .str)] = some (.bl (n ^^ ws.contains x)) := by
  unfold inS; dsimp only; rw [inAll_strs h1 h2]
theorem listK2_lst {k : Nat} {ds : List D} (im : D.immAll ds = true) : listK2 [(k, .lst ds)] = some (9, .lst ds) := by
  show (if kidsOk k ds = true then some (kL ds, D.lst ds) else none) = _
  have h1 : kidsOk k ds = true := by unfold kidsOk; rw [im]; rfl
  have h2 : kL ds = 9 := if_pos im
  rw [if_pos h1, h2]
/-- data that can be compared -/
def okD (d : D) : Prop := ∃ p, d.py = some p ∧ p.canLay0 = true ∧ p.depth ≤ 60
theorem okD_all : ∀ {ds : List D}, (∀ d ∈ ds, okD d) → ∃ ps, D.pyAll ds = some ps ∧ PyData.canLayAll0 ps = true ∧ PyData.depthAll ps ≤ 60
  | [], _ => ⟨[], rfl, by simp [PyData.canLayAll0], by simp [PyData.depthAll]⟩
  | d :: ds, h => by
    obtain ⟨p, e1, c1, d1⟩ := h d List.mem_cons_self
    obtain ⟨ps, e2, c2, d2⟩ := okD_all fun d hd => h d (List.mem_cons_of_mem _ hd)
    refine ⟨p :: ps, ?_, ?_, ?_⟩
    · rw [D.pyAll, e1, e2]
    · rw [PyData.canLayAll0, c1, c2]; rfl
    · rw [PyData.depthAll]; omega
theorem okD_str {x : Str} (h : PyData.strOk x = true) : okD (.str x) := ⟨.str x, rfl, by simpa [PyData.canLay0] using h, by simp [PyData.depth]⟩
theorem eqS_nilO {ds : List D} (h : ∀ d ∈ ds, okD d) (n : Bool) : eqS n [.lst ds, .lst []] = some (.bl (n ^^ ds.isEmpty)) := by
  obtain ⟨ps, e, c, d⟩ := okD_all h
  exact eqS_nil e c (by omega) n
theorem perm_take {α : Type} : ∀ {ds : List α} {j : Nat} {d : α}, ds[j]? = some d → (d :: ds.eraseIdx j).Perm ds
  | [], _, _, h => by simp at h
  | a :: r, 0, d, h => by
    simp only [List.getElem?_cons_zero, Option.some.injEq] at h
    subst h
    exact .refl _
  | a :: r, j + 1, d, h => by
    simp only [List.getElem?_cons_succ] at h
    exact (List.Perm.swap a d _).trans ((perm_take h).cons a)
theorem ltN {i j : Nat} (h : Nat.blt i j = true) : i < j := Nat.le_of_ble_eq_true h
theorem small62_of {j : Int} (h0 : -4611686018427387904 ≤ j) (h1 : j < 4611686018427387904) : small62 j = true := by
  unfold small62; rw [decide_eq_true h0, decide_eq_true h1]; rfl
theorem tyT {T : String} {d : D} (h : (d.ty == T) = true) : (d.ty == T) = true := h
def one (c : Nat) : Str := ⟨#[c]⟩
theorem strsOf_ones : ∀ cs : List Nat, joinS.strsOf (cs.map fun c => D.str ⟨#[c]⟩) = some (cs.map one)
  | [] => rfl
  | c :: r => by rw [List.map_cons, joinS.strsOf, strsOf_ones r]; rfl
theorem join_onesD : ∀ l : List Nat, Str.join ⟨#[]⟩ (l.map one) = ⟨l.toArray⟩
  | [] => rfl
  | [k] => rfl
  | k :: m :: r => by
    have ih := join_onesD (m :: r)
    show one k ++ ⟨#[]⟩ ++ Str.join ⟨#[]⟩ ((m :: r).map one) = _
    rw [ih]
    apply congrArg Str.mk
    apply Array.toList_inj.mp
    simp [Str.cps_append, one]
theorem joinS_ones (cs : List Nat) (l : cs.length ≤ 1000) : joinS [.str (Str.ofString ""), .lst (cs.map fun c => .str ⟨#[c]⟩)] = some (.str ⟨cs.toArray⟩) := by
  have e0 : Str.ofString "" = ⟨#[]⟩ := by decide
  rw [e0]
  unfold joinS
  dsimp only
  rw [strsOf_ones]
  dsimp only
  have hs : ((cs.map one).map (·.length)).sum = cs.length := by
    clear l
    induction cs with
    | nil => rfl
    | cons c r ih => simp only [List.map_cons, List.sum_cons, List.length_cons, ih]; show 1 + _ = _; omega
  rw [if_pos]
  · show some (D.str (Builtin.Str.glued ⟨#[]⟩ _)) = _
    rw [StrLaws.glued_eq_join, join_onesD]
  · rw [hs]
    show cs.length + _ * 0 ≤ _
    omega
theorem listK2_str {k : Nat} {x : Str} (l : x.cps.size ≤ lineN) : listK2 [(k, .str x)] = some (9, .lst (x.cps.toList.map fun c => .str ⟨#[c]⟩)) := by
  show (if x.cps.size ≤ lineN then _ else none) = _
  rw [if_pos l]
theorem addK_lst {k j : Nat} {xs ys : List D} (i1 : D.immAll xs = true) (i2 : D.immAll ys = true) (l : xs.length + ys.length ≤ lineN) : addK [(k, .lst xs), (j, .lst ys)] = some (9, .lst (xs ++ ys)) := by
  show (if (kidsOk k xs && kidsOk j ys && decide (xs.length + ys.length ≤ lineN)) = true then some (kL (xs ++ ys), D.lst (xs ++ ys)) else none) = _
  have h1 : kidsOk k xs = true := by unfold kidsOk; rw [i1]; rfl
  have h2 : kidsOk j ys = true := by unfold kidsOk; rw [i2]; rfl
  have h3 : kL (xs ++ ys) = 9 := if_pos (immAll_append i1 i2)
  rw [h1, h2, decide_eq_true l, h3]
  rfl
theorem addK_tup {k j : Nat} {xs ys : List D} (i1 : D.immAll xs = true) (i2 : D.immAll ys = true) (l : xs.length + ys.length ≤ lineN) : addK [(k, .tup xs), (j, .tup ys)] = some (9, .tup (xs ++ ys)) := by
  show (if (kids0 k xs && kids0 j ys && decide (xs.length + ys.length ≤ lineN)) = true then some (kT (xs ++ ys), D.tup (xs ++ ys)) else none) = _
  have h1 : kids0 k xs = true := by unfold kids0; rw [i1]; rfl
  have h2 : kids0 j ys = true := by unfold kids0; rw [i2]; rfl
  have h3 : kT (xs ++ ys) = 9 := if_pos (immAll_append i1 i2)
  rw [h1, h2, decide_eq_true l, h3]
  rfl
theorem nodup_le {α : Type} [BEq α] [LawfulBEq α] : ∀ {l m : List α}, l.Nodup → (∀ x ∈ l, x ∈ m) → l.length ≤ m.length
  | [], _, _, _ => Nat.zero_le _
  | a :: l, m, h, w => by
    have ha := w a List.mem_cons_self
    have hn := List.nodup_cons.mp h
    have := nodup_le (l := l) (m := m.erase a) hn.2 fun x hx => (List.mem_erase_of_ne (fun (e : x = a) => hn.1 (e ▸ hx))).mpr (w x (List.mem_cons_of_mem _ hx))
    rw [List.length_erase_of_mem ha] at this
    have : 0 < m.length := List.length_pos_of_mem ha
    simp only [List.length_cons]; omega
def toS : D → Str
  | .str x => x
  | _ => Str.empty
theorem toS_map (ws : List Str) : (ws.map D.str).map toS = ws := by rw [List.map_map]; exact List.map_id' ws
theorem perm_strs {es : List D} {ws : List Str} (h : es.Perm (ws.map .str)) : ∃ xs : List Str, es = xs.map .str ∧ xs.Perm ws := by
  refine ⟨es.map toS, ?_, ?_⟩
  · rw [List.map_map]
    have : ∀ d ∈ es, (D.str ∘ toS) d = id d := fun d hd => by
      obtain ⟨x, _, rfl⟩ := List.mem_map.mp (h.subset hd)
      rfl
    rw [List.map_congr_left this, List.map_id]
  · have := h.map toS
    rwa [toS_map] at this
theorem cln_lst {k : Nat} {ds : List D} (im : D.immAll ds = true) : (D.lst ds).cln (k + 1) = true := by
  rw [D.cln]; exact D.clnAll_of_imm _ _ im
theorem Bag.cln2 (s : Bag) (k : Nat) (d : D) (h : d.cln k = true) : (d.cln k && [((10 : Nat), s.d)].all fun o => o.2.cln o.1) = true := by
  simp [s.cln, h]
end DN

set_option Elab.async false
set_option linter.all false
set_option maxRecDepth 100000
set_option maxHeartbeats 4000000
/-! DN, part Zh: reasoning about readings: slices. -/
namespace DN
open PySem PySem.Spec PyProof.Rows L2
variable [KSeq]
theorem cutD_hi {α : Type} (xs : List α) {j : Int} (h : 0 ≤ j) : cutD xs none (some j) = xs.take j.toNat := by
  unfold cutD HT.sIx
  dsimp only
  rw [if_neg (by omega)]
  simp only [Nat.sub_zero, List.drop_zero]
  rw [Nat.min_comm, List.take_eq_take_iff]
  omega
theorem cutD_lo {α : Type} (xs : List α) {j : Int} (h : 0 ≤ j) : cutD xs (some j) none = xs.drop j.toNat := by
  unfold cutD HT.sIx
  dsimp only
  rw [if_neg (by omega)]
  rw [List.take_of_length_le (by rw [List.length_drop]; omega)]
  rcases Nat.le_total j.toNat xs.length with hl | hl
  · rw [Nat.min_eq_left hl]
  · rw [Nat.min_eq_right hl, List.drop_eq_nil_of_le (Nat.le_refl _), List.drop_eq_nil_of_le hl]
theorem cutD_mem {α : Type} {xs : List α} {lo hi : Option Int} {x : α} (h : x ∈ cutD xs lo hi) : x ∈ xs := List.mem_of_mem_drop (List.mem_of_mem_take h)
theorem cutD_len {α : Type} (xs : List α) (lo hi : Option Int) : (cutD xs lo hi).length ≤ xs.length := by
  unfold cutD
  rw [List.length_take, List.length_drop]
  omega
theorem cutD_imm {xs : List D} (lo hi : Option Int) (h : D.immAll xs = true) : D.immAll (cutD xs lo hi) = true := immAll_mem fun d hd => mem_imm h d (cutD_mem hd)
theorem cutS_mem {x : Str} {lo hi : Option Int} {c : Nat} (h : c ∈ (cutS x lo hi).cps.toList) : c ∈ x.cps.toList := by
  unfold cutS at h
  exact List.mem_of_mem_drop (List.mem_of_mem_take h)
theorem cutS_len (x : Str) (lo hi : Option Int) : (cutS x lo hi).length ≤ x.length := by
  unfold cutS Str.length
  rw [List.size_toArray, List.length_take, List.length_drop, Array.length_toList]
  omega
theorem slHi_lst {k j : Nat} {ds : List D} {i : Int} (im : D.immAll ds = true) : slHi [(k, .lst ds), (j, .int i)] = some (9, .lst (cutD ds none (some i))) := by
  show (if kidsOk k ds = true then some (kL (cutD ds none (some i)), D.lst (cutD ds none (some i))) else none) = _
  have h1 : kidsOk k ds = true := by unfold kidsOk; rw [im]; rfl
  have h2 : kL (cutD ds none (some i)) = 9 := if_pos (cutD_imm _ _ im)
  rw [if_pos h1, h2]
theorem slLo_lst {k j : Nat} {ds : List D} {i : Int} (im : D.immAll ds = true) : slLo [(k, .lst ds), (j, .int i)] = some (9, .lst (cutD ds (some i) none)) := by
  show (if kidsOk k ds = true then some (kL (cutD ds (some i) none), D.lst (cutD ds (some i) none)) else none) = _
  have h1 : kidsOk k ds = true := by unfold kidsOk; rw [im]; rfl
  have h2 : kL (cutD ds (some i) none) = 9 := if_pos (cutD_imm _ _ im)
  rw [if_pos h1, h2]
theorem kids0_of {k : Nat} {ds : List D} (h : k = 0 ∨ D.immAll ds = true) : kids0 k ds = true := by
  unfold kids0
  rcases h with rfl | h
  · simp
  · rw [h]; rfl
theorem slHi_tup {k j : Nat} {ds : List D} {i : Int} (h : k = 0 ∨ D.immAll ds = true) : slHi [(k, .tup ds), (j, .int i)] = some (kT (cutD ds none (some i)), .tup (cutD ds none (some i))) := if_pos (kids0_of h)
theorem slLo_tup {k j : Nat} {ds : List D} {i : Int} (h : k = 0 ∨ D.immAll ds = true) : slLo [(k, .tup ds), (j, .int i)] = some (kT (cutD ds (some i) none), .tup (cutD ds (some i) none)) := if_pos (kids0_of h)
theorem addK_tupG {k j : Nat} {xs ys : List D} (i1 : k = 0 ∨ D.immAll xs = true) (i2 : j = 0 ∨ D.immAll ys = true) (l : xs.length + ys.length ≤ lineN) : addK [(k, .tup xs), (j, .tup ys)] = some (kT (xs ++ ys), .tup (xs ++ ys)) := if_pos (by rw [kids0_of i1, kids0_of i2, decide_eq_true l]; rfl)
theorem kT_or (ds : List D) : kT ds = 0 ∨ D.immAll ds = true := by
  unfold kT
  cases h : D.immAll ds with
  | true => exact .inr rfl
  | false => exact .inl rfl
theorem tupK_lst {k : Nat} {ds : List D} (im : D.immAll ds = true) : tupK [(k, .lst ds)] = some (9, .tup ds) := by
  show (if kidsOk k ds = true then some (kT ds, D.tup ds) else none) = _
  have h1 : kidsOk k ds = true := by unfold kidsOk; rw [im]; rfl
  have h2 : kT ds = 9 := if_pos im
  rw [if_pos h1, h2]
theorem slHi_str {k j : Nat} {x : Str} {i : Int} (l : x.length ≤ lineN) : slHi [(k, .str x), (j, .int i)] = some (9, .str (cutS x none (some i))) := if_pos l
theorem slLo_str {k j : Nat} {x : Str} {i : Int} (l : x.length ≤ lineN) : slLo [(k, .str x), (j, .int i)] = some (9, .str (cutS x (some i) none)) := if_pos l
theorem max2S_int (i j : Int) : max2S [.int i, .int j] = some (.int (if j > i then j else i)) := rfl
theorem min2S_int (i j : Int) : min2S [.int i, .int j] = some (.int (if j < i then j else i)) := rfl
/-- a comprehension that takes out of a list what passes a test -/
theorem WE.lcFilt {Q : KD → En → Prop} {i : Nat} {c : M Bool} {ρ : En} (hi : i < ρ.length) (hn : ρ.set i none = ρ) (p : D → Bool) : ∀ (ds : List D) (acc : List D), D.immAll ds = true → acc.length + ds.length < lineN →
    (∀ d ∈ ds, WE (fun b ρ1 => b = p d ∧ ρ1 = ρ.set i (some (9, d))) (c (ρ.set i (some (9, d))))) → Q (9, .lst (acc ++ ds.filter p)) ρ → WE Q (DN.lcL (.n i) c (nameS i) [i] (ds.map kz) 8 acc ρ)
  | [], acc, _, _, _, q => by
    rw [List.filter_nil, List.append_nil] at q
    exact q
  | d :: ds, acc, im, l, hc, q => by
    have hd : d.imm = true := mem_imm im d List.mem_cons_self
    have im2 : D.immAll ds = true := immAll_mem fun x hx => mem_imm im x (List.mem_cons_of_mem _ hx)
    have ek : kz d = (9, d) := by unfold kz; rw [if_pos hd]
    obtain ⟨b, ρ1, e1, e2, e3⟩ := (hc d List.mem_cons_self).to
    subst e2 e3
    have e4 : nameS i (ρ.set i (some (9, d))) = some (.ok (9, d) (ρ.set i (some (9, d)))) := by
      unfold nameS
      rw [List.getElem?_set_self hi]
      dsimp only
      rw [if_pos hd]; rfl
    have ew : wipeE (ρ.set i (some (9, d))) [i] = ρ := by
      show (ρ.set i (some (9, d))).set i none = ρ
      rw [List.set_set, hn]
    simp only [List.length_cons] at l
    rw [List.map_cons, ek]
    unfold DN.lcL
    rw [asgN_to hi]
    dsimp only
    rw [e1]
    cases hp : p d with
    | true =>
      dsimp only
      rw [e4]
      dsimp only
      rw [if_pos (by omega)]
      have ej : joinLv 8 (D.immAll acc) 9 d = some 8 := by unfold joinLv; rw [if_pos hd]
      rw [ej]
      dsimp only
      rw [ew]
      refine WE.lcFilt hi hn p ds (acc ++ [d]) im2 (by rw [List.length_append]; simp only [List.length_singleton]; omega) (fun x hx => hc x (List.mem_cons_of_mem _ hx)) ?_
      rw [List.filter_cons, hp] at q
      rw [List.append_assoc]
      exact q
    | false =>
      dsimp only
      rw [ew]
      refine WE.lcFilt hi hn p ds acc im2 (by omega) (fun x hx => hc x (List.mem_cons_of_mem _ hx)) ?_
      rw [List.filter_cons, hp] at q
      exact q
theorem filter_strs (p : Str → Bool) (ws : List Str) : (ws.map D.str).filter (fun d => p (toS d)) = (ws.filter p).map D.str := by
  rw [List.filter_map]; rfl
def toI : D → Int
  | .int i => i
  | _ => 0
theorem any_ints (x : Int) : ∀ l : List Int, (l.map PyData.int).any (fun z => PyData.eqv z (.int x)) = l.contains x
  | [] => rfl
  | a :: r => by
    rw [List.map_cons, List.any_cons, any_ints x r, List.contains_cons]
    congr 1
    simp only [PyData.eqv]
    exact BEq.comm
theorem inAll_ints (x : Int) (l : List Int) : inAll (.int x) (l.map .int) = some (l.contains x) := by
  unfold inAll
  rw [pyAll_ints]
  show (if (SeqAt.shaped (.int x) && SeqAt.shaped (.tuple (l.map .int))) = true then _ else _) = _
  have h1 : SeqAt.shaped (.int x) = true := by simp [SeqAt.shaped, PyData.canLay0, PyData.depth]
  rw [h1, shaped_tup (lay_ints l) (by rw [dep_ints]; omega)]
  simp only [Bool.and_self, if_true, any_ints]
theorem inS_intG {x : Int} {ds : List D} (n : Bool) (h : (ds.map toI).map D.int = ds) : inS n [.int x, .lst ds] = some (.bl (n ^^ (ds.map toI).contains x)) := by
  unfold inS; dsimp only
  have e : inAll (.int x) ds = some ((ds.map toI).contains x) := by
    have := inAll_ints x (ds.map toI)
    rwa [h] at this
  rw [e]
theorem prep_nil {ρ : En} : prep [] [] ρ = some ([], [], [], ρ) := rfl
section
variable {ms : List Bool} {xs : List Opv} {ρ ρ' : En} {kds : List KD} {mi : List (Option Nat)} {vw : List (Nat × KD)} {i k : Nat} {d : D}
theorem prep_vF (h : prep ms xs ρ = some (kds, mi, vw, ρ')) : prep (false :: ms) (.v k d :: xs) ρ = some ((k, d) :: kds, mi, vw, ρ') := by
  unfold prep; rw [h]; rfl
theorem prep_vT (h : prep ms xs ρ = some (kds, mi, vw, ρ')) : prep (true :: ms) (.v k d :: xs) ρ = some ((k, d) :: kds, none :: mi, vw, ρ') := by
  unfold prep; rw [h]; rfl
theorem prep_m {kd : KD} (e : ρ[i]? = some (some kd)) (h : prep ms xs (ρ.set i none) = some (kds, mi, vw, ρ')) : prep (true :: ms) (.b i :: xs) ρ = some (kd :: kds, some i :: mi, vw, ρ') := by
  unfold prep; rw [e]; dsimp only; rw [h]
theorem prep_i (e : ρ[i]? = some (some (k, d))) (im : d.imm = true) (h : prep ms xs ρ = some (kds, mi, vw, ρ')) : prep (false :: ms) (.b i :: xs) ρ = some ((9, d) :: kds, mi, vw, ρ') := by
  unfold prep; rw [e]; dsimp only; rw [if_pos im, h]
theorem prep_f (e : ρ[i]? = some (some (k, d))) (im : d.imm = false) (h : prep ms xs (ρ.set i none) = some (kds, mi, vw, ρ')) : prep (false :: ms) (.b i :: xs) ρ = some ((0, d) :: kds, mi, (i, (k, d)) :: vw, ρ') := by
  unfold prep; rw [e]; dsimp only; rw [im, if_neg Bool.false_ne_true, h]
end
end DN

set_option Elab.async false
set_option linter.all false
set_option maxRecDepth 100000
set_option maxHeartbeats 4000000
/-! DN, part Zi: reasoning about readings: data of any form. -/
namespace DN
open PySem PySem.Spec PyProof.Rows L2
variable [KSeq]
theorem strIn_one (c : Nat) (y : Str) : strIn ⟨#[c]⟩ y = y.cps.toList.contains c := by
  rw [Bool.eq_iff_iff]
  unfold strIn
  rw [StrLaws.found_iff, List.contains_iff_mem]
  constructor
  · rintro ⟨i, h⟩
    have := (StrLaws.subAt_one y c i).mp h
    exact List.mem_of_getElem? this
  · intro h
    obtain ⟨i, hi⟩ := List.getElem?_of_mem h
    exact ⟨i, (StrLaws.subAt_one y c i).mpr hi⟩
theorem inS_one (c : Nat) (y : Str) (n : Bool) : inS n [.str ⟨#[c]⟩, .str y] = some (.bl (n ^^ y.cps.toList.contains c)) := by
  unfold inS; dsimp only; rw [strIn_one]
mutual
/-- data without dicts, its texts and rows not longer than L -/
def D.fit (L : Nat) : D → Bool
  | .str x => decide (x.length ≤ L) && PyData.strOk x
  | .tup ds => decide (ds.length ≤ L) && D.fitAll L ds
  | .lst ds => decide (ds.length ≤ L) && D.fitAll L ds
  | .dct _ => false
  | .seq _ => false
  | _ => true
def D.fitAll (L : Nat) : List D → Bool
  | [] => true
  | d :: ds => d.fit L && D.fitAll L ds
end
mutual
def D.dep : D → Nat
  | .tup ds => D.depAll ds + 1
  | .lst ds => D.depAll ds + 1
  | _ => 0
def D.depAll : List D → Nat
  | [] => 0
  | d :: ds => max d.dep (D.depAll ds)
end
theorem fitAll_iff {L : Nat} : ∀ {ds : List D}, D.fitAll L ds = true ↔ ∀ d ∈ ds, d.fit L = true
  | [] => by simp [D.fitAll]
  | a :: r => by rw [D.fitAll, Bool.and_eq_true, fitAll_iff, List.forall_mem_cons]
theorem depAll_le {n : Nat} : ∀ {ds : List D}, D.depAll ds ≤ n ↔ ∀ d ∈ ds, d.dep ≤ n
  | [] => by simp [D.depAll]
  | a :: r => by rw [D.depAll, Nat.max_le, depAll_le, List.forall_mem_cons]
theorem fit_tup {L : Nat} {ds : List D} : (D.tup ds).fit L = true ↔ ds.length ≤ L ∧ ∀ d ∈ ds, d.fit L = true := by
  rw [D.fit, Bool.and_eq_true, decide_eq_true_eq, fitAll_iff]
theorem fit_lst {L : Nat} {ds : List D} : (D.lst ds).fit L = true ↔ ds.length ≤ L ∧ ∀ d ∈ ds, d.fit L = true := by
  rw [D.fit, Bool.and_eq_true, decide_eq_true_eq, fitAll_iff]
theorem fit_str {L : Nat} {x : Str} : (D.str x).fit L = true ↔ x.length ≤ L ∧ PyData.strOk x = true := by
  rw [D.fit, Bool.and_eq_true, decide_eq_true_eq]
mutual
theorem D.fit_mono {L M : Nat} (h : L ≤ M) : ∀ d : D, d.fit L = true → d.fit M = true
  | .non, _ => rfl
  | .bl _, _ => rfl
  | .int _, _ => rfl
  | .str x, w => by rw [fit_str] at w ⊢; exact ⟨by omega, w.2⟩
  | .tup ds, w => by rw [D.fit, Bool.and_eq_true, decide_eq_true_eq] at w ⊢; exact ⟨by omega, D.fitAll_mono h ds w.2⟩
  | .lst ds, w => by rw [D.fit, Bool.and_eq_true, decide_eq_true_eq] at w ⊢; exact ⟨by omega, D.fitAll_mono h ds w.2⟩
  | .dct _, w => by simp [D.fit] at w
  | .seq _, w => by simp [D.fit] at w
theorem D.fitAll_mono {L M : Nat} (h : L ≤ M) : ∀ ds : List D, D.fitAll L ds = true → D.fitAll M ds = true
  | [], _ => by simp [D.fitAll]
  | a :: r, w => by
    rw [D.fitAll, Bool.and_eq_true] at w ⊢
    exact ⟨D.fit_mono h a w.1, D.fitAll_mono h r w.2⟩
end
mutual
theorem okD_fit {L : Nat} : ∀ d : D, d.fit L = true → ∃ p, d.py = some p ∧ p.canLay0 = true ∧ p.depth = d.dep
  | .non, _ => ⟨.none, rfl, by simp [PyData.canLay0], by simp [PyData.depth, D.dep]⟩
  | .bl b, _ => ⟨.bool b, rfl, by simp [PyData.canLay0], by simp [PyData.depth, D.dep]⟩
  | .int i, _ => ⟨.int i, rfl, by simp [PyData.canLay0], by simp [PyData.depth, D.dep]⟩
  | .str x, w => ⟨.str x, rfl, by rw [fit_str] at w; simpa [PyData.canLay0] using w.2, by simp [PyData.depth, D.dep]⟩
  | .tup ds, w => by
    rw [D.fit, Bool.and_eq_true] at w
    obtain ⟨ps, e, c, d⟩ := okD_fitAll ds w.2
    exact ⟨.tuple ps, by rw [D.py, e], by simpa [PyData.canLay0] using c, by rw [PyData.depth, D.dep, d]⟩
  | .lst ds, w => by
    rw [D.fit, Bool.and_eq_true] at w
    obtain ⟨ps, e, c, d⟩ := okD_fitAll ds w.2
    exact ⟨.list ps, by rw [D.py, e], by simpa [PyData.canLay0] using c, by rw [PyData.depth, D.dep, d]⟩
  | .dct _, w => by simp [D.fit] at w
  | .seq _, w => by simp [D.fit] at w
theorem okD_fitAll {L : Nat} : ∀ ds : List D, D.fitAll L ds = true → ∃ ps, D.pyAll ds = some ps ∧ PyData.canLayAll0 ps = true ∧ PyData.depthAll ps = D.depAll ds
  | [], _ => ⟨[], rfl, by simp [PyData.canLayAll0], by simp [PyData.depthAll, D.depAll]⟩
  | a :: r, w => by
    rw [D.fitAll, Bool.and_eq_true] at w
    obtain ⟨p, e1, c1, d1⟩ := okD_fit a w.1
    obtain ⟨ps, e2, c2, d2⟩ := okD_fitAll r w.2
    exact ⟨p :: ps, by rw [D.pyAll, e1, e2], by rw [PyData.canLayAll0, c1, c2]; rfl, by rw [PyData.depthAll, D.depAll, d1, d2]⟩
end
theorem okD_of {L : Nat} {d : D} (h : d.fit L = true) (w : d.dep ≤ 60) : okD d := by
  obtain ⟨p, e, c, dd⟩ := okD_fit d h
  exact ⟨p, e, c, by omega⟩
/-- a comprehension that takes out of a list what passes a test: any data -/
theorem WE.lcFiltG {Q : KD → En → Prop} {i : Nat} {c : M Bool} {ρ : En} (hi : i < ρ.length) (hn : ρ.set i none = ρ) (p : D → Bool) : ∀ (ds : List D) (k : Nat) (acc : List D), acc.length + ds.length < lineN → ((D.immAll acc = true ∧ k = 8) ∨ k = 0) →
    (∀ d ∈ ds, WE (fun b ρ1 => b = p d ∧ ρ1 = ρ.set i (some (kz d))) (c (ρ.set i (some (kz d))))) → (∀ k, Q (k + 1, .lst (acc ++ ds.filter p)) ρ) → WE Q (DN.lcL (.n i) c (nameS i) [i] (ds.map kz) k acc ρ)
  | [], k, acc, _, _, _, q => by
    rw [List.filter_nil, List.append_nil] at q
    exact q k
  | d :: ds, k, acc, l, hk, hc, q => by
    obtain ⟨b, ρ1, e1, e2, e3⟩ := (hc d List.mem_cons_self).to
    subst e2 e3
    have e4 : nameS i (ρ.set i (some (kz d))) = some (.ok (kz d) (ρ.set i (some (kz d)))) := by
      unfold nameS
      rw [List.getElem?_set_self hi]
      unfold kz
      dsimp only
      cases hd : d.imm with
      | true => rfl
      | false =>
        rw [if_neg Bool.false_ne_true, if_neg Bool.false_ne_true, List.set_set]
        rfl
    have ew : wipeE (ρ.set i (some (kz d))) [i] = ρ := by
      show (ρ.set i (some (kz d))).set i none = ρ
      rw [List.set_set, hn]
    simp only [List.length_cons] at l
    rw [List.map_cons]
    unfold DN.lcL
    have ea : asgT (.n i) (kz d).1 (kz d).2 ρ = some (ρ.set i (some (kz d))) := asgN_to hi
    rw [ea]
    dsimp only
    rw [e1]
    cases hp : p d with
    | true =>
      dsimp only
      rw [e4]
      dsimp only
      rw [if_pos (by omega)]
      have ej : ∃ k', joinLv k (D.immAll acc) (kz d).1 (kz d).2 = some k' ∧ ((D.immAll (acc ++ [(kz d).2]) = true ∧ k' = 8) ∨ k' = 0) := by
        unfold joinLv kz
        dsimp only
        cases hd : d.imm with
        | true =>
          refine ⟨k, rfl, ?_⟩
          rcases hk with ⟨h1, h2⟩ | h2
          · exact .inl ⟨immAll_append h1 (by rw [D.immAll, hd]; rfl), h2⟩
          · exact .inr h2
        | false =>
          refine ⟨0, ?_, .inr rfl⟩
          rw [if_neg Bool.false_ne_true, if_neg Bool.false_ne_true]
          cases ha : D.immAll acc with
          | true => rfl
          | false =>
            rw [if_neg Bool.false_ne_true]
            rcases hk with ⟨h1, h2⟩ | h2
            · rw [ha] at h1; cases h1
            · rw [h2]; rfl
      obtain ⟨k', ej, hk'⟩ := ej
      rw [ej]
      dsimp only
      rw [ew]
      refine WE.lcFiltG hi hn p ds k' (acc ++ [d]) (by rw [List.length_append]; simp only [List.length_singleton]; omega) hk' (fun x hx => hc x (List.mem_cons_of_mem _ hx)) ?_
      rw [List.filter_cons, hp] at q
      rw [List.append_assoc]
      exact q
    | false =>
      dsimp only
      rw [ew]
      refine WE.lcFiltG hi hn p ds k acc (by omega) hk (fun x hx => hc x (List.mem_cons_of_mem _ hx)) ?_
      rw [List.filter_cons, hp] at q
      exact q
theorem WE.nameA {Q : KD → En → Prop} {ρ : En} {i k : Nat} {d : D} (e : ρ[i]? = some (some (k, d))) (q : ∀ k', (k = 0 ∨ d.imm = true → k' = 0 ∨ d.imm = true) → Q (kz d) (ρ.set i (some (k', d)))) : WE Q (nameS i ρ) := by
  cases im : d.imm with
  | true =>
    refine WE.nameI e im ?_
    have := q k (fun h => h)
    rw [show kz d = (9, d) from by unfold kz; rw [if_pos im]] at this
    have e2 : ρ.set i (some (k, d)) = ρ := by
      obtain ⟨h, e⟩ := List.getElem?_eq_some_iff.mp e
      rw [← e, List.set_getElem_self]
    rwa [e2] at this
  | false =>
    refine WE.nameF e im ?_
    have := q 0 (fun _ => .inl rfl)
    rwa [show kz d = (0, d) from by unfold kz; rw [im]; rfl] at this
/-- a call to which a name is lent -/
theorem WE.callZ {Q : KD → En → Prop} {ρ : En} {i : Nat} {d : D} {ms : List Bool} {run : Fn} {xs : List Opv} {kds : List KD} (e : ρ[i]? = some (some (kz d))) (h : ∀ ρ', prep ms xs ρ' = some (kds, [], [], ρ')) (r : WR (fun k b o => o = [] ∧ Q (k, b) ρ) (run (kz d :: kds))) : WE Q (callG (false :: ms) run (.b i :: xs) ρ) := by
  cases im : d.imm with
  | true =>
    have ek : kz d = (9, d) := by unfold kz; rw [if_pos im]
    rw [ek] at r e
    refine WE.call (prep_i e im (h ρ)) (r.mono fun k b o h => ?_)
    obtain ⟨rfl, q⟩ := h
    exact q
  | false =>
    have ek : kz d = (0, d) := by unfold kz; rw [im]; rfl
    rw [ek] at r e
    obtain ⟨k, b, o, e2, rfl, q⟩ := r.to
    obtain ⟨hl, eg⟩ := List.getElem?_eq_some_iff.mp e
    have ep : puts (ρ.set i none) (zipO [] [] ++ [(i, ((0 : Nat), d))]) = ρ := by
      show (ρ.set i none).set i (some (0, d)) = ρ
      rw [List.set_set, ← eg, List.set_getElem_self]
    cases hc : (b.cln k && ([] : List KD).all fun o => o.2.cln o.1) with
    | true =>
      refine WE.callC (prep_f e im (h _)) (WR.of e2 ⟨hc, ?_⟩)
      rw [ep]; exact q
    | false =>
      refine WE.callF (prep_f e im (h _)) (WR.of e2 ⟨hc, ?_⟩)
      show Q (k, b) (puts (ρ.set i none) (zipO [] [] ++ [(i, ((0 : Nat), d))]))
      rw [ep]; exact q
/-- a turn of a loop that goes on, or says no -/
def OneP (p : Bool) (I : En → Prop) : SO → Prop
  | .nx ρ => p = true ∧ I ρ
  | .rt k d _ => p = false ∧ k = 9 ∧ d = .bl false
  | _ => False
theorem WS.loopAll {Q : SO → Prop} {i : Nat} {body : S} (p : D → Bool) (I : En → Prop) : ∀ (ds : List D) {ρ : En}, I ρ → (∀ ρ, I ρ → i < ρ.length) → (∀ d ∈ ds, ∀ ρ, I ρ → WS (OneP (p d) I) (body (ρ.set i (some (kz d))))) → (ds.all p = true → ∀ ρ, I ρ → Q (.nx ρ)) → (ds.all p = false → ∀ ρ, Q (.rt 9 (.bl false) ρ)) → WS Q (DN.forL (.n i) body (ds.map kz) ρ)
  | [], ρ, h, _, _, q1, _ => q1 rfl ρ h
  | d :: ds, ρ, h, hi, hb, q1, q2 => by
    obtain ⟨o, e, q⟩ := (hb d List.mem_cons_self ρ h).to
    have ea : asgT (.n i) (kz d).1 (kz d).2 ρ = some (ρ.set i (some (kz d))) := asgN_to (hi ρ h)
    rw [List.map_cons]
    unfold DN.forL
    rw [ea]
    dsimp only
    rw [e]
    cases o with
    | nx ρ2 =>
      obtain ⟨hp, h2⟩ := q
      refine WS.loopAll p I ds h2 hi (fun x hx => hb x (List.mem_cons_of_mem _ hx)) (fun ha => q1 (by rw [List.all_cons, hp, ha]; rfl)) (fun ha => q2 (by rw [List.all_cons, ha, Bool.and_false]))
    | rt k b ρ2 =>
      obtain ⟨hp, rfl, rfl⟩ := q
      exact q2 (by rw [List.all_cons, hp]; rfl) ρ2
    | bk ρ2 => exact q.elim
    | ct ρ2 => exact q.elim
    | ex x ρ2 => exact q.elim
theorem inS_tupK {x : Str} {d : D} {ws : List Str} (n : Bool) (e : d = .tup (ws.map .str)) (h1 : PyData.strOk x = true) (h2 : ∀ x ∈ ws, PyData.strOk x = true) : inS n [.str x, d] = some (.bl (n ^^ ws.contains x)) := by
  rw [e]; exact inS_tup n h1 h2
end DN

set_option Elab.async false
set_option linter.all false
set_option maxRecDepth 100000
set_option maxHeartbeats 4000000
/-! DN, part Zj: reasoning about readings: lists of any data. -/
namespace DN
open PySem PySem.Spec PyProof.Rows L2
variable [KSeq]
def vsOf : List Opv → Option (List D)
  | [] => some []
  | .b _ :: _ => none
  | .v _ d :: r => match vsOf r with
    | some ds => some (d :: ds)
    | none => none
theorem uni_vs : ∀ {xs : List Opv} {q : Option Nat} {ds es : List D}, uni xs = some (q, ds) → vsOf xs = some es → ds = es
  | [], _, _, _, h, e => by cases h; cases e; rfl
  | .b _ :: _, _, _, _, _, e => by cases e
  | .v k d :: r, q, ds, es, h, e => by
    unfold vsOf at e
    cases e1 : vsOf r with
    | none => rw [e1] at e; cases e
    | some fs =>
      rw [e1] at e
      cases e
      unfold uni at h
      cases h1 : uni r with
      | none => rw [h1] at h; cases h
      | some p =>
        obtain ⟨q1, gs⟩ := p
        have := uni_vs h1 e1
        subst this
        rw [h1] at h
        dsimp only at h
        split at h
        · cases h; rfl
        · split at h
          · cases h; rfl
          · split at h
            · cases h; rfl
            · cases h
theorem uni_frz : ∀ {xs : List Opv} {es : List D}, vsOf xs = some es → ∃ q, uni (xs.map frzOpv) = some (q, es) ∧ (q = none ∨ q = some 0)
  | [], _, e => by cases e; exact ⟨none, rfl, .inl rfl⟩
  | .b _ :: _, _, e => by cases e
  | .v k d :: r, es, e => by
    unfold vsOf at e
    cases e1 : vsOf r with
    | none => rw [e1] at e; cases e
    | some fs =>
      rw [e1] at e
      cases e
      obtain ⟨q, h, hq⟩ := uni_frz e1
      rw [List.map_cons]
      show ∃ q, uni (.v (if d.imm = true then 9 else 0) d :: r.map frzOpv) = _ ∧ _
      unfold uni
      rw [h]
      dsimp only
      cases hd : d.imm with
      | true => exact ⟨q, rfl, hq⟩
      | false =>
        rw [if_neg Bool.false_ne_true, if_neg Bool.false_ne_true]
        rcases hq with rfl | rfl
        · exact ⟨some 0, rfl, .inr rfl⟩
        · exact ⟨some 0, rfl, .inr rfl⟩
theorem WE.fvL {Q : KD → En → Prop} {ρ : En} {xs : List Opv} {es : List D} (e : vsOf xs = some es) (l : es.length ≤ lineN) (q : ∀ k, Q (k, .lst es) ρ) : WE Q (frzV dispL xs ρ) := by
  unfold frzV
  cases h : uni xs with
  | some p =>
    obtain ⟨r, ds⟩ := p
    obtain rfl := uni_vs h e
    have : dispL xs ρ = some (.ok (uniK r + 1, .lst ds) ρ) := by unfold dispL; rw [h]; exact if_pos l
    rw [this]
    exact q _
  | none =>
    have : dispL xs ρ = none := by unfold dispL; rw [h]
    rw [this]
    obtain ⟨r, h2, _⟩ := uni_frz e
    have : dispL (xs.map frzOpv) ρ = some (.ok (uniK r + 1, .lst es) ρ) := by unfold dispL; rw [h2]; exact if_pos l
    dsimp only
    rw [this]
    exact q _
theorem WE.addLst {Q : KD → En → Prop} {ρ : En} {i k j : Nat} {xs ys : List D} (e : ρ[i]? = some (some (k, .lst xs))) (hj : kidsOk j ys = true) (l : xs.length + ys.length ≤ lineN) (q : ∀ k2, Q (kL (xs ++ ys), .lst (xs ++ ys)) (ρ.set i (some (k2, .lst xs)))) : WE Q (frzOps (DN.nop addK) [.b i, .v j (.lst ys)] ρ) := by
  have key : ∀ (ρ1 : En) (k1 : Nat), ρ1[i]? = some (some (k1, .lst xs)) → kidsOk k1 xs = true → DN.nop addK [.b i, .v j (.lst ys)] ρ1 = some (.ok (kL (xs ++ ys), .lst (xs ++ ys)) ρ1) := fun ρ1 k1 e1 hk => by
    have ek : kdsOf ρ1 [.b i, .v j (.lst ys)] = some [(k1, .lst xs), (j, .lst ys)] := by
      unfold kdsOf kdOf
      dsimp only
      rw [e1]; rfl
    unfold DN.nop
    rw [ek]
    dsimp only
    have : addK [(k1, .lst xs), (j, .lst ys)] = some (kL (xs ++ ys), .lst (xs ++ ys)) := if_pos (by rw [hk, hj, decide_eq_true l]; rfl)
    rw [this]; rfl
  have es : ρ.set i (some (k, .lst xs)) = ρ := by
    obtain ⟨h, e⟩ := List.getElem?_eq_some_iff.mp e
    rw [← e, List.set_getElem_self]
  cases hk : kidsOk k xs with
  | true =>
    refine WE.frz (WE.of (key ρ k e hk) ?_)
    have := q k
    rwa [es] at this
  | false =>
    have en : DN.nop addK [.b i, .v j (.lst ys)] ρ = none := by
      have ek : kdsOf ρ [.b i, .v j (.lst ys)] = some [(k, .lst xs), (j, .lst ys)] := by
        unfold kdsOf kdOf
        dsimp only
        rw [e]; rfl
      unfold DN.nop
      rw [ek]
      dsimp only
      have : addK [(k, .lst xs), (j, .lst ys)] = none := if_neg (by rw [hk]; simp)
      rw [this]
    refine WE.frz2 en ?_
    have hl : i < ρ.length := (List.getElem?_eq_some_iff.mp e).1
    have hz : frzSlots [.b i, .v j (.lst ys)] ρ = ρ.set i (some (0, .lst xs)) := by
      unfold kidsOk at hk
      rw [Bool.or_eq_false_iff] at hk
      have hn : needFz k (.lst xs) = true := by
        unfold needFz
        dsimp only
        rw [hk.1]
        have : ¬ k ≤ 1 := of_decide_eq_false hk.2
        rw [decide_eq_true (show 2 ≤ k by omega)]; rfl
      unfold frzSlots
      rw [e]
      dsimp only
      rw [if_pos hn]; rfl
    rw [hz]
    have hk0 : kidsOk 0 xs = true := by unfold kidsOk; simp
    exact WE.of (key _ 0 (List.getElem?_set_self hl) hk0) (q 0)
theorem WE.callV {Q : KD → En → Prop} {ρ ρ' : En} {ms : List Bool} {run : Fn} {xs : List Opv} {kds : List KD} {mi : List (Option Nat)} {vw : List (Nat × KD)} (h : prep ms xs ρ = some (kds, mi, vw, ρ')) (r : WR (fun k d o => ∀ vw', (vw' = vw ∨ vw' = frz0 vw) → Q (k, d) (puts ρ' (zipO mi o ++ vw'))) (run kds)) : WE Q (callG ms run xs ρ) := by
  obtain ⟨k, d, o, e, q⟩ := r.to
  cases hc : (d.cln k && o.all fun o => o.2.cln o.1) with
  | true => exact WE.callC h (WR.of e ⟨hc, q _ (.inl rfl)⟩)
  | false => exact WE.callF h (WR.of e ⟨hc, q _ (.inr rfl)⟩)
theorem kz_tup (ds : List D) : ∃ k, (k = 0 ∨ D.immAll ds = true) ∧ kz (.tup ds) = (k, .tup ds) := by
  refine ⟨(kz (.tup ds)).1, ?_, rfl⟩
  unfold kz
  dsimp only
  cases h : (D.tup ds).imm with
  | true => exact .inr h
  | false => exact .inl rfl
theorem WE.tup1 {Q : KD → En → Prop} {ρ : En} {y : D} (q : ∀ k, (k = 0 ∨ D.immAll [y] = true) → Q (k, .tup [y]) ρ) : WE Q (dispT [.v (kz y).1 y] ρ) := by
  cases im : y.imm with
  | true => exact WE.uniT (uni_I im uni_nil) (by simp [lineN]) (q _ (.inr (by rw [D.immAll, im]; rfl)))
  | false =>
    have : (kz y).1 = 0 := by unfold kz; rw [im]; rfl
    rw [this]
    exact WE.uniT (uni_1 im uni_nil) (by simp [lineN]) (q _ (.inl rfl))
theorem eqS_tnil {ds : List D} (h : ∀ d ∈ ds, okD d) (n : Bool) : eqS n [.tup ds, .tup []] = some (.bl (n ^^ ds.isEmpty)) := by
  obtain ⟨ps, e, c, dd⟩ := okD_all h
  have e1 : D.py (.tup ds) = some (.tuple ps) := by rw [D.py, e]
  have e2 : D.py (.tup []) = some (.tuple []) := rfl
  have e3 : SeqAt.shaped (.tuple []) = true := by decide
  have e4 : PyData.eqv (.tuple ps) (.tuple []) = ds.isEmpty := by
    cases ds with
    | nil => cases e; simp [PyData.eqv, PyData.eqvAll]
    | cons a r =>
      rw [D.pyAll] at e
      split at e
      · cases e; simp [PyData.eqv, PyData.eqvAll]
      · cases e
  rw [eqS_of e1 e2 (shaped_tup c (by omega)) e3, e4]
theorem kT_kz (ds : List D) : (kz (.tup ds)) = (kT ds, .tup ds) := by
  unfold kz kT
  rfl
theorem kidAt_lst {k i : Nat} {ds : List D} {j : Int} {c : D} (e : ixN ds.length j = some i) (e2 : ds[i]? = some c) : kidAt (k + 1, .lst ds) (.int j) = some (k, c) := by
  unfold kidAt; dsimp only; rw [e]; dsimp only; rw [e2]
theorem kidPut_lst {k i : Nat} {ds : List D} {j : Int} {c : D} (e : ixN ds.length j = some i) : kidPut (k + 1, .lst ds) (.int j) (k, c) = some (k + 1, .lst (ds.set i c)) := by
  unfold kidPut; dsimp only; rw [e]; dsimp only; rw [if_pos (by simp)]
theorem listK2_tup {k : Nat} {ds : List D} (h : k = 0 ∨ D.immAll ds = true) : listK2 [(k, .tup ds)] = some (kL ds, .lst ds) := if_pos (kids0_of h)
theorem revK_tup {k : Nat} {ds : List D} (h : k = 0 ∨ D.immAll ds = true) : revK [(k, .tup ds)] = some (kT ds.reverse, .tup ds.reverse) := if_pos (kids0_of h)
theorem cutS_ok {x : Str} {lo hi : Option Int} (h : PyData.strOk x = true) : PyData.strOk (cutS x lo hi) = true := by
  unfold PyData.strOk at h ⊢
  rw [← Array.all_toList, List.all_eq_true] at h ⊢
  exact fun c hc => h c (cutS_mem hc)
theorem strOk_app {x y : Str} (h1 : PyData.strOk x = true) (h2 : PyData.strOk y = true) : PyData.strOk (x ++ y) = true := by
  unfold PyData.strOk at h1 h2 ⊢
  show (x.cps ++ y.cps).all _ = true
  rw [Array.all_append, h1, h2]; rfl
theorem len_app (x y : Str) : (x ++ y).length = x.length + y.length := by
  show (x.cps ++ y.cps).size = _
  rw [Array.size_append]; rfl
end DN

set_option Elab.async false
set_option linter.all false
set_option maxRecDepth 100000
set_option maxHeartbeats 4000000
/-! The readings of the defs (printed by gen.py). -/
namespace DN
open PySem PySem.Spec PyProof.Rows L2
variable [KSeq]
def topS (i : Nat) : Stmt := PySem.Challenge.pw_everywrong_k00_whole_names_and_machines.main.body.getD i (.Pass ⟨0, 0, 0, 0⟩)
/-! ### is_number -/
def N_k00_2 : List Str := ["value"]
theorem zk00_2_0 : gnB (defScope (topS 2)) "isinstance" = true := by decide +kernel
theorem zk00_2_1 : gnB (defScope (topS 2)) "bool" = true := by decide +kernel
theorem zk00_2_2 : vnB N_k00_2 (defScope (topS 2)) 0 "value" = true := by decide +kernel
theorem zk00_2_3 : gnB (defScope (topS 2)) "int" = true := by decide +kernel
def F_k00_2 : S := seqS (retS (andV (opE [.b 0] (sop (isiS "int"))) (notV (opE [.b 0] (sop (isiS "bool")))))) (skipS)
def R_k00_2 : Fn := runS 1 [false] (F_k00_2)
theorem b_k00_2 {X : Cx} {W : WX} {mg : Str → Option Value} {k : Nat} (c : Cd X N_k00_2 (defScope (topS 2)) (defScope (topS 2)) k mg) (tk : Takes X W) (po : PassesOwn (model X.prog X.w) X.A X.env X.xe) (m_isinstance : mg "isinstance" = none) (m_bool : mg "bool" = none) (m_int : mg "int" = none) : PSs X (defBody (topS 2)) (sD (mIdx 0 [false]) mg W (F_k00_2)) :=
  pss_consS (ps_retS (pe_andS (eIsi c zk00_2_0 m_isinstance zk00_2_3 m_int boot_int (ob c zk00_2_2) rfl) (eAnd1 (pe_notS (eIsi c zk00_2_0 m_isinstance zk00_2_1 m_bool boot_bool (ob c zk00_2_2) rfl))))) (pss_nilS)
theorem s_k00_2 : FnScope N_k00_2 ["value"] (defScope (topS 2)) := ⟨rfl, rfl, rfl, by decide +kernel, rfl, by decide +kernel, by decide +kernel⟩
/-! ### is_in -/
def N_k00_3 : List Str := ["value", "least", "most"]
theorem zk00_3_0 : vnB N_k00_3 (defScope (topS 3)) 1 "least" = true := by decide +kernel
theorem zk00_3_1 : vnB N_k00_3 (defScope (topS 3)) 0 "value" = true := by decide +kernel
theorem zk00_3_2 : vnB N_k00_3 (defScope (topS 3)) 2 "most" = true := by decide +kernel
theorem zk00_3_3 : gnB (defScope (topS 3)) "is_number" = true := by decide +kernel
def F_k00_3 : S := seqS (retS (andV (opE [.b 0] (callG [false] R_k00_2)) (chainV .le .le (nameS 1) (nameS 0) (nameS 2)))) (skipS)
def R_k00_3 : Fn := runS 3 [false, false, false] (F_k00_3)
theorem b_k00_3 {X : Cx} {W : WX} {mg : Str → Option Value} {k : Nat} (c : Cd X N_k00_3 (defScope (topS 3)) (defScope (topS 3)) k mg) (tk : Takes X W) (po : PassesOwn (model X.prog X.w) X.A X.env X.xe) {j_is_number : Nat} (k_is_number : Cal X mg "is_number" ["value"] j_is_number [false] R_k00_2) (l_is_number : j_is_number ≤ k) : PSs X (defBody (topS 3)) (sD (mIdx 0 [false, false, false]) mg W (F_k00_3)) :=
  pss_consS (ps_retS (pe_andS (eCall c tk zk00_3_3 k_is_number (by omega) rfl (.cons (ob c zk00_3_1) .nil) rfl) (eAnd1 (pe_chainS .le .le (kNm c zk00_3_0) (kNm c zk00_3_1) (kNm c zk00_3_2) rfl)))) (pss_nilS)
theorem s_k00_3 : FnScope N_k00_3 ["value", "least", "most"] (defScope (topS 3)) := ⟨rfl, rfl, rfl, by decide +kernel, rfl, by decide +kernel, by decide +kernel⟩
/-! ### is_name -/
def N_k00_4 : List Str := ["thing", "sign"]
theorem zk00_4_0 : tnB N_k00_4 (defScope (topS 4)) (defScope (topS 4)) 1 "sign" = true := by decide +kernel
theorem zk00_4_1 : vnB N_k00_4 (defScope (topS 4)) 1 "sign" = true := by decide +kernel
theorem zk00_4_2 : gnB (defScope (topS 4)) "SIGNS" = true := by decide +kernel
theorem zk00_4_3 : vnB N_k00_4 (defScope (topS 4)) 0 "thing" = true := by decide +kernel
theorem zk00_4_4 : gnB (defScope (topS 4)) "len" = true := by decide +kernel
theorem zk00_4_5 : gnB (defScope (topS 4)) "isinstance" = true := by decide +kernel
theorem zk00_4_6 : gnB (defScope (topS 4)) "str" = true := by decide +kernel
def F_k00_4 : S := seqS (ifS (orM (notM (boolM (opE [.b 0] (sop (isiS "str"))))) (notM (boolM (chainV .le .le (cst (.int 1)) (opE [.b 0] (sop lenS)) (cst (.int 8)))))) (seqS (retS (cst (.bl false))) (skipS)) (skipS)) (seqS (forH 0 (.n 1) (seqS (ifS (boolM (opE [.b 1, .v (cst (.str "abcdefghijklmnopqrstuvwxyz0123456789"))] (sop (inS true)))) (seqS (retS (cst (.bl false))) (skipS)) (skipS)) (skipS))) (seqS (retS (cst (.bl true))) (skipS)))
def R_k00_4 : Fn := runS 2 [false] (F_k00_4)
theorem b_k00_4 {X : Cx} {W : WX} {mg : Str → Option Value} {k : Nat} (c : Cd X N_k00_4 (defScope (topS 4)) (defScope (topS 4)) k mg) (tk : Takes X W) (po : PassesOwn (model X.prog X.w) X.A X.env X.xe) (m_len : mg "len" = none) (m_isinstance : mg "isinstance" = none) (m_str : mg "str" = none) (q_SIGNS : KonD X.K mg "SIGNS" (.str "abcdefghijklmnopqrstuvwxyz0123456789")) : PSs X (defBody (topS 4)) (sD (mIdx 0 [false]) mg W (F_k00_4)) :=
  pss_consS (ps_ifS (PW.pt (pw_orS (pt_notS (pt_plain (eIsi c zk00_4_5 m_isinstance zk00_4_6 m_str boot_str (ob c zk00_4_3) rfl) rfl)) (pw_orS1 (pt_notS (pt_chainS .le .le (kI) (eLen c zk00_4_4 m_len (ob c zk00_4_3) rfl) (kI) rfl))))) (pss_consS (ps_retS (kB)) (pss_nilS)) (pss_nilS)) (pss_consS (ps_forH c.hK po c.calm (pe_v c zk00_4_3) (gN c zk00_4_0 rfl) (pss_consS (ps_ifS (tNotIn c (ob c zk00_4_1) (ov (kG c zk00_4_2 q_SIGNS) rfl) rfl) (pss_consS (ps_retS (kB)) (pss_nilS)) (pss_nilS)) (pss_nilS)) rfl) (pss_consS (ps_retS (kB)) (pss_nilS)))
theorem s_k00_4 : FnScope N_k00_4 ["thing"] (defScope (topS 4)) := ⟨rfl, rfl, rfl, by decide +kernel, rfl, by decide +kernel, by decide +kernel⟩
/-! ### are_names -/
def N_k00_5 : List Str := ["value", "least", "most", "k"]
theorem zk00_5_0 : gnB (defScope (topS 5)) "range" = true := by decide +kernel
theorem zk00_5_1 : gnB (defScope (topS 5)) "len" = true := by decide +kernel
theorem zk00_5_2 : vnB N_k00_5 (defScope (topS 5)) 0 "value" = true := by decide +kernel
theorem zk00_5_3 : tnB N_k00_5 (defScope (topS 5)) (defScope (topS 5)) 3 "k" = true := by decide +kernel
theorem zk00_5_4 : vnB N_k00_5 (defScope (topS 5)) 3 "k" = true := by decide +kernel
theorem zk00_5_5 : gnB (defScope (topS 5)) "is_name" = true := by decide +kernel
theorem zk00_5_6 : vnB N_k00_5 (defScope (topS 5)) 1 "least" = true := by decide +kernel
theorem zk00_5_7 : vnB N_k00_5 (defScope (topS 5)) 2 "most" = true := by decide +kernel
theorem zk00_5_8 : gnB (defScope (topS 5)) "isinstance" = true := by decide +kernel
theorem zk00_5_9 : gnB (defScope (topS 5)) "tuple" = true := by decide +kernel
def F_k00_5 : S := seqS (ifS (orM (notM (boolM (opE [.b 0] (sop (isiS "tuple"))))) (notM (boolM (chainV .le .le (nameS 1) (opE [.b 0] (sop lenS)) (nameS 2))))) (seqS (retS (cst (.bl false))) (skipS)) (skipS)) (seqS (forS (itsR1 (opE [.b 0] (sop lenS))) (.n 3) (seqS (ifS (orM (notM (boolM (opE [.v (opE [.b 0, .b 3] (frzOps idxOp))] (callG [false] R_k00_4)))) (boolM (opE [.v (opE [.b 0, .b 3] (frzOps idxOp)), .v (opE [.b 0, .v (intS (nameS 3))] (frzOps (nop slHi)))] (sop (inS false))))) (seqS (retS (cst (.bl false))) (skipS)) (skipS)) (skipS))) (seqS (retS (cst (.bl true))) (skipS)))
def R_k00_5 : Fn := runS 4 [false, false, false] (F_k00_5)
theorem b_k00_5 {X : Cx} {W : WX} {mg : Str → Option Value} {k : Nat} (c : Cd X N_k00_5 (defScope (topS 5)) (defScope (topS 5)) k mg) (tk : Takes X W) (po : PassesOwn (model X.prog X.w) X.A X.env X.xe) (m_range : mg "range" = none) (m_len : mg "len" = none) (m_isinstance : mg "isinstance" = none) (m_tuple : mg "tuple" = none) {j_is_name : Nat} (k_is_name : Cal X mg "is_name" ["thing"] j_is_name [false] R_k00_4) (l_is_name : j_is_name ≤ k) : PSs X (defBody (topS 5)) (sD (mIdx 0 [false, false, false]) mg W (F_k00_5)) :=
  pss_consS (ps_ifS (PW.pt (pw_orS (pt_notS (pt_plain (eIsi c zk00_5_8 m_isinstance zk00_5_9 m_tuple boot_tuple (ob c zk00_5_2) rfl) rfl)) (pw_orS1 (pt_notS (pt_chainS .le .le (kNm c zk00_5_6) (eLen c zk00_5_1 m_len (ob c zk00_5_2) rfl) (kNm c zk00_5_7) rfl))))) (pss_consS (ps_retS (kB)) (pss_nilS)) (pss_nilS)) (pss_consS (ps_forS po c.calm (pi_rng1 (gl_of c zk00_5_0).1 (by rw [c.hm]; exact m_range) (eLen c zk00_5_1 m_len (ob c zk00_5_2) rfl) rfl) (gN c zk00_5_3 rfl) (pss_consS (ps_ifS (PW.pt (pw_orS (pt_notS (pt_plain (eCall c tk zk00_5_5 k_is_name (by omega) rfl (.cons (ov (eSubS c (ob c zk00_5_2) (ob c zk00_5_4) rfl) rfl) .nil) rfl) rfl)) (pw_orS1 (tIn c (ov (eSubS c (ob c zk00_5_2) (ob c zk00_5_4) rfl) rfl) (ov (pe_slHi (ob c zk00_5_2) (kNm c zk00_5_4)) rfl) rfl)))) (pss_consS (ps_retS (kB)) (pss_nilS)) (pss_nilS)) (pss_nilS)) rfl) (pss_consS (ps_retS (kB)) (pss_nilS)))
theorem s_k00_5 : FnScope N_k00_5 ["value", "least", "most"] (defScope (topS 5)) := ⟨rfl, rfl, rfl, by decide +kernel, rfl, by decide +kernel, by decide +kernel⟩
/-! ### is_row -/
def N_k00_8 : List Str := ["value", "inputs", "outputs", "many", "pair"]
theorem zk00_8_0 : tnB N_k00_8 (defScope (topS 8)) (defScope (topS 8)) 4 "pair" = true := by decide +kernel
theorem zk00_8_1 : gnB (defScope (topS 8)) "is_in" = true := by decide +kernel
theorem zk00_8_2 : vnB N_k00_8 (defScope (topS 8)) 4 "pair" = true := by decide +kernel
theorem zk00_8_3 : vnB N_k00_8 (defScope (topS 8)) 3 "many" = true := by decide +kernel
theorem zk00_8_4 : vnB N_k00_8 (defScope (topS 8)) 2 "outputs" = true := by decide +kernel
theorem zk00_8_5 : gnB (defScope (topS 8)) "is_name" = true := by decide +kernel
theorem zk00_8_6 : gnB (defScope (topS 8)) "len" = true := by decide +kernel
theorem zk00_8_7 : gnB (defScope (topS 8)) "isinstance" = true := by decide +kernel
theorem zk00_8_8 : gnB (defScope (topS 8)) "tuple" = true := by decide +kernel
theorem zk00_8_9 : vnB N_k00_8 (defScope (topS 8)) 0 "value" = true := by decide +kernel
theorem zk00_8_10 : vnB N_k00_8 (defScope (topS 8)) 1 "inputs" = true := by decide +kernel
def F_k00_8 : S := seqS (ifS (orM (notM (boolM (opE [.b 0] (sop (isiS "tuple"))))) (boolM (opE [.v (opE [.b 0] (sop lenS)), .v (opE [.b 1] (sop lenS))] (sop (eqS true))))) (seqS (retS (cst (.bl false))) (skipS)) (skipS)) (seqS (forH 0 (.n 4) (seqS (ifS (orM (notM (boolM (opE [.b 4] (sop (isiS "tuple"))))) (boolM (opE [.v (opE [.b 4] (sop lenS)), .v (cst (.int 2))] (sop (eqS true))))) (seqS (retS (cst (.bl false))) (skipS)) (skipS)) (seqS (ifS (orM (notM (boolM (opE [.v (opE [.b 4, .v (cst (.int 0))] (frzOps idxOp))] (callG [false] R_k00_4)))) (orM (boolM (opE [.v (opE [.b 4, .v (cst (.int 0))] (frzOps idxOp)), .b 2] (sop (inS true)))) (notM (boolM (opE [.v (opE [.b 4, .v (cst (.int 1))] (frzOps idxOp)), .v (cst (.int 0)), .v (opE [.b 3, .v (cst (.int 1))] (sop subD))] (callG [false, false, false] R_k00_3)))))) (seqS (retS (cst (.bl false))) (skipS)) (skipS)) (skipS)))) (seqS (retS (cst (.bl true))) (skipS)))
def R_k00_8 : Fn := runS 5 [false, false, false, false] (F_k00_8)
theorem b_k00_8 {X : Cx} {W : WX} {mg : Str → Option Value} {k : Nat} (c : Cd X N_k00_8 (defScope (topS 8)) (defScope (topS 8)) k mg) (tk : Takes X W) (po : PassesOwn (model X.prog X.w) X.A X.env X.xe) (m_len : mg "len" = none) (m_isinstance : mg "isinstance" = none) (m_tuple : mg "tuple" = none) {j_is_in : Nat} (k_is_in : Cal X mg "is_in" ["value", "least", "most"] j_is_in [false, false, false] R_k00_3) (l_is_in : j_is_in ≤ k) {j_is_name : Nat} (k_is_name : Cal X mg "is_name" ["thing"] j_is_name [false] R_k00_4) (l_is_name : j_is_name ≤ k) : PSs X (defBody (topS 8)) (sD (mIdx 0 [false, false, false, false]) mg W (F_k00_8)) :=
  pss_consS (ps_ifS (PW.pt (pw_orS (pt_notS (pt_plain (eIsi c zk00_8_7 m_isinstance zk00_8_8 m_tuple boot_tuple (ob c zk00_8_9) rfl) rfl)) (pw_orS1 (tNe c (ov (eLen c zk00_8_6 m_len (ob c zk00_8_9) rfl) rfl) (ov (eLen c zk00_8_6 m_len (ob c zk00_8_10) rfl) rfl) rfl)))) (pss_consS (ps_retS (kB)) (pss_nilS)) (pss_nilS)) (pss_consS (ps_forH c.hK po c.calm (pe_v c zk00_8_9) (gN c zk00_8_0 rfl) (pss_consS (ps_ifS (PW.pt (pw_orS (pt_notS (pt_plain (eIsi c zk00_8_7 m_isinstance zk00_8_8 m_tuple boot_tuple (ob c zk00_8_2) rfl) rfl)) (pw_orS1 (tNe c (ov (eLen c zk00_8_6 m_len (ob c zk00_8_2) rfl) rfl) (ov (kI) rfl) rfl)))) (pss_consS (ps_retS (kB)) (pss_nilS)) (pss_nilS)) (pss_consS (ps_ifS (PW.pt (pw_orS (pt_notS (pt_plain (eCall c tk zk00_8_5 k_is_name (by omega) rfl (.cons (ov (eSubS c (ob c zk00_8_2) (ov (kI) rfl) rfl) rfl) .nil) rfl) rfl)) (pw_orS (tNotIn c (ov (eSubS c (ob c zk00_8_2) (ov (kI) rfl) rfl) rfl) (ob c zk00_8_4) rfl) (pw_orS1 (pt_notS (pt_plain (eCall c tk zk00_8_1 k_is_in (by omega) rfl (.cons (ov (eSubS c (ob c zk00_8_2) (ov (kI) rfl) rfl) rfl) (.cons (ov (kI) rfl) (.cons (ov (eSub (ob c zk00_8_3) (ov (kI) rfl)) rfl) .nil))) rfl) rfl)))))) (pss_consS (ps_retS (kB)) (pss_nilS)) (pss_nilS)) (pss_nilS))) rfl) (pss_consS (ps_retS (kB)) (pss_nilS)))
theorem s_k00_8 : FnScope N_k00_8 ["value", "inputs", "outputs", "many"] (defScope (topS 8)) := ⟨rfl, rfl, rfl, by decide +kernel, rfl, by decide +kernel, by decide +kernel⟩
/-! ### is_machine -/
def N_k00_9 : List Str := ["thing", "row"]
theorem zk00_9_0 : vnB N_k00_9 (defScope (topS 9)) 0 "thing" = true := by decide +kernel
theorem zk00_9_1 : tnB N_k00_9 (defScope (topS 9)) (defScope (topS 9)) 1 "row" = true := by decide +kernel
theorem zk00_9_2 : gnB (defScope (topS 9)) "is_row" = true := by decide +kernel
theorem zk00_9_3 : vnB N_k00_9 (defScope (topS 9)) 1 "row" = true := by decide +kernel
theorem zk00_9_4 : gnB (defScope (topS 9)) "len" = true := by decide +kernel
theorem zk00_9_5 : gnB (defScope (topS 9)) "STATES" = true := by decide +kernel
theorem zk00_9_6 : gnB (defScope (topS 9)) "isinstance" = true := by decide +kernel
theorem zk00_9_7 : gnB (defScope (topS 9)) "tuple" = true := by decide +kernel
theorem zk00_9_8 : gnB (defScope (topS 9)) "are_names" = true := by decide +kernel
theorem zk00_9_9 : gnB (defScope (topS 9)) "str" = true := by decide +kernel
def F_k00_9 : S := seqS (ifS (orM (notM (boolM (opE [.b 0] (sop (isiS "tuple"))))) (orM (boolM (opE [.v (opE [.b 0] (sop lenS)), .v (cst (.int 4))] (sop (eqS true)))) (notM (boolM (opE [.v (opE [.b 0, .v (cst (.int 0))] (frzOps idxOp))] (sop (isiS "str"))))))) (seqS (retS (cst (.bl false))) (skipS)) (skipS)) (seqS (ifS (orM (boolM (opE [.v (opE [.b 0, .v (cst (.int 0))] (frzOps idxOp)), .v (cst (.str "machine"))] (sop (eqS true)))) (orM (notM (boolM (opE [.v (opE [.b 0, .v (cst (.int 1))] (frzOps idxOp)), .v (cst (.int 1)), .v (cst (.int 4))] (callG [false, false, false] R_k00_5)))) (notM (boolM (opE [.v (opE [.b 0, .v (cst (.int 2))] (frzOps idxOp)), .v (cst (.int 2)), .v (cst (.int 4))] (callG [false, false, false] R_k00_5)))))) (seqS (retS (cst (.bl false))) (skipS)) (skipS)) (seqS (ifS (orM (notM (boolM (opE [.v (opE [.b 0, .v (cst (.int 3))] (frzOps idxOp))] (sop (isiS "tuple"))))) (notM (boolM (chainV .le .le (cst (.int 1)) (opE [.v (opE [.b 0, .v (cst (.int 3))] (frzOps idxOp))] (sop lenS)) (cst (.int (12))))))) (seqS (retS (cst (.bl false))) (skipS)) (skipS)) (seqS (forS (itsV (opE [.b 0, .v (cst (.int 3))] (frzOps idxOp))) (.n 1) (seqS (ifS (notM (boolM (opE [.b 1, .v (opE [.b 0, .v (cst (.int 1))] (frzOps idxOp)), .v (opE [.b 0, .v (cst (.int 2))] (frzOps idxOp)), .v (opE [.v (opE [.b 0, .v (cst (.int 3))] (frzOps idxOp))] (sop lenS))] (callG [false, false, false, false] R_k00_8)))) (seqS (retS (cst (.bl false))) (skipS)) (skipS)) (skipS))) (seqS (retS (cst (.bl true))) (skipS)))))
def R_k00_9 : Fn := runS 2 [false] (F_k00_9)
theorem b_k00_9 {X : Cx} {W : WX} {mg : Str → Option Value} {k : Nat} (c : Cd X N_k00_9 (defScope (topS 9)) (defScope (topS 9)) k mg) (tk : Takes X W) (po : PassesOwn (model X.prog X.w) X.A X.env X.xe) (m_len : mg "len" = none) (m_isinstance : mg "isinstance" = none) (m_tuple : mg "tuple" = none) (m_str : mg "str" = none) (q_STATES : KonD X.K mg "STATES" (.int (12))) {j_is_row : Nat} (k_is_row : Cal X mg "is_row" ["value", "inputs", "outputs", "many"] j_is_row [false, false, false, false] R_k00_8) (l_is_row : j_is_row ≤ k) {j_are_names : Nat} (k_are_names : Cal X mg "are_names" ["value", "least", "most"] j_are_names [false, false, false] R_k00_5) (l_are_names : j_are_names ≤ k) : PSs X (defBody (topS 9)) (sD (mIdx 0 [false]) mg W (F_k00_9)) :=
  pss_consS (ps_ifS (PW.pt (pw_orS (pt_notS (pt_plain (eIsi c zk00_9_6 m_isinstance zk00_9_7 m_tuple boot_tuple (ob c zk00_9_0) rfl) rfl)) (pw_orS (tNe c (ov (eLen c zk00_9_4 m_len (ob c zk00_9_0) rfl) rfl) (ov (kI) rfl) rfl) (pw_orS1 (pt_notS (pt_plain (eIsi c zk00_9_6 m_isinstance zk00_9_9 m_str boot_str (ov (eSubS c (ob c zk00_9_0) (ov (kI) rfl) rfl) rfl) rfl) rfl)))))) (pss_consS (ps_retS (kB)) (pss_nilS)) (pss_nilS)) (pss_consS (ps_ifS (PW.pt (pw_orS (tNe c (ov (eSubS c (ob c zk00_9_0) (ov (kI) rfl) rfl) rfl) (ov (kS) rfl) rfl) (pw_orS (pt_notS (pt_plain (eCall c tk zk00_9_8 k_are_names (by omega) rfl (.cons (ov (eSubS c (ob c zk00_9_0) (ov (kI) rfl) rfl) rfl) (.cons (ov (kI) rfl) (.cons (ov (kI) rfl) .nil))) rfl) rfl)) (pw_orS1 (pt_notS (pt_plain (eCall c tk zk00_9_8 k_are_names (by omega) rfl (.cons (ov (eSubS c (ob c zk00_9_0) (ov (kI) rfl) rfl) rfl) (.cons (ov (kI) rfl) (.cons (ov (kI) rfl) .nil))) rfl) rfl)))))) (pss_consS (ps_retS (kB)) (pss_nilS)) (pss_nilS)) (pss_consS (ps_ifS (PW.pt (pw_orS (pt_notS (pt_plain (eIsi c zk00_9_6 m_isinstance zk00_9_7 m_tuple boot_tuple (ov (eSubS c (ob c zk00_9_0) (ov (kI) rfl) rfl) rfl) rfl) rfl)) (pw_orS1 (pt_notS (pt_chainS .le .le (kI) (eLen c zk00_9_4 m_len (ov (eSubS c (ob c zk00_9_0) (ov (kI) rfl) rfl) rfl) rfl) (kG c zk00_9_5 q_STATES) rfl))))) (pss_consS (ps_retS (kB)) (pss_nilS)) (pss_nilS)) (pss_consS (ps_forS po c.calm (pi_valS c.hK (eSubS c (ob c zk00_9_0) (ov (kI) rfl) rfl)) (gN c zk00_9_1 rfl) (pss_consS (ps_ifS (pt_notS (pt_plain (eCall c tk zk00_9_2 k_is_row (by omega) rfl (.cons (ob c zk00_9_3) (.cons (ov (eSubS c (ob c zk00_9_0) (ov (kI) rfl) rfl) rfl) (.cons (ov (eSubS c (ob c zk00_9_0) (ov (kI) rfl) rfl) rfl) (.cons (ov (eLen c zk00_9_4 m_len (ov (eSubS c (ob c zk00_9_0) (ov (kI) rfl) rfl) rfl) rfl) rfl) .nil)))) rfl) rfl)) (pss_consS (ps_retS (kB)) (pss_nilS)) (pss_nilS)) (pss_nilS)) rfl) (pss_consS (ps_retS (kB)) (pss_nilS)))))
theorem s_k00_9 : FnScope N_k00_9 ["thing"] (defScope (topS 9)) := ⟨rfl, rfl, rfl, by decide +kernel, rfl, by decide +kernel, by decide +kernel⟩
/-! ### _law_begun -/
def N_k00_11 : List Str := ["script", "wide", "grain"]
def sc_k00_11_1 : Scope := { kind := .function, names := [(".0", .local), ("grain", .local), ("int", .globalImplicit), ("abs", .globalImplicit)], isGenerator := false, isCoroutine := false }
theorem zk00_11_0 : blkC N_k00_11 (defScope (topS 11)) sc_k00_11_1 [("grain", 2)] = true := by decide +kernel
theorem zk00_11_1 : vnB N_k00_11 (defScope (topS 11)) 0 "script" = true := by decide +kernel
theorem zk00_11_2 : tnB N_k00_11 (relS sc_k00_11_1 (defScope (topS 11))) sc_k00_11_1 2 "grain" = true := by decide +kernel
theorem zk00_11_3 : gnB (relS sc_k00_11_1 (defScope (topS 11))) "int" = true := by decide +kernel
theorem zk00_11_4 : gnB (relS sc_k00_11_1 (defScope (topS 11))) "abs" = true := by decide +kernel
theorem zk00_11_5 : vnB N_k00_11 (relS sc_k00_11_1 (defScope (topS 11))) 2 "grain" = true := by decide +kernel
theorem zk00_11_6 : vnB N_k00_11 (defScope (topS 11)) 1 "wide" = true := by decide +kernel
theorem zk00_11_7 : tnB N_k00_11 (defScope (topS 11)) (defScope (topS 11)) 1 "wide" = true := by decide +kernel
def sc_k00_11_2 : Scope := { kind := .function, names := [(".0", .local), ("grain", .local), ("abs", .globalImplicit)], isGenerator := false, isCoroutine := false }
theorem zk00_11_8 : blkC N_k00_11 (defScope (topS 11)) sc_k00_11_2 [("grain", 2)] = true := by decide +kernel
theorem zk00_11_9 : tnB N_k00_11 (relS sc_k00_11_2 (defScope (topS 11))) sc_k00_11_2 2 "grain" = true := by decide +kernel
theorem zk00_11_10 : gnB (relS sc_k00_11_2 (defScope (topS 11))) "abs" = true := by decide +kernel
theorem zk00_11_11 : vnB N_k00_11 (relS sc_k00_11_2 (defScope (topS 11))) 2 "grain" = true := by decide +kernel
theorem zk00_11_12 : lnB N_k00_11 (defScope (topS 11)) 1 "wide" = true := by decide +kernel
def F_k00_11 : S := seqS (asgS (.n 1) (lcS (itsV (nameS 0)) (.n 2) (boolM (opE [.v (opE [.b 2] (sop absS)), .v (opE [.v (cst (.int 10)), .v (cst (.int 18))] (sop powD))] (sop (ordS .ge)))) (opE [.v (opE [.b 2] (sop absS)), .v (opE [.v (cst (.int 10)), .v (cst (.int 18))] (sop powD))] (sop subD)) [2])) (seqS (retS (opE [.v (cst (.str "wide")), .v (movS 1), .v (cst (.str "cells")), .v (lcS (itsV (nameS 0)) (.n 2) (M.ret true) (opE [.v (opE [.v (opE [.b 2] (sop absS))] (sop intOfS)), .v (cst (.int 2147483629))] (sop modD)) [2]), .v (cst (.str "rest")), .v (cst (.int 0)), .v (cst (.str "turn")), .v (cst (.int 0))] dispD)) (skipS))
def R_k00_11 : Fn := runS 3 [false] (F_k00_11)
theorem b_k00_11 {X : Cx} {W : WX} {mg : Str → Option Value} {k : Nat} (c : Cd X N_k00_11 (defScope (topS 11)) (defScope (topS 11)) k mg) (tk : Takes X W) (po : PassesOwn (model X.prog X.w) X.A X.env X.xe) (m_int : mg "int" = none) (m_abs : mg "abs" = none) : PSs X (defBody (topS 11)) (sD (mIdx 0 [false]) mg W (F_k00_11)) :=
  pss_consS (sLc c (lcOk (own := [("grain", 2)]) c zk00_11_8 (pi_valS c.hK (kNm c zk00_11_1)) rfl (fun s2 H2 C2 cl2 fp2 => gN (c.blk s2 H2 sc_k00_11_2 cl2 C2 fp2 rfl) zk00_11_9 (by decide +kernel)) (fun s2 H2 C2 cl2 fp2 => q1 (tOrd .ge (ov (eAbs (c.blk s2 H2 sc_k00_11_2 cl2 C2 fp2 rfl) zk00_11_10 m_abs (ob (c.blk s2 H2 sc_k00_11_2 cl2 C2 fp2 rfl) zk00_11_11) rfl) rfl) (ov (ePow (ov (kI) rfl) (ov (kI) rfl)) rfl) rfl)) (fun s2 H2 C2 cl2 fp2 => eSub (ov (eAbs (c.blk s2 H2 sc_k00_11_2 cl2 C2 fp2 rfl) zk00_11_10 m_abs (ob (c.blk s2 H2 sc_k00_11_2 cl2 C2 fp2 rfl) zk00_11_11) rfl) rfl) (ov (ePow (ov (kI) rfl) (ov (kI) rfl)) rfl))) zk00_11_12 rfl rfl (by decide +kernel)) (pss_consS (ps_retS (eDict (.cons (ov (kS) rfl) (ov (kMv c zk00_11_6) rfl) (.cons (ov (kS) rfl) (ov (pe_lcS (lcOk (own := [("grain", 2)]) c zk00_11_0 (pi_valS c.hK (kNm c zk00_11_1)) rfl (fun s1 H1 C1 cl1 fp1 => gN (c.blk s1 H1 sc_k00_11_1 cl1 C1 fp1 rfl) zk00_11_2 (by decide +kernel)) (fun s1 H1 C1 cl1 fp1 => qN) (fun s1 H1 C1 cl1 fp1 => eMod (ov (eInt (c.blk s1 H1 sc_k00_11_1 cl1 C1 fp1 rfl) zk00_11_3 m_int (ov (eAbs (c.blk s1 H1 sc_k00_11_1 cl1 C1 fp1 rfl) zk00_11_4 m_abs (ob (c.blk s1 H1 sc_k00_11_1 cl1 C1 fp1 rfl) zk00_11_5) rfl) rfl) rfl) rfl) (ov (kI) rfl)))) rfl) (.cons (ov (kS) rfl) (ov (kI) rfl) (.cons (ov (kS) rfl) (ov (kI) rfl) .nil)))) rfl rfl)) (pss_nilS))
theorem s_k00_11 : FnScope N_k00_11 ["script"] (defScope (topS 11)) := ⟨rfl, rfl, rfl, by decide +kernel, rfl, by decide +kernel, by decide +kernel⟩
/-! ### _law_mixed -/
def N_k00_12 : List Str := ["draw", "prime", "turn", "found", "blend", "grain"]
theorem zk00_12_0 : vnB N_k00_12 (defScope (topS 12)) 3 "found" = true := by decide +kernel
theorem zk00_12_1 : tnB N_k00_12 (defScope (topS 12)) (defScope (topS 12)) 1 "prime" = true := by decide +kernel
theorem zk00_12_2 : tnB N_k00_12 (defScope (topS 12)) (defScope (topS 12)) 3 "found" = true := by decide +kernel
theorem zk00_12_3 : gnB (defScope (topS 12)) "int" = true := by decide +kernel
theorem zk00_12_4 : vnB N_k00_12 (defScope (topS 12)) 4 "blend" = true := by decide +kernel
theorem zk00_12_5 : vnB N_k00_12 (defScope (topS 12)) 1 "prime" = true := by decide +kernel
theorem zk00_12_6 : tnB N_k00_12 (defScope (topS 12)) (defScope (topS 12)) 5 "grain" = true := by decide +kernel
theorem zk00_12_7 : tnB N_k00_12 (defScope (topS 12)) (defScope (topS 12)) 4 "blend" = true := by decide +kernel
theorem zk00_12_8 : vnB N_k00_12 (defScope (topS 12)) 5 "grain" = true := by decide +kernel
theorem zk00_12_9 : vnB N_k00_12 (defScope (topS 12)) 2 "turn" = true := by decide +kernel
theorem zk00_12_10 : vnB N_k00_12 (defScope (topS 12)) 0 "draw" = true := by decide +kernel
theorem zk00_12_11 : lnB N_k00_12 (defScope (topS 12)) 2 "turn" = true := by decide +kernel
theorem zk00_12_12 : lnB N_k00_12 (defScope (topS 12)) 3 "found" = true := by decide +kernel
def F_k00_12 : S := seqS (parS [2, 3] [.v (opE [.v (opE [.b 0, .v (cst (.str "turn"))] (frzOps idxOp)), .v (cst (.int 1))] (frzOps (nop addK))), .v (cst (.int 0))]) (seqS (exprS (opE [.v (nameS 2), .b 0, .v (cst (.str "turn"))] setG)) (seqS (forS (itsV (opE [.v (cst (.int 2147483647)), .v (cst (.int 2147483629)), .v (cst (.int 2147483587)), .v (cst (.int 2147483579))] dispL)) (.n 1) (seqS (asgS (.n 4) (opE [.v (opE [.v (cst (.int 48271)), .b 2] (frzOps (nop mulK))), .v (opE [.b 1, .v (cst (.int 37))] (sop fdivD))] (frzOps (nop addK)))) (seqS (forP 0 (cst (.str "cells")) (.n 5) (seqS (asgS (.n 4) (opE [.v (opE [.v (opE [.v (opE [.v (opE [.b 4, .v (cst (.int 69621))] (frzOps (nop mulK))), .b 5] (frzOps (nop addK))), .b 2] (frzOps (nop addK)))] (sop intOfS)), .b 1] (sop modD))) (skipS))) (seqS (asgS (.n 3) (opE [.v (opE [.b 3, .v (cst (.int 2147483647))] (frzOps (nop mulK))), .v (opE [.v (opE [.v (opE [.b 4, .v (cst (.int 5))] (sop powD))] (sop intOfS)), .b 1] (sop modD))] (frzOps (nop addK)))) (skipS))))) (seqS (retS (movS 3)) (skipS))))
def R_k00_12 : Fn := runS 6 [true] (F_k00_12)
theorem b_k00_12 {X : Cx} {W : WX} {mg : Str → Option Value} {k : Nat} (c : Cd X N_k00_12 (defScope (topS 12)) (defScope (topS 12)) k mg) (tk : Takes X W) (po : PassesOwn (model X.prog X.w) X.A X.env X.xe) (m_int : mg "int" = none) : PSs X (defBody (topS 12)) (sD (mIdx 0 [true]) mg W (F_k00_12)) :=
  pss_consS (sPar2 c zk00_12_11 zk00_12_12 rfl (by decide +kernel) rfl rfl (.cons (ov (eAdd (ov (eSubS c (ob c zk00_12_10) (ov (kS) rfl) rfl) rfl) (ov (kI) rfl)) rfl) (.cons (ov (kI) rfl) .nil)) rfl rfl rfl rfl) (pss_consS (sSet c (kNm c zk00_12_9) zk00_12_10 (kS) rfl rfl) (pss_consS (ps_forS po c.calm (pi_valS c.hK (pe_lstS (.cons (ov (kI) rfl) (.cons (ov (kI) rfl) (.cons (ov (kI) rfl) (.cons (ov (kI) rfl) .nil)))))) (gN c zk00_12_1 rfl) (pss_consS (sName c (eAdd (ov (eMul (ov (kI) rfl) (ob c zk00_12_9)) rfl) (ov (eFdiv (ob c zk00_12_5) (ov (kI) rfl)) rfl)) zk00_12_7 rfl rfl) (pss_consS (ps_forP po c zk00_12_10 (kS) rfl rfl (gN c zk00_12_6 rfl) (pss_consS (sName c (eMod (ov (eInt c zk00_12_3 m_int (ov (eAdd (ov (eAdd (ov (eMul (ob c zk00_12_4) (ov (kI) rfl)) rfl) (ob c zk00_12_8)) rfl) (ob c zk00_12_9)) rfl) rfl) rfl) (ob c zk00_12_5)) zk00_12_7 rfl rfl) (pss_nilS))) (pss_consS (sName c (eAdd (ov (eMul (ob c zk00_12_0) (ov (kI) rfl)) rfl) (ov (eMod (ov (eInt c zk00_12_3 m_int (ov (ePow (ob c zk00_12_4) (ov (kI) rfl)) rfl) rfl) rfl) (ob c zk00_12_5)) rfl)) zk00_12_2 rfl rfl) (pss_nilS)))) rfl) (pss_consS (ps_retS (kMv c zk00_12_0)) (pss_nilS))))
theorem s_k00_12 : FnScope N_k00_12 ["draw"] (defScope (topS 12)) := ⟨rfl, rfl, rfl, by decide +kernel, rfl, by decide +kernel, by decide +kernel⟩
/-! ### _law_take -/
def N_k00_13 : List Str := ["draw", "many", "found"]
theorem zk00_13_0 : vnB N_k00_13 (defScope (topS 13)) 2 "found" = true := by decide +kernel
theorem zk00_13_1 : vnB N_k00_13 (defScope (topS 13)) 0 "draw" = true := by decide +kernel
theorem zk00_13_2 : vnB N_k00_13 (defScope (topS 13)) 1 "many" = true := by decide +kernel
theorem zk00_13_3 : tnB N_k00_13 (defScope (topS 13)) (defScope (topS 13)) 2 "found" = true := by decide +kernel
theorem zk00_13_4 : gnB (defScope (topS 13)) "int" = true := by decide +kernel
theorem zk00_13_5 : gnB (defScope (topS 13)) "_law_mixed" = true := by decide +kernel
def F_k00_13 : S := seqS (ifS (boolM (opE [.v (opE [.b 0, .v (cst (.str "rest"))] (frzOps idxOp)), .v (cst (.int 0))] (sop (eqS false)))) (seqS (exprS (opE [.v (ifV (boolM (pthG anyT 0 (cst (.str "wide")) [.v (opE [] dispL)] (sop (eqS true)) [])) (pthG (isT "list") 0 (cst (.str "wide")) [.v (cst (.int 0))] popAtG []) (opE [.b 0] (callG [true] R_k00_12))), .b 0, .v (cst (.str "rest"))] setG)) (skipS)) (skipS)) (seqS (asgS (.n 2) (opE [.v (opE [.v (opE [.b 0, .v (cst (.str "rest"))] (frzOps idxOp))] (sop intOfS)), .b 1] (sop modD))) (seqS (exprS (opE [.v (opE [.v (opE [.b 0, .v (cst (.str "rest"))] (frzOps idxOp)), .b 1] (sop fdivD)), .b 0, .v (cst (.str "rest"))] setG)) (seqS (retS (movS 2)) (skipS))))
def R_k00_13 : Fn := runS 3 [true, false] (F_k00_13)
theorem b_k00_13 {X : Cx} {W : WX} {mg : Str → Option Value} {k : Nat} (c : Cd X N_k00_13 (defScope (topS 13)) (defScope (topS 13)) k mg) (tk : Takes X W) (po : PassesOwn (model X.prog X.w) X.A X.env X.xe) (m_int : mg "int" = none) {j_law_mixed : Nat} (k_law_mixed : Cal X mg "_law_mixed" ["draw"] j_law_mixed [true] R_k00_12) (l_law_mixed : j_law_mixed ≤ k) : PSs X (defBody (topS 13)) (sD (mIdx 0 [true, false]) mg W (F_k00_13)) :=
  pss_consS (ps_ifS (tEq c (ov (eSubS c (ob c zk00_13_1) (ov (kS) rfl) rfl) rfl) (ov (kI) rfl) rfl) (pss_consS (sSet c (pe_ifS (tNeP c (pth c zk00_13_1 (kS) rfl) (ov (pe_lstS .nil) rfl) rfl) (mPopAtP (pth c zk00_13_1 (kS) rfl) (ov (kI) rfl) rfl rfl) (eCall c tk zk00_13_5 k_law_mixed (by omega) rfl (.cons (ob c zk00_13_1) .nil) rfl)) zk00_13_1 (kS) rfl rfl) (pss_nilS)) (pss_nilS)) (pss_consS (sName c (eMod (ov (eInt c zk00_13_4 m_int (ov (eSubS c (ob c zk00_13_1) (ov (kS) rfl) rfl) rfl) rfl) rfl) (ob c zk00_13_2)) zk00_13_3 rfl rfl) (pss_consS (sSet c (eFdiv (ov (eSubS c (ob c zk00_13_1) (ov (kS) rfl) rfl) rfl) (ob c zk00_13_2)) zk00_13_1 (kS) rfl rfl) (pss_consS (ps_retS (kMv c zk00_13_0)) (pss_nilS))))
theorem s_k00_13 : FnScope N_k00_13 ["draw", "many"] (defScope (topS 13)) := ⟨rfl, rfl, rfl, by decide +kernel, rfl, by decide +kernel, by decide +kernel⟩
/-! ### _law_pick -/
def N_k00_14 : List Str := ["draw", "some"]
theorem zk00_14_0 : vnB N_k00_14 (defScope (topS 14)) 1 "some" = true := by decide +kernel
theorem zk00_14_1 : gnB (defScope (topS 14)) "_law_take" = true := by decide +kernel
theorem zk00_14_2 : vnB N_k00_14 (defScope (topS 14)) 0 "draw" = true := by decide +kernel
theorem zk00_14_3 : gnB (defScope (topS 14)) "len" = true := by decide +kernel
def F_k00_14 : S := seqS (retS (opE [.b 1, .v (opE [.b 0, .v (opE [.b 1] (sop lenS))] (callG [true, false] R_k00_13))] (frzOps idxOp))) (skipS)
def R_k00_14 : Fn := runS 2 [true, false] (F_k00_14)
theorem b_k00_14 {X : Cx} {W : WX} {mg : Str → Option Value} {k : Nat} (c : Cd X N_k00_14 (defScope (topS 14)) (defScope (topS 14)) k mg) (tk : Takes X W) (po : PassesOwn (model X.prog X.w) X.A X.env X.xe) (m_len : mg "len" = none) {j_law_take : Nat} (k_law_take : Cal X mg "_law_take" ["draw", "many"] j_law_take [true, false] R_k00_13) (l_law_take : j_law_take ≤ k) : PSs X (defBody (topS 14)) (sD (mIdx 0 [true, false]) mg W (F_k00_14)) :=
  pss_consS (ps_retS (eSubS c (ob c zk00_14_0) (ov (eCall c tk zk00_14_1 k_law_take (by omega) rfl (.cons (ob c zk00_14_2) (.cons (ov (eLen c zk00_14_3 m_len (ob c zk00_14_0) rfl) rfl) .nil)) rfl) rfl) rfl)) (pss_nilS)
theorem s_k00_14 : FnScope N_k00_14 ["draw", "some"] (defScope (topS 14)) := ⟨rfl, rfl, rfl, by decide +kernel, rfl, by decide +kernel, by decide +kernel⟩
/-! ### _law_shuffled -/
def N_k00_15 : List Str := ["draw", "some", "remain", "found"]
theorem zk00_15_0 : vnB N_k00_15 (defScope (topS 15)) 3 "found" = true := by decide +kernel
theorem zk00_15_1 : vnB N_k00_15 (defScope (topS 15)) 2 "remain" = true := by decide +kernel
theorem zk00_15_2 : gnB (defScope (topS 15)) "_law_take" = true := by decide +kernel
theorem zk00_15_3 : vnB N_k00_15 (defScope (topS 15)) 0 "draw" = true := by decide +kernel
theorem zk00_15_4 : gnB (defScope (topS 15)) "len" = true := by decide +kernel
theorem zk00_15_5 : gnB (defScope (topS 15)) "list" = true := by decide +kernel
theorem zk00_15_6 : vnB N_k00_15 (defScope (topS 15)) 1 "some" = true := by decide +kernel
theorem zk00_15_7 : lnB N_k00_15 (defScope (topS 15)) 2 "remain" = true := by decide +kernel
theorem zk00_15_8 : lnB N_k00_15 (defScope (topS 15)) 3 "found" = true := by decide +kernel
noncomputable def F_k00_15 : S := seqS (parS [2, 3] [.v (opE [.b 1] (frzOps (nop listK2))), .v (opE [] dispL)]) (seqS (whileS (boolM (opE [.b 2, .v (opE [] dispL)] (sop (eqS true)))) (seqS (exprS (mthE "list" (.b 3) [.v (mthE "list" (.b 2) [.v (opE [.b 0, .v (opE [.b 2] (sop lenS))] (callG [true, false] R_k00_13))] popAtG)] appG)) (skipS))) (seqS (retS (movS 3)) (skipS)))
noncomputable def R_k00_15 : Fn := runS 4 [true, false] (F_k00_15)
theorem b_k00_15 {X : Cx} {W : WX} {mg : Str → Option Value} {k : Nat} (c : Cd X N_k00_15 (defScope (topS 15)) (defScope (topS 15)) k mg) (tk : Takes X W) (po : PassesOwn (model X.prog X.w) X.A X.env X.xe) (m_len : mg "len" = none) (m_list : mg "list" = none) {j_law_take : Nat} (k_law_take : Cal X mg "_law_take" ["draw", "many"] j_law_take [true, false] R_k00_13) (l_law_take : j_law_take ≤ k) : PSs X (defBody (topS 15)) (sD (mIdx 0 [true, false]) mg W (F_k00_15)) :=
  pss_consS (sPar2 c zk00_15_7 zk00_15_8 rfl (by decide +kernel) rfl rfl (.cons (ov (eList c zk00_15_5 m_list (ob c zk00_15_6) rfl) rfl) (.cons (ov (pe_lstS .nil) rfl) .nil)) rfl rfl rfl rfl) (pss_consS (ps_whileS po (tNe c (ob c zk00_15_1) (ov (pe_lstS .nil) rfl) rfl) (pss_consS (ps_exprS (mApp (ob c zk00_15_0) (ov (mPopAt (ob c zk00_15_1) (ov (eCall c tk zk00_15_2 k_law_take (by omega) rfl (.cons (ob c zk00_15_3) (.cons (ov (eLen c zk00_15_4 m_len (ob c zk00_15_1) rfl) rfl) .nil)) rfl) rfl) rfl rfl rfl) rfl) rfl rfl rfl) rfl) (pss_nilS))) (pss_consS (ps_retS (kMv c zk00_15_0)) (pss_nilS)))
theorem s_k00_15 : FnScope N_k00_15 ["draw", "some"] (defScope (topS 15)) := ⟨rfl, rfl, rfl, by decide +kernel, rfl, by decide +kernel, by decide +kernel⟩
/-! ### _law_same -/
def N_k00_16 : List Str := ["told", "due"]
theorem zk00_16_0 : gnB (defScope (topS 16)) "repr" = true := by decide +kernel
theorem zk00_16_1 : vnB N_k00_16 (defScope (topS 16)) 0 "told" = true := by decide +kernel
theorem zk00_16_2 : vnB N_k00_16 (defScope (topS 16)) 1 "due" = true := by decide +kernel
def F_k00_16 : S := seqS (retS (andV (opE [.b 0, .b 1] (sop (eqS false))) (opE [.v (opE [.b 0] (sop reprS)), .v (opE [.b 1] (sop reprS))] (sop (eqS false))))) (skipS)
def R_k00_16 : Fn := runS 2 [false, false] (F_k00_16)
theorem b_k00_16 {X : Cx} {W : WX} {mg : Str → Option Value} {k : Nat} (c : Cd X N_k00_16 (defScope (topS 16)) (defScope (topS 16)) k mg) (tk : Takes X W) (po : PassesOwn (model X.prog X.w) X.A X.env X.xe) (m_repr : mg "repr" = none) : PSs X (defBody (topS 16)) (sD (mIdx 0 [false, false]) mg W (F_k00_16)) :=
  pss_consS (ps_retS (pe_andS (eEq c (ob c zk00_16_1) (ob c zk00_16_2) rfl) (eAnd1 (eEq c (ov (eRepr c zk00_16_0 m_repr (ob c zk00_16_1) rfl) rfl) (ov (eRepr c zk00_16_0 m_repr (ob c zk00_16_2) rfl) rfl) rfl)))) (pss_nilS)
theorem s_k00_16 : FnScope N_k00_16 ["told", "due"] (defScope (topS 16)) := ⟨rfl, rfl, rfl, by decide +kernel, rfl, by decide +kernel, by decide +kernel⟩
/-! ### _law_is_int -/
def N_k00_17 : List Str := ["thing"]
theorem zk00_17_0 : gnB (defScope (topS 17)) "isinstance" = true := by decide +kernel
theorem zk00_17_1 : gnB (defScope (topS 17)) "bool" = true := by decide +kernel
theorem zk00_17_2 : vnB N_k00_17 (defScope (topS 17)) 0 "thing" = true := by decide +kernel
theorem zk00_17_3 : gnB (defScope (topS 17)) "int" = true := by decide +kernel
def F_k00_17 : S := seqS (retS (andV (opE [.b 0] (sop (isiS "int"))) (notV (opE [.b 0] (sop (isiS "bool")))))) (skipS)
def R_k00_17 : Fn := runS 1 [false] (F_k00_17)
theorem b_k00_17 {X : Cx} {W : WX} {mg : Str → Option Value} {k : Nat} (c : Cd X N_k00_17 (defScope (topS 17)) (defScope (topS 17)) k mg) (tk : Takes X W) (po : PassesOwn (model X.prog X.w) X.A X.env X.xe) (m_isinstance : mg "isinstance" = none) (m_bool : mg "bool" = none) (m_int : mg "int" = none) : PSs X (defBody (topS 17)) (sD (mIdx 0 [false]) mg W (F_k00_17)) :=
  pss_consS (ps_retS (pe_andS (eIsi c zk00_17_0 m_isinstance zk00_17_3 m_int boot_int (ob c zk00_17_2) rfl) (eAnd1 (pe_notS (eIsi c zk00_17_0 m_isinstance zk00_17_1 m_bool boot_bool (ob c zk00_17_2) rfl))))) (pss_nilS)
theorem s_k00_17 : FnScope N_k00_17 ["thing"] (defScope (topS 17)) := ⟨rfl, rfl, rfl, by decide +kernel, rfl, by decide +kernel, by decide +kernel⟩
/-! ### _law_names -/
def N_k00_18 : List Str := ["draw", "many", "k", "found", "signs", "word", "other", "fresh", "item", "turn"]
theorem zk00_18_0 : gnB (defScope (topS 18)) "_law_shuffled" = true := by decide +kernel
theorem zk00_18_1 : vnB N_k00_18 (defScope (topS 18)) 0 "draw" = true := by decide +kernel
theorem zk00_18_2 : vnB N_k00_18 (defScope (topS 18)) 3 "found" = true := by decide +kernel
theorem zk00_18_3 : gnB (defScope (topS 18)) "range" = true := by decide +kernel
theorem zk00_18_4 : vnB N_k00_18 (defScope (topS 18)) 1 "many" = true := by decide +kernel
theorem zk00_18_5 : tnB N_k00_18 (defScope (topS 18)) (defScope (topS 18)) 2 "k" = true := by decide +kernel
theorem zk00_18_6 : vnB N_k00_18 (defScope (topS 18)) 7 "fresh" = true := by decide +kernel
theorem zk00_18_7 : tnB N_k00_18 (defScope (topS 18)) (defScope (topS 18)) 7 "fresh" = true := by decide +kernel
def sc_k00_18_1 : Scope := { kind := .function, names := [(".0", .local), ("item", .local), ("found", .free)], isGenerator := false, isCoroutine := false }
theorem zk00_18_8 : blkC N_k00_18 (defScope (topS 18)) sc_k00_18_1 [("item", 8)] = true := by decide +kernel
theorem zk00_18_9 : gnB (defScope (topS 18)) "_law_pick" = true := by decide +kernel
theorem zk00_18_10 : vnB N_k00_18 (defScope (topS 18)) 5 "word" = true := by decide +kernel
theorem zk00_18_11 : vnB N_k00_18 (defScope (topS 18)) 6 "other" = true := by decide +kernel
theorem zk00_18_12 : gnB (defScope (topS 18)) "list" = true := by decide +kernel
theorem zk00_18_13 : vnB N_k00_18 (defScope (topS 18)) 4 "signs" = true := by decide +kernel
theorem zk00_18_14 : tnB N_k00_18 (relS sc_k00_18_1 (defScope (topS 18))) sc_k00_18_1 8 "item" = true := by decide +kernel
theorem zk00_18_15 : vnB N_k00_18 (relS sc_k00_18_1 (defScope (topS 18))) 8 "item" = true := by decide +kernel
theorem zk00_18_16 : vnB N_k00_18 (relS sc_k00_18_1 (defScope (topS 18))) 3 "found" = true := by decide +kernel
theorem zk00_18_17 : lnB N_k00_18 (defScope (topS 18)) 7 "fresh" = true := by decide +kernel
theorem zk00_18_18 : tnB N_k00_18 (defScope (topS 18)) (defScope (topS 18)) 6 "other" = true := by decide +kernel
theorem zk00_18_19 : tnB N_k00_18 (defScope (topS 18)) (defScope (topS 18)) 5 "word" = true := by decide +kernel
def sc_k00_18_2 : Scope := { kind := .function, names := [(".0", .local), ("turn", .local), ("_law_pick", .globalImplicit), ("draw", .free), ("signs", .free)], isGenerator := false, isCoroutine := false }
theorem zk00_18_20 : blkC N_k00_18 (defScope (topS 18)) sc_k00_18_2 [("turn", 9)] = true := by decide +kernel
theorem zk00_18_21 : gnB (defScope (topS 18)) "_law_take" = true := by decide +kernel
theorem zk00_18_22 : tnB N_k00_18 (relS sc_k00_18_2 (defScope (topS 18))) sc_k00_18_2 9 "turn" = true := by decide +kernel
theorem zk00_18_23 : gnB (relS sc_k00_18_2 (defScope (topS 18))) "_law_pick" = true := by decide +kernel
theorem zk00_18_24 : vnB N_k00_18 (relS sc_k00_18_2 (defScope (topS 18))) 0 "draw" = true := by decide +kernel
theorem zk00_18_25 : vnB N_k00_18 (relS sc_k00_18_2 (defScope (topS 18))) 4 "signs" = true := by decide +kernel
theorem zk00_18_26 : tnB N_k00_18 (defScope (topS 18)) (defScope (topS 18)) 3 "found" = true := by decide +kernel
theorem zk00_18_27 : tnB N_k00_18 (defScope (topS 18)) (defScope (topS 18)) 4 "signs" = true := by decide +kernel
noncomputable def F_k00_18 : S := seqS (asgS (.t [(.n 3), (.n 4)]) (opE [.v (opE [] dispL), .v (cst (.str "abcdefghijklmnopqrstuvwxyz0123456789"))] dispT)) (seqS (forS (itsR1 (nameS 1)) (.n 2) (seqS (asgS (.n 5) (mthE "str" (.v (cst (.str ""))) [.v (lcS (itsR1 (opE [.v (cst (.int 1)), .v (opE [.b 0, .v (cst (.int 8))] (callG [true, false] R_k00_13))] (frzOps (nop addK)))) (.n 9) (M.ret true) (opE [.b 0, .b 4] (callG [true, false] R_k00_14)) [9])] (sop joinS))) (seqS (asgS (.n 6) (opE [.b 0, .v (opE [.v (cst (.str "a")), .v (cst (.str "b")), .v (cst (.str "c")), .v (cst (.str "0")), .v (cst (.str "1")), .v (cst (.str "00")), .v (cst (.str "row")), .v (cst (.str "end")), .v (cst (.str "machine")), .v (cst (.str "inputs")), .v (cst (.str "test")), .v (cst (.str "suite"))] dispL)] (callG [true, false] R_k00_14))) (seqS (asgS (.n 7) (lcS (itsV (opE [.v (opE [.v (opE [.b 0, .v (opE [.v (nameS 5), .v (nameS 6)] dispL)] (callG [true, false] R_k00_14)), .v (nameS 5)] dispL), .v (opE [.b 4] (frzOps (nop listK2)))] (frzOps (nop addK)))) (.n 8) (boolM (opE [.b 8, .b 3] (sop (inS true)))) (nameS 8) [8])) (seqS (exprS (mthE "list" (.b 3) [.v (opE [.b 7, .v (cst (.int 0))] (frzOps idxOp))] appG)) (skipS)))))) (seqS (retS (opE [.b 0, .b 3] (callG [true, false] R_k00_15))) (skipS)))
noncomputable def R_k00_18 : Fn := runS 10 [true, false] (F_k00_18)
theorem b_k00_18 {X : Cx} {W : WX} {mg : Str → Option Value} {k : Nat} (c : Cd X N_k00_18 (defScope (topS 18)) (defScope (topS 18)) k mg) (tk : Takes X W) (po : PassesOwn (model X.prog X.w) X.A X.env X.xe) (m_range : mg "range" = none) (m_list : mg "list" = none) {j_law_shuffled : Nat} (k_law_shuffled : Cal X mg "_law_shuffled" ["draw", "some"] j_law_shuffled [true, false] R_k00_15) (l_law_shuffled : j_law_shuffled ≤ k) {j_law_pick : Nat} (k_law_pick : Cal X mg "_law_pick" ["draw", "some"] j_law_pick [true, false] R_k00_14) (l_law_pick : j_law_pick ≤ k) {j_law_take : Nat} (k_law_take : Cal X mg "_law_take" ["draw", "many"] j_law_take [true, false] R_k00_13) (l_law_take : j_law_take ≤ k) : PSs X (defBody (topS 18)) (sD (mIdx 0 [true, false]) mg W (F_k00_18)) :=
  pss_consS (sTT c (pe_tupS (.cons (ov (pe_lstS .nil) rfl) (.cons (ov (kS) rfl) .nil))) (gT c (pgs_consS (gN c zk00_18_26 rfl) (pgs_consS (gN c zk00_18_27 rfl) pgs_nilS rfl) rfl) rfl rfl) (by decide +kernel)) (pss_consS (ps_forS po c.calm (pi_rng1 (gl_of c zk00_18_3).1 (by rw [c.hm]; exact m_range) (kNm c zk00_18_4) rfl) (gN c zk00_18_5 rfl) (pss_consS (sName c (mJoin (ov (kS) rfl) (ov (pe_lcS (lcOk (own := [("turn", 9)]) c zk00_18_20 (pi_rng1 (gl_of c zk00_18_3).1 (by rw [c.hm]; exact m_range) (eAdd (ov (kI) rfl) (ov (eCall c tk zk00_18_21 k_law_take (by omega) rfl (.cons (ob c zk00_18_1) (.cons (ov (kI) rfl) .nil)) rfl) rfl)) rfl) rfl (fun s2 H2 C2 cl2 fp2 => gN (c.blk s2 H2 sc_k00_18_2 cl2 C2 fp2 rfl) zk00_18_22 (by decide +kernel)) (fun s2 H2 C2 cl2 fp2 => qN) (fun s2 H2 C2 cl2 fp2 => eCall (c.blk s2 H2 sc_k00_18_2 cl2 C2 fp2 rfl) takes0 zk00_18_23 (k_law_pick.blk s2 H2 sc_k00_18_2 cl2 C2 fp2) (by omega) rfl (.cons (ob (c.blk s2 H2 sc_k00_18_2 cl2 C2 fp2 rfl) zk00_18_24) (.cons (ob (c.blk s2 H2 sc_k00_18_2 cl2 C2 fp2 rfl) zk00_18_25) .nil)) rfl))) rfl) rfl rfl rfl) zk00_18_19 rfl rfl) (pss_consS (sName c (eCall c tk zk00_18_9 k_law_pick (by omega) rfl (.cons (ob c zk00_18_1) (.cons (ov (pe_lstS (.cons (ov (kS) rfl) (.cons (ov (kS) rfl) (.cons (ov (kS) rfl) (.cons (ov (kS) rfl) (.cons (ov (kS) rfl) (.cons (ov (kS) rfl) (.cons (ov (kS) rfl) (.cons (ov (kS) rfl) (.cons (ov (kS) rfl) (.cons (ov (kS) rfl) (.cons (ov (kS) rfl) (.cons (ov (kS) rfl) .nil))))))))))))) rfl) .nil)) rfl) zk00_18_18 rfl rfl) (pss_consS (sLc c (lcOk (own := [("item", 8)]) c zk00_18_8 (pi_valS c.hK (eAdd (ov (pe_lstS (.cons (ov (eCall c tk zk00_18_9 k_law_pick (by omega) rfl (.cons (ob c zk00_18_1) (.cons (ov (pe_lstS (.cons (ov (kNm c zk00_18_10) rfl) (.cons (ov (kNm c zk00_18_11) rfl) .nil))) rfl) .nil)) rfl) rfl) (.cons (ov (kNm c zk00_18_10) rfl) .nil))) rfl) (ov (eList c zk00_18_12 m_list (ob c zk00_18_13) rfl) rfl))) rfl (fun s1 H1 C1 cl1 fp1 => gN (c.blk s1 H1 sc_k00_18_1 cl1 C1 fp1 rfl) zk00_18_14 (by decide +kernel)) (fun s1 H1 C1 cl1 fp1 => q1 (tNotIn (c.blk s1 H1 sc_k00_18_1 cl1 C1 fp1 rfl) (ob (c.blk s1 H1 sc_k00_18_1 cl1 C1 fp1 rfl) zk00_18_15) (ob (c.blk s1 H1 sc_k00_18_1 cl1 C1 fp1 rfl) zk00_18_16) rfl)) (fun s1 H1 C1 cl1 fp1 => kNm (c.blk s1 H1 sc_k00_18_1 cl1 C1 fp1 rfl) zk00_18_15)) zk00_18_17 rfl rfl (by decide +kernel)) (pss_consS (ps_exprS (mApp (ob c zk00_18_2) (ov (eSubS c (ob c zk00_18_6) (ov (kI) rfl) rfl) rfl) rfl rfl rfl) rfl) (pss_nilS))))) rfl) (pss_consS (ps_retS (eCall c tk zk00_18_0 k_law_shuffled (by omega) rfl (.cons (ob c zk00_18_1) (.cons (ob c zk00_18_2) .nil)) rfl)) (pss_nilS)))
theorem s_k00_18 : FnScope N_k00_18 ["draw", "many"] (defScope (topS 18)) := ⟨rfl, rfl, rfl, by decide +kernel, rfl, by decide +kernel, by decide +kernel⟩
/-! ### _law_letters -/
def N_k00_19 : List Str := ["draw", "inputs", "outputs", "name"]
theorem zk00_19_0 : gnB (defScope (topS 19)) "tuple" = true := by decide +kernel
theorem zk00_19_1 : vnB N_k00_19 (defScope (topS 19)) 1 "inputs" = true := by decide +kernel
theorem zk00_19_2 : vnB N_k00_19 (defScope (topS 19)) 2 "outputs" = true := by decide +kernel
theorem zk00_19_3 : gnB (defScope (topS 19)) "_law_take" = true := by decide +kernel
theorem zk00_19_4 : vnB N_k00_19 (defScope (topS 19)) 0 "draw" = true := by decide +kernel
theorem zk00_19_5 : tnB N_k00_19 (defScope (topS 19)) (defScope (topS 19)) 2 "outputs" = true := by decide +kernel
def sc_k00_19_1 : Scope := { kind := .function, names := [(".0", .local), ("name", .local), ("inputs", .free)], isGenerator := false, isCoroutine := false }
theorem zk00_19_6 : blkC N_k00_19 (defScope (topS 19)) sc_k00_19_1 [("name", 3)] = true := by decide +kernel
theorem zk00_19_7 : tnB N_k00_19 (relS sc_k00_19_1 (defScope (topS 19))) sc_k00_19_1 3 "name" = true := by decide +kernel
theorem zk00_19_8 : vnB N_k00_19 (relS sc_k00_19_1 (defScope (topS 19))) 3 "name" = true := by decide +kernel
theorem zk00_19_9 : vnB N_k00_19 (relS sc_k00_19_1 (defScope (topS 19))) 1 "inputs" = true := by decide +kernel
theorem zk00_19_10 : gnB (defScope (topS 19)) "max" = true := by decide +kernel
theorem zk00_19_11 : gnB (defScope (topS 19)) "len" = true := by decide +kernel
theorem zk00_19_12 : tnB N_k00_19 (defScope (topS 19)) (defScope (topS 19)) 1 "inputs" = true := by decide +kernel
theorem zk00_19_13 : gnB (defScope (topS 19)) "_law_names" = true := by decide +kernel
noncomputable def F_k00_19 : S := seqS (asgS (.t [(.n 1), (.n 2)]) (opE [.v (opE [.b 0, .v (opE [.v (cst (.int 1)), .v (opE [.b 0, .v (cst (.int 4))] (callG [true, false] R_k00_13))] (frzOps (nop addK)))] (callG [true, false] R_k00_18)), .v (opE [.b 0, .v (opE [.v (cst (.int 2)), .v (opE [.b 0, .v (cst (.int 3))] (callG [true, false] R_k00_13))] (frzOps (nop addK)))] (callG [true, false] R_k00_18))] dispT)) (seqS (ifS (boolM (opE [.v (opE [.b 0, .v (cst (.int 3))] (callG [true, false] R_k00_13)), .v (cst (.int 0))] (sop (eqS false)))) (seqS (asgS (.n 2) (opE [.v (opE [.b 1, .v (lcS (itsV (nameS 2)) (.n 3) (boolM (opE [.b 3, .b 1] (sop (inS true)))) (nameS 3) [3])] (frzOps (nop addK))), .v (intS (opE [.v (cst (.int 2)), .v (opE [.b 1] (sop lenS))] (sop max2S)))] (frzOps (nop slHi)))) (skipS)) (skipS)) (seqS (retS (opE [.v (opE [.b 1] (frzOps (nop tupK))), .v (opE [.b 2] (frzOps (nop tupK)))] dispT)) (skipS)))
noncomputable def R_k00_19 : Fn := runS 4 [true] (F_k00_19)
theorem b_k00_19 {X : Cx} {W : WX} {mg : Str → Option Value} {k : Nat} (c : Cd X N_k00_19 (defScope (topS 19)) (defScope (topS 19)) k mg) (tk : Takes X W) (po : PassesOwn (model X.prog X.w) X.A X.env X.xe) (m_tuple : mg "tuple" = none) (m_max : mg "max" = none) (m_len : mg "len" = none) {j_law_take : Nat} (k_law_take : Cal X mg "_law_take" ["draw", "many"] j_law_take [true, false] R_k00_13) (l_law_take : j_law_take ≤ k) {j_law_names : Nat} (k_law_names : Cal X mg "_law_names" ["draw", "many"] j_law_names [true, false] R_k00_18) (l_law_names : j_law_names ≤ k) : PSs X (defBody (topS 19)) (sD (mIdx 0 [true]) mg W (F_k00_19)) :=
  pss_consS (sTT c (pe_tupS (.cons (ov (eCall c tk zk00_19_13 k_law_names (by omega) rfl (.cons (ob c zk00_19_4) (.cons (ov (eAdd (ov (kI) rfl) (ov (eCall c tk zk00_19_3 k_law_take (by omega) rfl (.cons (ob c zk00_19_4) (.cons (ov (kI) rfl) .nil)) rfl) rfl)) rfl) .nil)) rfl) rfl) (.cons (ov (eCall c tk zk00_19_13 k_law_names (by omega) rfl (.cons (ob c zk00_19_4) (.cons (ov (eAdd (ov (kI) rfl) (ov (eCall c tk zk00_19_3 k_law_take (by omega) rfl (.cons (ob c zk00_19_4) (.cons (ov (kI) rfl) .nil)) rfl) rfl)) rfl) .nil)) rfl) rfl) .nil))) (gT c (pgs_consS (gN c zk00_19_12 rfl) (pgs_consS (gN c zk00_19_5 rfl) pgs_nilS rfl) rfl) rfl rfl) (by decide +kernel)) (pss_consS (ps_ifS (tEq c (ov (eCall c tk zk00_19_3 k_law_take (by omega) rfl (.cons (ob c zk00_19_4) (.cons (ov (kI) rfl) .nil)) rfl) rfl) (ov (kI) rfl) rfl) (pss_consS (sName c (pe_slHi (ov (eAdd (ob c zk00_19_1) (ov (pe_lcS (lcOk (own := [("name", 3)]) c zk00_19_6 (pi_valS c.hK (kNm c zk00_19_2)) rfl (fun s1 H1 C1 cl1 fp1 => gN (c.blk s1 H1 sc_k00_19_1 cl1 C1 fp1 rfl) zk00_19_7 (by decide +kernel)) (fun s1 H1 C1 cl1 fp1 => q1 (tNotIn (c.blk s1 H1 sc_k00_19_1 cl1 C1 fp1 rfl) (ob (c.blk s1 H1 sc_k00_19_1 cl1 C1 fp1 rfl) zk00_19_8) (ob (c.blk s1 H1 sc_k00_19_1 cl1 C1 fp1 rfl) zk00_19_9) rfl)) (fun s1 H1 C1 cl1 fp1 => kNm (c.blk s1 H1 sc_k00_19_1 cl1 C1 fp1 rfl) zk00_19_8))) rfl)) rfl) (eMax2 c zk00_19_10 m_max (ov (kI) rfl) (ov (eLen c zk00_19_11 m_len (ob c zk00_19_1) rfl) rfl) rfl rfl)) zk00_19_5 rfl rfl) (pss_nilS)) (pss_nilS)) (pss_consS (ps_retS (pe_tupS (.cons (ov (eTup c zk00_19_0 m_tuple (ob c zk00_19_1) rfl) rfl) (.cons (ov (eTup c zk00_19_0 m_tuple (ob c zk00_19_2) rfl) rfl) .nil)))) (pss_nilS)))
theorem s_k00_19 : FnScope N_k00_19 ["draw"] (defScope (topS 19)) := ⟨rfl, rfl, rfl, by decide +kernel, rfl, by decide +kernel, by decide +kernel⟩
/-! ### _law_machine -/
def N_k00_20 : List Str := ["draw", "inputs", "outputs", "many", "state", "plan", "rows", "row", "k", "is_rare", "output", "later"]
theorem zk00_20_0 : vnB N_k00_20 (defScope (topS 20)) 1 "inputs" = true := by decide +kernel
theorem zk00_20_1 : vnB N_k00_20 (defScope (topS 20)) 2 "outputs" = true := by decide +kernel
theorem zk00_20_2 : gnB (defScope (topS 20)) "tuple" = true := by decide +kernel
theorem zk00_20_3 : vnB N_k00_20 (defScope (topS 20)) 6 "rows" = true := by decide +kernel
theorem zk00_20_4 : gnB (defScope (topS 20)) "range" = true := by decide +kernel
theorem zk00_20_5 : vnB N_k00_20 (defScope (topS 20)) 3 "many" = true := by decide +kernel
theorem zk00_20_6 : tnB N_k00_20 (defScope (topS 20)) (defScope (topS 20)) 4 "state" = true := by decide +kernel
theorem zk00_20_7 : vnB N_k00_20 (defScope (topS 20)) 7 "row" = true := by decide +kernel
theorem zk00_20_8 : gnB (defScope (topS 20)) "len" = true := by decide +kernel
theorem zk00_20_9 : tnB N_k00_20 (defScope (topS 20)) (defScope (topS 20)) 8 "k" = true := by decide +kernel
theorem zk00_20_10 : vnB N_k00_20 (defScope (topS 20)) 10 "output" = true := by decide +kernel
theorem zk00_20_11 : vnB N_k00_20 (defScope (topS 20)) 11 "later" = true := by decide +kernel
theorem zk00_20_12 : vnB N_k00_20 (defScope (topS 20)) 5 "plan" = true := by decide +kernel
theorem zk00_20_13 : tnB N_k00_20 (defScope (topS 20)) (defScope (topS 20)) 11 "later" = true := by decide +kernel
theorem zk00_20_14 : vnB N_k00_20 (defScope (topS 20)) 8 "k" = true := by decide +kernel
theorem zk00_20_15 : gnB (defScope (topS 20)) "min" = true := by decide +kernel
theorem zk00_20_16 : vnB N_k00_20 (defScope (topS 20)) 4 "state" = true := by decide +kernel
theorem zk00_20_17 : gnB (defScope (topS 20)) "_law_pick" = true := by decide +kernel
theorem zk00_20_18 : vnB N_k00_20 (defScope (topS 20)) 0 "draw" = true := by decide +kernel
theorem zk00_20_19 : gnB (defScope (topS 20)) "_law_take" = true := by decide +kernel
theorem zk00_20_20 : tnB N_k00_20 (defScope (topS 20)) (defScope (topS 20)) 10 "output" = true := by decide +kernel
theorem zk00_20_21 : vnB N_k00_20 (defScope (topS 20)) 9 "is_rare" = true := by decide +kernel
theorem zk00_20_22 : tnB N_k00_20 (defScope (topS 20)) (defScope (topS 20)) 9 "is_rare" = true := by decide +kernel
theorem zk00_20_23 : tnB N_k00_20 (defScope (topS 20)) (defScope (topS 20)) 7 "row" = true := by decide +kernel
theorem zk00_20_24 : lnB N_k00_20 (defScope (topS 20)) 5 "plan" = true := by decide +kernel
theorem zk00_20_25 : lnB N_k00_20 (defScope (topS 20)) 6 "rows" = true := by decide +kernel
def F_k00_20 : S := seqS (parS [5, 6] [.v (opE [.b 0, .v (cst (.int 6))] (callG [true, false] R_k00_13)), .v (opE [] dispL)]) (seqS (forS (itsR1 (nameS 3)) (.n 4) (seqS (asgS (.n 7) (opE [] dispL)) (seqS (forS (itsR1 (opE [.b 1] (sop lenS))) (.n 8) (seqS (asgS (.n 9) (andV (opE [.b 5, .v (opE [.v (cst (.int 3)), .v (cst (.int 4)), .v (cst (.int 5))] dispL)] (sop (inS false))) (opE [.v (opE [.b 0, .v (opE [.b 3, .v (opE [.b 1] (sop lenS))] (frzOps (nop mulK)))] (callG [true, false] R_k00_13)), .v (cst (.int 0))] (sop (ordS .gt))))) (seqS (asgS (.n 10) (ifV (boolM (nameS 9)) (opE [.b 2, .v (cst (.int 0))] (frzOps idxOp)) (opE [.b 0, .b 2] (callG [true, false] R_k00_14)))) (seqS (asgS (.n 11) (opE [.b 0, .b 3] (callG [true, false] R_k00_13))) (seqS (ifS (andM (boolM (opE [.b 5, .v (opE [.v (cst (.int 2)), .v (cst (.int 4))] dispL)] (sop (inS false)))) (orM (boolM (opE [.b 8, .v (cst (.int 0))] (sop (eqS false)))) (boolM (opE [.v (opE [.b 0, .v (cst (.int 3))] (callG [true, false] R_k00_13)), .v (cst (.int 0))] (sop (ordS .gt)))))) (seqS (asgS (.n 11) (ifV (boolM (opE [.v (opE [.b 0, .v (cst (.int 8))] (callG [true, false] R_k00_13)), .v (cst (.int 0))] (sop (ordS .gt)))) (opE [.v (opE [.b 4, .v (cst (.int 1))] (frzOps (nop addK))), .b 3] (sop modD)) (nameS 11))) (skipS)) (skipS)) (seqS (ifS (boolM (opE [.b 5, .v (cst (.int 5))] (sop (eqS false)))) (seqS (asgS (.n 11) (ifV (boolM (opE [.b 8, .v (cst (.int 0))] (sop (eqS false)))) (opE [.v (opE [.b 4, .v (cst (.int 1))] (frzOps (nop addK))), .v (opE [.b 3, .v (cst (.int 1))] (sop subD))] (sop min2S)) (opE [.b 0, .v (opE [.v (nameS 4), .v (nameS 11)] dispL)] (callG [true, false] R_k00_14)))) (skipS)) (skipS)) (seqS (exprS (mthE "list" (.b 7) [.v (opE [.v (nameS 10), .v (nameS 11)] dispT)] appG)) (skipS)))))))) (seqS (exprS (mthE "list" (.b 6) [.v (opE [.b 7] (frzOps (nop tupK)))] appG)) (skipS))))) (seqS (retS (opE [.v (cst (.str "machine")), .v (movS 1), .v (movS 2), .v (opE [.b 6] (frzOps (nop tupK)))] dispT)) (skipS)))
def R_k00_20 : Fn := runS 12 [true, false, false, false] (F_k00_20)
theorem b_k00_20 {X : Cx} {W : WX} {mg : Str → Option Value} {k : Nat} (c : Cd X N_k00_20 (defScope (topS 20)) (defScope (topS 20)) k mg) (tk : Takes X W) (po : PassesOwn (model X.prog X.w) X.A X.env X.xe) (m_tuple : mg "tuple" = none) (m_range : mg "range" = none) (m_len : mg "len" = none) (m_min : mg "min" = none) {j_law_pick : Nat} (k_law_pick : Cal X mg "_law_pick" ["draw", "some"] j_law_pick [true, false] R_k00_14) (l_law_pick : j_law_pick ≤ k) {j_law_take : Nat} (k_law_take : Cal X mg "_law_take" ["draw", "many"] j_law_take [true, false] R_k00_13) (l_law_take : j_law_take ≤ k) : PSs X (defBody (topS 20)) (sD (mIdx 0 [true, false, false, false]) mg W (F_k00_20)) :=
  pss_consS (sPar2 c zk00_20_24 zk00_20_25 rfl (by decide +kernel) rfl rfl (.cons (ov (eCall c tk zk00_20_19 k_law_take (by omega) rfl (.cons (ob c zk00_20_18) (.cons (ov (kI) rfl) .nil)) rfl) rfl) (.cons (ov (pe_lstS .nil) rfl) .nil)) rfl rfl rfl rfl) (pss_consS (ps_forS po c.calm (pi_rng1 (gl_of c zk00_20_4).1 (by rw [c.hm]; exact m_range) (kNm c zk00_20_5) rfl) (gN c zk00_20_6 rfl) (pss_consS (sName c (pe_lstS .nil) zk00_20_23 rfl rfl) (pss_consS (ps_forS po c.calm (pi_rng1 (gl_of c zk00_20_4).1 (by rw [c.hm]; exact m_range) (eLen c zk00_20_8 m_len (ob c zk00_20_0) rfl) rfl) (gN c zk00_20_9 rfl) (pss_consS (sName c (pe_andS (eIn c (ob c zk00_20_12) (ov (pe_lstS (.cons (ov (kI) rfl) (.cons (ov (kI) rfl) (.cons (ov (kI) rfl) .nil)))) rfl) rfl) (eAnd1 (eOrd .gt (ov (eCall c tk zk00_20_19 k_law_take (by omega) rfl (.cons (ob c zk00_20_18) (.cons (ov (eMul (ob c zk00_20_5) (ov (eLen c zk00_20_8 m_len (ob c zk00_20_0) rfl) rfl)) rfl) .nil)) rfl) rfl) (ov (kI) rfl) rfl))) zk00_20_22 rfl rfl) (pss_consS (sName c (pe_ifS (pt_plain (kNm c zk00_20_21) rfl) (eSubS c (ob c zk00_20_1) (ov (kI) rfl) rfl) (eCall c tk zk00_20_17 k_law_pick (by omega) rfl (.cons (ob c zk00_20_18) (.cons (ob c zk00_20_1) .nil)) rfl)) zk00_20_20 rfl rfl) (pss_consS (sName c (eCall c tk zk00_20_19 k_law_take (by omega) rfl (.cons (ob c zk00_20_18) (.cons (ob c zk00_20_5) .nil)) rfl) zk00_20_13 rfl rfl) (pss_consS (ps_ifS (PW.pt (pw_andS (tIn c (ob c zk00_20_12) (ov (pe_lstS (.cons (ov (kI) rfl) (.cons (ov (kI) rfl) .nil))) rfl) rfl) (pw_andS1 (PW.pt (pw_orS (tEq c (ob c zk00_20_14) (ov (kI) rfl) rfl) (pw_orS1 (tOrd .gt (ov (eCall c tk zk00_20_19 k_law_take (by omega) rfl (.cons (ob c zk00_20_18) (.cons (ov (kI) rfl) .nil)) rfl) rfl) (ov (kI) rfl) rfl))))))) (pss_consS (sName c (pe_ifS (tOrd .gt (ov (eCall c tk zk00_20_19 k_law_take (by omega) rfl (.cons (ob c zk00_20_18) (.cons (ov (kI) rfl) .nil)) rfl) rfl) (ov (kI) rfl) rfl) (eMod (ov (eAdd (ob c zk00_20_16) (ov (kI) rfl)) rfl) (ob c zk00_20_5)) (kNm c zk00_20_11)) zk00_20_13 rfl rfl) (pss_nilS)) (pss_nilS)) (pss_consS (ps_ifS (tEq c (ob c zk00_20_12) (ov (kI) rfl) rfl) (pss_consS (sName c (pe_ifS (tEq c (ob c zk00_20_14) (ov (kI) rfl) rfl) (eMin2 c zk00_20_15 m_min (ov (eAdd (ob c zk00_20_16) (ov (kI) rfl)) rfl) (ov (eSub (ob c zk00_20_5) (ov (kI) rfl)) rfl) rfl rfl) (eCall c tk zk00_20_17 k_law_pick (by omega) rfl (.cons (ob c zk00_20_18) (.cons (ov (pe_lstS (.cons (ov (kNm c zk00_20_16) rfl) (.cons (ov (kNm c zk00_20_11) rfl) .nil))) rfl) .nil)) rfl)) zk00_20_13 rfl rfl) (pss_nilS)) (pss_nilS)) (pss_consS (ps_exprS (mApp (ob c zk00_20_7) (ov (pe_tupS (.cons (ov (kNm c zk00_20_10) rfl) (.cons (ov (kNm c zk00_20_11) rfl) .nil))) rfl) rfl rfl rfl) rfl) (pss_nilS))))))) rfl) (pss_consS (ps_exprS (mApp (ob c zk00_20_3) (ov (eTup c zk00_20_2 m_tuple (ob c zk00_20_7) rfl) rfl) rfl rfl rfl) rfl) (pss_nilS)))) rfl) (pss_consS (ps_retS (pe_tupS (.cons (ov (kS) rfl) (.cons (ov (kMv c zk00_20_0) rfl) (.cons (ov (kMv c zk00_20_1) rfl) (.cons (ov (eTup c zk00_20_2 m_tuple (ob c zk00_20_3) rfl) rfl) .nil)))))) (pss_nilS)))
theorem s_k00_20 : FnScope N_k00_20 ["draw", "inputs", "outputs", "many"] (defScope (topS 20)) := ⟨rfl, rfl, rfl, by decide +kernel, rfl, by decide +kernel, by decide +kernel⟩
/-! ### _law_a_machine -/
def N_k00_21 : List Str := ["draw", "most", "inputs", "outputs"]
theorem zk00_21_0 : gnB (defScope (topS 21)) "_law_machine" = true := by decide +kernel
theorem zk00_21_1 : vnB N_k00_21 (defScope (topS 21)) 0 "draw" = true := by decide +kernel
theorem zk00_21_2 : vnB N_k00_21 (defScope (topS 21)) 2 "inputs" = true := by decide +kernel
theorem zk00_21_3 : vnB N_k00_21 (defScope (topS 21)) 3 "outputs" = true := by decide +kernel
theorem zk00_21_4 : gnB (defScope (topS 21)) "_law_take" = true := by decide +kernel
theorem zk00_21_5 : vnB N_k00_21 (defScope (topS 21)) 1 "most" = true := by decide +kernel
theorem zk00_21_6 : tnB N_k00_21 (defScope (topS 21)) (defScope (topS 21)) 2 "inputs" = true := by decide +kernel
theorem zk00_21_7 : tnB N_k00_21 (defScope (topS 21)) (defScope (topS 21)) 3 "outputs" = true := by decide +kernel
theorem zk00_21_8 : gnB (defScope (topS 21)) "_law_letters" = true := by decide +kernel
noncomputable def F_k00_21 : S := seqS (asgS (.t [(.n 2), (.n 3)]) (opE [.b 0] (callG [true] R_k00_19))) (seqS (retS (opE [.b 0, .b 2, .b 3, .v (opE [.v (cst (.int 1)), .v (opE [.b 0, .b 1] (callG [true, false] R_k00_13))] (frzOps (nop addK)))] (callG [true, false, false, false] R_k00_20))) (skipS))
noncomputable def R_k00_21 : Fn := runS 4 [true, false] (F_k00_21)
theorem b_k00_21 {X : Cx} {W : WX} {mg : Str → Option Value} {k : Nat} (c : Cd X N_k00_21 (defScope (topS 21)) (defScope (topS 21)) k mg) (tk : Takes X W) (po : PassesOwn (model X.prog X.w) X.A X.env X.xe) {j_law_take : Nat} (k_law_take : Cal X mg "_law_take" ["draw", "many"] j_law_take [true, false] R_k00_13) (l_law_take : j_law_take ≤ k) {j_law_machine : Nat} (k_law_machine : Cal X mg "_law_machine" ["draw", "inputs", "outputs", "many"] j_law_machine [true, false, false, false] R_k00_20) (l_law_machine : j_law_machine ≤ k) {j_law_letters : Nat} (k_law_letters : Cal X mg "_law_letters" ["draw"] j_law_letters [true] R_k00_19) (l_law_letters : j_law_letters ≤ k) : PSs X (defBody (topS 21)) (sD (mIdx 0 [true, false]) mg W (F_k00_21)) :=
  pss_consS (sAsg (eCall c tk zk00_21_8 k_law_letters (by omega) rfl (.cons (ob c zk00_21_1) .nil) rfl) (gT c (pgs_consS (gN c zk00_21_6 rfl) (pgs_consS (gN c zk00_21_7 rfl) pgs_nilS rfl) rfl) rfl rfl) rfl rfl rfl) (pss_consS (ps_retS (eCall c tk zk00_21_0 k_law_machine (by omega) rfl (.cons (ob c zk00_21_1) (.cons (ob c zk00_21_2) (.cons (ob c zk00_21_3) (.cons (ov (eAdd (ov (kI) rfl) (ov (eCall c tk zk00_21_4 k_law_take (by omega) rfl (.cons (ob c zk00_21_1) (.cons (ob c zk00_21_5) .nil)) rfl) rfl)) rfl) .nil)))) rfl)) (pss_nilS))
theorem s_k00_21 : FnScope N_k00_21 ["draw", "most"] (defScope (topS 21)) := ⟨rfl, rfl, rfl, by decide +kernel, rfl, by decide +kernel, by decide +kernel⟩
/-! ### _law_near -/
def N_k00_22 : List Str := ["draw", "machine", "rows", "state", "place", "output", "later", "row"]
theorem zk00_22_0 : vnB N_k00_22 (defScope (topS 22)) 1 "machine" = true := by decide +kernel
theorem zk00_22_1 : gnB (defScope (topS 22)) "tuple" = true := by decide +kernel
def sc_k00_22_1 : Scope := { kind := .function, names := [(".0", .local), ("row", .local), ("tuple", .globalImplicit)], isGenerator := false, isCoroutine := false }
theorem zk00_22_2 : blkC N_k00_22 (defScope (topS 22)) sc_k00_22_1 [("row", 7)] = true := by decide +kernel
theorem zk00_22_3 : vnB N_k00_22 (defScope (topS 22)) 2 "rows" = true := by decide +kernel
theorem zk00_22_4 : tnB N_k00_22 (relS sc_k00_22_1 (defScope (topS 22))) sc_k00_22_1 7 "row" = true := by decide +kernel
theorem zk00_22_5 : gnB (relS sc_k00_22_1 (defScope (topS 22))) "tuple" = true := by decide +kernel
theorem zk00_22_6 : vnB N_k00_22 (relS sc_k00_22_1 (defScope (topS 22))) 7 "row" = true := by decide +kernel
theorem zk00_22_7 : gnB (defScope (topS 22)) "_law_take" = true := by decide +kernel
theorem zk00_22_8 : vnB N_k00_22 (defScope (topS 22)) 0 "draw" = true := by decide +kernel
theorem zk00_22_9 : vnB N_k00_22 (defScope (topS 22)) 3 "state" = true := by decide +kernel
theorem zk00_22_10 : gnB (defScope (topS 22)) "_law_pick" = true := by decide +kernel
theorem zk00_22_11 : vnB N_k00_22 (defScope (topS 22)) 6 "later" = true := by decide +kernel
theorem zk00_22_12 : vnB N_k00_22 (defScope (topS 22)) 4 "place" = true := by decide +kernel
theorem zk00_22_13 : vnB N_k00_22 (defScope (topS 22)) 5 "output" = true := by decide +kernel
theorem zk00_22_14 : gnB (defScope (topS 22)) "len" = true := by decide +kernel
theorem zk00_22_15 : tnB N_k00_22 (defScope (topS 22)) (defScope (topS 22)) 5 "output" = true := by decide +kernel
theorem zk00_22_16 : tnB N_k00_22 (defScope (topS 22)) (defScope (topS 22)) 6 "later" = true := by decide +kernel
theorem zk00_22_17 : lnB N_k00_22 (defScope (topS 22)) 3 "state" = true := by decide +kernel
theorem zk00_22_18 : lnB N_k00_22 (defScope (topS 22)) 4 "place" = true := by decide +kernel
theorem zk00_22_19 : tnB N_k00_22 (defScope (topS 22)) (defScope (topS 22)) 2 "rows" = true := by decide +kernel
def sc_k00_22_2 : Scope := { kind := .function, names := [(".0", .local), ("row", .local), ("list", .globalImplicit)], isGenerator := false, isCoroutine := false }
theorem zk00_22_20 : blkC N_k00_22 (defScope (topS 22)) sc_k00_22_2 [("row", 7)] = true := by decide +kernel
theorem zk00_22_21 : tnB N_k00_22 (relS sc_k00_22_2 (defScope (topS 22))) sc_k00_22_2 7 "row" = true := by decide +kernel
theorem zk00_22_22 : gnB (relS sc_k00_22_2 (defScope (topS 22))) "list" = true := by decide +kernel
theorem zk00_22_23 : vnB N_k00_22 (relS sc_k00_22_2 (defScope (topS 22))) 7 "row" = true := by decide +kernel
theorem zk00_22_24 : lnB N_k00_22 (defScope (topS 22)) 2 "rows" = true := by decide +kernel
def F_k00_22 : S := seqS (asgS (.n 2) (lcS (itsV (opE [.b 1, .v (cst (.int 3))] (frzOps idxOp))) (.n 7) (M.ret true) (opE [.b 7] (frzOps (nop listK2))) [7])) (seqS (parS [3, 4] [.v (opE [.b 0, .v (opE [.b 2] (sop lenS))] (callG [true, false] R_k00_13)), .v (opE [.b 0, .v (opE [.v (opE [.b 1, .v (cst (.int 1))] (frzOps idxOp))] (sop lenS))] (callG [true, false] R_k00_13))]) (seqS (asgS (.t [(.n 5), (.n 6)]) (pthG anyT 2 (nameS 3) [.b 4] idxOp [])) (seqS (ifS (boolM (opE [.v (opE [.b 0, .v (cst (.int 2))] (callG [true, false] R_k00_13)), .v (cst (.int 0))] (sop (eqS false)))) (seqS (exprS (opE [.v (opE [.v (opE [.b 0, .v (opE [.b 1, .v (cst (.int 2))] (frzOps idxOp))] (callG [true, false] R_k00_14)), .v (nameS 6)] dispT)] (pthG anyT 2 (nameS 3) [.v (nameS 4)] setG))) (skipS)) (seqS (exprS (opE [.v (opE [.v (nameS 5), .v (opE [.b 0, .v (opE [.b 2] (sop lenS))] (callG [true, false] R_k00_13))] dispT)] (pthG anyT 2 (nameS 3) [.v (nameS 4)] setG))) (skipS))) (seqS (retS (opE [.v (opE [.b 1, .v (intS (cst (.int 3)))] (frzOps (nop slHi))), .v (opE [.v (opE [.v (lcS (itsV (nameS 2)) (.n 7) (M.ret true) (opE [.b 7] (frzOps (nop tupK))) [7])] (frzOps (nop tupK)))] dispT)] (frzOps (nop addK)))) (skipS)))))
def R_k00_22 : Fn := runS 8 [true, false] (F_k00_22)
theorem b_k00_22 {X : Cx} {W : WX} {mg : Str → Option Value} {k : Nat} (c : Cd X N_k00_22 (defScope (topS 22)) (defScope (topS 22)) k mg) (tk : Takes X W) (po : PassesOwn (model X.prog X.w) X.A X.env X.xe) (m_tuple : mg "tuple" = none) (m_len : mg "len" = none) (m_list : mg "list" = none) {j_law_take : Nat} (k_law_take : Cal X mg "_law_take" ["draw", "many"] j_law_take [true, false] R_k00_13) (l_law_take : j_law_take ≤ k) {j_law_pick : Nat} (k_law_pick : Cal X mg "_law_pick" ["draw", "some"] j_law_pick [true, false] R_k00_14) (l_law_pick : j_law_pick ≤ k) : PSs X (defBody (topS 22)) (sD (mIdx 0 [true, false]) mg W (F_k00_22)) :=
  pss_consS (sLc c (lcOk (own := [("row", 7)]) c zk00_22_20 (pi_valS c.hK (eSubS c (ob c zk00_22_0) (ov (kI) rfl) rfl)) rfl (fun s2 H2 C2 cl2 fp2 => gN (c.blk s2 H2 sc_k00_22_2 cl2 C2 fp2 rfl) zk00_22_21 (by decide +kernel)) (fun s2 H2 C2 cl2 fp2 => qN) (fun s2 H2 C2 cl2 fp2 => eList (c.blk s2 H2 sc_k00_22_2 cl2 C2 fp2 rfl) zk00_22_22 m_list (ob (c.blk s2 H2 sc_k00_22_2 cl2 C2 fp2 rfl) zk00_22_23) rfl)) zk00_22_24 rfl rfl (by decide +kernel)) (pss_consS (sPar2 c zk00_22_17 zk00_22_18 rfl (by decide +kernel) rfl rfl (.cons (ov (eCall c tk zk00_22_7 k_law_take (by omega) rfl (.cons (ob c zk00_22_8) (.cons (ov (eLen c zk00_22_14 m_len (ob c zk00_22_3) rfl) rfl) .nil)) rfl) rfl) (.cons (ov (eCall c tk zk00_22_7 k_law_take (by omega) rfl (.cons (ob c zk00_22_8) (.cons (ov (eLen c zk00_22_14 m_len (ov (eSubS c (ob c zk00_22_0) (ov (kI) rfl) rfl) rfl) rfl) rfl) .nil)) rfl) rfl) .nil)) rfl rfl rfl rfl) (pss_consS (sAsg (subP c (pth c zk00_22_3 (kNm c zk00_22_9) rfl) (ob c zk00_22_12) rfl) (gT c (pgs_consS (gN c zk00_22_15 rfl) (pgs_consS (gN c zk00_22_16 rfl) pgs_nilS rfl) rfl) rfl rfl) rfl rfl rfl) (pss_consS (ps_ifS (tEq c (ov (eCall c tk zk00_22_7 k_law_take (by omega) rfl (.cons (ob c zk00_22_8) (.cons (ov (kI) rfl) .nil)) rfl) rfl) (ov (kI) rfl) rfl) (pss_consS (setP c (pth c zk00_22_3 (kNm c zk00_22_9) rfl) (pe_tupS (.cons (ov (eCall c tk zk00_22_10 k_law_pick (by omega) rfl (.cons (ob c zk00_22_8) (.cons (ov (eSubS c (ob c zk00_22_0) (ov (kI) rfl) rfl) rfl) .nil)) rfl) rfl) (.cons (ov (kNm c zk00_22_11) rfl) .nil))) (kNm c zk00_22_12) rfl rfl) (pss_nilS)) (pss_consS (setP c (pth c zk00_22_3 (kNm c zk00_22_9) rfl) (pe_tupS (.cons (ov (kNm c zk00_22_13) rfl) (.cons (ov (eCall c tk zk00_22_7 k_law_take (by omega) rfl (.cons (ob c zk00_22_8) (.cons (ov (eLen c zk00_22_14 m_len (ob c zk00_22_3) rfl) rfl) .nil)) rfl) rfl) .nil))) (kNm c zk00_22_12) rfl rfl) (pss_nilS))) (pss_consS (ps_retS (eAdd (ov (pe_slHi (ob c zk00_22_0) (kI)) rfl) (ov (pe_tupS (.cons (ov (eTup c zk00_22_1 m_tuple (ov (pe_lcS (lcOk (own := [("row", 7)]) c zk00_22_2 (pi_valS c.hK (kNm c zk00_22_3)) rfl (fun s1 H1 C1 cl1 fp1 => gN (c.blk s1 H1 sc_k00_22_1 cl1 C1 fp1 rfl) zk00_22_4 (by decide +kernel)) (fun s1 H1 C1 cl1 fp1 => qN) (fun s1 H1 C1 cl1 fp1 => eTup (c.blk s1 H1 sc_k00_22_1 cl1 C1 fp1 rfl) zk00_22_5 m_tuple (ob (c.blk s1 H1 sc_k00_22_1 cl1 C1 fp1 rfl) zk00_22_6) rfl))) rfl) rfl) rfl) .nil)) rfl))) (pss_nilS)))))
theorem s_k00_22 : FnScope N_k00_22 ["draw", "machine"] (defScope (topS 22)) := ⟨rfl, rfl, rfl, by decide +kernel, rfl, by decide +kernel, by decide +kernel⟩
/-! ### _law_is_name -/
def N_k00_23 : List Str := ["thing", "sign"]
def sc_k00_23_1 : Scope := { kind := .function, names := [(".0", .local), ("sign", .local)], isGenerator := false, isCoroutine := false }
theorem zk00_23_0 : blkC N_k00_23 (defScope (topS 23)) sc_k00_23_1 [("sign", 1)] = true := by decide +kernel
theorem zk00_23_1 : vnB N_k00_23 (defScope (topS 23)) 0 "thing" = true := by decide +kernel
theorem zk00_23_2 : tnB N_k00_23 (relS sc_k00_23_1 (defScope (topS 23))) sc_k00_23_1 1 "sign" = true := by decide +kernel
theorem zk00_23_3 : vnB N_k00_23 (relS sc_k00_23_1 (defScope (topS 23))) 1 "sign" = true := by decide +kernel
theorem zk00_23_4 : gnB (defScope (topS 23)) "range" = true := by decide +kernel
theorem zk00_23_5 : gnB (defScope (topS 23)) "len" = true := by decide +kernel
theorem zk00_23_6 : gnB (defScope (topS 23)) "isinstance" = true := by decide +kernel
theorem zk00_23_7 : gnB (defScope (topS 23)) "str" = true := by decide +kernel
def F_k00_23 : S := seqS (ifS (notM (boolM (opE [.b 0] (sop (isiS "str"))))) (seqS (retS (cst (.bl false))) (skipS)) (skipS)) (seqS (ifS (boolM (opE [.v (opE [.b 0] (sop lenS)), .v (cst (.int 1)), .v (cst (.int 9))] (sop (rng2S true)))) (seqS (retS (cst (.bl false))) (skipS)) (skipS)) (seqS (retS (opE [.v (lcS (itsV (nameS 0)) (.n 1) (boolM (opE [.b 1, .v (cst (.str "0123456789abcdefghijklmnopqrstuvwxyz"))] (sop (inS true)))) (nameS 1) [1]), .v (opE [] dispL)] (sop (eqS false)))) (skipS)))
def R_k00_23 : Fn := runS 2 [false] (F_k00_23)
theorem b_k00_23 {X : Cx} {W : WX} {mg : Str → Option Value} {k : Nat} (c : Cd X N_k00_23 (defScope (topS 23)) (defScope (topS 23)) k mg) (tk : Takes X W) (po : PassesOwn (model X.prog X.w) X.A X.env X.xe) (m_range : mg "range" = none) (m_len : mg "len" = none) (m_isinstance : mg "isinstance" = none) (m_str : mg "str" = none) : PSs X (defBody (topS 23)) (sD (mIdx 0 [false]) mg W (F_k00_23)) :=
  pss_consS (ps_ifS (pt_notS (pt_plain (eIsi c zk00_23_6 m_isinstance zk00_23_7 m_str boot_str (ob c zk00_23_1) rfl) rfl)) (pss_consS (ps_retS (kB)) (pss_nilS)) (pss_nilS)) (pss_consS (ps_ifS (tInR2 true c zk00_23_4 m_range (ov (eLen c zk00_23_5 m_len (ob c zk00_23_1) rfl) rfl) (ov (kI) rfl) (ov (kI) rfl) rfl rfl rfl) (pss_consS (ps_retS (kB)) (pss_nilS)) (pss_nilS)) (pss_consS (ps_retS (eEq c (ov (pe_lcS (lcOk (own := [("sign", 1)]) c zk00_23_0 (pi_valS c.hK (kNm c zk00_23_1)) rfl (fun s1 H1 C1 cl1 fp1 => gN (c.blk s1 H1 sc_k00_23_1 cl1 C1 fp1 rfl) zk00_23_2 (by decide +kernel)) (fun s1 H1 C1 cl1 fp1 => q1 (tNotIn (c.blk s1 H1 sc_k00_23_1 cl1 C1 fp1 rfl) (ob (c.blk s1 H1 sc_k00_23_1 cl1 C1 fp1 rfl) zk00_23_3) (ov (kS) rfl) rfl)) (fun s1 H1 C1 cl1 fp1 => kNm (c.blk s1 H1 sc_k00_23_1 cl1 C1 fp1 rfl) zk00_23_3))) rfl) (ov (pe_lstS .nil) rfl) rfl)) (pss_nilS)))
theorem s_k00_23 : FnScope N_k00_23 ["thing"] (defScope (topS 23)) := ⟨rfl, rfl, rfl, by decide +kernel, rfl, by decide +kernel, by decide +kernel⟩
/-! ### _law_are_names -/
def N_k00_24 : List Str := ["thing", "least", "most", "item"]
theorem zk00_24_0 : gnB (defScope (topS 24)) "len" = true := by decide +kernel
theorem zk00_24_1 : gnB (defScope (topS 24)) "set" = true := by decide +kernel
theorem zk00_24_2 : vnB N_k00_24 (defScope (topS 24)) 0 "thing" = true := by decide +kernel
def sc_k00_24_1 : Scope := { kind := .function, names := [(".0", .local), ("item", .local), ("_law_is_name", .globalImplicit)], isGenerator := false, isCoroutine := false }
theorem zk00_24_3 : blkC N_k00_24 (defScope (topS 24)) sc_k00_24_1 [("item", 3)] = true := by decide +kernel
theorem zk00_24_4 : tnB N_k00_24 (relS sc_k00_24_1 (defScope (topS 24))) sc_k00_24_1 3 "item" = true := by decide +kernel
theorem zk00_24_5 : gnB (relS sc_k00_24_1 (defScope (topS 24))) "_law_is_name" = true := by decide +kernel
theorem zk00_24_6 : vnB N_k00_24 (relS sc_k00_24_1 (defScope (topS 24))) 3 "item" = true := by decide +kernel
theorem zk00_24_7 : vnB N_k00_24 (defScope (topS 24)) 2 "most" = true := by decide +kernel
theorem zk00_24_8 : vnB N_k00_24 (defScope (topS 24)) 1 "least" = true := by decide +kernel
theorem zk00_24_9 : gnB (defScope (topS 24)) "isinstance" = true := by decide +kernel
theorem zk00_24_10 : gnB (defScope (topS 24)) "tuple" = true := by decide +kernel
def F_k00_24 : S := seqS (ifS (notM (boolM (opE [.b 0] (sop (isiS "tuple"))))) (seqS (retS (cst (.bl false))) (skipS)) (skipS)) (seqS (ifS (orM (boolM (opE [.v (opE [.b 0] (sop lenS)), .b 1] (sop (ordS .lt)))) (orM (boolM (opE [.v (opE [.b 0] (sop lenS)), .b 2] (sop (ordS .gt)))) (boolM (opE [.v (lcS (itsV (nameS 0)) (.n 3) (notM (boolM (opE [.b 3] (callG [false] R_k00_23)))) (nameS 3) [3]), .v (opE [] dispL)] (sop (eqS true)))))) (seqS (retS (cst (.bl false))) (skipS)) (skipS)) (seqS (retS (opE [.v (opE [.b 0] (sop lenSetS)), .v (opE [.b 0] (sop lenS))] (sop (eqS false)))) (skipS)))
def R_k00_24 : Fn := runS 4 [false, false, false] (F_k00_24)
theorem b_k00_24 {X : Cx} {W : WX} {mg : Str → Option Value} {k : Nat} (c : Cd X N_k00_24 (defScope (topS 24)) (defScope (topS 24)) k mg) (tk : Takes X W) (po : PassesOwn (model X.prog X.w) X.A X.env X.xe) (m_len : mg "len" = none) (m_set : mg "set" = none) (m_isinstance : mg "isinstance" = none) (m_tuple : mg "tuple" = none) {j_law_is_name : Nat} (k_law_is_name : Cal X mg "_law_is_name" ["thing"] j_law_is_name [false] R_k00_23) (l_law_is_name : j_law_is_name ≤ k) : PSs X (defBody (topS 24)) (sD (mIdx 0 [false, false, false]) mg W (F_k00_24)) :=
  pss_consS (ps_ifS (pt_notS (pt_plain (eIsi c zk00_24_9 m_isinstance zk00_24_10 m_tuple boot_tuple (ob c zk00_24_2) rfl) rfl)) (pss_consS (ps_retS (kB)) (pss_nilS)) (pss_nilS)) (pss_consS (ps_ifS (PW.pt (pw_orS (tOrd .lt (ov (eLen c zk00_24_0 m_len (ob c zk00_24_2) rfl) rfl) (ob c zk00_24_8) rfl) (pw_orS (tOrd .gt (ov (eLen c zk00_24_0 m_len (ob c zk00_24_2) rfl) rfl) (ob c zk00_24_7) rfl) (pw_orS1 (tNe c (ov (pe_lcS (lcOk (own := [("item", 3)]) c zk00_24_3 (pi_valS c.hK (kNm c zk00_24_2)) rfl (fun s1 H1 C1 cl1 fp1 => gN (c.blk s1 H1 sc_k00_24_1 cl1 C1 fp1 rfl) zk00_24_4 (by decide +kernel)) (fun s1 H1 C1 cl1 fp1 => q1 (pt_notS (pt_plain (eCall (c.blk s1 H1 sc_k00_24_1 cl1 C1 fp1 rfl) takes0 zk00_24_5 (k_law_is_name.blk s1 H1 sc_k00_24_1 cl1 C1 fp1) (by omega) rfl (.cons (ob (c.blk s1 H1 sc_k00_24_1 cl1 C1 fp1 rfl) zk00_24_6) .nil) rfl) rfl))) (fun s1 H1 C1 cl1 fp1 => kNm (c.blk s1 H1 sc_k00_24_1 cl1 C1 fp1 rfl) zk00_24_6))) rfl) (ov (pe_lstS .nil) rfl) rfl))))) (pss_consS (ps_retS (kB)) (pss_nilS)) (pss_nilS)) (pss_consS (ps_retS (eEq c (ov (eLenSet c zk00_24_0 m_len zk00_24_1 m_set (ob c zk00_24_2) rfl) rfl) (ov (eLen c zk00_24_0 m_len (ob c zk00_24_2) rfl) rfl) rfl)) (pss_nilS)))
theorem s_k00_24 : FnScope N_k00_24 ["thing", "least", "most"] (defScope (topS 24)) := ⟨rfl, rfl, rfl, by decide +kernel, rfl, by decide +kernel, by decide +kernel⟩
/-! ### _law_is_machine -/
def N_k00_25 : List Str := ["thing", "row", "pair"]
theorem zk00_25_0 : vnB N_k00_25 (defScope (topS 25)) 0 "thing" = true := by decide +kernel
theorem zk00_25_1 : tnB N_k00_25 (defScope (topS 25)) (defScope (topS 25)) 1 "row" = true := by decide +kernel
theorem zk00_25_2 : tnB N_k00_25 (defScope (topS 25)) (defScope (topS 25)) 2 "pair" = true := by decide +kernel
theorem zk00_25_3 : gnB (defScope (topS 25)) "range" = true := by decide +kernel
theorem zk00_25_4 : vnB N_k00_25 (defScope (topS 25)) 2 "pair" = true := by decide +kernel
theorem zk00_25_5 : gnB (defScope (topS 25)) "len" = true := by decide +kernel
theorem zk00_25_6 : gnB (defScope (topS 25)) "_law_is_int" = true := by decide +kernel
theorem zk00_25_7 : gnB (defScope (topS 25)) "_law_is_name" = true := by decide +kernel
theorem zk00_25_8 : gnB (defScope (topS 25)) "isinstance" = true := by decide +kernel
theorem zk00_25_9 : gnB (defScope (topS 25)) "tuple" = true := by decide +kernel
theorem zk00_25_10 : vnB N_k00_25 (defScope (topS 25)) 1 "row" = true := by decide +kernel
theorem zk00_25_11 : gnB (defScope (topS 25)) "_law_are_names" = true := by decide +kernel
theorem zk00_25_12 : gnB (defScope (topS 25)) "str" = true := by decide +kernel
def F_k00_25 : S := seqS (ifS (notM (boolM (opE [.b 0] (sop (isiS "tuple"))))) (seqS (retS (cst (.bl false))) (skipS)) (skipS)) (seqS (ifS (orM (boolM (opE [.v (opE [.b 0] (sop lenS)), .v (cst (.int 4))] (sop (eqS true)))) (orM (notM (boolM (opE [.v (opE [.b 0, .v (cst (.int 0))] (frzOps idxOp))] (sop (isiS "str"))))) (notM (boolM (opE [.v (opE [.b 0, .v (cst (.int 3))] (frzOps idxOp))] (sop (isiS "tuple"))))))) (seqS (retS (cst (.bl false))) (skipS)) (skipS)) (seqS (ifS (orM (boolM (opE [.v (opE [.b 0, .v (cst (.int 0))] (frzOps idxOp)), .v (cst (.str "machine"))] (sop (eqS true)))) (orM (notM (boolM (opE [.v (opE [.b 0, .v (cst (.int 1))] (frzOps idxOp)), .v (cst (.int 1)), .v (cst (.int 4))] (callG [false, false, false] R_k00_24)))) (notM (boolM (opE [.v (opE [.b 0, .v (cst (.int 2))] (frzOps idxOp)), .v (cst (.int 2)), .v (cst (.int 4))] (callG [false, false, false] R_k00_24)))))) (seqS (retS (cst (.bl false))) (skipS)) (skipS)) (seqS (ifS (boolM (opE [.v (opE [.v (opE [.b 0, .v (cst (.int 3))] (frzOps idxOp))] (sop lenS)), .v (cst (.int 1)), .v (cst (.int 13))] (sop (rng2S true)))) (seqS (retS (cst (.bl false))) (skipS)) (skipS)) (seqS (forS (itsV (opE [.b 0, .v (cst (.int 3))] (frzOps idxOp))) (.n 1) (seqS (ifS (notM (boolM (opE [.b 1] (sop (isiS "tuple"))))) (seqS (retS (cst (.bl false))) (skipS)) (skipS)) (seqS (ifS (boolM (opE [.v (opE [.b 1] (sop lenS)), .v (opE [.v (opE [.b 0, .v (cst (.int 1))] (frzOps idxOp))] (sop lenS))] (sop (eqS true)))) (seqS (retS (cst (.bl false))) (skipS)) (skipS)) (seqS (forH 1 (.n 2) (seqS (ifS (notM (boolM (opE [.b 2] (sop (isiS "tuple"))))) (seqS (retS (cst (.bl false))) (skipS)) (skipS)) (seqS (ifS (orM (boolM (opE [.v (opE [.b 2] (sop lenS)), .v (cst (.int 2))] (sop (eqS true)))) (orM (notM (boolM (opE [.v (opE [.b 2, .v (cst (.int 0))] (frzOps idxOp))] (callG [false] R_k00_23)))) (notM (boolM (opE [.v (opE [.b 2, .v (cst (.int 1))] (frzOps idxOp))] (callG [false] R_k00_17)))))) (seqS (retS (cst (.bl false))) (skipS)) (skipS)) (seqS (ifS (orM (boolM (opE [.v (opE [.b 2, .v (cst (.int 0))] (frzOps idxOp)), .v (opE [.b 0, .v (cst (.int 2))] (frzOps idxOp))] (sop (inS true)))) (boolM (opE [.v (opE [.b 2, .v (cst (.int 1))] (frzOps idxOp)), .v (opE [.v (opE [.b 0, .v (cst (.int 3))] (frzOps idxOp))] (sop lenS))] (sop (rng1S true))))) (seqS (retS (cst (.bl false))) (skipS)) (skipS)) (skipS))))) (skipS))))) (seqS (retS (cst (.bl true))) (skipS))))))
def R_k00_25 : Fn := runS 3 [false] (F_k00_25)
theorem b_k00_25 {X : Cx} {W : WX} {mg : Str → Option Value} {k : Nat} (c : Cd X N_k00_25 (defScope (topS 25)) (defScope (topS 25)) k mg) (tk : Takes X W) (po : PassesOwn (model X.prog X.w) X.A X.env X.xe) (m_range : mg "range" = none) (m_len : mg "len" = none) (m_isinstance : mg "isinstance" = none) (m_tuple : mg "tuple" = none) (m_str : mg "str" = none) {j_law_is_int : Nat} (k_law_is_int : Cal X mg "_law_is_int" ["thing"] j_law_is_int [false] R_k00_17) (l_law_is_int : j_law_is_int ≤ k) {j_law_is_name : Nat} (k_law_is_name : Cal X mg "_law_is_name" ["thing"] j_law_is_name [false] R_k00_23) (l_law_is_name : j_law_is_name ≤ k) {j_law_are_names : Nat} (k_law_are_names : Cal X mg "_law_are_names" ["thing", "least", "most"] j_law_are_names [false, false, false] R_k00_24) (l_law_are_names : j_law_are_names ≤ k) : PSs X (defBody (topS 25)) (sD (mIdx 0 [false]) mg W (F_k00_25)) :=
  pss_consS (ps_ifS (pt_notS (pt_plain (eIsi c zk00_25_8 m_isinstance zk00_25_9 m_tuple boot_tuple (ob c zk00_25_0) rfl) rfl)) (pss_consS (ps_retS (kB)) (pss_nilS)) (pss_nilS)) (pss_consS (ps_ifS (PW.pt (pw_orS (tNe c (ov (eLen c zk00_25_5 m_len (ob c zk00_25_0) rfl) rfl) (ov (kI) rfl) rfl) (pw_orS (pt_notS (pt_plain (eIsi c zk00_25_8 m_isinstance zk00_25_12 m_str boot_str (ov (eSubS c (ob c zk00_25_0) (ov (kI) rfl) rfl) rfl) rfl) rfl)) (pw_orS1 (pt_notS (pt_plain (eIsi c zk00_25_8 m_isinstance zk00_25_9 m_tuple boot_tuple (ov (eSubS c (ob c zk00_25_0) (ov (kI) rfl) rfl) rfl) rfl) rfl)))))) (pss_consS (ps_retS (kB)) (pss_nilS)) (pss_nilS)) (pss_consS (ps_ifS (PW.pt (pw_orS (tNe c (ov (eSubS c (ob c zk00_25_0) (ov (kI) rfl) rfl) rfl) (ov (kS) rfl) rfl) (pw_orS (pt_notS (pt_plain (eCall c tk zk00_25_11 k_law_are_names (by omega) rfl (.cons (ov (eSubS c (ob c zk00_25_0) (ov (kI) rfl) rfl) rfl) (.cons (ov (kI) rfl) (.cons (ov (kI) rfl) .nil))) rfl) rfl)) (pw_orS1 (pt_notS (pt_plain (eCall c tk zk00_25_11 k_law_are_names (by omega) rfl (.cons (ov (eSubS c (ob c zk00_25_0) (ov (kI) rfl) rfl) rfl) (.cons (ov (kI) rfl) (.cons (ov (kI) rfl) .nil))) rfl) rfl)))))) (pss_consS (ps_retS (kB)) (pss_nilS)) (pss_nilS)) (pss_consS (ps_ifS (tInR2 true c zk00_25_3 m_range (ov (eLen c zk00_25_5 m_len (ov (eSubS c (ob c zk00_25_0) (ov (kI) rfl) rfl) rfl) rfl) rfl) (ov (kI) rfl) (ov (kI) rfl) rfl rfl rfl) (pss_consS (ps_retS (kB)) (pss_nilS)) (pss_nilS)) (pss_consS (ps_forS po c.calm (pi_valS c.hK (eSubS c (ob c zk00_25_0) (ov (kI) rfl) rfl)) (gN c zk00_25_1 rfl) (pss_consS (ps_ifS (pt_notS (pt_plain (eIsi c zk00_25_8 m_isinstance zk00_25_9 m_tuple boot_tuple (ob c zk00_25_10) rfl) rfl)) (pss_consS (ps_retS (kB)) (pss_nilS)) (pss_nilS)) (pss_consS (ps_ifS (tNe c (ov (eLen c zk00_25_5 m_len (ob c zk00_25_10) rfl) rfl) (ov (eLen c zk00_25_5 m_len (ov (eSubS c (ob c zk00_25_0) (ov (kI) rfl) rfl) rfl) rfl) rfl) rfl) (pss_consS (ps_retS (kB)) (pss_nilS)) (pss_nilS)) (pss_consS (ps_forH c.hK po c.calm (pe_v c zk00_25_10) (gN c zk00_25_2 rfl) (pss_consS (ps_ifS (pt_notS (pt_plain (eIsi c zk00_25_8 m_isinstance zk00_25_9 m_tuple boot_tuple (ob c zk00_25_4) rfl) rfl)) (pss_consS (ps_retS (kB)) (pss_nilS)) (pss_nilS)) (pss_consS (ps_ifS (PW.pt (pw_orS (tNe c (ov (eLen c zk00_25_5 m_len (ob c zk00_25_4) rfl) rfl) (ov (kI) rfl) rfl) (pw_orS (pt_notS (pt_plain (eCall c tk zk00_25_7 k_law_is_name (by omega) rfl (.cons (ov (eSubS c (ob c zk00_25_4) (ov (kI) rfl) rfl) rfl) .nil) rfl) rfl)) (pw_orS1 (pt_notS (pt_plain (eCall c tk zk00_25_6 k_law_is_int (by omega) rfl (.cons (ov (eSubS c (ob c zk00_25_4) (ov (kI) rfl) rfl) rfl) .nil) rfl) rfl)))))) (pss_consS (ps_retS (kB)) (pss_nilS)) (pss_nilS)) (pss_consS (ps_ifS (PW.pt (pw_orS (tNotIn c (ov (eSubS c (ob c zk00_25_4) (ov (kI) rfl) rfl) rfl) (ov (eSubS c (ob c zk00_25_0) (ov (kI) rfl) rfl) rfl) rfl) (pw_orS1 (tInR1 true c zk00_25_3 m_range (ov (eSubS c (ob c zk00_25_4) (ov (kI) rfl) rfl) rfl) (ov (eLen c zk00_25_5 m_len (ov (eSubS c (ob c zk00_25_0) (ov (kI) rfl) rfl) rfl) rfl) rfl) rfl rfl)))) (pss_consS (ps_retS (kB)) (pss_nilS)) (pss_nilS)) (pss_nilS)))) rfl) (pss_nilS)))) rfl) (pss_consS (ps_retS (kB)) (pss_nilS))))))
theorem s_k00_25 : FnScope N_k00_25 ["thing"] (defScope (topS 25)) := ⟨rfl, rfl, rfl, by decide +kernel, rfl, by decide +kernel, by decide +kernel⟩
/-! ### _law_near_word -/
def N_k00_26 : List Str := ["draw", "word", "sign", "at", "kind"]
theorem zk00_26_0 : vnB N_k00_26 (defScope (topS 26)) 1 "word" = true := by decide +kernel
theorem zk00_26_1 : gnB (defScope (topS 26)) "_law_pick" = true := by decide +kernel
theorem zk00_26_2 : vnB N_k00_26 (defScope (topS 26)) 0 "draw" = true := by decide +kernel
theorem zk00_26_3 : vnB N_k00_26 (defScope (topS 26)) 2 "sign" = true := by decide +kernel
theorem zk00_26_4 : vnB N_k00_26 (defScope (topS 26)) 4 "kind" = true := by decide +kernel
theorem zk00_26_5 : vnB N_k00_26 (defScope (topS 26)) 3 "at" = true := by decide +kernel
theorem zk00_26_6 : tnB N_k00_26 (defScope (topS 26)) (defScope (topS 26)) 2 "sign" = true := by decide +kernel
theorem zk00_26_7 : gnB (defScope (topS 26)) "_law_take" = true := by decide +kernel
theorem zk00_26_8 : gnB (defScope (topS 26)) "len" = true := by decide +kernel
theorem zk00_26_9 : lnB N_k00_26 (defScope (topS 26)) 3 "at" = true := by decide +kernel
theorem zk00_26_10 : lnB N_k00_26 (defScope (topS 26)) 4 "kind" = true := by decide +kernel
theorem zk00_26_11 : tnB N_k00_26 (defScope (topS 26)) (defScope (topS 26)) 1 "word" = true := by decide +kernel
theorem zk00_26_12 : gnB (defScope (topS 26)) "_law_names" = true := by decide +kernel
noncomputable def F_k00_26 : S := seqS (asgS (.n 1) (opE [.v (opE [.v (opE [.b 0, .v (cst (.int 1))] (callG [true, false] R_k00_18)), .v (cst (.int 0))] (frzOps idxOp)), .v (opE [.b 0, .v (opE [.v (cst (.str "")), .v (cst (.str "")), .v (cst (.str "abcdefgh")), .v (cst (.str "0"))] dispL)] (callG [true, false] R_k00_14))] (frzOps (nop addK)))) (seqS (parS [3, 4] [.v (opE [.b 0, .v (opE [.b 1] (sop lenS))] (callG [true, false] R_k00_13)), .v (opE [.b 0, .v (cst (.int 6))] (callG [true, false] R_k00_13))]) (seqS (asgS (.n 2) (opE [.b 0, .v (opE [.v (opE [.b 0, .v (cst (.str "abcdefghijklmnopqrstuvwxyz0123456789"))] (callG [true, false] R_k00_14)), .v (opE [.b 0, .v (cst (.str "ABCXYZ_-./ "))] (callG [true, false] R_k00_14))] dispL)] (callG [true, false] R_k00_14))) (seqS (ifS (boolM (opE [.b 4, .v (cst (.int 0))] (sop (eqS false)))) (seqS (retS (opE [.v (opE [.v (opE [.b 1, .v (intS (nameS 3))] (frzOps (nop slHi))), .b 2] (frzOps (nop addK))), .v (opE [.b 1, .v (intS (opE [.b 3, .v (cst (.int 1))] (frzOps (nop addK))))] (frzOps (nop slLo)))] (frzOps (nop addK)))) (skipS)) (skipS)) (seqS (ifS (boolM (opE [.b 4, .v (cst (.int 1))] (sop (eqS false)))) (seqS (retS (opE [.v (opE [.b 1, .v (intS (nameS 3))] (frzOps (nop slHi))), .v (opE [.b 1, .v (intS (opE [.b 3, .v (cst (.int 1))] (frzOps (nop addK))))] (frzOps (nop slLo)))] (frzOps (nop addK)))) (skipS)) (skipS)) (seqS (ifS (boolM (opE [.b 4, .v (cst (.int 2))] (sop (eqS false)))) (seqS (retS (opE [.v (opE [.v (opE [.b 1, .v (intS (nameS 3))] (frzOps (nop slHi))), .b 2] (frzOps (nop addK))), .v (opE [.b 1, .v (intS (nameS 3))] (frzOps (nop slLo)))] (frzOps (nop addK)))) (skipS)) (skipS)) (seqS (retS (opE [.v (opE [.b 1, .v (intS (opE [.b 0, .v (opE [.v (cst (.int 8)), .v (cst (.int 8)), .v (cst (.int 9)), .v (cst (.int 16))] dispL)] (callG [true, false] R_k00_14)))] (frzOps (nop slHi))), .v (opE [.b 0, .v (opE [.v (cst (.str "")), .v (cst (.str "")), .v (movS 2)] dispL)] (callG [true, false] R_k00_14))] (frzOps (nop addK)))) (skipS)))))))
noncomputable def R_k00_26 : Fn := runS 5 [true] (F_k00_26)
theorem b_k00_26 {X : Cx} {W : WX} {mg : Str → Option Value} {k : Nat} (c : Cd X N_k00_26 (defScope (topS 26)) (defScope (topS 26)) k mg) (tk : Takes X W) (po : PassesOwn (model X.prog X.w) X.A X.env X.xe) (m_len : mg "len" = none) {j_law_pick : Nat} (k_law_pick : Cal X mg "_law_pick" ["draw", "some"] j_law_pick [true, false] R_k00_14) (l_law_pick : j_law_pick ≤ k) {j_law_take : Nat} (k_law_take : Cal X mg "_law_take" ["draw", "many"] j_law_take [true, false] R_k00_13) (l_law_take : j_law_take ≤ k) {j_law_names : Nat} (k_law_names : Cal X mg "_law_names" ["draw", "many"] j_law_names [true, false] R_k00_18) (l_law_names : j_law_names ≤ k) : PSs X (defBody (topS 26)) (sD (mIdx 0 [true]) mg W (F_k00_26)) :=
  pss_consS (sName c (eAdd (ov (eSubS c (ov (eCall c tk zk00_26_12 k_law_names (by omega) rfl (.cons (ob c zk00_26_2) (.cons (ov (kI) rfl) .nil)) rfl) rfl) (ov (kI) rfl) rfl) rfl) (ov (eCall c tk zk00_26_1 k_law_pick (by omega) rfl (.cons (ob c zk00_26_2) (.cons (ov (pe_lstS (.cons (ov (kS) rfl) (.cons (ov (kS) rfl) (.cons (ov (kS) rfl) (.cons (ov (kS) rfl) .nil))))) rfl) .nil)) rfl) rfl)) zk00_26_11 rfl rfl) (pss_consS (sPar2 c zk00_26_9 zk00_26_10 rfl (by decide +kernel) rfl rfl (.cons (ov (eCall c tk zk00_26_7 k_law_take (by omega) rfl (.cons (ob c zk00_26_2) (.cons (ov (eLen c zk00_26_8 m_len (ob c zk00_26_0) rfl) rfl) .nil)) rfl) rfl) (.cons (ov (eCall c tk zk00_26_7 k_law_take (by omega) rfl (.cons (ob c zk00_26_2) (.cons (ov (kI) rfl) .nil)) rfl) rfl) .nil)) rfl rfl rfl rfl) (pss_consS (sName c (eCall c tk zk00_26_1 k_law_pick (by omega) rfl (.cons (ob c zk00_26_2) (.cons (ov (pe_lstS (.cons (ov (eCall c tk zk00_26_1 k_law_pick (by omega) rfl (.cons (ob c zk00_26_2) (.cons (ov (kS) rfl) .nil)) rfl) rfl) (.cons (ov (eCall c tk zk00_26_1 k_law_pick (by omega) rfl (.cons (ob c zk00_26_2) (.cons (ov (kS) rfl) .nil)) rfl) rfl) .nil))) rfl) .nil)) rfl) zk00_26_6 rfl rfl) (pss_consS (ps_ifS (tEq c (ob c zk00_26_4) (ov (kI) rfl) rfl) (pss_consS (ps_retS (eAdd (ov (eAdd (ov (pe_slHi (ob c zk00_26_0) (kNm c zk00_26_5)) rfl) (ob c zk00_26_3)) rfl) (ov (pe_slLo (ob c zk00_26_0) (eAdd (ob c zk00_26_5) (ov (kI) rfl))) rfl))) (pss_nilS)) (pss_nilS)) (pss_consS (ps_ifS (tEq c (ob c zk00_26_4) (ov (kI) rfl) rfl) (pss_consS (ps_retS (eAdd (ov (pe_slHi (ob c zk00_26_0) (kNm c zk00_26_5)) rfl) (ov (pe_slLo (ob c zk00_26_0) (eAdd (ob c zk00_26_5) (ov (kI) rfl))) rfl))) (pss_nilS)) (pss_nilS)) (pss_consS (ps_ifS (tEq c (ob c zk00_26_4) (ov (kI) rfl) rfl) (pss_consS (ps_retS (eAdd (ov (eAdd (ov (pe_slHi (ob c zk00_26_0) (kNm c zk00_26_5)) rfl) (ob c zk00_26_3)) rfl) (ov (pe_slLo (ob c zk00_26_0) (kNm c zk00_26_5)) rfl))) (pss_nilS)) (pss_nilS)) (pss_consS (ps_retS (eAdd (ov (pe_slHi (ob c zk00_26_0) (eCall c tk zk00_26_1 k_law_pick (by omega) rfl (.cons (ob c zk00_26_2) (.cons (ov (pe_lstS (.cons (ov (kI) rfl) (.cons (ov (kI) rfl) (.cons (ov (kI) rfl) (.cons (ov (kI) rfl) .nil))))) rfl) .nil)) rfl)) rfl) (ov (eCall c tk zk00_26_1 k_law_pick (by omega) rfl (.cons (ob c zk00_26_2) (.cons (ov (pe_lstS (.cons (ov (kS) rfl) (.cons (ov (kS) rfl) (.cons (ov (kMv c zk00_26_3) rfl) .nil)))) rfl) .nil)) rfl) rfl))) (pss_nilS)))))))
theorem s_k00_26 : FnScope N_k00_26 ["draw"] (defScope (topS 26)) := ⟨rfl, rfl, rfl, by decide +kernel, rfl, by decide +kernel, by decide +kernel⟩
/-! ### _law_bent_part -/
def N_k00_27 : List Str := ["draw", "thing", "some"]
theorem zk00_27_0 : gnB (defScope (topS 27)) "_law_pick" = true := by decide +kernel
theorem zk00_27_1 : vnB N_k00_27 (defScope (topS 27)) 0 "draw" = true := by decide +kernel
theorem zk00_27_2 : vnB N_k00_27 (defScope (topS 27)) 2 "some" = true := by decide +kernel
theorem zk00_27_3 : gnB (defScope (topS 27)) "_law_is_int" = true := by decide +kernel
theorem zk00_27_4 : vnB N_k00_27 (defScope (topS 27)) 1 "thing" = true := by decide +kernel
theorem zk00_27_5 : tnB N_k00_27 (defScope (topS 27)) (defScope (topS 27)) 2 "some" = true := by decide +kernel
theorem zk00_27_6 : gnB (defScope (topS 27)) "isinstance" = true := by decide +kernel
theorem zk00_27_7 : gnB (defScope (topS 27)) "str" = true := by decide +kernel
theorem zk00_27_8 : gnB (defScope (topS 27)) "tuple" = true := by decide +kernel
theorem zk00_27_9 : gnB (defScope (topS 27)) "list" = true := by decide +kernel
def F_k00_27 : S := seqS (asgS (.n 2) (opE [.v (cst .non), .v (cst (.int 5)), .v (cst (.bl true)), .v (cst (.bl false)), .v (cst (.str "")), .v (opE [] dispT), .v (cst (.str "a")), .v (opE [.v (nameS 1)] dispT), .v (opE [.v (nameS 1)] dispL), .v (opE [.v (cst (.int 0)), .v (cst (.int 1))] (sop subD)), .v (cst (.int 0)), .v (cst (.int 1)), .v (cst (.int 2)), .v (cst (.int 11)), .v (cst (.int 12)), .v (opE [.v (cst (.str "0")), .v (cst (.int 0))] dispT), .v (opE [.v (cst (.str "1")), .v (cst (.int 1))] dispT)] (frzV dispL))) (seqS (ifS (boolM (opE [.b 1] (sop (isiS "tuple")))) (seqS (asgS (.n 2) (opE [.v (opE [.b 1] (frzOps (nop listK2))), .v (opE [.b 1] (frzOps (nop revK))), .v (opE [.b 1, .v (opE [.b 1, .v (intS (opE [.v (cst (.int 1))] (sop negD)))] (frzOps (nop slLo)))] (frzOps (nop addK))), .v (opE [.b 1, .v (intS (opE [.v (cst (.int 1))] (sop negD)))] (frzOps (nop slHi))), .v (opE [.b 1, .v (intS (cst (.int 1)))] (frzOps (nop slLo))), .v (opE [.b 1, .v (opE [.v (cst .non)] dispT)] (frzOps (nop addK))), .v (cst .non), .v (opE [] dispT), .v (opE [.b 1, .b 1] (frzOps (nop addK)))] (frzV dispL))) (skipS)) (skipS)) (seqS (ifS (boolM (opE [.b 1] (sop (isiS "str")))) (seqS (asgS (.n 2) (opE [.b 2, .v (opE [.v (opE [.b 1, .v (cst (.str "a"))] (frzOps (nop addK))), .v (opE [.b 1, .v (intS (opE [.v (cst (.int 1))] (sop negD)))] (frzOps (nop slHi))), .v (opE [.b 1, .v (cst (.str " "))] (frzOps (nop addK))), .v (cst (.str "machine")), .v (cst (.str "0")), .v (cst (.str "A"))] dispL)] (frzOps (nop addK)))) (skipS)) (skipS)) (seqS (ifS (boolM (opE [.b 1] (callG [false] R_k00_17))) (seqS (asgS (.n 2) (opE [.b 2, .v (opE [.v (opE [.b 1, .v (cst (.int 1))] (frzOps (nop addK))), .v (opE [.b 1, .v (cst (.int 1))] (sop subD))] dispL)] (frzOps (nop addK)))) (skipS)) (skipS)) (seqS (retS (opE [.b 0, .b 2] (callG [true, false] R_k00_14))) (skipS)))))
def R_k00_27 : Fn := runS 3 [true, false] (F_k00_27)
theorem b_k00_27 {X : Cx} {W : WX} {mg : Str → Option Value} {k : Nat} (c : Cd X N_k00_27 (defScope (topS 27)) (defScope (topS 27)) k mg) (tk : Takes X W) (po : PassesOwn (model X.prog X.w) X.A X.env X.xe) (m_isinstance : mg "isinstance" = none) (m_str : mg "str" = none) (m_tuple : mg "tuple" = none) (m_list : mg "list" = none) {j_law_pick : Nat} (k_law_pick : Cal X mg "_law_pick" ["draw", "some"] j_law_pick [true, false] R_k00_14) (l_law_pick : j_law_pick ≤ k) {j_law_is_int : Nat} (k_law_is_int : Cal X mg "_law_is_int" ["thing"] j_law_is_int [false] R_k00_17) (l_law_is_int : j_law_is_int ≤ k) : PSs X (defBody (topS 27)) (sD (mIdx 0 [true, false]) mg W (F_k00_27)) :=
  pss_consS (sName c (pe_lstV (.cons (ov (kN) rfl) (.cons (ov (kI) rfl) (.cons (ov (kB) rfl) (.cons (ov (kB) rfl) (.cons (ov (kS) rfl) (.cons (ov (pe_tupS .nil) rfl) (.cons (ov (kS) rfl) (.cons (ov (pe_tupS (.cons (ov (kNm c zk00_27_4) rfl) .nil)) rfl) (.cons (ov (pe_lstS (.cons (ov (kNm c zk00_27_4) rfl) .nil)) rfl) (.cons (ov (eSub (ov (kI) rfl) (ov (kI) rfl)) rfl) (.cons (ov (kI) rfl) (.cons (ov (kI) rfl) (.cons (ov (kI) rfl) (.cons (ov (kI) rfl) (.cons (ov (kI) rfl) (.cons (ov (pe_tupS (.cons (ov (kS) rfl) (.cons (ov (kI) rfl) .nil))) rfl) (.cons (ov (pe_tupS (.cons (ov (kS) rfl) (.cons (ov (kI) rfl) .nil))) rfl) .nil)))))))))))))))))) zk00_27_5 rfl rfl) (pss_consS (ps_ifS (pt_plain (eIsi c zk00_27_6 m_isinstance zk00_27_8 m_tuple boot_tuple (ob c zk00_27_4) rfl) rfl) (pss_consS (sName c (pe_lstV (.cons (ov (eList c zk00_27_9 m_list (ob c zk00_27_4) rfl) rfl) (.cons (ov (eRev (ob c zk00_27_4)) rfl) (.cons (ov (eAdd (ob c zk00_27_4) (ov (pe_slLo (ob c zk00_27_4) (eNeg (ov (kI) rfl))) rfl)) rfl) (.cons (ov (pe_slHi (ob c zk00_27_4) (eNeg (ov (kI) rfl))) rfl) (.cons (ov (pe_slLo (ob c zk00_27_4) (kI)) rfl) (.cons (ov (eAdd (ob c zk00_27_4) (ov (pe_tupS (.cons (ov (kN) rfl) .nil)) rfl)) rfl) (.cons (ov (kN) rfl) (.cons (ov (pe_tupS .nil) rfl) (.cons (ov (eAdd (ob c zk00_27_4) (ob c zk00_27_4)) rfl) .nil)))))))))) zk00_27_5 rfl rfl) (pss_nilS)) (pss_nilS)) (pss_consS (ps_ifS (pt_plain (eIsi c zk00_27_6 m_isinstance zk00_27_7 m_str boot_str (ob c zk00_27_4) rfl) rfl) (pss_consS (sName c (eAdd (ob c zk00_27_2) (ov (pe_lstS (.cons (ov (eAdd (ob c zk00_27_4) (ov (kS) rfl)) rfl) (.cons (ov (pe_slHi (ob c zk00_27_4) (eNeg (ov (kI) rfl))) rfl) (.cons (ov (eAdd (ob c zk00_27_4) (ov (kS) rfl)) rfl) (.cons (ov (kS) rfl) (.cons (ov (kS) rfl) (.cons (ov (kS) rfl) .nil))))))) rfl)) zk00_27_5 rfl rfl) (pss_nilS)) (pss_nilS)) (pss_consS (ps_ifS (pt_plain (eCall c tk zk00_27_3 k_law_is_int (by omega) rfl (.cons (ob c zk00_27_4) .nil) rfl) rfl) (pss_consS (sName c (eAdd (ob c zk00_27_2) (ov (pe_lstS (.cons (ov (eAdd (ob c zk00_27_4) (ov (kI) rfl)) rfl) (.cons (ov (eSub (ob c zk00_27_4) (ov (kI) rfl)) rfl) .nil))) rfl)) zk00_27_5 rfl rfl) (pss_nilS)) (pss_nilS)) (pss_consS (ps_retS (eCall c tk zk00_27_0 k_law_pick (by omega) rfl (.cons (ob c zk00_27_1) (.cons (ob c zk00_27_2) .nil)) rfl)) (pss_nilS)))))
theorem s_k00_27 : FnScope N_k00_27 ["draw", "thing"] (defScope (topS 27)) := ⟨rfl, rfl, rfl, by decide +kernel, rfl, by decide +kernel, by decide +kernel⟩
/-! ### _law_bent -/
def N_k00_28 : List Str := ["draw", "thing", "at"]
theorem zk00_28_0 : gnB (defScope (topS 28)) "_law_bent_part" = true := by decide +kernel
theorem zk00_28_1 : vnB N_k00_28 (defScope (topS 28)) 0 "draw" = true := by decide +kernel
theorem zk00_28_2 : vnB N_k00_28 (defScope (topS 28)) 1 "thing" = true := by decide +kernel
theorem zk00_28_3 : gnB (defScope (topS 28)) "_law_take" = true := by decide +kernel
theorem zk00_28_4 : gnB (defScope (topS 28)) "isinstance" = true := by decide +kernel
theorem zk00_28_5 : gnB (defScope (topS 28)) "tuple" = true := by decide +kernel
theorem zk00_28_6 : vnB N_k00_28 (defScope (topS 28)) 2 "at" = true := by decide +kernel
theorem zk00_28_7 : gnB (defScope (topS 28)) "_law_bent" = true := by decide +kernel
theorem zk00_28_8 : tnB N_k00_28 (defScope (topS 28)) (defScope (topS 28)) 2 "at" = true := by decide +kernel
theorem zk00_28_9 : gnB (defScope (topS 28)) "len" = true := by decide +kernel
def F_k00_28 (rec : Fn) : S := seqS (ifS (andM (boolM (opE [.b 1] (sop (isiS "tuple")))) (andM (boolM (opE [.v (opE [.b 0, .v (cst (.int 6))] (callG [true, false] R_k00_13)), .v (cst (.int 0))] (sop (ordS .gt)))) (boolM (opE [.b 1, .v (opE [] dispT)] (sop (eqS true)))))) (seqS (asgS (.n 2) (opE [.b 0, .v (opE [.b 1] (sop lenS))] (callG [true, false] R_k00_13))) (seqS (retS (opE [.v (opE [.v (opE [.b 1, .v (intS (nameS 2))] (frzOps (nop slHi))), .v (opE [.v (opE [.b 0, .v (opE [.b 1, .b 2] (frzOps idxOp))] (callG [true, false] rec))] dispT)] (frzOps (nop addK))), .v (opE [.b 1, .v (intS (opE [.b 2, .v (cst (.int 1))] (frzOps (nop addK))))] (frzOps (nop slLo)))] (frzOps (nop addK)))) (skipS))) (skipS)) (seqS (retS (opE [.b 0, .b 1] (callG [true, false] R_k00_27))) (skipS))
def R_k00_28 : Nat → Fn
  | 0 => fun _ => none
  | n + 1 => runS 3 [true, false] (F_k00_28 (R_k00_28 n))
theorem b_k00_28 {X : Cx} {W : WX} {mg : Str → Option Value} {k : Nat} {rec : Fn} (c : Cd X N_k00_28 (defScope (topS 28)) (defScope (topS 28)) k mg) (tk : Takes X W) (po : PassesOwn (model X.prog X.w) X.A X.env X.xe) (m_isinstance : mg "isinstance" = none) (m_tuple : mg "tuple" = none) (m_len : mg "len" = none) {j_law_bent_part : Nat} (k_law_bent_part : Cal X mg "_law_bent_part" ["draw", "thing"] j_law_bent_part [true, false] R_k00_27) (l_law_bent_part : j_law_bent_part ≤ k) {j_law_take : Nat} (k_law_take : Cal X mg "_law_take" ["draw", "many"] j_law_take [true, false] R_k00_13) (l_law_take : j_law_take ≤ k) {j_law_bent : Nat} (k_law_bent : Cal X mg "_law_bent" ["draw", "thing"] j_law_bent [true, false] rec) (l_law_bent : j_law_bent ≤ k) : PSs X (defBody (topS 28)) (sD (mIdx 0 [true, false]) mg W (F_k00_28 rec)) :=
  pss_consS (ps_ifS (PW.pt (pw_andS (pt_plain (eIsi c zk00_28_4 m_isinstance zk00_28_5 m_tuple boot_tuple (ob c zk00_28_2) rfl) rfl) (pw_andS (tOrd .gt (ov (eCall c tk zk00_28_3 k_law_take (by omega) rfl (.cons (ob c zk00_28_1) (.cons (ov (kI) rfl) .nil)) rfl) rfl) (ov (kI) rfl) rfl) (pw_andS1 (tNe c (ob c zk00_28_2) (ov (pe_tupS .nil) rfl) rfl))))) (pss_consS (sName c (eCall c tk zk00_28_3 k_law_take (by omega) rfl (.cons (ob c zk00_28_1) (.cons (ov (eLen c zk00_28_9 m_len (ob c zk00_28_2) rfl) rfl) .nil)) rfl) zk00_28_8 rfl rfl) (pss_consS (ps_retS (eAdd (ov (eAdd (ov (pe_slHi (ob c zk00_28_2) (kNm c zk00_28_6)) rfl) (ov (pe_tupS (.cons (ov (eCall c tk zk00_28_7 k_law_bent (by omega) rfl (.cons (ob c zk00_28_1) (.cons (ov (eSubS c (ob c zk00_28_2) (ob c zk00_28_6) rfl) rfl) .nil)) rfl) rfl) .nil)) rfl)) rfl) (ov (pe_slLo (ob c zk00_28_2) (eAdd (ob c zk00_28_6) (ov (kI) rfl))) rfl))) (pss_nilS))) (pss_nilS)) (pss_consS (ps_retS (eCall c tk zk00_28_0 k_law_bent_part (by omega) rfl (.cons (ob c zk00_28_1) (.cons (ob c zk00_28_2) .nil)) rfl)) (pss_nilS))
theorem s_k00_28 : FnScope N_k00_28 ["draw", "thing"] (defScope (topS 28)) := ⟨rfl, rfl, rfl, by decide +kernel, rfl, by decide +kernel, by decide +kernel⟩
/-! ### _law_bad_machine -/
def N_k00_29 : List Str := ["draw", "row", "some"]
theorem zk00_29_0 : gnB (defScope (topS 29)) "_law_pick" = true := by decide +kernel
theorem zk00_29_1 : vnB N_k00_29 (defScope (topS 29)) 0 "draw" = true := by decide +kernel
theorem zk00_29_2 : vnB N_k00_29 (defScope (topS 29)) 2 "some" = true := by decide +kernel
theorem zk00_29_3 : vnB N_k00_29 (defScope (topS 29)) 1 "row" = true := by decide +kernel
theorem zk00_29_4 : tnB N_k00_29 (defScope (topS 29)) (defScope (topS 29)) 2 "some" = true := by decide +kernel
theorem zk00_29_5 : tnB N_k00_29 (defScope (topS 29)) (defScope (topS 29)) 1 "row" = true := by decide +kernel
def F_k00_29 : S := seqS (asgS (.n 1) (opE [.v (opE [.v (cst (.str "0")), .v (cst (.int 0))] dispT)] dispT)) (seqS (asgS (.n 2) (opE [.v (cst .non), .v (cst (.int 5)), .v (cst (.str "machine")), .v (opE [] dispT), .v (opE [.v (cst (.str "machine"))] dispT), .v (opE [.v (cst (.str "machine")), .v (opE [.v (cst (.str "a"))] dispT), .v (opE [.v (cst (.str "0")), .v (cst (.str "1"))] dispT), .v (opE [] dispT)] dispT), .v (opE [.v (cst (.str "machine")), .v (opE [.v (cst (.str "a"))] dispT), .v (opE [.v (cst (.str "0")), .v (cst (.str "1"))] dispT), .v (opE [.v (nameS 1)] dispT)] dispL)] dispL)) (seqS (asgS (.n 2) (opE [.b 2, .v (opE [.v (opE [.v (cst (.str "machine")), .v (opE [.v (cst (.str "a"))] dispT), .v (opE [.v (cst (.str "0"))] dispT), .v (opE [.v (nameS 1)] dispT)] dispT), .v (opE [.v (cst (.str "machine")), .v (opE [] dispT), .v (opE [.v (cst (.str "0")), .v (cst (.str "1"))] dispT), .v (opE [.v (opE [] dispT)] dispT)] dispT), .v (opE [.v (cst (.str "machine")), .v (opE [.v (cst (.str "a")), .v (cst (.str "a"))] dispT), .v (opE [.v (cst (.str "0")), .v (cst (.str "1"))] dispT), .v (opE [.v (opE [.b 1, .b 1] (frzOps (nop addK)))] dispT)] dispT)] dispL)] (frzOps (nop addK)))) (seqS (asgS (.n 2) (opE [.b 2, .v (opE [.v (opE [.v (cst (.str "machine")), .v (opE [.v (cst (.str "a"))] dispT), .v (opE [.v (cst (.str "0")), .v (cst (.str "1"))] dispT), .v (opE [.v (opE [.v (nameS 1)] dispT), .v (cst (.int 13))] (frzOps (nop mulK)))] dispT), .v (opE [.v (cst (.str "machine")), .v (opE [.v (cst (.str "a"))] dispT), .v (opE [.v (cst (.str "0")), .v (cst (.str "1"))] dispT), .v (opE [.v (opE [.v (opE [.v (cst (.str "0")), .v (cst (.int 1))] dispT)] dispT)] dispT)] dispT), .v (opE [.v (cst (.str "machines")), .v (opE [.v (cst (.str "a"))] dispT), .v (opE [.v (cst (.str "0")), .v (cst (.str "1"))] dispT), .v (opE [.v (nameS 1)] dispT)] dispT)] dispL)] (frzOps (nop addK)))) (seqS (retS (opE [.b 0, .v (opE [.b 2, .v (opE [.v (opE [.v (cst (.str "machine")), .v (opE [.v (cst (.str "a"))] dispT), .v (opE [.v (cst (.str "0")), .v (cst (.str "1"))] dispT), .v (opE [.v (opE [.v (opE [.v (cst (.str "2")), .v (cst (.int 0))] dispT)] dispT)] dispT)] dispT), .v (opE [.v (cst (.str "machine")), .v (opE [.v (cst (.str "a"))] dispT), .v (opE [.v (cst (.str "0")), .v (cst (.str "1"))] dispT), .v (opE [.v (opE [.v (opE [.v (cst (.str "0")), .v (cst (.bl false))] dispT)] dispT)] dispT)] dispT), .v (opE [.v (cst (.str "machine")), .v (opE [.v (cst (.str "a"))] dispT), .v (opE [.v (cst (.str "0")), .v (cst (.str "1"))] dispT), .v (opE [.v (movS 1)] dispT), .v (opE [] dispT)] dispT)] dispL)] (frzOps (nop addK)))] (callG [true, false] R_k00_14))) (skipS)))))
def R_k00_29 : Fn := runS 3 [true] (F_k00_29)
theorem b_k00_29 {X : Cx} {W : WX} {mg : Str → Option Value} {k : Nat} (c : Cd X N_k00_29 (defScope (topS 29)) (defScope (topS 29)) k mg) (tk : Takes X W) (po : PassesOwn (model X.prog X.w) X.A X.env X.xe) {j_law_pick : Nat} (k_law_pick : Cal X mg "_law_pick" ["draw", "some"] j_law_pick [true, false] R_k00_14) (l_law_pick : j_law_pick ≤ k) : PSs X (defBody (topS 29)) (sD (mIdx 0 [true]) mg W (F_k00_29)) :=
  pss_consS (sName c (pe_tupS (.cons (ov (pe_tupS (.cons (ov (kS) rfl) (.cons (ov (kI) rfl) .nil))) rfl) .nil)) zk00_29_5 rfl rfl) (pss_consS (sName c (pe_lstS (.cons (ov (kN) rfl) (.cons (ov (kI) rfl) (.cons (ov (kS) rfl) (.cons (ov (pe_tupS .nil) rfl) (.cons (ov (pe_tupS (.cons (ov (kS) rfl) .nil)) rfl) (.cons (ov (pe_tupS (.cons (ov (kS) rfl) (.cons (ov (pe_tupS (.cons (ov (kS) rfl) .nil)) rfl) (.cons (ov (pe_tupS (.cons (ov (kS) rfl) (.cons (ov (kS) rfl) .nil))) rfl) (.cons (ov (pe_tupS .nil) rfl) .nil))))) rfl) (.cons (ov (pe_lstS (.cons (ov (kS) rfl) (.cons (ov (pe_tupS (.cons (ov (kS) rfl) .nil)) rfl) (.cons (ov (pe_tupS (.cons (ov (kS) rfl) (.cons (ov (kS) rfl) .nil))) rfl) (.cons (ov (pe_tupS (.cons (ov (kNm c zk00_29_3) rfl) .nil)) rfl) .nil))))) rfl) .nil)))))))) zk00_29_4 rfl rfl) (pss_consS (sName c (eAdd (ob c zk00_29_2) (ov (pe_lstS (.cons (ov (pe_tupS (.cons (ov (kS) rfl) (.cons (ov (pe_tupS (.cons (ov (kS) rfl) .nil)) rfl) (.cons (ov (pe_tupS (.cons (ov (kS) rfl) .nil)) rfl) (.cons (ov (pe_tupS (.cons (ov (kNm c zk00_29_3) rfl) .nil)) rfl) .nil))))) rfl) (.cons (ov (pe_tupS (.cons (ov (kS) rfl) (.cons (ov (pe_tupS .nil) rfl) (.cons (ov (pe_tupS (.cons (ov (kS) rfl) (.cons (ov (kS) rfl) .nil))) rfl) (.cons (ov (pe_tupS (.cons (ov (pe_tupS .nil) rfl) .nil)) rfl) .nil))))) rfl) (.cons (ov (pe_tupS (.cons (ov (kS) rfl) (.cons (ov (pe_tupS (.cons (ov (kS) rfl) (.cons (ov (kS) rfl) .nil))) rfl) (.cons (ov (pe_tupS (.cons (ov (kS) rfl) (.cons (ov (kS) rfl) .nil))) rfl) (.cons (ov (pe_tupS (.cons (ov (eAdd (ob c zk00_29_3) (ob c zk00_29_3)) rfl) .nil)) rfl) .nil))))) rfl) .nil)))) rfl)) zk00_29_4 rfl rfl) (pss_consS (sName c (eAdd (ob c zk00_29_2) (ov (pe_lstS (.cons (ov (pe_tupS (.cons (ov (kS) rfl) (.cons (ov (pe_tupS (.cons (ov (kS) rfl) .nil)) rfl) (.cons (ov (pe_tupS (.cons (ov (kS) rfl) (.cons (ov (kS) rfl) .nil))) rfl) (.cons (ov (eMul (ov (pe_tupS (.cons (ov (kNm c zk00_29_3) rfl) .nil)) rfl) (ov (kI) rfl)) rfl) .nil))))) rfl) (.cons (ov (pe_tupS (.cons (ov (kS) rfl) (.cons (ov (pe_tupS (.cons (ov (kS) rfl) .nil)) rfl) (.cons (ov (pe_tupS (.cons (ov (kS) rfl) (.cons (ov (kS) rfl) .nil))) rfl) (.cons (ov (pe_tupS (.cons (ov (pe_tupS (.cons (ov (pe_tupS (.cons (ov (kS) rfl) (.cons (ov (kI) rfl) .nil))) rfl) .nil)) rfl) .nil)) rfl) .nil))))) rfl) (.cons (ov (pe_tupS (.cons (ov (kS) rfl) (.cons (ov (pe_tupS (.cons (ov (kS) rfl) .nil)) rfl) (.cons (ov (pe_tupS (.cons (ov (kS) rfl) (.cons (ov (kS) rfl) .nil))) rfl) (.cons (ov (pe_tupS (.cons (ov (kNm c zk00_29_3) rfl) .nil)) rfl) .nil))))) rfl) .nil)))) rfl)) zk00_29_4 rfl rfl) (pss_consS (ps_retS (eCall c tk zk00_29_0 k_law_pick (by omega) rfl (.cons (ob c zk00_29_1) (.cons (ov (eAdd (ob c zk00_29_2) (ov (pe_lstS (.cons (ov (pe_tupS (.cons (ov (kS) rfl) (.cons (ov (pe_tupS (.cons (ov (kS) rfl) .nil)) rfl) (.cons (ov (pe_tupS (.cons (ov (kS) rfl) (.cons (ov (kS) rfl) .nil))) rfl) (.cons (ov (pe_tupS (.cons (ov (pe_tupS (.cons (ov (pe_tupS (.cons (ov (kS) rfl) (.cons (ov (kI) rfl) .nil))) rfl) .nil)) rfl) .nil)) rfl) .nil))))) rfl) (.cons (ov (pe_tupS (.cons (ov (kS) rfl) (.cons (ov (pe_tupS (.cons (ov (kS) rfl) .nil)) rfl) (.cons (ov (pe_tupS (.cons (ov (kS) rfl) (.cons (ov (kS) rfl) .nil))) rfl) (.cons (ov (pe_tupS (.cons (ov (pe_tupS (.cons (ov (pe_tupS (.cons (ov (kS) rfl) (.cons (ov (kB) rfl) .nil))) rfl) .nil)) rfl) .nil)) rfl) .nil))))) rfl) (.cons (ov (pe_tupS (.cons (ov (kS) rfl) (.cons (ov (pe_tupS (.cons (ov (kS) rfl) .nil)) rfl) (.cons (ov (pe_tupS (.cons (ov (kS) rfl) (.cons (ov (kS) rfl) .nil))) rfl) (.cons (ov (pe_tupS (.cons (ov (kMv c zk00_29_3) rfl) .nil)) rfl) (.cons (ov (pe_tupS .nil) rfl) .nil)))))) rfl) .nil)))) rfl)) rfl) .nil)) rfl)) (pss_nilS)))))
theorem s_k00_29 : FnScope N_k00_29 ["draw"] (defScope (topS 29)) := ⟨rfl, rfl, rfl, by decide +kernel, rfl, by decide +kernel, by decide +kernel⟩
/-! ### _law_are_limits -/
def N_k00_30 : List Str := ["draw", "names", "inputs", "machine", "wide", "far", "off", "low", "outputs", "item"]
theorem zk00_30_0 : gnB (defScope (topS 30)) "_law_same" = true := by decide +kernel
def sc_k00_30_1 : Scope := { kind := .function, names := [(".0", .local), ("item", .local), ("is_machine", .globalImplicit)], isGenerator := false, isCoroutine := false }
theorem zk00_30_1 : blkC N_k00_30 (defScope (topS 30)) sc_k00_30_1 [("item", 9)] = true := by decide +kernel
theorem zk00_30_2 : vnB N_k00_30 (defScope (topS 30)) 3 "machine" = true := by decide +kernel
theorem zk00_30_3 : vnB N_k00_30 (defScope (topS 30)) 4 "wide" = true := by decide +kernel
theorem zk00_30_4 : vnB N_k00_30 (defScope (topS 30)) 6 "off" = true := by decide +kernel
theorem zk00_30_5 : vnB N_k00_30 (defScope (topS 30)) 7 "low" = true := by decide +kernel
theorem zk00_30_6 : tnB N_k00_30 (relS sc_k00_30_1 (defScope (topS 30))) sc_k00_30_1 9 "item" = true := by decide +kernel
theorem zk00_30_7 : gnB (relS sc_k00_30_1 (defScope (topS 30))) "is_machine" = true := by decide +kernel
theorem zk00_30_8 : vnB N_k00_30 (relS sc_k00_30_1 (defScope (topS 30))) 9 "item" = true := by decide +kernel
theorem zk00_30_9 : gnB (defScope (topS 30)) "_law_is_machine" = true := by decide +kernel
theorem zk00_30_10 : tnB N_k00_30 (defScope (topS 30)) (defScope (topS 30)) 7 "low" = true := by decide +kernel
theorem zk00_30_11 : tnB N_k00_30 (defScope (topS 30)) (defScope (topS 30)) 6 "off" = true := by decide +kernel
theorem zk00_30_12 : vnB N_k00_30 (defScope (topS 30)) 1 "names" = true := by decide +kernel
theorem zk00_30_13 : vnB N_k00_30 (defScope (topS 30)) 5 "far" = true := by decide +kernel
theorem zk00_30_14 : tnB N_k00_30 (defScope (topS 30)) (defScope (topS 30)) 5 "far" = true := by decide +kernel
theorem zk00_30_15 : gnB (defScope (topS 30)) "_law_pick" = true := by decide +kernel
theorem zk00_30_16 : vnB N_k00_30 (defScope (topS 30)) 0 "draw" = true := by decide +kernel
theorem zk00_30_17 : tnB N_k00_30 (defScope (topS 30)) (defScope (topS 30)) 4 "wide" = true := by decide +kernel
theorem zk00_30_18 : tnB N_k00_30 (defScope (topS 30)) (defScope (topS 30)) 3 "machine" = true := by decide +kernel
theorem zk00_30_19 : gnB (defScope (topS 30)) "_law_machine" = true := by decide +kernel
theorem zk00_30_20 : gnB (defScope (topS 30)) "tuple" = true := by decide +kernel
theorem zk00_30_21 : gnB (defScope (topS 30)) "range" = true := by decide +kernel
theorem zk00_30_22 : tnB N_k00_30 (defScope (topS 30)) (defScope (topS 30)) 2 "inputs" = true := by decide +kernel
theorem zk00_30_23 : tnB N_k00_30 (defScope (topS 30)) (defScope (topS 30)) 8 "outputs" = true := by decide +kernel
theorem zk00_30_24 : gnB (defScope (topS 30)) "is_machine" = true := by decide +kernel
theorem zk00_30_25 : vnB N_k00_30 (defScope (topS 30)) 8 "outputs" = true := by decide +kernel
theorem zk00_30_26 : vnB N_k00_30 (defScope (topS 30)) 2 "inputs" = true := by decide +kernel
theorem zk00_30_27 : tnB N_k00_30 (defScope (topS 30)) (defScope (topS 30)) 1 "names" = true := by decide +kernel
theorem zk00_30_28 : gnB (defScope (topS 30)) "_law_names" = true := by decide +kernel
noncomputable def F_k00_30 : S := seqS (asgS (.n 1) (opE [.b 0, .v (cst (.int 5))] (callG [true, false] R_k00_18))) (seqS (forS (itsR1 (cst (.int 6))) (.n 2) (seqS (forS (itsR1 (cst (.int 6))) (.n 8) (seqS (asgS (.n 3) (opE [.v (cst (.str "machine")), .v (opE [.v (opE [.b 1, .v (intS (nameS 2))] (frzOps (nop slHi)))] (frzOps (nop tupK))), .v (opE [.v (opE [.b 1, .v (intS (nameS 8))] (frzOps (nop slHi)))] (frzOps (nop tupK))), .v (opE [.v (opE [.v (opE [.v (opE [.v (opE [.b 1, .v (cst (.int 0))] (frzOps idxOp)), .v (cst (.int 0))] dispT)] dispT), .b 2] (frzOps (nop mulK)))] dispT)] dispT)) (seqS (ifS (notM (boolM (opE [.v (opE [.b 3] (callG [false] R_k00_9)), .v (andV (opE [.b 2, .v (opE [.v (cst (.int 1)), .v (cst (.int 2)), .v (cst (.int 3)), .v (cst (.int 4))] dispL)] (sop (inS false))) (opE [.b 8, .v (opE [.v (cst (.int 2)), .v (cst (.int 3)), .v (cst (.int 4))] dispL)] (sop (inS false))))] (callG [false, false] R_k00_16)))) (seqS (retS (cst (.bl false))) (skipS)) (skipS)) (skipS)))) (skipS))) (seqS (asgS (.n 3) (opE [.b 0, .v (opE [.v (opE [.b 1, .v (intS (cst (.int 4)))] (frzOps (nop slHi)))] (frzOps (nop tupK))), .v (opE [.v (opE [.b 1, .v (intS (cst (.int 1)))] (frzOps (nop slLo)))] (frzOps (nop tupK))), .v (cst (.int 12))] (callG [true, false, false, false] R_k00_20))) (seqS (asgS (.n 4) (opE [.v (opE [.b 3, .v (intS (cst (.int 3)))] (frzOps (nop slHi))), .v (opE [.v (opE [.v (opE [.b 3, .v (cst (.int 3))] (frzOps idxOp)), .v (opE [.v (opE [.b 3, .v (cst (.int 3))] (frzOps idxOp)), .v (intS (cst (.int 1)))] (frzOps (nop slHi)))] (frzOps (nop addK)))] dispT)] (frzOps (nop addK)))) (seqS (asgS (.n 5) (opE [.b 0, .v (opE [.v (cst (.int 12)), .v (cst (.int 13)), .v (opE [.v (cst (.int 0)), .v (cst (.int 1))] (sop subD)), .v (opE [.v (cst (.int 0)), .v (cst (.int 12))] (sop subD)), .v (cst (.bl true)), .v (cst .non)] dispL)] (callG [true, false] R_k00_14))) (seqS (asgS (.n 6) (opE [.v (opE [.b 3, .v (intS (cst (.int 3)))] (frzOps (nop slHi))), .v (opE [.v (opE [.v (opE [.v (opE [.b 3, .v (cst (.int 3))] (frzOps idxOp)), .v (intS (cst (.int 11)))] (frzOps (nop slHi))), .v (opE [.v (opE [.v (opE [.v (opE [.v (opE [.b 3, .v (cst (.int 3))] (frzOps idxOp)), .v (cst (.int 11))] (frzOps idxOp)), .v (intS (cst (.int 3)))] (frzOps (nop slHi))), .v (opE [.v (opE [.v (opE [.b 1, .v (cst (.int 1))] (frzOps idxOp)), .v (nameS 5)] dispT)] dispT)] (frzOps (nop addK)))] dispT)] (frzOps (nop addK)))] dispT)] (frzOps (nop addK)))) (seqS (asgS (.n 7) (opE [.v (opE [.b 3, .v (intS (cst (.int 3)))] (frzOps (nop slHi))), .v (opE [.v (opE [.v (opE [.b 3, .v (cst (.int 3))] (frzOps idxOp)), .v (intS (cst (.int 11)))] (frzOps (nop slHi)))] dispT)] (frzOps (nop addK)))) (seqS (retS (opE [.v (lcS (itsV (opE [.v (movS 3), .v (movS 4), .v (movS 6), .v (nameS 7)] dispL)) (.n 9) (M.ret true) (opE [.b 9] (callG [false] R_k00_9)) [9]), .v (opE [.v (cst (.bl true)), .v (cst (.bl false)), .v (cst (.bl false)), .v (opE [.b 7] (callG [false] R_k00_25))] dispL)] (callG [false, false] R_k00_16))) (skipS))))))))
noncomputable def R_k00_30 : Fn := runS 10 [true] (F_k00_30)
theorem b_k00_30 {X : Cx} {W : WX} {mg : Str → Option Value} {k : Nat} (c : Cd X N_k00_30 (defScope (topS 30)) (defScope (topS 30)) k mg) (tk : Takes X W) (po : PassesOwn (model X.prog X.w) X.A X.env X.xe) (m_tuple : mg "tuple" = none) (m_range : mg "range" = none) {j_is_machine : Nat} (k_is_machine : Cal X mg "is_machine" ["thing"] j_is_machine [false] R_k00_9) (l_is_machine : j_is_machine ≤ k) {j_law_is_machine : Nat} (k_law_is_machine : Cal X mg "_law_is_machine" ["thing"] j_law_is_machine [false] R_k00_25) (l_law_is_machine : j_law_is_machine ≤ k) {j_law_same : Nat} (k_law_same : Cal X mg "_law_same" ["told", "due"] j_law_same [false, false] R_k00_16) (l_law_same : j_law_same ≤ k) {j_law_pick : Nat} (k_law_pick : Cal X mg "_law_pick" ["draw", "some"] j_law_pick [true, false] R_k00_14) (l_law_pick : j_law_pick ≤ k) {j_law_machine : Nat} (k_law_machine : Cal X mg "_law_machine" ["draw", "inputs", "outputs", "many"] j_law_machine [true, false, false, false] R_k00_20) (l_law_machine : j_law_machine ≤ k) {j_law_names : Nat} (k_law_names : Cal X mg "_law_names" ["draw", "many"] j_law_names [true, false] R_k00_18) (l_law_names : j_law_names ≤ k) : PSs X (defBody (topS 30)) (sD (mIdx 0 [true]) mg W (F_k00_30)) :=
  pss_consS (sName c (eCall c tk zk00_30_28 k_law_names (by omega) rfl (.cons (ob c zk00_30_16) (.cons (ov (kI) rfl) .nil)) rfl) zk00_30_27 rfl rfl) (pss_consS (ps_forS po c.calm (pi_rng1 (gl_of c zk00_30_21).1 (by rw [c.hm]; exact m_range) (kI) rfl) (gN c zk00_30_22 rfl) (pss_consS (ps_forS po c.calm (pi_rng1 (gl_of c zk00_30_21).1 (by rw [c.hm]; exact m_range) (kI) rfl) (gN c zk00_30_23 rfl) (pss_consS (sName c (pe_tupS (.cons (ov (kS) rfl) (.cons (ov (eTup c zk00_30_20 m_tuple (ov (pe_slHi (ob c zk00_30_12) (kNm c zk00_30_26)) rfl) rfl) rfl) (.cons (ov (eTup c zk00_30_20 m_tuple (ov (pe_slHi (ob c zk00_30_12) (kNm c zk00_30_25)) rfl) rfl) rfl) (.cons (ov (pe_tupS (.cons (ov (eMul (ov (pe_tupS (.cons (ov (pe_tupS (.cons (ov (eSubS c (ob c zk00_30_12) (ov (kI) rfl) rfl) rfl) (.cons (ov (kI) rfl) .nil))) rfl) .nil)) rfl) (ob c zk00_30_26)) rfl) .nil)) rfl) .nil))))) zk00_30_18 rfl rfl) (pss_consS (ps_ifS (pt_notS (pt_plain (eCall c tk zk00_30_0 k_law_same (by omega) rfl (.cons (ov (eCall c tk zk00_30_24 k_is_machine (by omega) rfl (.cons (ob c zk00_30_2) .nil) rfl) rfl) (.cons (ov (pe_andS (eIn c (ob c zk00_30_26) (ov (pe_lstS (.cons (ov (kI) rfl) (.cons (ov (kI) rfl) (.cons (ov (kI) rfl) (.cons (ov (kI) rfl) .nil))))) rfl) rfl) (eAnd1 (eIn c (ob c zk00_30_25) (ov (pe_lstS (.cons (ov (kI) rfl) (.cons (ov (kI) rfl) (.cons (ov (kI) rfl) .nil)))) rfl) rfl))) rfl) .nil)) rfl) rfl)) (pss_consS (ps_retS (kB)) (pss_nilS)) (pss_nilS)) (pss_nilS))) rfl) (pss_nilS)) rfl) (pss_consS (sName c (eCall c tk zk00_30_19 k_law_machine (by omega) rfl (.cons (ob c zk00_30_16) (.cons (ov (eTup c zk00_30_20 m_tuple (ov (pe_slHi (ob c zk00_30_12) (kI)) rfl) rfl) rfl) (.cons (ov (eTup c zk00_30_20 m_tuple (ov (pe_slLo (ob c zk00_30_12) (kI)) rfl) rfl) rfl) (.cons (ov (kI) rfl) .nil)))) rfl) zk00_30_18 rfl rfl) (pss_consS (sName c (eAdd (ov (pe_slHi (ob c zk00_30_2) (kI)) rfl) (ov (pe_tupS (.cons (ov (eAdd (ov (eSubS c (ob c zk00_30_2) (ov (kI) rfl) rfl) rfl) (ov (pe_slHi (ov (eSubS c (ob c zk00_30_2) (ov (kI) rfl) rfl) rfl) (kI)) rfl)) rfl) .nil)) rfl)) zk00_30_17 rfl rfl) (pss_consS (sName c (eCall c tk zk00_30_15 k_law_pick (by omega) rfl (.cons (ob c zk00_30_16) (.cons (ov (pe_lstS (.cons (ov (kI) rfl) (.cons (ov (kI) rfl) (.cons (ov (eSub (ov (kI) rfl) (ov (kI) rfl)) rfl) (.cons (ov (eSub (ov (kI) rfl) (ov (kI) rfl)) rfl) (.cons (ov (kB) rfl) (.cons (ov (kN) rfl) .nil))))))) rfl) .nil)) rfl) zk00_30_14 rfl rfl) (pss_consS (sName c (eAdd (ov (pe_slHi (ob c zk00_30_2) (kI)) rfl) (ov (pe_tupS (.cons (ov (eAdd (ov (pe_slHi (ov (eSubS c (ob c zk00_30_2) (ov (kI) rfl) rfl) rfl) (kI)) rfl) (ov (pe_tupS (.cons (ov (eAdd (ov (pe_slHi (ov (eSubS c (ov (eSubS c (ob c zk00_30_2) (ov (kI) rfl) rfl) rfl) (ov (kI) rfl) rfl) rfl) (kI)) rfl) (ov (pe_tupS (.cons (ov (pe_tupS (.cons (ov (eSubS c (ob c zk00_30_12) (ov (kI) rfl) rfl) rfl) (.cons (ov (kNm c zk00_30_13) rfl) .nil))) rfl) .nil)) rfl)) rfl) .nil)) rfl)) rfl) .nil)) rfl)) zk00_30_11 rfl rfl) (pss_consS (sName c (eAdd (ov (pe_slHi (ob c zk00_30_2) (kI)) rfl) (ov (pe_tupS (.cons (ov (pe_slHi (ov (eSubS c (ob c zk00_30_2) (ov (kI) rfl) rfl) rfl) (kI)) rfl) .nil)) rfl)) zk00_30_10 rfl rfl) (pss_consS (ps_retS (eCall c tk zk00_30_0 k_law_same (by omega) rfl (.cons (ov (pe_lcS (lcOk (own := [("item", 9)]) c zk00_30_1 (pi_valS c.hK (pe_lstS (.cons (ov (kMv c zk00_30_2) rfl) (.cons (ov (kMv c zk00_30_3) rfl) (.cons (ov (kMv c zk00_30_4) rfl) (.cons (ov (kNm c zk00_30_5) rfl) .nil)))))) rfl (fun s1 H1 C1 cl1 fp1 => gN (c.blk s1 H1 sc_k00_30_1 cl1 C1 fp1 rfl) zk00_30_6 (by decide +kernel)) (fun s1 H1 C1 cl1 fp1 => qN) (fun s1 H1 C1 cl1 fp1 => eCall (c.blk s1 H1 sc_k00_30_1 cl1 C1 fp1 rfl) takes0 zk00_30_7 (k_is_machine.blk s1 H1 sc_k00_30_1 cl1 C1 fp1) (by omega) rfl (.cons (ob (c.blk s1 H1 sc_k00_30_1 cl1 C1 fp1 rfl) zk00_30_8) .nil) rfl))) rfl) (.cons (ov (pe_lstS (.cons (ov (kB) rfl) (.cons (ov (kB) rfl) (.cons (ov (kB) rfl) (.cons (ov (eCall c tk zk00_30_9 k_law_is_machine (by omega) rfl (.cons (ob c zk00_30_5) .nil) rfl) rfl) .nil))))) rfl) .nil)) rfl)) (pss_nilS))))))))
theorem s_k00_30 : FnScope N_k00_30 ["draw"] (defScope (topS 30)) := ⟨rfl, rfl, rfl, by decide +kernel, rfl, by decide +kernel, by decide +kernel⟩
/-! ### law -/
def N_k00_31 : List Str := ["script", "draw", "some", "turn", "bent", "thing", "word", "machine", "lap"]
theorem zk00_31_0 : gnB (defScope (topS 31)) "_law_are_limits" = true := by decide +kernel
theorem zk00_31_1 : vnB N_k00_31 (defScope (topS 31)) 1 "draw" = true := by decide +kernel
theorem zk00_31_2 : gnB (defScope (topS 31)) "range" = true := by decide +kernel
theorem zk00_31_3 : gnB (defScope (topS 31)) "min" = true := by decide +kernel
theorem zk00_31_4 : gnB (defScope (topS 31)) "len" = true := by decide +kernel
theorem zk00_31_5 : vnB N_k00_31 (defScope (topS 31)) 0 "script" = true := by decide +kernel
theorem zk00_31_6 : tnB N_k00_31 (defScope (topS 31)) (defScope (topS 31)) 3 "turn" = true := by decide +kernel
theorem zk00_31_7 : vnB N_k00_31 (defScope (topS 31)) 4 "bent" = true := by decide +kernel
theorem zk00_31_8 : gnB (defScope (topS 31)) "_law_bent" = true := by decide +kernel
theorem zk00_31_9 : gnB (defScope (topS 31)) "_law_near" = true := by decide +kernel
theorem zk00_31_10 : vnB N_k00_31 (defScope (topS 31)) 7 "machine" = true := by decide +kernel
theorem zk00_31_11 : gnB (defScope (topS 31)) "_law_bad_machine" = true := by decide +kernel
theorem zk00_31_12 : tnB N_k00_31 (defScope (topS 31)) (defScope (topS 31)) 5 "thing" = true := by decide +kernel
theorem zk00_31_13 : gnB (defScope (topS 31)) "_law_same" = true := by decide +kernel
theorem zk00_31_14 : gnB (defScope (topS 31)) "is_machine" = true := by decide +kernel
theorem zk00_31_15 : vnB N_k00_31 (defScope (topS 31)) 5 "thing" = true := by decide +kernel
theorem zk00_31_16 : gnB (defScope (topS 31)) "_law_is_machine" = true := by decide +kernel
theorem zk00_31_17 : tnB N_k00_31 (defScope (topS 31)) (defScope (topS 31)) 4 "bent" = true := by decide +kernel
def sc_k00_31_1 : Scope := { kind := .function, names := [(".0", .local), ("lap", .local), ("_law_bent", .globalImplicit), ("draw", .free), ("machine", .free)], isGenerator := false, isCoroutine := false }
theorem zk00_31_18 : blkC N_k00_31 (defScope (topS 31)) sc_k00_31_1 [("lap", 8)] = true := by decide +kernel
theorem zk00_31_19 : tnB N_k00_31 (relS sc_k00_31_1 (defScope (topS 31))) sc_k00_31_1 8 "lap" = true := by decide +kernel
theorem zk00_31_20 : gnB (relS sc_k00_31_1 (defScope (topS 31))) "_law_bent" = true := by decide +kernel
theorem zk00_31_21 : vnB N_k00_31 (relS sc_k00_31_1 (defScope (topS 31))) 1 "draw" = true := by decide +kernel
theorem zk00_31_22 : vnB N_k00_31 (relS sc_k00_31_1 (defScope (topS 31))) 7 "machine" = true := by decide +kernel
theorem zk00_31_23 : lnB N_k00_31 (defScope (topS 31)) 4 "bent" = true := by decide +kernel
theorem zk00_31_24 : gnB (defScope (topS 31)) "is_name" = true := by decide +kernel
theorem zk00_31_25 : vnB N_k00_31 (defScope (topS 31)) 6 "word" = true := by decide +kernel
theorem zk00_31_26 : gnB (defScope (topS 31)) "_law_is_name" = true := by decide +kernel
theorem zk00_31_27 : tnB N_k00_31 (defScope (topS 31)) (defScope (topS 31)) 6 "word" = true := by decide +kernel
theorem zk00_31_28 : tnB N_k00_31 (defScope (topS 31)) (defScope (topS 31)) 7 "machine" = true := by decide +kernel
theorem zk00_31_29 : gnB (defScope (topS 31)) "_law_near_word" = true := by decide +kernel
theorem zk00_31_30 : gnB (defScope (topS 31)) "_law_a_machine" = true := by decide +kernel
def sc_k00_31_2 : Scope := { kind := .function, names := [(".0", .local), ("word", .local), ("is_name", .globalImplicit)], isGenerator := false, isCoroutine := false }
theorem zk00_31_31 : blkC N_k00_31 (defScope (topS 31)) sc_k00_31_2 [("word", 6)] = true := by decide +kernel
theorem zk00_31_32 : vnB N_k00_31 (defScope (topS 31)) 2 "some" = true := by decide +kernel
theorem zk00_31_33 : tnB N_k00_31 (relS sc_k00_31_2 (defScope (topS 31))) sc_k00_31_2 6 "word" = true := by decide +kernel
theorem zk00_31_34 : gnB (relS sc_k00_31_2 (defScope (topS 31))) "is_name" = true := by decide +kernel
theorem zk00_31_35 : vnB N_k00_31 (relS sc_k00_31_2 (defScope (topS 31))) 6 "word" = true := by decide +kernel
def sc_k00_31_3 : Scope := { kind := .function, names := [(".0", .local), ("word", .local), ("_law_is_name", .globalImplicit)], isGenerator := false, isCoroutine := false }
theorem zk00_31_36 : blkC N_k00_31 (defScope (topS 31)) sc_k00_31_3 [("word", 6)] = true := by decide +kernel
theorem zk00_31_37 : tnB N_k00_31 (relS sc_k00_31_3 (defScope (topS 31))) sc_k00_31_3 6 "word" = true := by decide +kernel
theorem zk00_31_38 : gnB (relS sc_k00_31_3 (defScope (topS 31))) "_law_is_name" = true := by decide +kernel
theorem zk00_31_39 : vnB N_k00_31 (relS sc_k00_31_3 (defScope (topS 31))) 6 "word" = true := by decide +kernel
theorem zk00_31_40 : tnB N_k00_31 (defScope (topS 31)) (defScope (topS 31)) 2 "some" = true := by decide +kernel
theorem zk00_31_41 : tnB N_k00_31 (defScope (topS 31)) (defScope (topS 31)) 1 "draw" = true := by decide +kernel
theorem zk00_31_42 : gnB (defScope (topS 31)) "_law_begun" = true := by decide +kernel
noncomputable def F_k00_31 (n_law_bent : Nat) : S := seqS (asgS (.n 1) (opE [.b 0] (callG [false] R_k00_11))) (seqS (asgS (.n 2) (opE [.v (cst (.str "")), .v (cst .non), .v (cst (.int 5)), .v (cst (.bl true)), .v (opE [.v (cst (.str "a"))] dispT), .v (opE [.v (cst (.str "a"))] dispL), .v (cst (.str "A")), .v (cst (.str "a ")), .v (cst (.str "a\n")), .v (cst (.str "a.")), .v (cst (.str "-")), .v (cst (.str "a/0")), .v (cst (.str "abcdefgh")), .v (cst (.str "abcdefghi")), .v (cst (.str "01234567")), .v (cst (.str "012345678")), .v (cst (.str "_"))] dispL)) (seqS (ifS (notM (boolM (opE [.v (lcS (itsV (nameS 2)) (.n 6) (M.ret true) (opE [.b 6] (callG [false] R_k00_4)) [6]), .v (lcS (itsV (nameS 2)) (.n 6) (M.ret true) (opE [.b 6] (callG [false] R_k00_23)) [6])] (callG [false, false] R_k00_16)))) (seqS (retS (cst (.bl false))) (skipS)) (skipS)) (seqS (forS (itsR1 (opE [.v (cst (.int 6)), .v (opE [.v (opE [.b 0] (sop lenS)), .v (cst (.int 12))] (sop min2S))] (frzOps (nop addK)))) (.n 3) (seqS (asgS (.t [(.n 6), (.n 7)]) (opE [.v (opE [.b 1] (callG [true] R_k00_26)), .v (opE [.b 1, .v (cst (.int 12))] (callG [true, false] R_k00_21))] dispT)) (seqS (ifS (notM (boolM (opE [.v (opE [.v (opE [.b 6] (callG [false] R_k00_4)), .v (opE [.b 6] (callG [false] R_k00_4))] dispL), .v (opE [.v (opE [.v (opE [.b 6] (callG [false] R_k00_23))] dispL), .v (cst (.int 2))] (frzOps (nop mulK)))] (callG [false, false] R_k00_16)))) (seqS (retS (cst (.bl false))) (skipS)) (skipS)) (seqS (ifS (notM (boolM (opE [.v (opE [.v (opE [.b 7] (callG [false] R_k00_9)), .v (opE [.b 7] (callG [false] R_k00_9))] dispL), .v (opE [.v (cst (.bl true)), .v (cst (.bl true))] dispL)] (callG [false, false] R_k00_16)))) (seqS (retS (cst (.bl false))) (skipS)) (skipS)) (seqS (asgS (.n 4) (lcS (itsR1 (cst (.int 6))) (.n 8) (M.ret true) (opE [.b 1, .b 7] (callG [true, false] (R_k00_28 n_law_bent))) [8])) (seqS (forS (itsV (opE [.b 4, .v (opE [.v (opE [.b 1, .v (opE [.b 4, .v (cst (.int 0))] (frzOps idxOp))] (callG [true, false] (R_k00_28 n_law_bent))), .v (opE [.b 1, .b 7] (callG [true, false] R_k00_22)), .v (opE [.b 1] (callG [true] R_k00_29))] dispL)] (frzOps (nop addK)))) (.n 5) (seqS (ifS (notM (boolM (opE [.v (opE [.b 5] (callG [false] R_k00_9)), .v (opE [.b 5] (callG [false] R_k00_25))] (callG [false, false] R_k00_16)))) (seqS (retS (cst (.bl false))) (skipS)) (skipS)) (skipS))) (skipS))))))) (seqS (retS (opE [.b 1] (callG [true] R_k00_30))) (skipS)))))
noncomputable def R_k00_31 (n_law_bent : Nat) : Fn := runS 9 [false] (F_k00_31 n_law_bent)
theorem b_k00_31 {X : Cx} {W : WX} {mg : Str → Option Value} {k : Nat} {n_law_bent : Nat} (c : Cd X N_k00_31 (defScope (topS 31)) (defScope (topS 31)) k mg) (tk : Takes X W) (po : PassesOwn (model X.prog X.w) X.A X.env X.xe) (m_range : mg "range" = none) (m_min : mg "min" = none) (m_len : mg "len" = none) {j_law_are_limits : Nat} (k_law_are_limits : Cal X mg "_law_are_limits" ["draw"] j_law_are_limits [true] R_k00_30) (l_law_are_limits : j_law_are_limits ≤ k) {j_law_bent : Nat} (k_law_bent : Cal X mg "_law_bent" ["draw", "thing"] j_law_bent [true, false] (R_k00_28 n_law_bent)) (l_law_bent : j_law_bent ≤ k) {j_law_near : Nat} (k_law_near : Cal X mg "_law_near" ["draw", "machine"] j_law_near [true, false] R_k00_22) (l_law_near : j_law_near ≤ k) {j_law_bad_machine : Nat} (k_law_bad_machine : Cal X mg "_law_bad_machine" ["draw"] j_law_bad_machine [true] R_k00_29) (l_law_bad_machine : j_law_bad_machine ≤ k) {j_is_machine : Nat} (k_is_machine : Cal X mg "is_machine" ["thing"] j_is_machine [false] R_k00_9) (l_is_machine : j_is_machine ≤ k) {j_law_is_machine : Nat} (k_law_is_machine : Cal X mg "_law_is_machine" ["thing"] j_law_is_machine [false] R_k00_25) (l_law_is_machine : j_law_is_machine ≤ k) {j_law_same : Nat} (k_law_same : Cal X mg "_law_same" ["told", "due"] j_law_same [false, false] R_k00_16) (l_law_same : j_law_same ≤ k) {j_is_name : Nat} (k_is_name : Cal X mg "is_name" ["thing"] j_is_name [false] R_k00_4) (l_is_name : j_is_name ≤ k) {j_law_is_name : Nat} (k_law_is_name : Cal X mg "_law_is_name" ["thing"] j_law_is_name [false] R_k00_23) (l_law_is_name : j_law_is_name ≤ k) {j_law_near_word : Nat} (k_law_near_word : Cal X mg "_law_near_word" ["draw"] j_law_near_word [true] R_k00_26) (l_law_near_word : j_law_near_word ≤ k) {j_law_a_machine : Nat} (k_law_a_machine : Cal X mg "_law_a_machine" ["draw", "most"] j_law_a_machine [true, false] R_k00_21) (l_law_a_machine : j_law_a_machine ≤ k) {j_law_begun : Nat} (k_law_begun : Cal X mg "_law_begun" ["script"] j_law_begun [false] R_k00_11) (l_law_begun : j_law_begun ≤ k) {jk_is_machine : Nat} (kk_is_machine : CalK X mg "is_machine" ["thing"] 0 jk_is_machine [false] R_k00_9) (lk_is_machine : jk_is_machine ≤ k) {jk_is_name : Nat} (kk_is_name : CalK X mg "is_name" ["thing"] 0 jk_is_name [false] R_k00_4) (lk_is_name : jk_is_name ≤ k) : PSs X (defBody (topS 31)) (sD (mIdx 0 [false]) mg W (F_k00_31 n_law_bent)) :=
  pss_consS (sName c (eCall c tk zk00_31_42 k_law_begun (by omega) rfl (.cons (ob c zk00_31_5) .nil) rfl) zk00_31_41 rfl rfl) (pss_consS (sName c (pe_lstS (.cons (ov (kS) rfl) (.cons (ov (kN) rfl) (.cons (ov (kI) rfl) (.cons (ov (kB) rfl) (.cons (ov (pe_tupS (.cons (ov (kS) rfl) .nil)) rfl) (.cons (ov (pe_lstS (.cons (ov (kS) rfl) .nil)) rfl) (.cons (ov (kS) rfl) (.cons (ov (kS) rfl) (.cons (ov (kS) rfl) (.cons (ov (kS) rfl) (.cons (ov (kS) rfl) (.cons (ov (kS) rfl) (.cons (ov (kS) rfl) (.cons (ov (kS) rfl) (.cons (ov (kS) rfl) (.cons (ov (kS) rfl) (.cons (ov (kS) rfl) .nil)))))))))))))))))) zk00_31_40 rfl rfl) (pss_consS (ps_ifS (pt_notS (pt_plain (eCall c tk zk00_31_13 k_law_same (by omega) rfl (.cons (ov (pe_lcS (lcOk (own := [("word", 6)]) c zk00_31_31 (pi_valS c.hK (kNm c zk00_31_32)) rfl (fun s2 H2 C2 cl2 fp2 => gN (c.blk s2 H2 sc_k00_31_2 cl2 C2 fp2 rfl) zk00_31_33 (by decide +kernel)) (fun s2 H2 C2 cl2 fp2 => qN) (fun s2 H2 C2 cl2 fp2 => eCall (c.blk s2 H2 sc_k00_31_2 cl2 C2 fp2 rfl) takes0 zk00_31_34 (k_is_name.blk s2 H2 sc_k00_31_2 cl2 C2 fp2) (by omega) rfl (.cons (ob (c.blk s2 H2 sc_k00_31_2 cl2 C2 fp2 rfl) zk00_31_35) .nil) rfl))) rfl) (.cons (ov (pe_lcS (lcOk (own := [("word", 6)]) c zk00_31_36 (pi_valS c.hK (kNm c zk00_31_32)) rfl (fun s3 H3 C3 cl3 fp3 => gN (c.blk s3 H3 sc_k00_31_3 cl3 C3 fp3 rfl) zk00_31_37 (by decide +kernel)) (fun s3 H3 C3 cl3 fp3 => qN) (fun s3 H3 C3 cl3 fp3 => eCall (c.blk s3 H3 sc_k00_31_3 cl3 C3 fp3 rfl) takes0 zk00_31_38 (k_law_is_name.blk s3 H3 sc_k00_31_3 cl3 C3 fp3) (by omega) rfl (.cons (ob (c.blk s3 H3 sc_k00_31_3 cl3 C3 fp3 rfl) zk00_31_39) .nil) rfl))) rfl) .nil)) rfl) rfl)) (pss_consS (ps_retS (kB)) (pss_nilS)) (pss_nilS)) (pss_consS (ps_forS po c.calm (pi_rng1 (gl_of c zk00_31_2).1 (by rw [c.hm]; exact m_range) (eAdd (ov (kI) rfl) (ov (eMin2 c zk00_31_3 m_min (ov (eLen c zk00_31_4 m_len (ob c zk00_31_5) rfl) rfl) (ov (kI) rfl) rfl rfl) rfl)) rfl) (gN c zk00_31_6 rfl) (pss_consS (sTT c (pe_tupS (.cons (ov (eCall c tk zk00_31_29 k_law_near_word (by omega) rfl (.cons (ob c zk00_31_1) .nil) rfl) rfl) (.cons (ov (eCall c tk zk00_31_30 k_law_a_machine (by omega) rfl (.cons (ob c zk00_31_1) (.cons (ov (kI) rfl) .nil)) rfl) rfl) .nil))) (gT c (pgs_consS (gN c zk00_31_27 rfl) (pgs_consS (gN c zk00_31_28 rfl) pgs_nilS rfl) rfl) rfl rfl) (by decide +kernel)) (pss_consS (ps_ifS (pt_notS (pt_plain (eCall c tk zk00_31_13 k_law_same (by omega) rfl (.cons (ov (pe_lstS (.cons (ov (eCall c tk zk00_31_24 k_is_name (by omega) rfl (.cons (ob c zk00_31_25) .nil) rfl) rfl) (.cons (ov (eCallK c tk zk00_31_24 kk_is_name (by omega) rfl (.cons (ob c zk00_31_25) .nil) rfl rfl rfl) rfl) .nil))) rfl) (.cons (ov (eMul (ov (pe_lstS (.cons (ov (eCall c tk zk00_31_26 k_law_is_name (by omega) rfl (.cons (ob c zk00_31_25) .nil) rfl) rfl) .nil)) rfl) (ov (kI) rfl)) rfl) .nil)) rfl) rfl)) (pss_consS (ps_retS (kB)) (pss_nilS)) (pss_nilS)) (pss_consS (ps_ifS (pt_notS (pt_plain (eCall c tk zk00_31_13 k_law_same (by omega) rfl (.cons (ov (pe_lstS (.cons (ov (eCall c tk zk00_31_14 k_is_machine (by omega) rfl (.cons (ob c zk00_31_10) .nil) rfl) rfl) (.cons (ov (eCallK c tk zk00_31_14 kk_is_machine (by omega) rfl (.cons (ob c zk00_31_10) .nil) rfl rfl rfl) rfl) .nil))) rfl) (.cons (ov (pe_lstS (.cons (ov (kB) rfl) (.cons (ov (kB) rfl) .nil))) rfl) .nil)) rfl) rfl)) (pss_consS (ps_retS (kB)) (pss_nilS)) (pss_nilS)) (pss_consS (sLc c (lcOk (own := [("lap", 8)]) c zk00_31_18 (pi_rng1 (gl_of c zk00_31_2).1 (by rw [c.hm]; exact m_range) (kI) rfl) rfl (fun s1 H1 C1 cl1 fp1 => gN (c.blk s1 H1 sc_k00_31_1 cl1 C1 fp1 rfl) zk00_31_19 (by decide +kernel)) (fun s1 H1 C1 cl1 fp1 => qN) (fun s1 H1 C1 cl1 fp1 => eCall (c.blk s1 H1 sc_k00_31_1 cl1 C1 fp1 rfl) takes0 zk00_31_20 (k_law_bent.blk s1 H1 sc_k00_31_1 cl1 C1 fp1) (by omega) rfl (.cons (ob (c.blk s1 H1 sc_k00_31_1 cl1 C1 fp1 rfl) zk00_31_21) (.cons (ob (c.blk s1 H1 sc_k00_31_1 cl1 C1 fp1 rfl) zk00_31_22) .nil)) rfl)) zk00_31_23 rfl rfl (by decide +kernel)) (pss_consS (ps_forS po c.calm (pi_valS c.hK (eAdd (ob c zk00_31_7) (ov (pe_lstS (.cons (ov (eCall c tk zk00_31_8 k_law_bent (by omega) rfl (.cons (ob c zk00_31_1) (.cons (ov (eSubS c (ob c zk00_31_7) (ov (kI) rfl) rfl) rfl) .nil)) rfl) rfl) (.cons (ov (eCall c tk zk00_31_9 k_law_near (by omega) rfl (.cons (ob c zk00_31_1) (.cons (ob c zk00_31_10) .nil)) rfl) rfl) (.cons (ov (eCall c tk zk00_31_11 k_law_bad_machine (by omega) rfl (.cons (ob c zk00_31_1) .nil) rfl) rfl) .nil)))) rfl))) (gN c zk00_31_12 rfl) (pss_consS (ps_ifS (pt_notS (pt_plain (eCall c tk zk00_31_13 k_law_same (by omega) rfl (.cons (ov (eCall c tk zk00_31_14 k_is_machine (by omega) rfl (.cons (ob c zk00_31_15) .nil) rfl) rfl) (.cons (ov (eCall c tk zk00_31_16 k_law_is_machine (by omega) rfl (.cons (ob c zk00_31_15) .nil) rfl) rfl) .nil)) rfl) rfl)) (pss_consS (ps_retS (kB)) (pss_nilS)) (pss_nilS)) (pss_nilS)) rfl) (pss_nilS)))))) rfl) (pss_consS (ps_retS (eCall c tk zk00_31_0 k_law_are_limits (by omega) rfl (.cons (ob c zk00_31_1) .nil) rfl)) (pss_nilS)))))
theorem s_k00_31 : FnScope N_k00_31 ["script"] (defScope (topS 31)) := ⟨rfl, rfl, rfl, by decide +kernel, rfl, by decide +kernel, by decide +kernel⟩
section
variable {Pr : Program} {w : World} {K : PySem.W.Frag} {mg : Str → Option Value} {bs : Heap}
structure Top_k00 (K : PySem.W.Frag) (mg : Str → Option Value) : Prop where
  d2 : Df K mg "is_number" (topS 2) ["value"]
  d3 : Df K mg "is_in" (topS 3) ["value", "least", "most"]
  d4 : Df K mg "is_name" (topS 4) ["thing"]
  d5 : Df K mg "are_names" (topS 5) ["value", "least", "most"]
  d8 : Df K mg "is_row" (topS 8) ["value", "inputs", "outputs", "many"]
  d9 : Df K mg "is_machine" (topS 9) ["thing"]
  d11 : Df K mg "_law_begun" (topS 11) ["script"]
  d12 : Df K mg "_law_mixed" (topS 12) ["draw"]
  d13 : Df K mg "_law_take" (topS 13) ["draw", "many"]
  d14 : Df K mg "_law_pick" (topS 14) ["draw", "some"]
  d15 : Df K mg "_law_shuffled" (topS 15) ["draw", "some"]
  d16 : Df K mg "_law_same" (topS 16) ["told", "due"]
  d17 : Df K mg "_law_is_int" (topS 17) ["thing"]
  d18 : Df K mg "_law_names" (topS 18) ["draw", "many"]
  d19 : Df K mg "_law_letters" (topS 19) ["draw"]
  d20 : Df K mg "_law_machine" (topS 20) ["draw", "inputs", "outputs", "many"]
  d21 : Df K mg "_law_a_machine" (topS 21) ["draw", "most"]
  d22 : Df K mg "_law_near" (topS 22) ["draw", "machine"]
  d23 : Df K mg "_law_is_name" (topS 23) ["thing"]
  d24 : Df K mg "_law_are_names" (topS 24) ["thing", "least", "most"]
  d25 : Df K mg "_law_is_machine" (topS 25) ["thing"]
  d26 : Df K mg "_law_near_word" (topS 26) ["draw"]
  d27 : Df K mg "_law_bent_part" (topS 27) ["draw", "thing"]
  d28 : Df K mg "_law_bent" (topS 28) ["draw", "thing"]
  d29 : Df K mg "_law_bad_machine" (topS 29) ["draw"]
  d30 : Df K mg "_law_are_limits" (topS 30) ["draw"]
  d31 : Df K mg "law" (topS 31) ["script"]
  m_abs : mg "abs" = none
  m_bool : mg "bool" = none
  m_int : mg "int" = none
  m_isinstance : mg "isinstance" = none
  m_len : mg "len" = none
  m_list : mg "list" = none
  m_max : mg "max" = none
  m_min : mg "min" = none
  m_range : mg "range" = none
  m_repr : mg "repr" = none
  m_set : mg "set" = none
  m_str : mg "str" = none
  m_tuple : mg "tuple" = none
  q_SIGNS : KonD K mg "SIGNS" (.str "abcdefghijklmnopqrstuvwxyz0123456789")
  q_STATES : KonD K mg "STATES" (.int (12))
theorem y_k00_2 (hK : K = KSeq.K) (T : Top_k00 K mg) : Bdy Pr w K mg bs (topS 2) N_k00_2 0 [false] (F_k00_2) := fun X Wt c tk po e1 e2 e3 e4 e5 => by
  subst e1 e2 e3 e4 e5
  exact b_k00_2 c tk po T.m_isinstance T.m_bool T.m_int
theorem p_k00_2 (hK : K = KSeq.K) (T : Top_k00 K mg) : Pm Pr w K mg bs "is_number" ["value"] 1 [false] R_k00_2 := T.d2.pm hK s_k00_2 (by decide) (y_k00_2 hK T)
theorem y_k00_3 (hK : K = KSeq.K) (T : Top_k00 K mg) : Bdy Pr w K mg bs (topS 3) N_k00_3 1 [false, false, false] (F_k00_3) := fun X Wt c tk po e1 e2 e3 e4 e5 => by
  subst e1 e2 e3 e4 e5
  exact b_k00_3 c tk po  ((p_k00_2 hK T).cal rfl) (by decide)
theorem p_k00_3 (hK : K = KSeq.K) (T : Top_k00 K mg) : Pm Pr w K mg bs "is_in" ["value", "least", "most"] 2 [false, false, false] R_k00_3 := T.d3.pm hK s_k00_3 (by decide) (y_k00_3 hK T)
theorem y_k00_4 (hK : K = KSeq.K) (T : Top_k00 K mg) : Bdy Pr w K mg bs (topS 4) N_k00_4 0 [false] (F_k00_4) := fun X Wt c tk po e1 e2 e3 e4 e5 => by
  subst e1 e2 e3 e4 e5
  exact b_k00_4 c tk po T.m_len T.m_isinstance T.m_str T.q_SIGNS
theorem p_k00_4 (hK : K = KSeq.K) (T : Top_k00 K mg) : Pm Pr w K mg bs "is_name" ["thing"] 1 [false] R_k00_4 := T.d4.pm hK s_k00_4 (by decide) (y_k00_4 hK T)
theorem pk_k00_4 (hK : K = KSeq.K) (T : Top_k00 K mg) : PmK Pr w K mg bs "is_name" ["thing"] 0 1 [false] R_k00_4 := T.d4.pmk hK s_k00_4 (by decide) (y_k00_4 hK T) fun _ _ _ _ _ _ us ws h1 h2 => match us, ws, h1, h2 with
  | [], [_], _, _ => rfl
theorem y_k00_5 (hK : K = KSeq.K) (T : Top_k00 K mg) : Bdy Pr w K mg bs (topS 5) N_k00_5 1 [false, false, false] (F_k00_5) := fun X Wt c tk po e1 e2 e3 e4 e5 => by
  subst e1 e2 e3 e4 e5
  exact b_k00_5 c tk po T.m_range T.m_len T.m_isinstance T.m_tuple ((p_k00_4 hK T).cal rfl) (by decide)
theorem p_k00_5 (hK : K = KSeq.K) (T : Top_k00 K mg) : Pm Pr w K mg bs "are_names" ["value", "least", "most"] 2 [false, false, false] R_k00_5 := T.d5.pm hK s_k00_5 (by decide) (y_k00_5 hK T)
theorem y_k00_8 (hK : K = KSeq.K) (T : Top_k00 K mg) : Bdy Pr w K mg bs (topS 8) N_k00_8 2 [false, false, false, false] (F_k00_8) := fun X Wt c tk po e1 e2 e3 e4 e5 => by
  subst e1 e2 e3 e4 e5
  exact b_k00_8 c tk po T.m_len T.m_isinstance T.m_tuple ((p_k00_3 hK T).cal rfl) (by decide) ((p_k00_4 hK T).cal rfl) (by decide)
theorem p_k00_8 (hK : K = KSeq.K) (T : Top_k00 K mg) : Pm Pr w K mg bs "is_row" ["value", "inputs", "outputs", "many"] 3 [false, false, false, false] R_k00_8 := T.d8.pm hK s_k00_8 (by decide) (y_k00_8 hK T)
theorem y_k00_9 (hK : K = KSeq.K) (T : Top_k00 K mg) : Bdy Pr w K mg bs (topS 9) N_k00_9 3 [false] (F_k00_9) := fun X Wt c tk po e1 e2 e3 e4 e5 => by
  subst e1 e2 e3 e4 e5
  exact b_k00_9 c tk po T.m_len T.m_isinstance T.m_tuple T.m_str T.q_STATES ((p_k00_8 hK T).cal rfl) (by decide) ((p_k00_5 hK T).cal rfl) (by decide)
theorem p_k00_9 (hK : K = KSeq.K) (T : Top_k00 K mg) : Pm Pr w K mg bs "is_machine" ["thing"] 4 [false] R_k00_9 := T.d9.pm hK s_k00_9 (by decide) (y_k00_9 hK T)
theorem pk_k00_9 (hK : K = KSeq.K) (T : Top_k00 K mg) : PmK Pr w K mg bs "is_machine" ["thing"] 0 4 [false] R_k00_9 := T.d9.pmk hK s_k00_9 (by decide) (y_k00_9 hK T) fun _ _ _ _ _ _ us ws h1 h2 => match us, ws, h1, h2 with
  | [], [_], _, _ => rfl
theorem y_k00_11 (hK : K = KSeq.K) (T : Top_k00 K mg) : Bdy Pr w K mg bs (topS 11) N_k00_11 0 [false] (F_k00_11) := fun X Wt c tk po e1 e2 e3 e4 e5 => by
  subst e1 e2 e3 e4 e5
  exact b_k00_11 c tk po T.m_int T.m_abs
theorem p_k00_11 (hK : K = KSeq.K) (T : Top_k00 K mg) : Pm Pr w K mg bs "_law_begun" ["script"] 1 [false] R_k00_11 := T.d11.pm hK s_k00_11 (by decide) (y_k00_11 hK T)
theorem y_k00_12 (hK : K = KSeq.K) (T : Top_k00 K mg) : Bdy Pr w K mg bs (topS 12) N_k00_12 0 [true] (F_k00_12) := fun X Wt c tk po e1 e2 e3 e4 e5 => by
  subst e1 e2 e3 e4 e5
  exact b_k00_12 c tk po T.m_int
theorem p_k00_12 (hK : K = KSeq.K) (T : Top_k00 K mg) : Pm Pr w K mg bs "_law_mixed" ["draw"] 1 [true] R_k00_12 := T.d12.pm hK s_k00_12 (by decide) (y_k00_12 hK T)
theorem y_k00_13 (hK : K = KSeq.K) (T : Top_k00 K mg) : Bdy Pr w K mg bs (topS 13) N_k00_13 1 [true, false] (F_k00_13) := fun X Wt c tk po e1 e2 e3 e4 e5 => by
  subst e1 e2 e3 e4 e5
  exact b_k00_13 c tk po T.m_int ((p_k00_12 hK T).cal rfl) (by decide)
theorem p_k00_13 (hK : K = KSeq.K) (T : Top_k00 K mg) : Pm Pr w K mg bs "_law_take" ["draw", "many"] 2 [true, false] R_k00_13 := T.d13.pm hK s_k00_13 (by decide) (y_k00_13 hK T)
theorem y_k00_14 (hK : K = KSeq.K) (T : Top_k00 K mg) : Bdy Pr w K mg bs (topS 14) N_k00_14 2 [true, false] (F_k00_14) := fun X Wt c tk po e1 e2 e3 e4 e5 => by
  subst e1 e2 e3 e4 e5
  exact b_k00_14 c tk po T.m_len ((p_k00_13 hK T).cal rfl) (by decide)
theorem p_k00_14 (hK : K = KSeq.K) (T : Top_k00 K mg) : Pm Pr w K mg bs "_law_pick" ["draw", "some"] 3 [true, false] R_k00_14 := T.d14.pm hK s_k00_14 (by decide) (y_k00_14 hK T)
theorem y_k00_15 (hK : K = KSeq.K) (T : Top_k00 K mg) : Bdy Pr w K mg bs (topS 15) N_k00_15 2 [true, false] (F_k00_15) := fun X Wt c tk po e1 e2 e3 e4 e5 => by
  subst e1 e2 e3 e4 e5
  exact b_k00_15 c tk po T.m_len T.m_list ((p_k00_13 hK T).cal rfl) (by decide)
theorem p_k00_15 (hK : K = KSeq.K) (T : Top_k00 K mg) : Pm Pr w K mg bs "_law_shuffled" ["draw", "some"] 3 [true, false] R_k00_15 := T.d15.pm hK s_k00_15 (by decide) (y_k00_15 hK T)
theorem y_k00_16 (hK : K = KSeq.K) (T : Top_k00 K mg) : Bdy Pr w K mg bs (topS 16) N_k00_16 0 [false, false] (F_k00_16) := fun X Wt c tk po e1 e2 e3 e4 e5 => by
  subst e1 e2 e3 e4 e5
  exact b_k00_16 c tk po T.m_repr
theorem p_k00_16 (hK : K = KSeq.K) (T : Top_k00 K mg) : Pm Pr w K mg bs "_law_same" ["told", "due"] 1 [false, false] R_k00_16 := T.d16.pm hK s_k00_16 (by decide) (y_k00_16 hK T)
theorem y_k00_17 (hK : K = KSeq.K) (T : Top_k00 K mg) : Bdy Pr w K mg bs (topS 17) N_k00_17 0 [false] (F_k00_17) := fun X Wt c tk po e1 e2 e3 e4 e5 => by
  subst e1 e2 e3 e4 e5
  exact b_k00_17 c tk po T.m_isinstance T.m_bool T.m_int
theorem p_k00_17 (hK : K = KSeq.K) (T : Top_k00 K mg) : Pm Pr w K mg bs "_law_is_int" ["thing"] 1 [false] R_k00_17 := T.d17.pm hK s_k00_17 (by decide) (y_k00_17 hK T)
theorem y_k00_18 (hK : K = KSeq.K) (T : Top_k00 K mg) : Bdy Pr w K mg bs (topS 18) N_k00_18 3 [true, false] (F_k00_18) := fun X Wt c tk po e1 e2 e3 e4 e5 => by
  subst e1 e2 e3 e4 e5
  exact b_k00_18 c tk po T.m_range T.m_list ((p_k00_15 hK T).cal rfl) (by decide) ((p_k00_14 hK T).cal rfl) (by decide) ((p_k00_13 hK T).cal rfl) (by decide)
theorem p_k00_18 (hK : K = KSeq.K) (T : Top_k00 K mg) : Pm Pr w K mg bs "_law_names" ["draw", "many"] 4 [true, false] R_k00_18 := T.d18.pm hK s_k00_18 (by decide) (y_k00_18 hK T)
theorem y_k00_19 (hK : K = KSeq.K) (T : Top_k00 K mg) : Bdy Pr w K mg bs (topS 19) N_k00_19 4 [true] (F_k00_19) := fun X Wt c tk po e1 e2 e3 e4 e5 => by
  subst e1 e2 e3 e4 e5
  exact b_k00_19 c tk po T.m_tuple T.m_max T.m_len ((p_k00_13 hK T).cal rfl) (by decide) ((p_k00_18 hK T).cal rfl) (by decide)
theorem p_k00_19 (hK : K = KSeq.K) (T : Top_k00 K mg) : Pm Pr w K mg bs "_law_letters" ["draw"] 5 [true] R_k00_19 := T.d19.pm hK s_k00_19 (by decide) (y_k00_19 hK T)
theorem y_k00_20 (hK : K = KSeq.K) (T : Top_k00 K mg) : Bdy Pr w K mg bs (topS 20) N_k00_20 3 [true, false, false, false] (F_k00_20) := fun X Wt c tk po e1 e2 e3 e4 e5 => by
  subst e1 e2 e3 e4 e5
  exact b_k00_20 c tk po T.m_tuple T.m_range T.m_len T.m_min ((p_k00_14 hK T).cal rfl) (by decide) ((p_k00_13 hK T).cal rfl) (by decide)
theorem p_k00_20 (hK : K = KSeq.K) (T : Top_k00 K mg) : Pm Pr w K mg bs "_law_machine" ["draw", "inputs", "outputs", "many"] 4 [true, false, false, false] R_k00_20 := T.d20.pm hK s_k00_20 (by decide) (y_k00_20 hK T)
theorem y_k00_21 (hK : K = KSeq.K) (T : Top_k00 K mg) : Bdy Pr w K mg bs (topS 21) N_k00_21 5 [true, false] (F_k00_21) := fun X Wt c tk po e1 e2 e3 e4 e5 => by
  subst e1 e2 e3 e4 e5
  exact b_k00_21 c tk po  ((p_k00_13 hK T).cal rfl) (by decide) ((p_k00_20 hK T).cal rfl) (by decide) ((p_k00_19 hK T).cal rfl) (by decide)
theorem p_k00_21 (hK : K = KSeq.K) (T : Top_k00 K mg) : Pm Pr w K mg bs "_law_a_machine" ["draw", "most"] 6 [true, false] R_k00_21 := T.d21.pm hK s_k00_21 (by decide) (y_k00_21 hK T)
theorem y_k00_22 (hK : K = KSeq.K) (T : Top_k00 K mg) : Bdy Pr w K mg bs (topS 22) N_k00_22 3 [true, false] (F_k00_22) := fun X Wt c tk po e1 e2 e3 e4 e5 => by
  subst e1 e2 e3 e4 e5
  exact b_k00_22 c tk po T.m_tuple T.m_len T.m_list ((p_k00_13 hK T).cal rfl) (by decide) ((p_k00_14 hK T).cal rfl) (by decide)
theorem p_k00_22 (hK : K = KSeq.K) (T : Top_k00 K mg) : Pm Pr w K mg bs "_law_near" ["draw", "machine"] 4 [true, false] R_k00_22 := T.d22.pm hK s_k00_22 (by decide) (y_k00_22 hK T)
theorem y_k00_23 (hK : K = KSeq.K) (T : Top_k00 K mg) : Bdy Pr w K mg bs (topS 23) N_k00_23 0 [false] (F_k00_23) := fun X Wt c tk po e1 e2 e3 e4 e5 => by
  subst e1 e2 e3 e4 e5
  exact b_k00_23 c tk po T.m_range T.m_len T.m_isinstance T.m_str
theorem p_k00_23 (hK : K = KSeq.K) (T : Top_k00 K mg) : Pm Pr w K mg bs "_law_is_name" ["thing"] 1 [false] R_k00_23 := T.d23.pm hK s_k00_23 (by decide) (y_k00_23 hK T)
theorem y_k00_24 (hK : K = KSeq.K) (T : Top_k00 K mg) : Bdy Pr w K mg bs (topS 24) N_k00_24 1 [false, false, false] (F_k00_24) := fun X Wt c tk po e1 e2 e3 e4 e5 => by
  subst e1 e2 e3 e4 e5
  exact b_k00_24 c tk po T.m_len T.m_set T.m_isinstance T.m_tuple ((p_k00_23 hK T).cal rfl) (by decide)
theorem p_k00_24 (hK : K = KSeq.K) (T : Top_k00 K mg) : Pm Pr w K mg bs "_law_are_names" ["thing", "least", "most"] 2 [false, false, false] R_k00_24 := T.d24.pm hK s_k00_24 (by decide) (y_k00_24 hK T)
theorem y_k00_25 (hK : K = KSeq.K) (T : Top_k00 K mg) : Bdy Pr w K mg bs (topS 25) N_k00_25 2 [false] (F_k00_25) := fun X Wt c tk po e1 e2 e3 e4 e5 => by
  subst e1 e2 e3 e4 e5
  exact b_k00_25 c tk po T.m_range T.m_len T.m_isinstance T.m_tuple T.m_str ((p_k00_17 hK T).cal rfl) (by decide) ((p_k00_23 hK T).cal rfl) (by decide) ((p_k00_24 hK T).cal rfl) (by decide)
theorem p_k00_25 (hK : K = KSeq.K) (T : Top_k00 K mg) : Pm Pr w K mg bs "_law_is_machine" ["thing"] 3 [false] R_k00_25 := T.d25.pm hK s_k00_25 (by decide) (y_k00_25 hK T)
theorem y_k00_26 (hK : K = KSeq.K) (T : Top_k00 K mg) : Bdy Pr w K mg bs (topS 26) N_k00_26 4 [true] (F_k00_26) := fun X Wt c tk po e1 e2 e3 e4 e5 => by
  subst e1 e2 e3 e4 e5
  exact b_k00_26 c tk po T.m_len ((p_k00_14 hK T).cal rfl) (by decide) ((p_k00_13 hK T).cal rfl) (by decide) ((p_k00_18 hK T).cal rfl) (by decide)
theorem p_k00_26 (hK : K = KSeq.K) (T : Top_k00 K mg) : Pm Pr w K mg bs "_law_near_word" ["draw"] 5 [true] R_k00_26 := T.d26.pm hK s_k00_26 (by decide) (y_k00_26 hK T)
theorem y_k00_27 (hK : K = KSeq.K) (T : Top_k00 K mg) : Bdy Pr w K mg bs (topS 27) N_k00_27 3 [true, false] (F_k00_27) := fun X Wt c tk po e1 e2 e3 e4 e5 => by
  subst e1 e2 e3 e4 e5
  exact b_k00_27 c tk po T.m_isinstance T.m_str T.m_tuple T.m_list ((p_k00_14 hK T).cal rfl) (by decide) ((p_k00_17 hK T).cal rfl) (by decide)
theorem p_k00_27 (hK : K = KSeq.K) (T : Top_k00 K mg) : Pm Pr w K mg bs "_law_bent_part" ["draw", "thing"] 4 [true, false] R_k00_27 := T.d27.pm hK s_k00_27 (by decide) (y_k00_27 hK T)
theorem p_k00_28_rec (hK : K = KSeq.K) (T : Top_k00 K mg) : ∀ n : Nat, Pm Pr w K mg bs "_law_bent" ["draw", "thing"] (5 + n) [true, false] (R_k00_28 n)
  | 0 => T.d28.pm0
  | n + 1 => by
    have ih := p_k00_28_rec hK T n
    exact T.d28.pm hK s_k00_28 (by decide) fun X Wt c tk po e1 e2 e3 e4 e5 => by
      subst e1 e2 e3 e4 e5
      exact b_k00_28 c tk po T.m_isinstance T.m_tuple T.m_len ((p_k00_27 hK T).cal rfl) (Nat.le_trans (m := 5) (by decide) (Nat.le_add_right _ _)) ((p_k00_13 hK T).cal rfl) (Nat.le_trans (m := 5) (by decide) (Nat.le_add_right _ _)) (ih.cal rfl) (Nat.le_refl _)
theorem p_k00_28 (hK : K = KSeq.K) (T : Top_k00 K mg) : Pm Pr w K mg bs "_law_bent" ["draw", "thing"] 13 [true, false] (R_k00_28 8) := p_k00_28_rec hK T 8
theorem y_k00_29 (hK : K = KSeq.K) (T : Top_k00 K mg) : Bdy Pr w K mg bs (topS 29) N_k00_29 3 [true] (F_k00_29) := fun X Wt c tk po e1 e2 e3 e4 e5 => by
  subst e1 e2 e3 e4 e5
  exact b_k00_29 c tk po  ((p_k00_14 hK T).cal rfl) (by decide)
theorem p_k00_29 (hK : K = KSeq.K) (T : Top_k00 K mg) : Pm Pr w K mg bs "_law_bad_machine" ["draw"] 4 [true] R_k00_29 := T.d29.pm hK s_k00_29 (by decide) (y_k00_29 hK T)
theorem y_k00_30 (hK : K = KSeq.K) (T : Top_k00 K mg) : Bdy Pr w K mg bs (topS 30) N_k00_30 4 [true] (F_k00_30) := fun X Wt c tk po e1 e2 e3 e4 e5 => by
  subst e1 e2 e3 e4 e5
  exact b_k00_30 c tk po T.m_tuple T.m_range ((p_k00_9 hK T).cal rfl) (by decide) ((p_k00_25 hK T).cal rfl) (by decide) ((p_k00_16 hK T).cal rfl) (by decide) ((p_k00_14 hK T).cal rfl) (by decide) ((p_k00_20 hK T).cal rfl) (by decide) ((p_k00_18 hK T).cal rfl) (by decide)
theorem p_k00_30 (hK : K = KSeq.K) (T : Top_k00 K mg) : Pm Pr w K mg bs "_law_are_limits" ["draw"] 5 [true] R_k00_30 := T.d30.pm hK s_k00_30 (by decide) (y_k00_30 hK T)
theorem y_k00_31 (hK : K = KSeq.K) (T : Top_k00 K mg) : Bdy Pr w K mg bs (topS 31) N_k00_31 13 [false] (F_k00_31 8) := fun X Wt c tk po e1 e2 e3 e4 e5 => by
  subst e1 e2 e3 e4 e5
  exact b_k00_31 (n_law_bent := 8) c tk po T.m_range T.m_min T.m_len ((p_k00_30 hK T).cal rfl) (by decide) ((p_k00_28 hK T).cal rfl) (by decide) ((p_k00_22 hK T).cal rfl) (by decide) ((p_k00_29 hK T).cal rfl) (by decide) ((p_k00_9 hK T).cal rfl) (by decide) ((p_k00_25 hK T).cal rfl) (by decide) ((p_k00_16 hK T).cal rfl) (by decide) ((p_k00_4 hK T).cal rfl) (by decide) ((p_k00_23 hK T).cal rfl) (by decide) ((p_k00_26 hK T).cal rfl) (by decide) ((p_k00_21 hK T).cal rfl) (by decide) ((p_k00_11 hK T).cal rfl) (by decide) ((pk_k00_9 hK T).cal rfl) (by decide) ((pk_k00_4 hK T).cal rfl) (by decide)
end
end DN

set_option Elab.async false
set_option linter.all false
set_option maxRecDepth 100000
set_option maxHeartbeats 4000000
/-! The plain law of k00: draws. -/
namespace DN
open PySem PySem.Spec PyProof.Rows L2
variable [KSeq]
local macro_rules | `(tactic| walk_at "immt") => `(tactic| first | assumption | (with_unfolding_all exact rfl) | with_reducible exact imm_ints _ | with_reducible exact imm_strs _ | with_reducible exact imm_tupS _)
local macro_rules | `(tactic| walk_at "opd") => `(tactic| first
  | with_reducible assumption
  | with_reducible exact lenS_lst _ | with_reducible exact lenS_tup _ | with_reducible exact lenS_seq _ | with_reducible exact lenS_str (by with_unfolding_all first | assumption | omega)
  | with_reducible exact eqS_int _ _ _ | with_reducible exact eqS_ints_nil _ _ | with_reducible exact listK2_lst (by walk_at "immt") | with_reducible exact inS_lst _ (by assumption) (by assumption) | with_reducible exact inS_tup _ (by assumption) (by assumption) | with_reducible exact ordS_int _ _ _ | with_reducible exact addK_int _ _ _ _ | with_reducible exact subD_int _ _
  | with_reducible exact modD_int (by with_unfolding_all first | assumption | omega | decide)
  | with_reducible exact fdivD_int (by with_unfolding_all first | assumption | omega | decide) (by with_unfolding_all first | assumption | omega | decide)
  | with_reducible exact mulK_intR (by with_unfolding_all first | decide | omega) | with_reducible exact mulK_intL (by with_unfolding_all first | decide | omega)
  | with_reducible exact powD_int (by with_unfolding_all first | decide | omega) (by with_unfolding_all first | decide | omega) (by with_unfolding_all first | decide | omega)
  | with_reducible exact inS_intG _ (by with_unfolding_all exact rfl)
  | with_reducible exact slHi_lst (by walk_at "immt") | with_reducible exact slLo_lst (by walk_at "immt") | with_reducible exact tupK_lst (by walk_at "immt") | with_reducible exact max2S_int _ _ | with_reducible exact min2S_int _ _
  | with_unfolding_all exact rfl)
local macro_rules | `(tactic| walk_at "uni") => `(tactic| with_reducible first | exact uni_nil | exact uni_I (by walk_at "immt") (by walk_at "uni") | exact uni_1 (by walk_at "immt") (by walk_at "uni") | exact uni_j (by walk_at "immt") (by walk_at "uni"))
local macro_rules | `(tactic| walk_at "prep") => `(tactic| first
  | with_reducible exact prep_nil
  | (with_reducible apply prep_vF; walk_at "prep") | (with_reducible apply prep_vT; walk_at "prep")
  | (with_reducible apply prep_m; (with_unfolding_all exact rfl); walk_at "prep")
  | (with_reducible apply prep_i; (with_unfolding_all exact rfl); walk_at "immt"; walk_at "prep")
  | (with_reducible apply prep_f; (with_unfolding_all exact rfl); (with_unfolding_all exact rfl); walk_at "prep"))
local macro_rules | `(tactic| walk_at "w1") => `(tactic| with_reducible first
  | refine WS.seq ?_ | refine SqP.nx ?_ | refine SqP.rt ?_ | refine WS.skip ?_ | refine WS.ifS ?_ | refine WS.retv ?_ | refine WS.expr ?_ | refine WS.asgN ?_ | refine WS.asg ?_ | refine WS.par ?_ | refine WS.forS ?_
  | refine WE.opE ?_ | refine WE.ev ?_ | refine WE.eb (by with_unfolding_all exact rfl) ?_ | refine WE.e0 ?_ | refine WE.cst ?_ | refine WE.ret ?_ | refine WE.boolM ?_
  | refine WE.frz (WE.idx (by with_unfolding_all exact rfl) (by walk_at "opd") ?_) | refine WE.sop (by with_unfolding_all exact rfl) (by walk_at "opd") ?_ | refine WE.nop (by with_unfolding_all exact rfl) (by walk_at "opd") ?_ | refine WE.frz (WE.nop (by with_unfolding_all exact rfl) (by walk_at "opd") ?_)
  | refine WE.nameI (by with_unfolding_all exact rfl) (by walk_at "immt") ?_ | refine WE.movI (by with_unfolding_all exact rfl) (by walk_at "immt") ?_
  | refine WE.notM ?_ | refine WE.andM ?_ | refine WE.orM ?_ | refine WE.andV ?_ | refine WE.orV ?_ | refine WE.notV ?_ | refine WE.ifV ?_ | refine WE.chainV ?_ | refine WE.bind ?_ | refine WE.valM ?_ | refine WE.intS ?_ | refine WE.lcS ?_ | refine WE.itsR1 ?_ | refine WE.itsV ?_
  | refine WE.setRest (by with_unfolding_all exact rfl) ?_ | refine WE.setTurn (by with_unfolding_all exact rfl) ?_
  | refine WE.uniL (by walk_at "uni") (by with_unfolding_all exact of_decide_eq_true rfl) ?_ | refine WE.uniT (by walk_at "uni") (by with_unfolding_all exact of_decide_eq_true rfl) ?_
  | refine WE.pth (by with_unfolding_all exact rfl) (by with_unfolding_all exact rfl) (by with_unfolding_all exact rfl) (by with_unfolding_all exact rfl) (by with_unfolding_all exact rfl) (by with_unfolding_all exact rfl) ?_
  | refine WE.popAt (by with_unfolding_all exact rfl) (by first | with_reducible exact ixN_zero _ | with_unfolding_all exact rfl) (by with_unfolding_all exact rfl) (by with_unfolding_all exact rfl) ?_
  | refine WS.forH0 (by with_unfolding_all exact rfl) (by with_unfolding_all first | exact .inr rfl | exact .inl rfl) ?_
  | refine WE.callC (by first | with_unfolding_all exact rfl | walk_at "prep") ?_
  | refine WE.mth ?_)
local macro_rules | `(tactic| walk_at "nenv") => `(tactic| try simp only [kz_str, kz_int, Bool.false_eq_true, if_false, if_true, List.take_succ_cons, List.take_zero, List.take_nil, List.length_cons, List.length_nil, Nat.zero_add, Nat.reduceAdd, List.set_cons_zero, List.set_cons_succ, List.set_nil, zipO, puts, List.append_nil, List.cons_append, List.nil_append, wipeE, unwipe, slotE, List.getElem?_cons_zero, List.getElem?_cons_succ])
local macro_rules | `(tactic| walk_at "w2") => `(tactic| first
  | walk_at "w1"
  | (with_reducible refine ⟨ltN (by with_unfolding_all exact rfl), ?_⟩; try walk_at "nenv")
  | with_reducible refine ⟨small62_of (by omega) (by omega), ?_⟩
  | (with_reducible refine ⟨tyT (by with_unfolding_all exact rfl), ?_⟩; try walk_at "nenv")
  | (refine ⟨_, by with_unfolding_all exact rfl, ?_⟩; try walk_at "nenv")
  | with_reducible refine .inl ⟨_, .inl rfl, ?_⟩
  | with_reducible refine .inl ⟨_, .inr (.inl rfl), ?_⟩
  | with_reducible refine .inr ⟨_, rfl, ?_⟩
  | (with_reducible refine WE.nameF (by with_unfolding_all exact rfl) (by first | assumption | with_unfolding_all exact rfl) ?_; try walk_at "nenv")
  | (with_reducible refine WE.movF (by with_unfolding_all exact rfl) (by first | assumption | with_unfolding_all exact rfl) ?_; try walk_at "nenv")
  | refine ⟨fun _ => ?_, fun h => Bool.noConfusion (show true = false from h)⟩
  | refine ⟨fun h => Bool.noConfusion (show false = true from h), fun _ => ?_⟩)
local macro_rules | `(tactic| walk_at "ws") => `(tactic| repeat walk_at "w2")
local macro_rules | `(tactic| walk_at "bag") => `(tactic| refine ⟨Bag.cln1 _ _ _ (by walk_at "immt"), ?_⟩)
theorem mix_ok (s : Bag) (B : Nat) (h : s.Ok (B + 1)) (Q : Nat → D → List KD → Prop) (q : ∀ (v : Int) (s' : Bag), s'.w = s.w → s'.c = s.c → s'.r = s.r → s'.Ok B → Q 9 (.int v) [(10, s'.d)]) : WR Q (R_k00_12 [(10, s.d)]) := by
  refine WR.fn (ρ := [some (10, s.d), none, none, none, none, none]) rfl ?_
  unfold F_k00_12
  walk_at "ws"
  obtain ⟨ht, hc⟩ := h
  have hw : ∀ p : Int, 0 < p → p < 2147483648 → s.c = [] → 0 ≤ 48271 * (s.t + 1) + p.fdiv 37 ∧ 48271 * (s.t + 1) + p.fdiv 37 < 9223372036854775808 := fun p h1 h2 h3 => by
    have := hc.resolve_left (absurd h3)
    rw [Int.fdiv_eq_ediv_of_nonneg _ (by omega)]
    omega
  generalize e1 : ({ w := s.w, c := s.c, r := s.r, t := s.t + 1 } : Bag) = s1
  have ec : s1.c = s.c := by rw [← e1]
  refine WS.loop (I := fun ds ρ => (∀ kd ∈ ds, ∃ p : Int, kd = (9, D.int p) ∧ 0 < p ∧ p < 2147483648) ∧ ∃ x f b g, ρ = [some (10, s1.d), x, some (9, .int (s.t + 1)), some (9, .int f), b, g]) ⟨?_, none, 0, none, none, rfl⟩ (fun kd r ρ h => ?_) (fun ρ h => ?_)
  · intro kd hk
    simp only [List.map_cons, List.map_nil, List.mem_cons, List.not_mem_nil, or_false] at hk
    rcases hk with rfl | rfl | rfl | rfl <;> exact ⟨_, rfl, by omega, by omega⟩
  · obtain ⟨hp, x, f, b, g, rfl⟩ := h
    obtain ⟨p, rfl, p0, p1⟩ := hp _ List.mem_cons_self
    replace hp := fun kd hk => hp kd (List.mem_cons_of_mem _ hk)
    walk_at "ws"
    refine WS.forP (pth_cells (s := s1) rfl) ?_
    refine WS.loop (I := fun ds ρ => (∀ kd ∈ ds, ∃ c : Int, kd = (9, D.int c)) ∧ ∃ bl g, ρ = [none, some (9, .int p), some (9, .int (s.t + 1)), some (9, .int f), some (9, .int bl), g] ∧ ((0 ≤ bl ∧ bl < 9223372036854775808) ∨ ds ≠ [])) ⟨?_, _, _, rfl, ?_⟩ (fun kd r ρ h => ?_) (fun ρ h => ?_)
    · intro kd hk
      rw [List.map_map] at hk
      obtain ⟨c, _, rfl⟩ := List.mem_map.mp hk
      exact ⟨c, rfl⟩
    · by_cases h : s.c = []
      · exact .inl (hw p p0 p1 h)
      · right; rw [ec]; simpa using h
    · obtain ⟨hi, bl, g, rfl, hb⟩ := h
      obtain ⟨c, rfl⟩ := hi _ List.mem_cons_self
      walk_at "ws"
      have f0 := Int.fmod_nonneg_of_pos (bl * 69621 + c + (s.t + 1)) p0
      have f1 := Int.fmod_lt_of_pos (bl * 69621 + c + (s.t + 1)) p0
      exact LpP.nx ⟨fun kd hk => hi kd (List.mem_cons_of_mem _ hk), _, _, rfl, .inl ⟨f0, by omega⟩⟩
    · obtain ⟨_, bl, g, rfl, hb⟩ := h
      have hb := hb.resolve_right (absurd rfl)
      walk_at "ws"
      exact LpP.nx ⟨hp, _, _, _, _, rfl⟩
  · obtain ⟨_, x, f, b, g, rfl⟩ := h
    walk_at "ws"
    subst e1
    exact q _ _ rfl rfl rfl ⟨by dsimp only; omega, hc.imp id fun h => by dsimp only; omega⟩
theorem take_ok (s : Bag) (B : Nat) (h : s.Ok (B + 1)) (m : Int) (m0 : 0 < m) (m1 : m < 1073741824) (k : Nat) (Q : Nat → D → List KD → Prop) (q : ∀ (v : Int) (s' : Bag), 0 ≤ v → v < m → s'.Ok B → Q 9 (.int v) [(10, s'.d)]) : WR Q (R_k00_13 [(10, s.d), (k, .int m)]) := by
  refine WR.fn (ρ := [some (10, s.d), some (k, .int m), none]) rfl ?_
  unfold F_k00_13
  walk_at "ws"
  refine ⟨fun _ => ?_, fun _ => ?_⟩
  · obtain ⟨w, c, r, t⟩ := s
    walk_at "ws"
    refine ⟨_, (10, Bag.d ⟨w, c, r, t⟩), rfl, rfl, ?_⟩
    walk_at "nenv"
    cases w with
    | nil =>
      walk_at "ws"
      refine mix_ok _ B h _ fun v s' hw hc hr ho => ⟨s'.cln1 _ _ rfl, ?_⟩
      walk_at "nenv"
      walk_at "ws"
      exact q _ _ (Int.fmod_nonneg_of_pos _ m0) (Int.fmod_lt_of_pos _ m0) ho
    | cons a w =>
      walk_at "ws"
      walk_at "nenv"
      refine WE.popAt rfl (ixN_zero w a) rfl rfl ?_
      refine ⟨_, (10, Bag.d ⟨w, c, r, t⟩), rfl, rfl, ?_⟩
      walk_at "nenv"
      walk_at "ws"
      exact q _ _ (Int.fmod_nonneg_of_pos _ m0) (Int.fmod_lt_of_pos _ m0) (h.mono (Nat.le_succ _))
  · walk_at "ws"
    exact q _ _ (Int.fmod_nonneg_of_pos _ m0) (Int.fmod_lt_of_pos _ m0) (h.mono (Nat.le_succ _))
theorem pick_lst (s : Bag) (B : Nat) (h : s.Ok (B + 1)) (ds : List D) (k : Nat) (hk : k ≤ 1 ∨ D.immAll ds = true) (ne : ds ≠ []) (l : ds.length < 1073741824) (Q : Nat → D → List KD → Prop) (q : ∀ d ∈ ds, ∀ s' : Bag, s'.Ok B → Q (kz d).1 d [(10, s'.d)]) : WR Q (R_k00_14 [(10, s.d), (k, .lst ds)]) := by
  have l0 : 0 < ds.length := List.length_pos_iff.mpr ne
  refine WR.fn (ρ := [some (10, s.d), some (k, .lst ds)]) rfl ?_
  unfold F_k00_14
  walk_at "ws"
  refine take_ok _ B h _ (by omega) (by omega) _ _ fun v s' v0 v1 h' => ⟨s'.cln1 _ _ rfl, ?_⟩
  walk_at "nenv"
  walk_at "ws"
  obtain ⟨d, e, _, hd⟩ := atI_in v0 v1
  refine WE.frz (WE.idx rfl (idxK_lst e (hk.symm.imp (fun h => mem_imm h d hd) id)) ?_)
  walk_at "ws"
  exact q d hd s' h'
theorem pick_tup (s : Bag) (B : Nat) (h : s.Ok (B + 1)) (ds : List D) (k : Nat) (hk : k = 0 ∨ D.immAll ds = true) (ne : ds ≠ []) (l : ds.length < 1073741824) (Q : Nat → D → List KD → Prop) (q : ∀ d ∈ ds, ∀ s' : Bag, s'.Ok B → Q (kz d).1 d [(10, s'.d)]) : WR Q (R_k00_14 [(10, s.d), (k, .tup ds)]) := by
  have l0 : 0 < ds.length := List.length_pos_iff.mpr ne
  refine WR.fn (ρ := [some (10, s.d), some (k, .tup ds)]) rfl ?_
  unfold F_k00_14
  walk_at "ws"
  refine take_ok _ B h _ (by omega) (by omega) _ _ fun v s' v0 v1 h' => ⟨s'.cln1 _ _ rfl, ?_⟩
  walk_at "nenv"
  walk_at "ws"
  obtain ⟨d, e, _, hd⟩ := atI_in v0 v1
  refine WE.frz (WE.idx rfl (d := kz d) ?_ ?_)
  · rcases hk with rfl | hk
    · exact idxK_tup0 e
    · rw [idxK_tupI e (mem_imm hk d hd)]; unfold kz; rw [if_pos (mem_imm hk d hd)]
  walk_at "ws"
  exact q d hd s' h'
theorem pick_str (s : Bag) (B : Nat) (h : s.Ok (B + 1)) (x : Str) (k : Nat) (ne : 0 < x.length) (l : x.length ≤ lineN) (Q : Nat → D → List KD → Prop) (q : ∀ c ∈ x.cps.toList, ∀ s' : Bag, s'.Ok B → Q 9 (.str ⟨#[c]⟩) [(10, s'.d)]) : WR Q (R_k00_14 [(10, s.d), (k, .str x)]) := by
  have l2 : x.length < 1073741824 := Nat.lt_of_le_of_lt l (by decide)
  have l3 : x.length = x.cps.toList.length := by simp [Str.length]
  refine WR.fn (ρ := [some (10, s.d), some (k, .str x)]) rfl ?_
  unfold F_k00_14
  walk_at "ws"
  refine take_ok _ B h _ (by omega) (by omega) _ _ fun v s' v0 v1 h' => ⟨s'.cln1 _ _ rfl, ?_⟩
  walk_at "nenv"
  walk_at "ws"
  obtain ⟨c, e, _, hd⟩ := atI_in (ds := x.cps.toList) v0 (by rw [← l3]; exact v1)
  refine WE.frz (WE.idx rfl (idxK_str l e) ?_)
  walk_at "ws"
  exact q c hd s' h'
end DN

set_option Elab.async false
set_option linter.all false
set_option maxRecDepth 100000
set_option maxHeartbeats 4000000
/-! The plain law of k00: names. -/
namespace DN
open PySem PySem.Spec PyProof.Rows L2
variable [KSeq]
local macro_rules | `(tactic| walk_at "immt") => `(tactic| first | assumption | (with_unfolding_all exact rfl) | with_reducible exact imm_ints _ | with_reducible exact imm_strs _ | with_reducible exact imm_tupS _)
local macro_rules | `(tactic| walk_at "opd") => `(tactic| first
  | with_reducible assumption
  | with_reducible exact lenS_lst _ | with_reducible exact lenS_tup _ | with_reducible exact lenS_seq _ | with_reducible exact lenS_str (by with_unfolding_all first | assumption | omega)
  | with_reducible exact eqS_int _ _ _ | with_reducible exact eqS_ints_nil _ _ | with_reducible exact listK2_lst (by walk_at "immt") | with_reducible exact inS_lst _ (by assumption) (by assumption) | with_reducible exact inS_tup _ (by assumption) (by assumption) | with_reducible exact ordS_int _ _ _ | with_reducible exact addK_int _ _ _ _ | with_reducible exact subD_int _ _
  | with_reducible exact modD_int (by with_unfolding_all first | assumption | omega | decide)
  | with_reducible exact fdivD_int (by with_unfolding_all first | assumption | omega | decide) (by with_unfolding_all first | assumption | omega | decide)
  | with_reducible exact mulK_intR (by with_unfolding_all first | decide | omega) | with_reducible exact mulK_intL (by with_unfolding_all first | decide | omega)
  | with_reducible exact powD_int (by with_unfolding_all first | decide | omega) (by with_unfolding_all first | decide | omega) (by with_unfolding_all first | decide | omega)
  | with_reducible exact inS_intG _ (by with_unfolding_all exact rfl)
  | with_reducible exact slHi_lst (by walk_at "immt") | with_reducible exact slLo_lst (by walk_at "immt") | with_reducible exact tupK_lst (by walk_at "immt") | with_reducible exact max2S_int _ _ | with_reducible exact min2S_int _ _
  | with_unfolding_all exact rfl)
local macro_rules | `(tactic| walk_at "uni") => `(tactic| with_reducible first | exact uni_nil | exact uni_I (by walk_at "immt") (by walk_at "uni") | exact uni_1 (by walk_at "immt") (by walk_at "uni") | exact uni_j (by walk_at "immt") (by walk_at "uni"))
local macro_rules | `(tactic| walk_at "prep") => `(tactic| first
  | with_reducible exact prep_nil
  | (with_reducible apply prep_vF; walk_at "prep") | (with_reducible apply prep_vT; walk_at "prep")
  | (with_reducible apply prep_m; (with_unfolding_all exact rfl); walk_at "prep")
  | (with_reducible apply prep_i; (with_unfolding_all exact rfl); walk_at "immt"; walk_at "prep")
  | (with_reducible apply prep_f; (with_unfolding_all exact rfl); (with_unfolding_all exact rfl); walk_at "prep"))
local macro_rules | `(tactic| walk_at "w1") => `(tactic| with_reducible first
  | refine WS.seq ?_ | refine SqP.nx ?_ | refine SqP.rt ?_ | refine WS.skip ?_ | refine WS.ifS ?_ | refine WS.retv ?_ | refine WS.expr ?_ | refine WS.asgN ?_ | refine WS.asg ?_ | refine WS.par ?_ | refine WS.forS ?_
  | refine WE.opE ?_ | refine WE.ev ?_ | refine WE.eb (by with_unfolding_all exact rfl) ?_ | refine WE.e0 ?_ | refine WE.cst ?_ | refine WE.ret ?_ | refine WE.boolM ?_
  | refine WE.frz (WE.idx (by with_unfolding_all exact rfl) (by walk_at "opd") ?_) | refine WE.sop (by with_unfolding_all exact rfl) (by walk_at "opd") ?_ | refine WE.nop (by with_unfolding_all exact rfl) (by walk_at "opd") ?_ | refine WE.frz (WE.nop (by with_unfolding_all exact rfl) (by walk_at "opd") ?_)
  | refine WE.nameI (by with_unfolding_all exact rfl) (by walk_at "immt") ?_ | refine WE.movI (by with_unfolding_all exact rfl) (by walk_at "immt") ?_
  | refine WE.notM ?_ | refine WE.andM ?_ | refine WE.orM ?_ | refine WE.andV ?_ | refine WE.orV ?_ | refine WE.notV ?_ | refine WE.ifV ?_ | refine WE.chainV ?_ | refine WE.bind ?_ | refine WE.valM ?_ | refine WE.intS ?_ | refine WE.lcS ?_ | refine WE.itsR1 ?_ | refine WE.itsV ?_
  | refine WE.setRest (by with_unfolding_all exact rfl) ?_ | refine WE.setTurn (by with_unfolding_all exact rfl) ?_
  | refine WE.uniL (by walk_at "uni") (by with_unfolding_all exact of_decide_eq_true rfl) ?_ | refine WE.uniT (by walk_at "uni") (by with_unfolding_all exact of_decide_eq_true rfl) ?_
  | refine WE.pth (by with_unfolding_all exact rfl) (by with_unfolding_all exact rfl) (by with_unfolding_all exact rfl) (by with_unfolding_all exact rfl) (by with_unfolding_all exact rfl) (by with_unfolding_all exact rfl) ?_
  | refine WE.popAt (by with_unfolding_all exact rfl) (by first | with_reducible exact ixN_zero _ | with_unfolding_all exact rfl) (by with_unfolding_all exact rfl) (by with_unfolding_all exact rfl) ?_
  | refine WS.forH0 (by with_unfolding_all exact rfl) (by with_unfolding_all first | exact .inr rfl | exact .inl rfl) ?_
  | refine WE.callC (by first | with_unfolding_all exact rfl | walk_at "prep") ?_
  | refine WE.mth ?_)
local macro_rules | `(tactic| walk_at "nenv") => `(tactic| try simp only [kz_str, kz_int, Bool.false_eq_true, if_false, if_true, List.take_succ_cons, List.take_zero, List.take_nil, List.length_cons, List.length_nil, Nat.zero_add, Nat.reduceAdd, List.set_cons_zero, List.set_cons_succ, List.set_nil, zipO, puts, List.append_nil, List.cons_append, List.nil_append, wipeE, unwipe, slotE, List.getElem?_cons_zero, List.getElem?_cons_succ])
local macro_rules | `(tactic| walk_at "w2") => `(tactic| first
  | walk_at "w1"
  | (with_reducible refine ⟨ltN (by with_unfolding_all exact rfl), ?_⟩; try walk_at "nenv")
  | with_reducible refine ⟨small62_of (by omega) (by omega), ?_⟩
  | (with_reducible refine ⟨tyT (by with_unfolding_all exact rfl), ?_⟩; try walk_at "nenv")
  | (refine ⟨_, by with_unfolding_all exact rfl, ?_⟩; try walk_at "nenv")
  | with_reducible refine .inl ⟨_, .inl rfl, ?_⟩
  | with_reducible refine .inl ⟨_, .inr (.inl rfl), ?_⟩
  | with_reducible refine .inr ⟨_, rfl, ?_⟩
  | (with_reducible refine WE.nameF (by with_unfolding_all exact rfl) (by first | assumption | with_unfolding_all exact rfl) ?_; try walk_at "nenv")
  | (with_reducible refine WE.movF (by with_unfolding_all exact rfl) (by first | assumption | with_unfolding_all exact rfl) ?_; try walk_at "nenv")
  | refine ⟨fun _ => ?_, fun h => Bool.noConfusion (show true = false from h)⟩
  | refine ⟨fun h => Bool.noConfusion (show false = true from h), fun _ => ?_⟩)
local macro_rules | `(tactic| walk_at "ws") => `(tactic| repeat walk_at "w2")
local macro_rules | `(tactic| walk_at "bag") => `(tactic| refine ⟨Bag.cln1 _ _ _ (by walk_at "immt"), ?_⟩)
def SG : Str := Str.ofString "abcdefghijklmnopqrstuvwxyz0123456789"
def sg : List Nat := SG.cps.toList
def nm (x : Str) : Bool := decide (1 ≤ x.length) && decide (x.length ≤ 8) && x.cps.toList.all fun c => sg.contains c
theorem sg_len : sg.length = 36 := by decide +kernel
theorem sg_nodup : sg.Nodup := by decide +kernel
theorem sg_lt : ∀ c ∈ sg, c < 128 := by decide +kernel
theorem nm_len {x : Str} (h : nm x = true) : 1 ≤ x.length ∧ x.length ≤ 8 := by
  unfold nm at h
  simp only [Bool.and_eq_true, decide_eq_true_eq] at h
  exact h.1
theorem nm_sg {x : Str} (h : nm x = true) : ∀ c ∈ x.cps.toList, c ∈ sg := by
  unfold nm at h
  simp only [Bool.and_eq_true, decide_eq_true_eq] at h
  intro c hc
  have := List.all_eq_true.mp h.2 c hc
  simpa using this
theorem nm_of {x : Str} (h1 : 1 ≤ x.length) (h2 : x.length ≤ 8) (h3 : ∀ c ∈ x.cps.toList, c ∈ sg) : nm x = true := by
  unfold nm
  simp only [Bool.and_eq_true, decide_eq_true_eq]
  exact ⟨⟨h1, h2⟩, List.all_eq_true.mpr fun c hc => by simpa using h3 c hc⟩
theorem sok_of {x : Str} (h : ∀ c ∈ x.cps.toList, c < 128) : PyData.strOk x = true := by
  unfold PyData.strOk
  rw [← Array.all_toList]
  refine List.all_eq_true.mpr fun c hc => ?_
  have := h c hc
  simp only [decide_eq_true_eq]
  omega
theorem nm_ok {x : Str} (h : nm x = true) : PyData.strOk x = true := sok_of fun c hc => sg_lt c (nm_sg h c hc)
theorem nm_one {c : Nat} (h : c ∈ sg) : nm ⟨#[c]⟩ = true := nm_of (by decide +revert) (by show 1 ≤ 8; omega) fun d hd => by
  simp at hd; subst hd; exact h
/-! ### shuffled -/
theorem shuf_ok (s : Bag) (B : Nat) (ds : List D) (k : Nat) (ok : ∀ d ∈ ds, okD d) (im : D.immAll ds = true) (l : ds.length < 1000) (h : s.Ok (B + ds.length)) (Q : Nat → D → List KD → Prop) (q : ∀ es : List D, es.Perm ds → ∀ s' : Bag, s'.Ok B → Q 9 (.lst es) [(10, s'.d)]) : WR Q (R_k00_15 [(10, s.d), (k, .lst ds)]) := by
  refine WR.fn (ρ := [some (10, s.d), some (k, .lst ds), none, none]) rfl ?_
  unfold F_k00_15
  walk_at "ws"
  refine WS.whil (I := fun n ρ => ∃ (s' : Bag) (rem fnd : List D), ρ = [some (10, s'.d), some (k, .lst ds), some (9, .lst rem), some (9, .lst fnd)] ∧ rem.length = n ∧ (fnd ++ rem).Perm ds ∧ s'.Ok (B + n)) (n := ds.length) ⟨s, ds, [], rfl, rfl, .refl _, h⟩ fun n ρ h => ?_
  obtain ⟨s', rem, fnd, rfl, rfl, hp, hs⟩ := h
  have memr : ∀ d ∈ rem, d ∈ ds := fun d hd => hp.subset (List.mem_append_right _ hd)
  have memf : ∀ d ∈ fnd, d ∈ ds := fun d hd => hp.subset (List.mem_append_left _ hd)
  have lens : fnd.length + rem.length = ds.length := by rw [← hp.length_eq, List.length_append]
  walk_at "ws"
  refine WE.sop rfl (eqS_nilO (fun d hd => ok d (memr d hd)) _) ?_
  walk_at "ws"
  refine ⟨fun h0 => ?_, fun h0 => ?_⟩
  · cases rem with
    | nil => cases h0
    | cons a rem =>
      refine ⟨rem.length, rfl, ?_⟩
      walk_at "ws"
      refine take_ok _ (B + rem.length) hs _ (by simp) (by simp at lens ⊢; omega) _ _ fun v s2 v0 v1 h2 => ⟨s2.cln1 _ _ rfl, ?_⟩
      walk_at "nenv"
      walk_at "ws"
      obtain ⟨d, _, e, hd⟩ := atI_in v0 v1
      have hdi : d.imm = true := mem_imm im d (memr d hd)
      refine WE.popAt rfl (ixN_in v0 v1) e (by rw [Bool.and_eq_true, decide_eq_true_eq, decide_eq_true_eq]; simp at lens v1; omega) ?_
      rw [if_pos hdi]
      walk_at "nenv"
      walk_at "ws"
      refine WE.app rfl (by simp at lens; unfold lineN; omega) (k' := 8) (by unfold joinLv; rw [if_pos hdi]) ?_
      walk_at "nenv"
      walk_at "ws"
      refine LpP.nx ⟨s2, _, _, rfl, ?_, ?_, h2⟩
      · have := (perm_take e).length_eq
        simp only [List.length_cons] at this
        omega
      · have := (perm_take e)
        rw [List.append_assoc]
        exact ((List.Perm.append_left fnd this)).trans hp
  · have : rem = [] := by
      cases rem with
      | nil => rfl
      | cons a r => cases h0
    subst this
    walk_at "ws"
    rw [List.append_nil] at hp
    exact q _ hp _ hs
theorem rng_len (lo : Int) (n : Nat) : (rngI lo n).length = n := by simp [rngI]
theorem rng_mem {lo : Int} {n : Nat} {kd : KD} (h : kd ∈ rngI lo n) : ∃ i : Int, kd = (9, .int i) ∧ lo ≤ i ∧ i < lo + n := by
  unfold rngI at h
  obtain ⟨i, hi, rfl⟩ := List.mem_map.mp h
  exact ⟨_, rfl, by omega, by have := List.mem_range.mp hi; omega⟩
/-- the twelve words that are given -/
def W12 : List Str := ["a", "b", "c", "0", "1", "00", "row", "end", "machine", "inputs", "test", "suite"]
theorem w12_nm : ∀ x ∈ W12, nm x = true := by decide +kernel
theorem names_ok (s : Bag) (B : Nat) (m : Int) (k : Nat) (m0 : 0 ≤ m) (m1 : m ≤ 12) (h : s.Ok (B + 12 * m.toNat)) (Q : Nat → D → List KD → Prop) (q : ∀ ws : List Str, ws.length = m.toNat → ws.Nodup → (∀ x ∈ ws, nm x = true) → ∀ s' : Bag, s'.Ok B → Q 9 (.lst (ws.map .str)) [(10, s'.d)]) : WR Q (R_k00_18 [(10, s.d), (k, .int m)]) := by
  refine WR.fn (ρ := [some (10, s.d), some (k, .int m), none, none, none, none, none, none, none, none]) rfl ?_
  unfold F_k00_18
  walk_at "ws"
  have mem : ∀ kd ∈ rngI 0 m.toNat, ∃ i : Int, kd = (9, .int i) := fun kd hk => (rng_mem hk).imp fun i h => h.1
  have leng := rng_len 0 m.toNat
  generalize hN : m.toNat = N at *
  generalize rngI 0 N = rg at mem leng
  refine WS.loop (I := fun ds ρ => (∀ kd ∈ ds, ∃ i : Int, kd = (9, .int i)) ∧ ∃ (s' : Bag) (x2 x5 x6 x7 : Sl) (ws : List Str), ρ = [some (10, s'.d), some (k, .int m), x2, some (9, .lst (ws.map .str)), some (9, .str SG), x5, x6, x7, none, none] ∧ ws.length + ds.length = N ∧ ws.Nodup ∧ (∀ x ∈ ws, nm x = true) ∧ s'.Ok (B + N + 11 * ds.length)) ⟨mem, s, none, none, none, none, [], rfl, by simpa using leng, .nil, (fun x hx => nomatch hx), h.mono (by omega)⟩ (fun kd r ρ h => ?_) (fun ρ h => ?_)
  · obtain ⟨hm, s1, x2, x5, x6, x7, ws, rfl, hl, hnd, hnm, h1⟩ := h
    obtain ⟨i, rfl⟩ := hm _ List.mem_cons_self
    replace hm := fun kd hk => hm kd (List.mem_cons_of_mem _ hk)
    simp only [List.length_cons] at hl h1
    have wl : ws.length ≤ 11 := by omega
    walk_at "ws"
    refine take_ok _ (B + N + 11 * r.length + 10) (h1.mono (by omega)) _ (by omega) (by omega) _ _ fun v s2 v0 v1 h2 => ⟨s2.cln1 _ _ rfl, ?_⟩
    walk_at "nenv"
    walk_at "ws"
    have mem2 : ∀ kd ∈ rngI 0 (1 + v).toNat, ∃ i : Int, kd = (9, .int i) := fun kd hk => (rng_mem hk).imp fun i h => h.1
    have leng2 := rng_len 0 (1 + v).toNat
    generalize rngI 0 (1 + v).toNat = rg2 at mem2 leng2
    refine WE.lcL (I := fun ds k' acc ρ => (∀ kd ∈ ds, ∃ i : Int, kd = (9, .int i)) ∧ k' = 8 ∧ ∃ (s' : Bag) (cs : List Nat), acc = cs.map (fun c => .str ⟨#[c]⟩) ∧ (∀ c ∈ cs, c ∈ sg) ∧ cs.length + ds.length = (1 + v).toNat ∧ ρ = [some (10, s'.d), some (k, D.int m), some (9, D.int i), some (9, D.lst (List.map D.str ws)), some (9, D.str SG), x5, x6, x7, none, none] ∧ s'.Ok (B + N + 11 * r.length + 2 + ds.length)) rg2 ⟨mem2, rfl, s2, [], rfl, (fun c hc => nomatch hc), by simpa using leng2, rfl, h2.mono (by omega)⟩ (fun kd r2 k' acc ρ h => ?_) (fun k' acc ρ h => ?_)
    · obtain ⟨hm2, rfl, s3, cs, rfl, hcs, hlc, rfl, h3⟩ := h
      obtain ⟨j, rfl⟩ := hm2 _ List.mem_cons_self
      replace hm2 := fun kd hk => hm2 kd (List.mem_cons_of_mem _ hk)
      simp only [List.length_cons] at hlc h3
      walk_at "ws"
      refine pick_str _ (B + N + 11 * r.length + 2 + r2.length) (h3.mono (by omega)) SG _ (by decide +kernel) (by decide +kernel) _ fun c hc s4 h4 => ⟨s4.cln1 _ _ rfl, ?_⟩
      walk_at "nenv"
      walk_at "ws"
      refine ⟨by rw [List.length_map]; unfold lineN; omega, 8, rfl, hm2, rfl, s4, cs ++ [c], by rw [List.map_append]; rfl, fun d hd => ?_, by simp; omega, rfl, h4⟩
      rcases List.mem_append.mp hd with hd | hd
      · exact hcs d hd
      · rcases List.mem_singleton.mp hd with rfl; exact hc
    · obtain ⟨_, rfl, s3, cs, rfl, hcs, hlc, rfl, h3⟩ := h
      simp only [List.length_nil] at hlc h3
      walk_at "ws"
      refine WE.sop rfl (joinS_ones cs (by omega)) ?_
      have hw : nm ⟨cs.toArray⟩ = true := nm_of (by show 1 ≤ cs.toArray.size; rw [List.size_toArray]; omega) (by show cs.toArray.size ≤ 8; rw [List.size_toArray]; omega) fun c hc => hcs c (by simpa using hc)
      generalize (⟨cs.toArray⟩ : Str) = wd at hw
      walk_at "nenv"
      walk_at "ws"
      refine pick_lst _ (B + N + 11 * r.length + 1) (h3.mono (by omega)) (W12.map .str) _ (.inr (imm_strs _)) (by decide) (by decide) _ fun d hd s4 h4 => ?_
      obtain ⟨ot, hot, rfl⟩ := List.mem_map.mp hd
      replace hot := w12_nm ot hot
      refine ⟨s4.cln1 _ _ rfl, ?_⟩
      walk_at "nenv"
      walk_at "ws"
      refine pick_lst _ (B + N + 11 * r.length) h4 ([wd, ot].map .str) _ (.inr (imm_strs _)) (by simp) (by simp) _ fun d hd s5 h5 => ?_
      obtain ⟨pk, hpk, rfl⟩ := List.mem_map.mp hd
      replace hpk : nm pk = true := by
        simp only [List.mem_cons, List.not_mem_nil, or_false] at hpk
        rcases hpk with rfl | rfl <;> assumption
      refine ⟨s5.cln1 _ _ rfl, ?_⟩
      walk_at "nenv"
      walk_at "ws"
      have eT : [D.str pk, (9, D.str wd).snd] ++ List.map (fun c => D.str { cps := #[c] }) SG.cps.toList = (pk :: wd :: sg.map one).map D.str := by
        rw [List.map_cons, List.map_cons, List.map_map]; rfl
      rw [eT]
      have nmT : ∀ x ∈ pk :: wd :: sg.map one, nm x = true := fun x hx => by
        simp only [List.mem_cons, List.mem_map] at hx
        rcases hx with rfl | rfl | ⟨c, hc, rfl⟩
        · exact hpk
        · exact hw
        · exact nm_one hc
      have hex : ∃ x ∈ pk :: wd :: sg.map one, ws.contains x = false := by
        refine Classical.byContradiction fun hn => ?_
        have hall : ∀ x ∈ sg.map one, x ∈ ws := fun x hx => by
          cases e : ws.contains x with
          | true => simpa using e
          | false => exact absurd ⟨x, List.mem_cons_of_mem _ (List.mem_cons_of_mem _ hx), e⟩ hn
        have hnd2 : (sg.map one).Nodup := by decide +kernel
        have := nodup_le hnd2 hall
        rw [List.length_map, sg_len] at this
        omega
      have lenT : (pk :: wd :: sg.map one).length = 38 := by simp [sg_len]
      have okw : ∀ x ∈ ws, PyData.strOk x = true := fun x hx => nm_ok (hnm x hx)
      generalize hT : pk :: wd :: sg.map one = T at nmT hex lenT
      refine WE.lcL (I := fun ds k' acc ρ => ∃ done rest : List Str, T = done ++ rest ∧ ds = (rest.map D.str).map kz ∧ k' = 8 ∧ acc = (done.filter fun x => !ws.contains x).map D.str ∧ ρ = [some (10, s5.d), some (k, D.int m), some (9, D.int i), some (9, D.lst (List.map D.str ws)), some (9, D.str SG), some (9, D.str wd), some ((kz (D.str ot)).fst, D.str ot), x7, none, none]) _ ⟨[], T, rfl, rfl, rfl, rfl, rfl⟩ (fun kd r2 k' acc ρ h => ?_) (fun k' acc ρ h => ?_)
      · obtain ⟨done, rest, e1, e2, rfl, rfl, rfl⟩ := h
        cases rest with
        | nil => cases e2
        | cons x rest =>
          simp only [List.map_cons, List.cons.injEq, kz_str] at e2
          obtain ⟨rfl, rfl⟩ := e2
          have okx : PyData.strOk x = true := nm_ok (nmT x (by rw [e1]; simp))
          have e3 : T = (done ++ [x]) ++ rest := by rw [e1]; simp
          have fl : (done.filter fun x => !ws.contains x).length ≤ 38 := Nat.le_trans (List.length_filter_le _ _) (by rw [← lenT, e1]; simp)
          walk_at "ws"
          refine ⟨fun hb => ?_, fun hb => ?_⟩
          · walk_at "ws"
            refine ⟨by rw [List.length_map]; unfold lineN; omega, 8, rfl, done ++ [x], rest, e3, rfl, rfl, ?_, rfl⟩
            rw [List.filter_append, List.map_append]
            congr 1
            rw [Bool.true_xor] at hb
            rw [List.filter_cons, hb]; rfl
          · refine ⟨done ++ [x], rest, e3, rfl, by trivial, ?_, by first | rfl | trivial⟩
            rw [List.filter_append, List.map_append]
            rw [Bool.true_xor] at hb
            rw [List.filter_cons, hb]
            simp
      · obtain ⟨done, rest, e1, e2, rfl, rfl, rfl⟩ := h
        have er : rest = [] := by simpa using e2.symm
        subst er
        rw [List.append_nil] at e1
        subst e1
        obtain ⟨y, hy, hyn⟩ := hex
        have ne : y ∈ T.filter fun x => !ws.contains x := List.mem_filter.mpr ⟨hy, by rw [hyn]; rfl⟩
        cases hf : T.filter fun x => !ws.contains x with
        | nil => rw [hf] at ne; cases ne
        | cons z zs =>
          have hz : z ∈ T.filter fun x => !ws.contains x := by rw [hf]; exact List.mem_cons_self
          obtain ⟨hz1, hz2⟩ := List.mem_filter.mp hz
          walk_at "nenv"
          walk_at "ws"
          refine WE.frz (WE.idx rfl (idxK_lstI (d := .str z) (by simp [atI, ixN]) rfl) ?_)
          walk_at "ws"
          refine WE.app rfl (by rw [List.length_map]; unfold lineN; omega) (k' := 8) rfl ?_
          walk_at "nenv"
          walk_at "ws"
          have hz3 : z ∉ ws := fun hc => by
            rw [List.contains_iff_mem.mpr hc] at hz2; cases hz2
          refine LpP.nx ⟨hm, s5, _, _, _, _, ws ++ [z], by rw [List.map_append]; rfl, by rw [List.length_append]; simp; omega, ?_, fun x hx => ?_, h5⟩
          · rw [List.nodup_append]
            refine ⟨hnd, by simp, fun a ha b hb => ?_⟩
            rw [List.mem_singleton] at hb
            subst hb
            exact fun e => hz3 (e ▸ ha)
          · rcases List.mem_append.mp hx with hx | hx
            · exact hnm x hx
            · rw [List.mem_singleton] at hx
              subst hx
              exact nmT x hz1
  · obtain ⟨_, s1, x2, x5, x6, x7, ws, rfl, hl, hnd, hnm, h1⟩ := h
    walk_at "ws"
    refine shuf_ok _ B (ws.map .str) _ ?_ (imm_strs _) (by rw [List.length_map]; simp at hl; omega) (h1.mono (by rw [List.length_map]; simp at hl; simp; omega)) _ fun es he s' h' => ?_
    · intro d hd
      obtain ⟨x, hx, rfl⟩ := List.mem_map.mp hd
      exact okD_str (nm_ok (hnm x hx))
    · obtain ⟨xs, rfl, hx⟩ := perm_strs he
      refine ⟨s'.cln2 _ _ (cln_lst (imm_strs _)), ?_⟩
      walk_at "nenv"
      walk_at "ws"
      exact q xs (by rw [hx.length_eq]; simpa using hl) (hx.nodup_iff.mpr hnd) (fun x h => hnm x (hx.subset h)) _ h'
end DN

set_option Elab.async false
set_option linter.all false
set_option maxRecDepth 100000
set_option maxHeartbeats 4000000
/-! The plain law of k00: letters, machines. -/
namespace DN
open PySem PySem.Spec PyProof.Rows L2
variable [KSeq]
local macro_rules | `(tactic| walk_at "immt") => `(tactic| first | assumption | (with_unfolding_all exact rfl) | with_reducible exact imm_ints _ | with_reducible exact imm_strs _ | with_reducible exact imm_tupS _)
local macro_rules | `(tactic| walk_at "opd") => `(tactic| first
  | with_reducible assumption
  | with_reducible exact lenS_lst _ | with_reducible exact lenS_tup _ | with_reducible exact lenS_seq _ | with_reducible exact lenS_str (by with_unfolding_all first | assumption | omega)
  | with_reducible exact eqS_int _ _ _ | with_reducible exact eqS_ints_nil _ _ | with_reducible exact listK2_lst (by walk_at "immt") | with_reducible exact inS_lst _ (by assumption) (by assumption) | with_reducible exact inS_tup _ (by assumption) (by assumption) | with_reducible exact ordS_int _ _ _ | with_reducible exact addK_int _ _ _ _ | with_reducible exact subD_int _ _
  | with_reducible exact modD_int (by with_unfolding_all first | assumption | omega | decide)
  | with_reducible exact fdivD_int (by with_unfolding_all first | assumption | omega | decide) (by with_unfolding_all first | assumption | omega | decide)
  | with_reducible exact mulK_intR (by with_unfolding_all first | decide | omega) | with_reducible exact mulK_intL (by with_unfolding_all first | decide | omega)
  | with_reducible exact powD_int (by with_unfolding_all first | decide | omega) (by with_unfolding_all first | decide | omega) (by with_unfolding_all first | decide | omega)
  | with_reducible exact inS_intG _ (by with_unfolding_all exact rfl)
  | with_reducible exact slHi_lst (by walk_at "immt") | with_reducible exact slLo_lst (by walk_at "immt") | with_reducible exact tupK_lst (by walk_at "immt") | with_reducible exact max2S_int _ _ | with_reducible exact min2S_int _ _
  | with_unfolding_all exact rfl)
local macro_rules | `(tactic| walk_at "uni") => `(tactic| with_reducible first | exact uni_nil | exact uni_I (by walk_at "immt") (by walk_at "uni") | exact uni_1 (by walk_at "immt") (by walk_at "uni") | exact uni_j (by walk_at "immt") (by walk_at "uni"))
local macro_rules | `(tactic| walk_at "prep") => `(tactic| first
  | with_reducible exact prep_nil
  | (with_reducible apply prep_vF; walk_at "prep") | (with_reducible apply prep_vT; walk_at "prep")
  | (with_reducible apply prep_m; (with_unfolding_all exact rfl); walk_at "prep")
  | (with_reducible apply prep_i; (with_unfolding_all exact rfl); walk_at "immt"; walk_at "prep")
  | (with_reducible apply prep_f; (with_unfolding_all exact rfl); (with_unfolding_all exact rfl); walk_at "prep"))
local macro_rules | `(tactic| walk_at "w1") => `(tactic| with_reducible first
  | refine WS.seq ?_ | refine SqP.nx ?_ | refine SqP.rt ?_ | refine WS.skip ?_ | refine WS.ifS ?_ | refine WS.retv ?_ | refine WS.expr ?_ | refine WS.asgN ?_ | refine WS.asg ?_ | refine WS.par ?_ | refine WS.forS ?_
  | refine WE.opE ?_ | refine WE.ev ?_ | refine WE.eb (by with_unfolding_all exact rfl) ?_ | refine WE.e0 ?_ | refine WE.cst ?_ | refine WE.ret ?_ | refine WE.boolM ?_
  | refine WE.frz (WE.idx (by with_unfolding_all exact rfl) (by walk_at "opd") ?_) | refine WE.sop (by with_unfolding_all exact rfl) (by walk_at "opd") ?_ | refine WE.nop (by with_unfolding_all exact rfl) (by walk_at "opd") ?_ | refine WE.frz (WE.nop (by with_unfolding_all exact rfl) (by walk_at "opd") ?_)
  | refine WE.nameI (by with_unfolding_all exact rfl) (by walk_at "immt") ?_ | refine WE.movI (by with_unfolding_all exact rfl) (by walk_at "immt") ?_
  | refine WE.notM ?_ | refine WE.andM ?_ | refine WE.orM ?_ | refine WE.andV ?_ | refine WE.orV ?_ | refine WE.notV ?_ | refine WE.ifV ?_ | refine WE.chainV ?_ | refine WE.bind ?_ | refine WE.valM ?_ | refine WE.intS ?_ | refine WE.lcS ?_ | refine WE.itsR1 ?_ | refine WE.itsV ?_
  | refine WE.setRest (by with_unfolding_all exact rfl) ?_ | refine WE.setTurn (by with_unfolding_all exact rfl) ?_
  | refine WE.uniL (by walk_at "uni") (by with_unfolding_all exact of_decide_eq_true rfl) ?_ | refine WE.uniT (by walk_at "uni") (by with_unfolding_all exact of_decide_eq_true rfl) ?_
  | refine WE.pth (by with_unfolding_all exact rfl) (by with_unfolding_all exact rfl) (by with_unfolding_all exact rfl) (by with_unfolding_all exact rfl) (by with_unfolding_all exact rfl) (by with_unfolding_all exact rfl) ?_
  | refine WE.popAt (by with_unfolding_all exact rfl) (by first | with_reducible exact ixN_zero _ | with_unfolding_all exact rfl) (by with_unfolding_all exact rfl) (by with_unfolding_all exact rfl) ?_
  | refine WS.forH0 (by with_unfolding_all exact rfl) (by with_unfolding_all first | exact .inr rfl | exact .inl rfl) ?_
  | refine WE.callC (by first | with_unfolding_all exact rfl | walk_at "prep") ?_
  | refine WE.mth ?_)
local macro_rules | `(tactic| walk_at "nenv") => `(tactic| try simp only [kz_str, kz_int, Bool.false_eq_true, if_false, if_true, List.take_succ_cons, List.take_zero, List.take_nil, List.length_cons, List.length_nil, Nat.zero_add, Nat.reduceAdd, List.set_cons_zero, List.set_cons_succ, List.set_nil, zipO, puts, List.append_nil, List.cons_append, List.nil_append, wipeE, unwipe, slotE, List.getElem?_cons_zero, List.getElem?_cons_succ])
local macro_rules | `(tactic| walk_at "w2") => `(tactic| first
  | walk_at "w1"
  | (with_reducible refine ⟨ltN (by with_unfolding_all exact rfl), ?_⟩; try walk_at "nenv")
  | with_reducible refine ⟨small62_of (by omega) (by omega), ?_⟩
  | (with_reducible refine ⟨tyT (by with_unfolding_all exact rfl), ?_⟩; try walk_at "nenv")
  | (refine ⟨_, by with_unfolding_all exact rfl, ?_⟩; try walk_at "nenv")
  | with_reducible refine .inl ⟨_, .inl rfl, ?_⟩
  | with_reducible refine .inl ⟨_, .inr (.inl rfl), ?_⟩
  | with_reducible refine .inr ⟨_, rfl, ?_⟩
  | (with_reducible refine WE.nameF (by with_unfolding_all exact rfl) (by first | assumption | with_unfolding_all exact rfl) ?_; try walk_at "nenv")
  | (with_reducible refine WE.movF (by with_unfolding_all exact rfl) (by first | assumption | with_unfolding_all exact rfl) ?_; try walk_at "nenv")
  | refine ⟨fun _ => ?_, fun h => Bool.noConfusion (show true = false from h)⟩
  | refine ⟨fun h => Bool.noConfusion (show false = true from h), fun _ => ?_⟩)
local macro_rules | `(tactic| walk_at "ws") => `(tactic| repeat walk_at "w2")
local macro_rules | `(tactic| walk_at "bag") => `(tactic| refine ⟨Bag.cln1 _ _ _ (by walk_at "immt"), ?_⟩)
theorem letters_ok (s : Bag) (B : Nat) (h : s.Ok (B + 100)) (Q : Nat → D → List KD → Prop) (q : ∀ ins outs : List Str, 1 ≤ ins.length → ins.length ≤ 4 → 2 ≤ outs.length → outs.length ≤ 4 → ins.Nodup → outs.Nodup → (∀ x ∈ ins, nm x = true) → (∀ x ∈ outs, nm x = true) → ∀ s' : Bag, s'.Ok B → Q 8 (.tup [.tup (ins.map .str), .tup (outs.map .str)]) [(10, s'.d)]) : WR Q (R_k00_19 [(10, s.d)]) := by
  refine WR.fn (ρ := [some (10, s.d), none, none, none]) rfl ?_
  unfold F_k00_19
  walk_at "ws"
  refine take_ok _ (B + 99) (h.mono (by omega)) _ (by omega) (by omega) _ _ fun v s1 v0 v1 h1 => ⟨s1.cln1 _ _ rfl, ?_⟩
  walk_at "nenv"
  walk_at "ws"
  refine names_ok _ (B + 51) _ _ (by omega) (by omega) (h1.mono (by omega)) _ fun ins il ind inm s2 h2 => ⟨s2.cln2 _ _ (cln_lst (imm_strs _)), ?_⟩
  walk_at "nenv"
  walk_at "ws"
  refine take_ok _ (B + 50) (h2.mono (by omega)) _ (by omega) (by omega) _ _ fun u s3 u0 u1 h3 => ⟨s3.cln1 _ _ rfl, ?_⟩
  walk_at "nenv"
  walk_at "ws"
  refine names_ok _ (B + 1) _ _ (by omega) (by omega) (h3.mono (by omega)) _ fun outs ol ond onm s4 h4 => ⟨s4.cln2 _ _ (cln_lst (imm_strs _)), ?_⟩
  walk_at "nenv"
  walk_at "ws"
  refine take_ok _ B h4 _ (by omega) (by omega) _ _ fun z s5 z0 z1 h5 => ⟨s5.cln1 _ _ rfl, ?_⟩
  walk_at "nenv"
  walk_at "ws"
  refine ⟨fun _ => ?_, fun _ => ?_⟩
  · walk_at "ws"
    have oki : ∀ x ∈ ins, PyData.strOk x = true := fun x hx => nm_ok (inm x hx)
    refine WE.lcFilt (ltN rfl) rfl (fun d => !ins.contains (toS d)) (outs.map .str) [] (imm_strs _) (by simp; unfold lineN; omega) (fun d hd => ?_) ?_
    · obtain ⟨x, hx, rfl⟩ := List.mem_map.mp hd
      have okx := nm_ok (onm x hx)
      walk_at "nenv"
      walk_at "ws"
      exact ⟨Bool.true_xor _, trivial⟩
    · rw [List.nil_append, filter_strs (fun x => !ins.contains x)]
      have fl : (outs.filter fun x => !ins.contains x).length ≤ outs.length := List.length_filter_le _ _
      walk_at "nenv"
      walk_at "ws"
      refine WE.frz (WE.nop rfl (addK_lst (imm_strs _) (imm_strs _) (by rw [List.length_map, List.length_map]; unfold lineN; omega)) ?_)
      rw [← List.map_append]
      walk_at "ws"
      rw [List.length_map, cutD_hi _ (by split <;> omega), ← List.map_take]
      have hd : (ins ++ outs.filter fun x => !ins.contains x).Nodup := by
        rw [List.nodup_append]
        refine ⟨ind, ond.filter _, fun a ha b hb e => ?_⟩
        subst e
        have := (List.mem_filter.mp hb).2
        rw [List.contains_iff_mem.mpr ha] at this
        cases this
      have hlen : 2 ≤ (ins ++ outs.filter fun x => !ins.contains x).length := by
        rw [List.length_append]
        rcases Nat.lt_or_ge 1 ins.length with h1 | h1
        · omega
        · have : 0 < (outs.filter fun x => !ins.contains x).length := by
            refine Nat.pos_of_ne_zero fun h0 => ?_
            have hs : ∀ x ∈ outs, x ∈ ins := fun x hx => by
              have hn : outs.filter (fun x => !ins.contains x) = [] := List.eq_nil_of_length_eq_zero h0
              cases e : ins.contains x with
              | true => exact List.contains_iff_mem.mp e
              | false =>
                have : x ∈ outs.filter fun x => !ins.contains x := List.mem_filter.mpr ⟨hx, by rw [e]; rfl⟩
                rw [hn] at this; cases this
            have := nodup_le ond hs
            omega
          omega
      generalize hX : ins ++ outs.filter (fun x => !ins.contains x) = X at hd hlen
      have hn : 2 ≤ (if (ins.length : Int) > 2 then (ins.length : Int) else 2).toNat ∧ (if (ins.length : Int) > 2 then (ins.length : Int) else 2).toNat ≤ 4 := by split <;> omega
      generalize (if (ins.length : Int) > 2 then (ins.length : Int) else 2).toNat = n at hn
      have hmem : ∀ x ∈ X.take n, nm x = true := fun x hx => by
        have hx := List.mem_of_mem_take hx
        rw [← hX] at hx
        rcases List.mem_append.mp hx with hx | hx
        · exact inm x hx
        · exact onm x (List.mem_filter.mp hx).1
      walk_at "ws"
      exact q ins (X.take n) (by omega) (by omega) (by rw [List.length_take]; omega) (by rw [List.length_take]; omega) ind (hd.sublist (List.take_sublist _ _)) inm hmem s5 h5
  · walk_at "ws"
    exact q ins outs (by omega) (by omega) (by omega) (by omega) ind ond inm onm s5 h5
end DN

set_option Elab.async false
set_option linter.all false
set_option maxRecDepth 100000
set_option maxHeartbeats 4000000
/-! The plain law of k00: machines. -/
namespace DN
open PySem PySem.Spec PyProof.Rows L2
variable [KSeq]
local macro_rules | `(tactic| walk_at "immt") => `(tactic| first | assumption | (with_unfolding_all exact rfl) | with_reducible exact imm_ints _ | with_reducible exact imm_strs _ | with_reducible exact imm_tupS _)
local macro_rules | `(tactic| walk_at "opd") => `(tactic| first
  | with_reducible assumption
  | with_reducible exact lenS_lst _ | with_reducible exact lenS_tup _ | with_reducible exact lenS_seq _ | with_reducible exact lenS_str (by with_unfolding_all first | assumption | omega)
  | with_reducible exact eqS_int _ _ _ | with_reducible exact eqS_ints_nil _ _ | with_reducible exact listK2_lst (by walk_at "immt") | with_reducible exact inS_lst _ (by assumption) (by assumption) | with_reducible exact inS_tup _ (by assumption) (by assumption) | with_reducible exact ordS_int _ _ _ | with_reducible exact addK_int _ _ _ _ | with_reducible exact subD_int _ _
  | with_reducible exact modD_int (by with_unfolding_all first | assumption | omega | decide)
  | with_reducible exact fdivD_int (by with_unfolding_all first | assumption | omega | decide) (by with_unfolding_all first | assumption | omega | decide)
  | with_reducible exact mulK_intR (by with_unfolding_all first | decide | omega) | with_reducible exact mulK_intL (by with_unfolding_all first | decide | omega)
  | with_reducible exact powD_int (by with_unfolding_all first | decide | omega) (by with_unfolding_all first | decide | omega) (by with_unfolding_all first | decide | omega)
  | with_reducible exact inS_intG _ (by with_unfolding_all exact rfl)
  | with_reducible exact slHi_lst (by walk_at "immt") | with_reducible exact slLo_lst (by walk_at "immt") | with_reducible exact tupK_lst (by walk_at "immt") | with_reducible exact max2S_int _ _ | with_reducible exact min2S_int _ _
  | with_unfolding_all exact rfl)
local macro_rules | `(tactic| walk_at "uni") => `(tactic| with_reducible first | exact uni_nil | exact uni_I (by walk_at "immt") (by walk_at "uni") | exact uni_1 (by walk_at "immt") (by walk_at "uni") | exact uni_j (by walk_at "immt") (by walk_at "uni"))
local macro_rules | `(tactic| walk_at "prep") => `(tactic| first
  | with_reducible exact prep_nil
  | (with_reducible apply prep_vF; walk_at "prep") | (with_reducible apply prep_vT; walk_at "prep")
  | (with_reducible apply prep_m; (with_unfolding_all exact rfl); walk_at "prep")
  | (with_reducible apply prep_i; (with_unfolding_all exact rfl); walk_at "immt"; walk_at "prep")
  | (with_reducible apply prep_f; (with_unfolding_all exact rfl); (with_unfolding_all exact rfl); walk_at "prep"))
local macro_rules | `(tactic| walk_at "w1") => `(tactic| with_reducible first
  | refine WS.seq ?_ | refine SqP.nx ?_ | refine SqP.rt ?_ | refine WS.skip ?_ | refine WS.ifS ?_ | refine WS.retv ?_ | refine WS.expr ?_ | refine WS.asgN ?_ | refine WS.asg ?_ | refine WS.par ?_ | refine WS.forS ?_
  | refine WE.opE ?_ | refine WE.ev ?_ | refine WE.eb (by with_unfolding_all exact rfl) ?_ | refine WE.e0 ?_ | refine WE.cst ?_ | refine WE.ret ?_ | refine WE.boolM ?_
  | refine WE.frz (WE.idx (by with_unfolding_all exact rfl) (by walk_at "opd") ?_) | refine WE.sop (by with_unfolding_all exact rfl) (by walk_at "opd") ?_ | refine WE.nop (by with_unfolding_all exact rfl) (by walk_at "opd") ?_ | refine WE.frz (WE.nop (by with_unfolding_all exact rfl) (by walk_at "opd") ?_)
  | refine WE.nameI (by with_unfolding_all exact rfl) (by walk_at "immt") ?_ | refine WE.movI (by with_unfolding_all exact rfl) (by walk_at "immt") ?_
  | refine WE.notM ?_ | refine WE.andM ?_ | refine WE.orM ?_ | refine WE.andV ?_ | refine WE.orV ?_ | refine WE.notV ?_ | refine WE.ifV ?_ | refine WE.chainV ?_ | refine WE.bind ?_ | refine WE.valM ?_ | refine WE.intS ?_ | refine WE.lcS ?_ | refine WE.itsR1 ?_ | refine WE.itsV ?_
  | refine WE.setRest (by with_unfolding_all exact rfl) ?_ | refine WE.setTurn (by with_unfolding_all exact rfl) ?_
  | refine WE.uniL (by walk_at "uni") (by with_unfolding_all exact of_decide_eq_true rfl) ?_ | refine WE.uniT (by walk_at "uni") (by with_unfolding_all exact of_decide_eq_true rfl) ?_
  | refine WE.pth (by with_unfolding_all exact rfl) (by with_unfolding_all exact rfl) (by with_unfolding_all exact rfl) (by with_unfolding_all exact rfl) (by with_unfolding_all exact rfl) (by with_unfolding_all exact rfl) ?_
  | refine WE.popAt (by with_unfolding_all exact rfl) (by first | with_reducible exact ixN_zero _ | with_unfolding_all exact rfl) (by with_unfolding_all exact rfl) (by with_unfolding_all exact rfl) ?_
  | refine WS.forH0 (by with_unfolding_all exact rfl) (by with_unfolding_all first | exact .inr rfl | exact .inl rfl) ?_
  | refine WE.callC (by first | with_unfolding_all exact rfl | walk_at "prep") ?_
  | refine WE.mth ?_)
local macro_rules | `(tactic| walk_at "nenv") => `(tactic| try simp only [kz_str, kz_int, Bool.false_eq_true, if_false, if_true, List.take_succ_cons, List.take_zero, List.take_nil, List.length_cons, List.length_nil, Nat.zero_add, Nat.reduceAdd, List.set_cons_zero, List.set_cons_succ, List.set_nil, zipO, puts, List.append_nil, List.cons_append, List.nil_append, wipeE, unwipe, slotE, List.getElem?_cons_zero, List.getElem?_cons_succ])
local macro_rules | `(tactic| walk_at "w2") => `(tactic| first
  | walk_at "w1"
  | (with_reducible refine ⟨ltN (by with_unfolding_all exact rfl), ?_⟩; try walk_at "nenv")
  | with_reducible refine ⟨small62_of (by omega) (by omega), ?_⟩
  | (with_reducible refine ⟨tyT (by with_unfolding_all exact rfl), ?_⟩; try walk_at "nenv")
  | (refine ⟨_, by with_unfolding_all exact rfl, ?_⟩; try walk_at "nenv")
  | with_reducible refine .inl ⟨_, .inl rfl, ?_⟩
  | with_reducible refine .inl ⟨_, .inr (.inl rfl), ?_⟩
  | with_reducible refine .inr ⟨_, rfl, ?_⟩
  | (with_reducible refine WE.nameF (by with_unfolding_all exact rfl) (by first | assumption | with_unfolding_all exact rfl) ?_; try walk_at "nenv")
  | (with_reducible refine WE.movF (by with_unfolding_all exact rfl) (by first | assumption | with_unfolding_all exact rfl) ?_; try walk_at "nenv")
  | refine ⟨fun _ => ?_, fun h => Bool.noConfusion (show true = false from h)⟩
  | refine ⟨fun h => Bool.noConfusion (show false = true from h), fun _ => ?_⟩)
local macro_rules | `(tactic| walk_at "ws") => `(tactic| repeat walk_at "w2")
local macro_rules | `(tactic| walk_at "bag") => `(tactic| refine ⟨Bag.cln1 _ _ _ (by walk_at "immt"), ?_⟩)
def prD (p : Str × Int) : D := .tup [.str p.1, .int p.2]
def rowD (row : List (Str × Int)) : D := .tup (row.map prD)
def mchD (ins outs : List Str) (rows : List (List (Str × Int))) : D := .tup [.str "machine", .tup (ins.map .str), .tup (outs.map .str), .tup (rows.map rowD)]
theorem imm_row (row : List (Str × Int)) : (rowD row).imm = true := immAll_map prD (fun _ => rfl) row
theorem imm_rows (rows : List (List (Str × Int))) : D.immAll (rows.map rowD) = true := immAll_map rowD imm_row rows
theorem imm_prs (row : List (Str × Int)) : D.immAll (row.map prD) = true := immAll_map prD (fun _ => rfl) row
/-- a row's pairs fit -/
def RowOk (outs : List Str) (w : Nat) (n : Int) (row : List (Str × Int)) : Prop := row.length = w ∧ ∀ p ∈ row, p.1 ∈ outs ∧ 0 ≤ p.2 ∧ p.2 < n
abbrev eM (ins outs : List Str) (n st pl : Int) (rows : List (List (Str × Int))) (row : List (Str × Int)) (kk : Int) (s : Bag) (y9 y10 y11 : Sl) : En := [some (10, s.d), some (9, .tup (ins.map .str)), some (9, .tup (outs.map .str)), some (9, .int n), some (9, .int st), some (9, .int pl), some (9, .lst (rows.map rowD)), some (9, .lst (row.map prD)), some (9, .int kk), y9, y10, y11]
theorem machine_ok (s : Bag) (B : Nat) (ins outs : List Str) (n : Int) (n0 : 1 ≤ n) (n1 : n ≤ 12) (i0 : 1 ≤ ins.length) (i1 : ins.length ≤ 4) (o0 : 1 ≤ outs.length) (o1 : outs.length ≤ 5) (h : s.Ok (B + 1 + 24 * n.toNat)) (Q : Nat → D → List KD → Prop) (q : ∀ rows : List (List (Str × Int)), rows.length = n.toNat → (∀ row ∈ rows, RowOk outs ins.length n row) → ∀ s' : Bag, s'.Ok B → Q 8 (mchD ins outs rows) [(10, s'.d)]) : WR Q (R_k00_20 [(10, s.d), (9, .tup (ins.map .str)), (9, .tup (outs.map .str)), (9, .int n)]) := by
  refine WR.fn (ρ := [some (10, s.d), some (9, .tup (ins.map .str)), some (9, .tup (outs.map .str)), some (9, .int n), none, none, none, none, none, none, none, none]) rfl ?_
  unfold F_k00_20
  walk_at "ws"
  refine take_ok _ (B + 24 * n.toNat) (h.mono (by omega)) _ (by omega) (by omega) _ _ fun pl s1 pl0 pl1 h1 => ⟨s1.cln1 _ _ rfl, ?_⟩
  walk_at "nenv"
  walk_at "ws"
  have leni : (ins.map D.str).length = ins.length := List.length_map _
  have leno : (outs.map D.str).length = outs.length := List.length_map _
  have mem : ∀ kd ∈ rngI 0 n.toNat, ∃ i : Int, kd = (9, .int i) ∧ 0 ≤ i ∧ i < n := fun kd hk => (rng_mem hk).imp fun i h => ⟨h.1, h.2.1, by omega⟩
  have leng := rng_len 0 n.toNat
  have mem2 : ∀ kd ∈ rngI 0 ins.length, ∃ i : Int, kd = (9, .int i) := fun kd hk => (rng_mem hk).imp fun i h => h.1
  have leng2 := rng_len 0 ins.length
  generalize rngI 0 n.toNat = rg at mem leng
  refine WS.loop (I := fun ds ρ => (∀ kd ∈ ds, ∃ i : Int, kd = (9, .int i) ∧ 0 ≤ i ∧ i < n) ∧ ∃ (s' : Bag) (x4 x7 x8 x9 x10 x11 : Sl) (rows : List (List (Str × Int))), ρ = [some (10, s'.d), some (9, .tup (ins.map .str)), some (9, .tup (outs.map .str)), some (9, .int n), x4, some (9, .int pl), some (9, .lst (rows.map rowD)), x7, x8, x9, x10, x11] ∧ rows.length + ds.length = n.toNat ∧ (∀ row ∈ rows, RowOk outs ins.length n row) ∧ s'.Ok (B + 24 * ds.length)) ⟨mem, s1, none, none, none, none, none, none, [], rfl, by simpa using leng, (fun x hx => nomatch hx), h1.mono (by omega)⟩ (fun kd r ρ h => ?_) (fun ρ h => ?_)
  · obtain ⟨hm, s2, x4, x7, x8, x9, x10, x11, rows, rfl, hl, hr, h2⟩ := h
    obtain ⟨st, rfl, st0, st1⟩ := hm _ List.mem_cons_self
    replace hm := fun kd hk => hm kd (List.mem_cons_of_mem _ hk)
    simp only [List.length_cons] at hl h2
    walk_at "ws"
    have imi := imm_strs ins
    have imo := imm_strs outs
    have imr := imm_rows rows
    have hL : 0 < n * ((ins.map D.str).length : Int) ∧ n * ((ins.map D.str).length : Int) < 1073741824 := by
      rw [leni]
      have h1 : n * (ins.length : Int) ≤ 12 * 4 := Int.mul_le_mul n1 (by omega) (by omega) (by omega)
      have h2 : 1 * 1 ≤ n * (ins.length : Int) := Int.mul_le_mul n0 (by omega) (by omega) (by omega)
      omega
    rw [show ((ins.map D.str).length : Int).toNat = ins.length by rw [leni]; rfl]
    generalize rngI 0 ins.length = rg2 at mem2 leng2
    refine WS.loop (I := fun ds ρ => (∀ kd ∈ ds, ∃ i : Int, kd = (9, .int i)) ∧ ∃ (s' : Bag) (y8 y9 y10 y11 : Sl) (row : List (Str × Int)), ρ = [some (10, s'.d), some (9, .tup (ins.map .str)), some (9, .tup (outs.map .str)), some (9, .int n), some (9, .int st), some (9, .int pl), some (9, .lst (rows.map rowD)), some (9, .lst (row.map prD)), y8, y9, y10, y11] ∧ row.length + ds.length = ins.length ∧ (∀ p ∈ row, p.1 ∈ outs ∧ 0 ≤ p.2 ∧ p.2 < n) ∧ s'.Ok (B + 24 * r.length + 6 * ds.length)) ⟨mem2, s2, _, _, _, _, [], rfl, by simpa using leng2, (fun x hx => nomatch hx), h2.mono (by omega)⟩ (fun kd r2 ρ h => ?_) (fun ρ h => ?_)
    · obtain ⟨hm2, s3, y8, y9, y10, y11, row, rfl, hlr, hrow, h3⟩ := h
      obtain ⟨kk, rfl⟩ := hm2 _ List.mem_cons_self
      replace hm2 := fun kd hk => hm2 kd (List.mem_cons_of_mem _ hk)
      simp only [List.length_cons] at hlr h3
      refine ⟨_, rfl, ?_⟩
      dsimp only
      walk_at "nenv"
      refine WS.seq (WS.asgN ?_)
      refine WE.mono (P := fun kd ρ1 => ∃ (b : Bool) (s4 : Bag), kd = (9, D.bl b) ∧ ρ1 = eM ins outs n st pl rows row kk s4 y9 y10 y11 ∧ s4.Ok (B + 24 * r.length + 6 * r2.length + 5)) ?_ ?_
      · walk_at "ws"
        refine ⟨fun _ => ?_, fun _ => ?_⟩
        · walk_at "ws"
          refine take_ok _ _ h3 _ hL.1 hL.2 _ _ fun v s4 v0 v1 h4 => ⟨s4.cln1 _ _ rfl, ?_⟩
          walk_at "nenv"
          walk_at "ws"
          exact ⟨_, s4, rfl, rfl, h4⟩
        · exact ⟨_, s3, rfl, rfl, h3.mono (by omega)⟩
      · rintro _ _ ⟨b, s4, rfl, rfl, h4⟩
        refine ⟨ltN rfl, SqP.nx ?_⟩
        dsimp only [eM]
        walk_at "nenv"
        refine WS.seq (WS.asgN ?_)
        refine WE.mono (P := fun kd ρ1 => ∃ (o : Str) (s5 : Bag), kd = (9, D.str o) ∧ o ∈ outs ∧ ρ1 = eM ins outs n st pl rows row kk s5 (some (9, .bl b)) y10 y11 ∧ s5.Ok (B + 24 * r.length + 6 * r2.length + 4)) ?_ ?_
        · walk_at "ws"
          refine ⟨fun _ => ?_, fun _ => ?_⟩
          · cases outs with
            | nil => simp at o0
            | cons o outs =>
              refine WE.opE ?_
              walk_at "ws"
              refine WE.frz (WE.idx rfl (idxK_tupI (d := .str o) (by simp [atI, ixN]) rfl) ?_)
              exact ⟨o, s4, rfl, List.mem_cons_self, rfl, h4.mono (by omega)⟩
          · walk_at "ws"
            refine pick_tup _ _ h4 (outs.map .str) _ (.inr imo) (by intro e; rw [e] at leno; simp at leno; omega) (by omega) _ fun d hd s5 h5 => ?_
            obtain ⟨o, ho, rfl⟩ := List.mem_map.mp hd
            refine ⟨s5.cln1 _ _ rfl, ?_⟩
            walk_at "nenv"
            walk_at "ws"
            exact ⟨o, s5, rfl, ho, rfl, h5⟩
        · rintro _ _ ⟨o, s5, rfl, ho, rfl, h5⟩
          refine ⟨ltN rfl, SqP.nx ?_⟩
          dsimp only [eM]
          walk_at "nenv"
          refine WS.seq (WS.asgN ?_)
          walk_at "ws"
          refine take_ok _ _ h5 _ (by omega) (by omega) _ _ fun la s6 la0 la1 h6 => ⟨s6.cln1 _ _ rfl, ?_⟩
          walk_at "nenv"
          refine ⟨ltN rfl, SqP.nx ?_⟩
          try walk_at "nenv"
          refine WS.seq ?_
          refine WS.mono (P := fun o' => ∃ (lb : Int) (s7 : Bag), o' = .nx (eM ins outs n st pl rows row kk s7 (some (9, .bl b)) (some (9, .str o)) (some (9, .int lb))) ∧ 0 ≤ lb ∧ lb < n ∧ s7.Ok (B + 24 * r.length + 6 * r2.length + 1)) ?_ ?_
          · refine WS.ifS ?_
            refine WE.mono (P := fun _ ρ1 => ∃ s7 : Bag, ρ1 = eM ins outs n st pl rows row kk s7 (some (9, .bl b)) (some (9, .str o)) (some (9, .int la)) ∧ s7.Ok (B + 24 * r.length + 6 * r2.length + 2)) ?_ ?_
            · walk_at "ws"
              refine ⟨fun _ => ?_, fun _ => ⟨s6, rfl, h6.mono (by omega)⟩⟩
              walk_at "ws"
              refine ⟨fun _ => ⟨s6, rfl, h6.mono (by omega)⟩, fun _ => ?_⟩
              walk_at "ws"
              refine take_ok _ (B + 24 * r.length + 6 * r2.length + 2) h6 _ (by omega) (by omega) _ _ fun v s7 v0 v1 h7 => ⟨s7.cln1 _ _ rfl, ?_⟩
              walk_at "nenv"
              walk_at "ws"
              exact h7
            · rintro _ _ ⟨s7, rfl, h7⟩
              refine ⟨fun _ => ?_, fun _ => WS.skip ⟨la, s7, rfl, la0, la1, h7.mono (by omega)⟩⟩
              dsimp only [eM]
              walk_at "ws"
              refine take_ok _ _ h7 _ (by omega) (by omega) _ _ fun v s8 v0 v1 h8 => ⟨s8.cln1 _ _ rfl, ?_⟩
              walk_at "nenv"
              walk_at "ws"
              refine ⟨fun _ => ?_, fun _ => ?_⟩
              · walk_at "ws"
                exact ⟨_, s8, rfl, Int.fmod_nonneg_of_pos _ (by omega), Int.fmod_lt_of_pos _ (by omega), h8⟩
              · walk_at "ws"
                exact ⟨_, s8, rfl, la0, la1, h8⟩
          · rintro _ ⟨lb, s7, rfl, lb0, lb1, h7⟩
            refine SqP.nx ?_
            dsimp only [eM]
            walk_at "nenv"
            refine WS.seq ?_
            refine WS.mono (P := fun o' => ∃ (lc : Int) (s8 : Bag), o' = .nx (eM ins outs n st pl rows row kk s8 (some (9, .bl b)) (some (9, .str o)) (some (9, .int lc))) ∧ 0 ≤ lc ∧ lc < n ∧ s8.Ok (B + 24 * r.length + 6 * r2.length)) ?_ ?_
            · walk_at "ws"
              refine ⟨fun _ => ?_, fun _ => WS.skip ⟨lb, s7, rfl, lb0, lb1, h7.mono (by omega)⟩⟩
              walk_at "ws"
              refine ⟨fun _ => ?_, fun _ => ?_⟩
              · walk_at "ws"
                exact ⟨_, s7, rfl, by split <;> omega, by split <;> omega, h7.mono (by omega)⟩
              · walk_at "ws"
                refine pick_lst _ _ h7 [.int st, .int lb] _ (.inr rfl) (by simp) (by simp) _ fun d hd s8 h8 => ?_
                have : ∃ lc : Int, d = .int lc ∧ 0 ≤ lc ∧ lc < n := by
                  simp only [List.mem_cons, List.not_mem_nil, or_false] at hd
                  rcases hd with rfl | rfl
                  · exact ⟨_, rfl, st0, st1⟩
                  · exact ⟨_, rfl, lb0, lb1⟩
                obtain ⟨lc, rfl, lc0, lc1⟩ := this
                refine ⟨s8.cln1 _ _ rfl, ?_⟩
                walk_at "nenv"
                walk_at "ws"
                exact ⟨_, s8, rfl, lc0, lc1, h8⟩
            · rintro _ ⟨lc, s8, rfl, lc0, lc1, h8⟩
              refine SqP.nx ?_
              dsimp only [eM]
              walk_at "ws"
              refine WE.app rfl (by rw [List.length_map]; unfold lineN; omega) (k' := 8) rfl ?_
              walk_at "nenv"
              walk_at "ws"
              refine LpP.nx ⟨hm2, s8, _, _, _, _, row ++ [(o, lc)], by rw [List.map_append]; rfl, by rw [List.length_append]; simp; omega, fun p hp => ?_, h8⟩
              rcases List.mem_append.mp hp with hp | hp
              · exact hrow p hp
              · rw [List.mem_singleton] at hp
                subst hp
                exact ⟨ho, lc0, lc1⟩
    · obtain ⟨hm2, s3, y8, y9, y10, y11, row, rfl, hlr, hrow, h3⟩ := h
      have imw := imm_prs row
      walk_at "ws"
      refine WE.app rfl (by rw [List.length_map]; unfold lineN; omega) (k' := 8) (by unfold joinLv; exact if_pos (imm_row row)) ?_
      walk_at "nenv"
      walk_at "ws"
      refine LpP.nx ⟨hm, s3, _, _, _, _, _, _, rows ++ [row], by rw [List.map_append]; rfl, by rw [List.length_append]; simp; omega, fun x hx => ?_, h3⟩
      rcases List.mem_append.mp hx with hx | hx
      · exact hr x hx
      · rw [List.mem_singleton] at hx
        subst hx
        exact ⟨by simpa using hlr, hrow⟩
  · obtain ⟨hm, s2, x4, x7, x8, x9, x10, x11, rows, rfl, hl, hr, h2⟩ := h
    have imi := imm_strs ins
    have imo := imm_strs outs
    have imr := imm_rows rows
    have imr2 : (D.tup (rows.map rowD)).imm = true := imr
    walk_at "ws"
    exact q rows (by simpa using hl) hr s2 h2
end DN

set_option Elab.async false
set_option linter.all false
set_option maxRecDepth 100000
set_option maxHeartbeats 4000000
/-! The plain law of k00: what is a name. -/
namespace DN
open PySem PySem.Spec PyProof.Rows L2
variable [KSeq]
local macro_rules | `(tactic| walk_at "immt") => `(tactic| first | assumption | (with_unfolding_all exact rfl) | with_reducible exact imm_ints _ | with_reducible exact imm_strs _ | with_reducible exact imm_tupS _)
local macro_rules | `(tactic| walk_at "opd") => `(tactic| first
  | with_reducible assumption
  | with_reducible exact lenS_lst _ | with_reducible exact lenS_tup _ | with_reducible exact lenS_seq _ | with_reducible exact lenS_str (by with_unfolding_all first | assumption | omega)
  | with_reducible exact eqS_int _ _ _ | with_reducible exact eqS_ints_nil _ _ | with_reducible exact listK2_lst (by walk_at "immt") | with_reducible exact inS_lst _ (by assumption) (by assumption) | with_reducible exact inS_tup _ (by assumption) (by assumption) | with_reducible exact ordS_int _ _ _ | with_reducible exact addK_int _ _ _ _ | with_reducible exact subD_int _ _
  | with_reducible exact modD_int (by with_unfolding_all first | assumption | omega | decide)
  | with_reducible exact fdivD_int (by with_unfolding_all first | assumption | omega | decide) (by with_unfolding_all first | assumption | omega | decide)
  | with_reducible exact mulK_intR (by with_unfolding_all first | decide | omega) | with_reducible exact mulK_intL (by with_unfolding_all first | decide | omega)
  | with_reducible exact powD_int (by with_unfolding_all first | decide | omega) (by with_unfolding_all first | decide | omega) (by with_unfolding_all first | decide | omega)
  | with_reducible exact inS_intG _ (by with_unfolding_all exact rfl)
  | with_reducible exact slHi_lst (by walk_at "immt") | with_reducible exact slLo_lst (by walk_at "immt") | with_reducible exact tupK_lst (by walk_at "immt") | with_reducible exact max2S_int _ _ | with_reducible exact min2S_int _ _
  | with_unfolding_all exact rfl)
local macro_rules | `(tactic| walk_at "uni") => `(tactic| with_reducible first | exact uni_nil | exact uni_I (by walk_at "immt") (by walk_at "uni") | exact uni_1 (by walk_at "immt") (by walk_at "uni") | exact uni_j (by walk_at "immt") (by walk_at "uni"))
local macro_rules | `(tactic| walk_at "prep") => `(tactic| first
  | with_reducible exact prep_nil
  | (with_reducible apply prep_vF; walk_at "prep") | (with_reducible apply prep_vT; walk_at "prep")
  | (with_reducible apply prep_m; (with_unfolding_all exact rfl); walk_at "prep")
  | (with_reducible apply prep_i; (with_unfolding_all exact rfl); walk_at "immt"; walk_at "prep")
  | (with_reducible apply prep_f; (with_unfolding_all exact rfl); (with_unfolding_all exact rfl); walk_at "prep"))
local macro_rules | `(tactic| walk_at "w1") => `(tactic| with_reducible first
  | refine WS.seq ?_ | refine SqP.nx ?_ | refine SqP.rt ?_ | refine WS.skip ?_ | refine WS.ifS ?_ | refine WS.retv ?_ | refine WS.expr ?_ | refine WS.asgN ?_ | refine WS.asg ?_ | refine WS.par ?_ | refine WS.forS ?_
  | refine WE.opE ?_ | refine WE.ev ?_ | refine WE.eb (by with_unfolding_all exact rfl) ?_ | refine WE.e0 ?_ | refine WE.cst ?_ | refine WE.ret ?_ | refine WE.boolM ?_
  | refine WE.frz (WE.idx (by with_unfolding_all exact rfl) (by walk_at "opd") ?_) | refine WE.sop (by with_unfolding_all exact rfl) (by walk_at "opd") ?_ | refine WE.nop (by with_unfolding_all exact rfl) (by walk_at "opd") ?_ | refine WE.frz (WE.nop (by with_unfolding_all exact rfl) (by walk_at "opd") ?_)
  | refine WE.nameI (by with_unfolding_all exact rfl) (by walk_at "immt") ?_ | refine WE.movI (by with_unfolding_all exact rfl) (by walk_at "immt") ?_
  | refine WE.notM ?_ | refine WE.andM ?_ | refine WE.orM ?_ | refine WE.andV ?_ | refine WE.orV ?_ | refine WE.notV ?_ | refine WE.ifV ?_ | refine WE.chainV ?_ | refine WE.bind ?_ | refine WE.valM ?_ | refine WE.intS ?_ | refine WE.lcS ?_ | refine WE.itsR1 ?_ | refine WE.itsV ?_
  | refine WE.setRest (by with_unfolding_all exact rfl) ?_ | refine WE.setTurn (by with_unfolding_all exact rfl) ?_
  | refine WE.uniL (by walk_at "uni") (by with_unfolding_all exact of_decide_eq_true rfl) ?_ | refine WE.uniT (by walk_at "uni") (by with_unfolding_all exact of_decide_eq_true rfl) ?_
  | refine WE.pth (by with_unfolding_all exact rfl) (by with_unfolding_all exact rfl) (by with_unfolding_all exact rfl) (by with_unfolding_all exact rfl) (by with_unfolding_all exact rfl) (by with_unfolding_all exact rfl) ?_
  | refine WE.popAt (by with_unfolding_all exact rfl) (by first | with_reducible exact ixN_zero _ | with_unfolding_all exact rfl) (by with_unfolding_all exact rfl) (by with_unfolding_all exact rfl) ?_
  | refine WS.forH0 (by with_unfolding_all exact rfl) (by with_unfolding_all first | exact .inr rfl | exact .inl rfl) ?_
  | refine WE.callC (by first | with_unfolding_all exact rfl | walk_at "prep") ?_
  | refine WE.mth ?_)
local macro_rules | `(tactic| walk_at "nenv") => `(tactic| try simp only [kz_str, kz_int, Bool.false_eq_true, if_false, if_true, List.take_succ_cons, List.take_zero, List.take_nil, List.length_cons, List.length_nil, Nat.zero_add, Nat.reduceAdd, List.set_cons_zero, List.set_cons_succ, List.set_nil, zipO, puts, List.append_nil, List.cons_append, List.nil_append, wipeE, unwipe, slotE, List.getElem?_cons_zero, List.getElem?_cons_succ])
local macro_rules | `(tactic| walk_at "w2") => `(tactic| first
  | walk_at "w1"
  | (with_reducible refine ⟨ltN (by with_unfolding_all exact rfl), ?_⟩; try walk_at "nenv")
  | with_reducible refine ⟨small62_of (by omega) (by omega), ?_⟩
  | (with_reducible refine ⟨tyT (by with_unfolding_all exact rfl), ?_⟩; try walk_at "nenv")
  | (refine ⟨_, by with_unfolding_all exact rfl, ?_⟩; try walk_at "nenv")
  | with_reducible refine .inl ⟨_, .inl rfl, ?_⟩
  | with_reducible refine .inl ⟨_, .inr (.inl rfl), ?_⟩
  | with_reducible refine .inr ⟨_, rfl, ?_⟩
  | (with_reducible refine WE.nameF (by with_unfolding_all exact rfl) (by first | assumption | with_unfolding_all exact rfl) ?_; try walk_at "nenv")
  | (with_reducible refine WE.movF (by with_unfolding_all exact rfl) (by first | assumption | with_unfolding_all exact rfl) ?_; try walk_at "nenv")
  | refine ⟨fun _ => ?_, fun h => Bool.noConfusion (show true = false from h)⟩
  | refine ⟨fun h => Bool.noConfusion (show false = true from h), fun _ => ?_⟩)
local macro_rules | `(tactic| walk_at "ws") => `(tactic| repeat walk_at "w2")
local macro_rules | `(tactic| walk_at "bag") => `(tactic| refine ⟨Bag.cln1 _ _ _ (by walk_at "immt"), ?_⟩)
def isNm : D → Bool
  | .str x => nm x
  | _ => false
theorem fit_len {L : Nat} {x : Str} (h : (D.str x).fit L = true) (l : L ≤ 10000) : x.length ≤ lineN := by
  have := (fit_str.mp h).1
  unfold lineN; omega
theorem is_name_ok (L : Nat) (l : L ≤ 10000) (d : D) (k : Nat) (fd : d.fit L = true) (Q : Nat → D → List KD → Prop) (q : Q 9 (.bl (isNm d)) []) : WR Q (R_k00_4 [(k, d)]) := by
  cases d with
  | non => exact WR.of rfl q
  | bl b => exact WR.of rfl q
  | int i => exact WR.of rfl q
  | tup ds => exact WR.of rfl q
  | lst ds => exact WR.of rfl q
  | dct kvs => simp [D.fit] at fd
  | seq ds => simp [D.fit] at fd
  | str x =>
    have lx := fit_len fd l
    refine WR.fn (ρ := [some (k, .str x), none]) rfl ?_
    unfold F_k00_4
    refine WS.seq (WS.ifS ?_)
    refine WE.mono (P := fun b ρ1 => b = (!(decide (1 ≤ x.length) && decide (x.length ≤ 8))) ∧ ρ1 = [some (k, .str x), none]) ?_ ?_
    · walk_at "ws"
      refine ⟨fun h1 => ?_, fun h1 => ?_⟩
      · walk_at "ws"
        refine ⟨?_, trivial⟩
        have h1 : (1 : Int) ≤ (x.length : Int) := of_decide_eq_true h1
        rw [decide_eq_true (show 1 ≤ x.length by omega), Bool.true_and]
        show (!decide ((x.length : Int) ≤ 8)) = _
        congr 1
        exact decide_eq_decide.mpr (by omega)
      · walk_at "ws"
        refine ⟨?_, trivial⟩
        have h1 : ¬ (1 : Int) ≤ (x.length : Int) := of_decide_eq_false h1
        rw [decide_eq_false (show ¬ 1 ≤ x.length by omega)]
        rfl
    · rintro _ _ ⟨rfl, rfl⟩
      refine ⟨fun h => ?_, fun h => ?_⟩
      · walk_at "ws"
        have : nm x = false := by
          unfold nm
          rw [Bool.not_eq_true', Bool.eq_false_iff] at h
          rw [Bool.eq_false_iff]
          intro hc
          rw [Bool.and_eq_true] at hc
          exact h hc.1
        rw [show isNm (.str x) = false from this] at q
        exact q
      · have hlen : (decide (1 ≤ x.length) && decide (x.length ≤ 8)) = true := by simpa using h
        walk_at "ws"
        refine WS.loop (I := fun ds ρ => ∃ done rest : List Nat, x.cps.toList = done ++ rest ∧ ds = rest.map (fun c => (9, .str ⟨#[c]⟩)) ∧ (∀ c ∈ done, c ∈ sg) ∧ ∃ y, ρ = [some (k, .str x), y]) ⟨[], _, rfl, rfl, (fun c hc => nomatch hc), none, rfl⟩ (fun kd r ρ h => ?_) (fun ρ h => ?_)
        · obtain ⟨done, rest, e1, e2, hd, y, rfl⟩ := h
          cases rest with
          | nil => cases e2
          | cons c rest =>
            simp only [List.map_cons, List.cons.injEq] at e2
            obtain ⟨rfl, rfl⟩ := e2
            walk_at "ws"
            rw [strIn_one]
            refine ⟨fun hb => ?_, fun hb => ?_⟩
            · walk_at "ws"
              have hc : sg.contains c = false := by
                rw [Bool.true_xor] at hb
                exact (Bool.not_eq_true' _).mp hb
              have : nm x = false := by
                rw [Bool.eq_false_iff]
                intro hn
                have := nm_sg hn c (by rw [e1]; simp)
                rw [List.contains_iff_mem.mpr this] at hc
                cases hc
              rw [show isNm (.str x) = false from this] at q
              exact q
            · walk_at "ws"
              have hc : c ∈ sg := by
                rw [Bool.true_xor] at hb
                have : sg.contains c = true := by
                  simp only [Bool.not_eq_false'] at hb
                  exact hb
                exact List.contains_iff_mem.mp this
              refine LpP.nx ⟨done ++ [c], rest, by rw [e1]; simp, rfl, fun d hd' => ?_, _, rfl⟩
              rcases List.mem_append.mp hd' with hd' | hd'
              · exact hd d hd'
              · rw [List.mem_singleton] at hd'
                subst hd'
                exact hc
        · obtain ⟨done, rest, e1, e2, hd, y, rfl⟩ := h
          have er : rest = [] := by simpa using e2.symm
          subst er
          rw [List.append_nil] at e1
          walk_at "ws"
          have : nm x = true := by
            rw [Bool.and_eq_true, decide_eq_true_eq, decide_eq_true_eq] at hlen
            exact nm_of hlen.1 hlen.2 fun c hc => hd c (e1 ▸ hc)
          rw [show isNm (.str x) = true from this] at q
          exact q
end DN

set_option Elab.async false
set_option linter.all false
set_option maxRecDepth 100000
set_option maxHeartbeats 4000000
/-! The plain law of k00: what are names. -/
namespace DN
open PySem PySem.Spec PyProof.Rows L2
variable [KSeq]
local macro_rules | `(tactic| walk_at "immt") => `(tactic| first | assumption | (with_unfolding_all exact rfl) | with_reducible exact imm_ints _ | with_reducible exact imm_strs _ | with_reducible exact imm_tupS _)
local macro_rules | `(tactic| walk_at "opd") => `(tactic| first
  | with_reducible assumption
  | with_reducible exact lenS_lst _ | with_reducible exact lenS_tup _ | with_reducible exact lenS_seq _ | with_reducible exact lenS_str (by with_unfolding_all first | assumption | omega)
  | with_reducible exact eqS_int _ _ _ | with_reducible exact eqS_ints_nil _ _ | with_reducible exact listK2_lst (by walk_at "immt") | with_reducible exact inS_lst _ (by assumption) (by assumption) | with_reducible exact inS_tup _ (by assumption) (by assumption) | with_reducible exact ordS_int _ _ _ | with_reducible exact addK_int _ _ _ _ | with_reducible exact subD_int _ _
  | with_reducible exact modD_int (by with_unfolding_all first | assumption | omega | decide)
  | with_reducible exact fdivD_int (by with_unfolding_all first | assumption | omega | decide) (by with_unfolding_all first | assumption | omega | decide)
  | with_reducible exact mulK_intR (by with_unfolding_all first | decide | omega) | with_reducible exact mulK_intL (by with_unfolding_all first | decide | omega)
  | with_reducible exact powD_int (by with_unfolding_all first | decide | omega) (by with_unfolding_all first | decide | omega) (by with_unfolding_all first | decide | omega)
  | with_reducible exact inS_intG _ (by with_unfolding_all exact rfl)
  | with_reducible exact slHi_lst (by walk_at "immt") | with_reducible exact slLo_lst (by walk_at "immt") | with_reducible exact tupK_lst (by walk_at "immt") | with_reducible exact max2S_int _ _ | with_reducible exact min2S_int _ _
  | with_unfolding_all exact rfl)
local macro_rules | `(tactic| walk_at "uni") => `(tactic| with_reducible first | exact uni_nil | exact uni_I (by walk_at "immt") (by walk_at "uni") | exact uni_1 (by walk_at "immt") (by walk_at "uni") | exact uni_j (by walk_at "immt") (by walk_at "uni"))
local macro_rules | `(tactic| walk_at "prep") => `(tactic| first
  | with_reducible exact prep_nil
  | (with_reducible apply prep_vF; walk_at "prep") | (with_reducible apply prep_vT; walk_at "prep")
  | (with_reducible apply prep_m; (with_unfolding_all exact rfl); walk_at "prep")
  | (with_reducible apply prep_i; (with_unfolding_all exact rfl); walk_at "immt"; walk_at "prep")
  | (with_reducible apply prep_f; (with_unfolding_all exact rfl); (with_unfolding_all exact rfl); walk_at "prep"))
local macro_rules | `(tactic| walk_at "w1") => `(tactic| with_reducible first
  | refine WS.seq ?_ | refine SqP.nx ?_ | refine SqP.rt ?_ | refine WS.skip ?_ | refine WS.ifS ?_ | refine WS.retv ?_ | refine WS.expr ?_ | refine WS.asgN ?_ | refine WS.asg ?_ | refine WS.par ?_ | refine WS.forS ?_
  | refine WE.opE ?_ | refine WE.ev ?_ | refine WE.eb (by with_unfolding_all exact rfl) ?_ | refine WE.e0 ?_ | refine WE.cst ?_ | refine WE.ret ?_ | refine WE.boolM ?_
  | refine WE.frz (WE.idx (by with_unfolding_all exact rfl) (by walk_at "opd") ?_) | refine WE.sop (by with_unfolding_all exact rfl) (by walk_at "opd") ?_ | refine WE.nop (by with_unfolding_all exact rfl) (by walk_at "opd") ?_ | refine WE.frz (WE.nop (by with_unfolding_all exact rfl) (by walk_at "opd") ?_)
  | refine WE.nameI (by with_unfolding_all exact rfl) (by walk_at "immt") ?_ | refine WE.movI (by with_unfolding_all exact rfl) (by walk_at "immt") ?_
  | refine WE.notM ?_ | refine WE.andM ?_ | refine WE.orM ?_ | refine WE.andV ?_ | refine WE.orV ?_ | refine WE.notV ?_ | refine WE.ifV ?_ | refine WE.chainV ?_ | refine WE.bind ?_ | refine WE.valM ?_ | refine WE.intS ?_ | refine WE.lcS ?_ | refine WE.itsR1 ?_ | refine WE.itsV ?_
  | refine WE.setRest (by with_unfolding_all exact rfl) ?_ | refine WE.setTurn (by with_unfolding_all exact rfl) ?_
  | refine WE.uniL (by walk_at "uni") (by with_unfolding_all exact of_decide_eq_true rfl) ?_ | refine WE.uniT (by walk_at "uni") (by with_unfolding_all exact of_decide_eq_true rfl) ?_
  | refine WE.pth (by with_unfolding_all exact rfl) (by with_unfolding_all exact rfl) (by with_unfolding_all exact rfl) (by with_unfolding_all exact rfl) (by with_unfolding_all exact rfl) (by with_unfolding_all exact rfl) ?_
  | refine WE.popAt (by with_unfolding_all exact rfl) (by first | with_reducible exact ixN_zero _ | with_unfolding_all exact rfl) (by with_unfolding_all exact rfl) (by with_unfolding_all exact rfl) ?_
  | refine WS.forH0 (by with_unfolding_all exact rfl) (by with_unfolding_all first | exact .inr rfl | exact .inl rfl) ?_
  | refine WE.callC (by first | with_unfolding_all exact rfl | walk_at "prep") ?_
  | refine WE.mth ?_)
local macro_rules | `(tactic| walk_at "nenv") => `(tactic| try simp only [kz_str, kz_int, Bool.false_eq_true, if_false, if_true, List.take_succ_cons, List.take_zero, List.take_nil, List.length_cons, List.length_nil, Nat.zero_add, Nat.reduceAdd, List.set_cons_zero, List.set_cons_succ, List.set_nil, zipO, puts, List.append_nil, List.cons_append, List.nil_append, wipeE, unwipe, slotE, List.getElem?_cons_zero, List.getElem?_cons_succ])
local macro_rules | `(tactic| walk_at "w2") => `(tactic| first
  | walk_at "w1"
  | (with_reducible refine ⟨ltN (by with_unfolding_all exact rfl), ?_⟩; try walk_at "nenv")
  | with_reducible refine ⟨small62_of (by omega) (by omega), ?_⟩
  | (with_reducible refine ⟨tyT (by with_unfolding_all exact rfl), ?_⟩; try walk_at "nenv")
  | (refine ⟨_, by with_unfolding_all exact rfl, ?_⟩; try walk_at "nenv")
  | with_reducible refine .inl ⟨_, .inl rfl, ?_⟩
  | with_reducible refine .inl ⟨_, .inr (.inl rfl), ?_⟩
  | with_reducible refine .inr ⟨_, rfl, ?_⟩
  | (with_reducible refine WE.nameF (by with_unfolding_all exact rfl) (by first | assumption | with_unfolding_all exact rfl) ?_; try walk_at "nenv")
  | (with_reducible refine WE.movF (by with_unfolding_all exact rfl) (by first | assumption | with_unfolding_all exact rfl) ?_; try walk_at "nenv")
  | refine ⟨fun _ => ?_, fun h => Bool.noConfusion (show true = false from h)⟩
  | refine ⟨fun h => Bool.noConfusion (show false = true from h), fun _ => ?_⟩)
local macro_rules | `(tactic| walk_at "ws") => `(tactic| repeat walk_at "w2")
local macro_rules | `(tactic| walk_at "bag") => `(tactic| refine ⟨Bag.cln1 _ _ _ (by walk_at "immt"), ?_⟩)
theorem lnm_ok (L : Nat) (l : L ≤ 10000) (d : D) (k : Nat) (fd : d.fit L = true) (Q : Nat → D → List KD → Prop) (q : Q 9 (.bl (isNm d)) []) : WR Q (R_k00_23 [(k, d)]) := by
  cases d with
  | non => exact WR.of rfl q
  | bl b => exact WR.of rfl q
  | int i => exact WR.of rfl q
  | tup ds => exact WR.of rfl q
  | lst ds => exact WR.of rfl q
  | dct kvs => simp [D.fit] at fd
  | seq ds => simp [D.fit] at fd
  | str x =>
    have lx := fit_len fd l
    have lx2 := (fit_str.mp fd).1
    refine WR.fn (ρ := [some (k, .str x), none]) rfl ?_
    unfold F_k00_23
    walk_at "ws"
    refine ⟨fun h => ?_, fun h => ?_⟩
    · walk_at "ws"
      have : nm x = false := by
        rw [Bool.eq_false_iff]
        intro hn
        have := nm_len hn
        rw [Bool.true_xor, Bool.not_eq_true', decide_eq_false_iff_not] at h
        omega
      rw [show isNm (.str x) = false from this] at q
      exact q
    · walk_at "ws"
      have es : DN.signs x = (x.cps.toList.map fun c => D.str ⟨#[c]⟩).map kz := by
        rw [List.map_map]; rfl
      rw [es]
      refine WE.lcFilt (ltN rfl) rfl (fun d => !((Str.ofString "0123456789abcdefghijklmnopqrstuvwxyz").cps.toList.contains ((toS d).cps.toList.getD 0 0))) _ [] (immAll_map _ (fun _ => rfl) _) (by simp [Str.length] at lx2 ⊢; unfold lineN; omega) (fun d hd => ?_) ?_
      · obtain ⟨c, hc, rfl⟩ := List.mem_map.mp hd
        walk_at "nenv"
        walk_at "ws"
        rw [strIn_one]
        exact ⟨Bool.true_xor _, trivial⟩
      · walk_at "nenv"
        walk_at "ws"
        refine WE.sop rfl (eqS_nilO (fun d hd => ?_) _) ?_
        · obtain ⟨hd, _⟩ := List.mem_filter.mp hd
          obtain ⟨c, hc, rfl⟩ := List.mem_map.mp hd
          refine okD_str ?_
          have := (fit_str.mp fd).2
          unfold PyData.strOk at this ⊢
          rw [← Array.all_toList, List.all_eq_true] at this
          simpa using this c hc
        · walk_at "ws"
          have hl : 1 ≤ x.length ∧ x.length ≤ 8 := by
            rw [Bool.true_xor, Bool.not_eq_false', decide_eq_true_eq] at h
            omega
          have hp : ((Str.ofString "0123456789abcdefghijklmnopqrstuvwxyz").cps.toList).Perm sg := by decide +kernel
          have hv : (false ^^ (List.filter (fun d => !((Str.ofString "0123456789abcdefghijklmnopqrstuvwxyz").cps.toList.contains ((toS d).cps.toList.getD 0 0))) (List.map (fun c => D.str { cps := #[c] }) x.cps.toList)).isEmpty) = nm x := by
            rw [Bool.false_xor, Bool.eq_iff_iff, List.isEmpty_iff, List.filter_eq_nil_iff]
            constructor
            · intro hall
              refine nm_of hl.1 hl.2 fun c hc => ?_
              have := hall _ (List.mem_map.mpr ⟨c, hc, rfl⟩)
              rw [Bool.not_eq_true, Bool.not_eq_false'] at this
              exact hp.mem_iff.mp (List.contains_iff_mem.mp this)
            · intro hn d hd
              obtain ⟨c, hc, rfl⟩ := List.mem_map.mp hd
              rw [Bool.not_eq_true, Bool.not_eq_false']
              exact List.contains_iff_mem.mpr (hp.mem_iff.mpr (nm_sg hn c hc))
          rw [hv]
          exact q
/-- names: so many, and each but once -/
def areN (a b : Int) : D → Bool
  | .tup ds => decide (a ≤ ds.length) && decide ((ds.length : Int) ≤ b) && ds.all isNm && decide ((ds.map toS).Nodup)
  | _ => false
theorem areN_tup (a b : Int) (ds : List D) : areN a b (.tup ds) = (decide (a ≤ ds.length) && decide ((ds.length : Int) ≤ b) && ds.all isNm && decide ((ds.map toS).Nodup)) := rfl
theorem rng_succ (lo : Int) (n : Nat) : rngI lo (n + 1) = (9, .int lo) :: rngI (lo + 1) n := by
  unfold rngI
  rw [List.range_succ_eq_map, List.map_cons, List.map_map]
  congr 1
  · simp
  · refine List.map_congr_left fun i _ => ?_
    show ((9 : Nat), D.int (lo + ((i + 1 : Nat) : Int))) = (9, .int (lo + 1 + (i : Nat)))
    congr 2
    omega
theorem isNm_str {d : D} (h : isNm d = true) : ∃ x, d = .str x ∧ nm x = true := by
  cases d with
  | str x => exact ⟨x, rfl, h⟩
  | _ => simp [isNm] at h
theorem strs_of {ds : List D} (h : ds.all isNm = true) : ds = (ds.map toS).map D.str := by
  rw [List.map_map]
  have : ∀ d ∈ ds, (D.str ∘ toS) d = id d := fun d hd => by
    have := List.all_eq_true.mp h d hd
    cases d <;> first | rfl | simp [isNm] at this
  rw [List.map_congr_left this, List.map_id]
theorem kz_or (d : D) : (kz d).1 = 0 ∨ d.imm = true := by
  unfold kz
  cases h : d.imm with
  | true => exact .inr rfl
  | false => exact .inl rfl
theorem idxK_tupG {k j : Nat} {ds : List D} {i : Int} {d : D} (e : atI ds i = some d) (h : k = 0 ∨ D.immAll ds = true) : idxK [(k, .tup ds), (j, .int i)] = some (kz d) := by
  rcases h with rfl | h
  · exact idxK_tup0 e
  · have hd : d.imm = true := by
      unfold atI at e
      cases e2 : ixN ds.length i with
      | none => rw [e2] at e; cases e
      | some n => rw [e2] at e; exact mem_imm h d (List.mem_of_getElem? e)
    rw [idxK_tupI e hd]; unfold kz; rw [if_pos hd]
theorem are_names_ok (L : Nat) (l : L ≤ 10000) (d : D) (k : Nat) (hk : k = 0 ∨ d.imm = true) (fd : d.fit L = true) (a b : Int) (k1 k2 : Nat) (Q : Nat → D → List KD → Prop) (q : Q 9 (.bl (areN a b d)) []) : WR Q (R_k00_5 [(k, d), (k1, .int a), (k2, .int b)]) := by
  cases d with
  | non => exact WR.of rfl q
  | bl b => exact WR.of rfl q
  | int i => exact WR.of rfl q
  | str x => exact WR.of rfl q
  | lst ds => exact WR.of rfl q
  | dct kvs => simp [D.fit] at fd
  | seq ds => simp [D.fit] at fd
  | tup ds =>
    obtain ⟨lds, fds⟩ := fit_tup.mp fd
    refine WR.fn (ρ := [some (k, .tup ds), some (k1, .int a), some (k2, .int b), none]) rfl ?_
    unfold F_k00_5
    refine WS.seq (WS.ifS ?_)
    refine WE.mono (P := fun t ρ1 => t = (!(decide (a ≤ (ds.length : Int)) && decide ((ds.length : Int) ≤ b))) ∧ ρ1 = [some (k, .tup ds), some (k1, .int a), some (k2, .int b), none]) ?_ ?_
    · walk_at "ws"
      refine ⟨fun h1 => ?_, fun h1 => ?_⟩
      · walk_at "ws"
        refine ⟨?_, trivial⟩
        rw [show decide (a ≤ (ds.length : Int)) = true from h1, Bool.true_and]
        rfl
      · walk_at "ws"
        refine ⟨?_, trivial⟩
        rw [show decide (a ≤ (ds.length : Int)) = false from h1]
        rfl
    · rintro _ _ ⟨rfl, rfl⟩
      refine ⟨fun h => ?_, fun h => ?_⟩
      · walk_at "ws"
        rw [show areN a b (.tup ds) = false by
          rw [Bool.not_eq_true'] at h
          rw [areN_tup, h]; rfl] at q
        exact q
      · have h : (decide (a ≤ (ds.length : Int)) && decide ((ds.length : Int) ≤ b)) = true := by simpa using h
        walk_at "ws"
        rw [show ((ds.length : Int)).toNat = ds.length from rfl]
        refine WS.loop (I := fun r ρ => ∃ j : Nat, j ≤ ds.length ∧ r = rngI j (ds.length - j) ∧ (∃ ws : List Str, ds.take j = ws.map D.str ∧ (∀ x ∈ ws, nm x = true) ∧ ws.Nodup) ∧ ∃ y, ρ = [some (k, .tup ds), some (k1, .int a), some (k2, .int b), y]) ⟨0, Nat.zero_le _, rfl, ⟨[], rfl, (fun x hx => nomatch hx), .nil⟩, _, rfl⟩ (fun kd r ρ h => ?_) (fun ρ h => ?_)
        · obtain ⟨j, hj, e, ⟨ws, hws, hnm, hnd⟩, y, rfl⟩ := h
          have hj2 : j < ds.length := by
            refine Nat.lt_of_le_of_ne hj fun e0 => ?_
            subst e0
            rw [Nat.sub_self] at e
            cases e
          rw [show ds.length - j = (ds.length - (j + 1)) + 1 by omega, rng_succ] at e
          obtain ⟨rfl, rfl⟩ := List.cons.inj e
          obtain ⟨d, ea, eg, hd⟩ := atI_in (ds := ds) (v := (j : Int)) (by omega) (by omega)
          rw [Int.toNat_natCast] at eg
          have hk0 : k = 0 ∨ D.immAll ds = true := hk
          walk_at "ws"
          refine WE.frz (WE.idx rfl (idxK_tupG ea hk0) ?_)
          walk_at "ws"
          refine is_name_ok L l d _ (fds d hd) _ ⟨by rfl, ?_⟩
          walk_at "nenv"
          walk_at "ws"
          refine ⟨fun hn => ?_, fun hn => ?_⟩
          · walk_at "ws"
            have : isNm d = false := by simpa using hn
            rw [areN_tup, show ds.all isNm = false by
              rw [Bool.eq_false_iff]
              intro hc
              rw [List.all_eq_true.mp hc d hd] at this; cases this] at q
            rw [Bool.and_false, Bool.false_and] at q
            exact q
          · have hn : isNm d = true := by simpa using hn
            obtain ⟨x, rfl, hx⟩ := isNm_str hn
            have htk : ds.take (j + 1) = ws.map D.str ++ [D.str x] := by
              rw [List.take_add_one, hws, eg]; rfl
            walk_at "ws"
            refine WE.frz (WE.idx rfl (idxK_tupG ea hk0) ?_)
            walk_at "ws"
            refine WE.frz (WE.nop rfl (slHi_tup hk0) ?_)
            rw [cutD_hi _ (by omega), Int.toNat_natCast, hws]
            walk_at "ws"
            refine WE.sop rfl (inS_tup _ (nm_ok hx) (fun z hz => nm_ok (hnm z hz))) ?_
            walk_at "ws"
            refine ⟨fun hc => ?_, fun hc => ?_⟩
            · walk_at "ws"
              have hx2 : x ∈ ws := List.contains_iff_mem.mp (by simpa using hc)
              have hnn : decide ((ds.map toS).Nodup) = false := by
                rw [decide_eq_false_iff_not]
                intro hh
                have h2 : ((ds.take (j + 1)).map toS).Nodup := hh.sublist ((List.take_sublist _ _).map _)
                rw [htk, List.map_append, toS_map] at h2
                exact (List.nodup_append.mp h2).2.2 x hx2 x (by simp [toS]) rfl
              rw [areN_tup, hnn, Bool.and_false] at q
              exact q
            · walk_at "ws"
              have hx2 : x ∉ ws := fun hh => by
                rw [List.contains_iff_mem.mpr hh] at hc; cases hc
              refine LpP.nx ⟨j + 1, hj2, by congr 1, ⟨ws ++ [x], by rw [htk, List.map_append]; rfl, fun z hz => ?_, ?_⟩, _, rfl⟩
              · rcases List.mem_append.mp hz with hz | hz
                · exact hnm z hz
                · rw [List.mem_singleton] at hz; subst hz; exact hx
              · rw [List.nodup_append]
                refine ⟨hnd, by simp, fun p hp r hr => ?_⟩
                rw [List.mem_singleton] at hr
                subst hr
                exact fun e => hx2 (e ▸ hp)
        · obtain ⟨j, hj, e, ⟨ws, hws, hnm, hnd⟩, y, rfl⟩ := h
          walk_at "ws"
          have ej : j = ds.length := by
            refine Nat.le_antisymm hj (Nat.le_of_not_lt fun hl => ?_)
            rw [show ds.length - j = (ds.length - (j + 1)) + 1 by omega, rng_succ] at e
            cases e
          rw [ej, List.take_length] at hws
          have h1 : ds.all isNm = true := by
            rw [hws, List.all_map, List.all_eq_true]
            exact fun x hx => hnm x hx
          have h2 : decide ((ds.map toS).Nodup) = true := by
            rw [decide_eq_true_eq, hws, toS_map]; exact hnd
          rw [areN_tup, h, h1, h2] at q
          exact q
/-! ### as a set -/
theorem cnt_nodup : ∀ (xs : List Str) (n : Nat), n ≤ xs.length → (DNT.cnt xs n ≤ n ∧ (DNT.cnt xs n = n ↔ (xs.take n).Nodup))
  | xs, 0, _ => by simp [DNT.cnt]
  | xs, n + 1, h => by
    obtain ⟨ih1, ih2⟩ := cnt_nodup xs n (by omega)
    have hn : n < xs.length := by omega
    have e : xs.take (n + 1) = xs.take n ++ [xs[n]] := by rw [List.take_add_one, List.getElem?_eq_getElem hn]; rfl
    have e2 : xs.getD n Str.empty = xs[n] := by simp [List.getD, hn]
    unfold DNT.cnt
    rw [e2]
    by_cases hc : xs[n] ∈ xs.take n
    · have : (xs.take n).any (· == xs[n]) = true := by
        rw [List.any_eq_true]; exact ⟨_, hc, beq_self_eq_true _⟩
      rw [if_pos this]
      refine ⟨by omega, ?_⟩
      constructor
      · intro h; omega
      · intro h
        rw [e] at h
        exact absurd rfl ((List.nodup_append.mp h).2.2 _ hc _ (List.mem_singleton.mpr rfl))
    · have : ¬ (xs.take n).any (· == xs[n]) = true := by
        rw [List.any_eq_true]
        rintro ⟨y, hy, hb⟩
        rw [beq_iff_eq] at hb
        exact hc (hb ▸ hy)
      rw [if_neg this]
      refine ⟨by omega, ?_⟩
      rw [e, List.nodup_append]
      constructor
      · intro h
        refine ⟨ih2.mp (by omega), by simp, fun a ha b hb => ?_⟩
        rw [List.mem_singleton] at hb
        subst hb
        exact fun e => hc (e ▸ ha)
      · intro h
        rw [ih2.mpr h.1]
theorem strsOf_strs : ∀ ws : List Str, joinS.strsOf (ws.map D.str) = some ws
  | [] => rfl
  | a :: r => by rw [List.map_cons, joinS.strsOf, strsOf_strs r]
theorem lenSet_tup (ws : List Str) (l : ws.length ≤ 1000) : lenSetS [.tup (ws.map .str)] = some (.int (DNT.cnt ws ws.length : Nat)) := by
  unfold lenSetS
  dsimp only
  rw [strsOf_strs]
  dsimp only
  rw [if_pos l]
end DN

set_option Elab.async false
set_option linter.all false
set_option maxRecDepth 100000
set_option maxHeartbeats 4000000
/-! The plain law of k00: the law's own names. -/
namespace DN
open PySem PySem.Spec PyProof.Rows L2
variable [KSeq]
local macro_rules | `(tactic| walk_at "immt") => `(tactic| first | assumption | (with_unfolding_all exact rfl) | with_reducible exact imm_ints _ | with_reducible exact imm_strs _ | with_reducible exact imm_tupS _)
local macro_rules | `(tactic| walk_at "opd") => `(tactic| first
  | with_reducible assumption
  | with_reducible exact lenS_lst _ | with_reducible exact lenS_tup _ | with_reducible exact lenS_seq _ | with_reducible exact lenS_str (by with_unfolding_all first | assumption | omega)
  | with_reducible exact eqS_int _ _ _ | with_reducible exact eqS_ints_nil _ _ | with_reducible exact listK2_lst (by walk_at "immt") | with_reducible exact inS_lst _ (by assumption) (by assumption) | with_reducible exact inS_tup _ (by assumption) (by assumption) | with_reducible exact ordS_int _ _ _ | with_reducible exact addK_int _ _ _ _ | with_reducible exact subD_int _ _
  | with_reducible exact modD_int (by with_unfolding_all first | assumption | omega | decide)
  | with_reducible exact fdivD_int (by with_unfolding_all first | assumption | omega | decide) (by with_unfolding_all first | assumption | omega | decide)
  | with_reducible exact mulK_intR (by with_unfolding_all first | decide | omega) | with_reducible exact mulK_intL (by with_unfolding_all first | decide | omega)
  | with_reducible exact powD_int (by with_unfolding_all first | decide | omega) (by with_unfolding_all first | decide | omega) (by with_unfolding_all first | decide | omega)
  | with_reducible exact inS_intG _ (by with_unfolding_all exact rfl)
  | with_reducible exact slHi_lst (by walk_at "immt") | with_reducible exact slLo_lst (by walk_at "immt") | with_reducible exact tupK_lst (by walk_at "immt") | with_reducible exact max2S_int _ _ | with_reducible exact min2S_int _ _
  | with_unfolding_all exact rfl)
local macro_rules | `(tactic| walk_at "uni") => `(tactic| with_reducible first | exact uni_nil | exact uni_I (by walk_at "immt") (by walk_at "uni") | exact uni_1 (by walk_at "immt") (by walk_at "uni") | exact uni_j (by walk_at "immt") (by walk_at "uni"))
local macro_rules | `(tactic| walk_at "prep") => `(tactic| first
  | with_reducible exact prep_nil
  | (with_reducible apply prep_vF; walk_at "prep") | (with_reducible apply prep_vT; walk_at "prep")
  | (with_reducible apply prep_m; (with_unfolding_all exact rfl); walk_at "prep")
  | (with_reducible apply prep_i; (with_unfolding_all exact rfl); walk_at "immt"; walk_at "prep")
  | (with_reducible apply prep_f; (with_unfolding_all exact rfl); (with_unfolding_all exact rfl); walk_at "prep"))
local macro_rules | `(tactic| walk_at "w1") => `(tactic| with_reducible first
  | refine WS.seq ?_ | refine SqP.nx ?_ | refine SqP.rt ?_ | refine WS.skip ?_ | refine WS.ifS ?_ | refine WS.retv ?_ | refine WS.expr ?_ | refine WS.asgN ?_ | refine WS.asg ?_ | refine WS.par ?_ | refine WS.forS ?_
  | refine WE.opE ?_ | refine WE.ev ?_ | refine WE.eb (by with_unfolding_all exact rfl) ?_ | refine WE.e0 ?_ | refine WE.cst ?_ | refine WE.ret ?_ | refine WE.boolM ?_
  | refine WE.frz (WE.idx (by with_unfolding_all exact rfl) (by walk_at "opd") ?_) | refine WE.sop (by with_unfolding_all exact rfl) (by walk_at "opd") ?_ | refine WE.nop (by with_unfolding_all exact rfl) (by walk_at "opd") ?_ | refine WE.frz (WE.nop (by with_unfolding_all exact rfl) (by walk_at "opd") ?_)
  | refine WE.nameI (by with_unfolding_all exact rfl) (by walk_at "immt") ?_ | refine WE.movI (by with_unfolding_all exact rfl) (by walk_at "immt") ?_
  | refine WE.notM ?_ | refine WE.andM ?_ | refine WE.orM ?_ | refine WE.andV ?_ | refine WE.orV ?_ | refine WE.notV ?_ | refine WE.ifV ?_ | refine WE.chainV ?_ | refine WE.bind ?_ | refine WE.valM ?_ | refine WE.intS ?_ | refine WE.lcS ?_ | refine WE.itsR1 ?_ | refine WE.itsV ?_
  | refine WE.setRest (by with_unfolding_all exact rfl) ?_ | refine WE.setTurn (by with_unfolding_all exact rfl) ?_
  | refine WE.uniL (by walk_at "uni") (by with_unfolding_all exact of_decide_eq_true rfl) ?_ | refine WE.uniT (by walk_at "uni") (by with_unfolding_all exact of_decide_eq_true rfl) ?_
  | refine WE.pth (by with_unfolding_all exact rfl) (by with_unfolding_all exact rfl) (by with_unfolding_all exact rfl) (by with_unfolding_all exact rfl) (by with_unfolding_all exact rfl) (by with_unfolding_all exact rfl) ?_
  | refine WE.popAt (by with_unfolding_all exact rfl) (by first | with_reducible exact ixN_zero _ | with_unfolding_all exact rfl) (by with_unfolding_all exact rfl) (by with_unfolding_all exact rfl) ?_
  | refine WS.forH0 (by with_unfolding_all exact rfl) (by with_unfolding_all first | exact .inr rfl | exact .inl rfl) ?_
  | refine WE.callC (by first | with_unfolding_all exact rfl | walk_at "prep") ?_
  | refine WE.mth ?_)
local macro_rules | `(tactic| walk_at "nenv") => `(tactic| try simp only [kz_str, kz_int, Bool.false_eq_true, if_false, if_true, List.take_succ_cons, List.take_zero, List.take_nil, List.length_cons, List.length_nil, Nat.zero_add, Nat.reduceAdd, List.set_cons_zero, List.set_cons_succ, List.set_nil, zipO, puts, List.append_nil, List.cons_append, List.nil_append, wipeE, unwipe, slotE, List.getElem?_cons_zero, List.getElem?_cons_succ])
local macro_rules | `(tactic| walk_at "w2") => `(tactic| first
  | walk_at "w1"
  | (with_reducible refine ⟨ltN (by with_unfolding_all exact rfl), ?_⟩; try walk_at "nenv")
  | with_reducible refine ⟨small62_of (by omega) (by omega), ?_⟩
  | (with_reducible refine ⟨tyT (by with_unfolding_all exact rfl), ?_⟩; try walk_at "nenv")
  | (refine ⟨_, by with_unfolding_all exact rfl, ?_⟩; try walk_at "nenv")
  | with_reducible refine .inl ⟨_, .inl rfl, ?_⟩
  | with_reducible refine .inl ⟨_, .inr (.inl rfl), ?_⟩
  | with_reducible refine .inr ⟨_, rfl, ?_⟩
  | (with_reducible refine WE.nameF (by with_unfolding_all exact rfl) (by first | assumption | with_unfolding_all exact rfl) ?_; try walk_at "nenv")
  | (with_reducible refine WE.movF (by with_unfolding_all exact rfl) (by first | assumption | with_unfolding_all exact rfl) ?_; try walk_at "nenv")
  | refine ⟨fun _ => ?_, fun h => Bool.noConfusion (show true = false from h)⟩
  | refine ⟨fun h => Bool.noConfusion (show false = true from h), fun _ => ?_⟩)
local macro_rules | `(tactic| walk_at "ws") => `(tactic| repeat walk_at "w2")
local macro_rules | `(tactic| walk_at "bag") => `(tactic| refine ⟨Bag.cln1 _ _ _ (by walk_at "immt"), ?_⟩)
theorem filter_empty {α : Type} (p : α → Bool) (ds : List α) : (ds.filter p).isEmpty = ds.all (fun d => !p d) := by
  rw [Bool.eq_iff_iff, List.isEmpty_iff, List.filter_eq_nil_iff, List.all_eq_true]
  exact ⟨fun h d hd => by simpa using h d hd, fun h d hd => by simpa using h d hd⟩
theorem fit_okl {L : Nat} {ds : List D} (h : ∀ d ∈ ds, d.fit L = true) (w : ∀ d ∈ ds, d.dep ≤ 60) (p : D → Bool) : ∀ d ∈ ds.filter p, okD d := fun d hd => okD_of (h d (List.mem_filter.mp hd).1) (w d (List.mem_filter.mp hd).1)
theorem dep_tup {ds : List D} {n : Nat} (h : (D.tup ds).dep ≤ n + 1) : ∀ d ∈ ds, d.dep ≤ n := by
  rw [D.dep] at h
  exact depAll_le.mp (by omega)
theorem lnames_ok (L : Nat) (l : L ≤ 10000) (d : D) (k : Nat) (hk : k = 0 ∨ d.imm = true) (fd : d.fit L = true) (dd : d.dep ≤ 60) (a b : Int) (hb : b ≤ 1000) (k1 k2 : Nat) (Q : Nat → D → List KD → Prop) (q : Q 9 (.bl (areN a b d)) []) : WR Q (R_k00_24 [(k, d), (k1, .int a), (k2, .int b)]) := by
  cases d with
  | non => exact WR.of rfl q
  | bl b => exact WR.of rfl q
  | int i => exact WR.of rfl q
  | str x => exact WR.of rfl q
  | lst ds => exact WR.of rfl q
  | dct kvs => simp [D.fit] at fd
  | seq ds => simp [D.fit] at fd
  | tup ds =>
    obtain ⟨lds, fds⟩ := fit_tup.mp fd
    have dds : ∀ d ∈ ds, d.dep ≤ 60 := dep_tup (by omega)
    refine WR.fn (ρ := [some (k, .tup ds), some (k1, .int a), some (k2, .int b), none]) rfl ?_
    unfold F_k00_24
    refine WS.seq (WS.mono (P := fun o => o = .nx [some (k, .tup ds), some (k1, .int a), some (k2, .int b), none]) (by walk_at "ws"; rfl) ?_)
    rintro _ rfl
    refine SqP.nx (WS.seq (WS.ifS ?_))
    refine WE.mono (P := fun t ρ1 => t = (!(decide (a ≤ (ds.length : Int)) && decide ((ds.length : Int) ≤ b) && ds.all isNm)) ∧ ∃ k, ρ1 = [some (k, .tup ds), some (k1, .int a), some (k2, .int b), none]) ?_ ?_
    · walk_at "ws"
      refine ⟨fun h1 => ?_, fun h1 => ?_⟩
      · walk_at "ws"
        rw [decide_eq_false (show ¬ a ≤ (ds.length : Int) from by have : (ds.length : Int) < a := of_decide_eq_true h1; omega)]
        exact ⟨rfl, _, rfl⟩
      · have h1 : a ≤ (ds.length : Int) := by have : ¬ (ds.length : Int) < a := of_decide_eq_false h1; omega
        walk_at "ws"
        refine ⟨fun h2 => ?_, fun h2 => ?_⟩
        · walk_at "ws"
          rw [decide_eq_false (show ¬ (ds.length : Int) ≤ b from by have : b < (ds.length : Int) := of_decide_eq_true h2; omega)]
          exact ⟨by rw [Bool.and_false]; rfl, _, rfl⟩
        · have h2 : (ds.length : Int) ≤ b := by have : ¬ b < (ds.length : Int) := of_decide_eq_false h2; omega
          walk_at "ws"
          refine WE.nameA rfl fun k' _ => .inl ⟨ds, .inr (.inl rfl), ?_⟩
          refine WE.lcFiltG (ltN rfl) rfl (fun d => !isNm d) ds 8 [] (by simp; unfold lineN; omega) (.inl ⟨rfl, rfl⟩) (fun d hd => ?_) (fun k2 => ?_)
          · walk_at "nenv"
            walk_at "ws"
            refine WE.callZ rfl (fun _ => rfl) (lnm_ok L l d _ (fds d hd) _ ⟨rfl, ?_⟩)
            walk_at "ws"
            exact ⟨by trivial, by trivial⟩
          · walk_at "nenv"
            walk_at "ws"
            refine WE.sop rfl (eqS_nilO (fit_okl fds dds _) _) ?_
            walk_at "ws"
            refine ⟨?_, _, rfl⟩
            rw [decide_eq_true h1, decide_eq_true h2, filter_empty]
            simp only [Bool.not_not, Bool.true_and, Bool.true_xor]
    · rintro _ _ ⟨rfl, k, rfl⟩
      refine ⟨fun h => ?_, fun h => ?_⟩
      · walk_at "ws"
        rw [Bool.not_eq_true'] at h
        rw [areN_tup, h, Bool.false_and] at q
        exact q
      · rw [Bool.not_eq_false'] at h
        walk_at "ws"
        have hn : ds.all isNm = true := by
          rw [Bool.and_eq_true] at h; exact h.2
        have es := strs_of hn
        have hl : (ds.map toS).length = ds.length := List.length_map _
        have hlb : (ds.length : Int) ≤ b := by
          rw [Bool.and_eq_true, Bool.and_eq_true, decide_eq_true_eq, decide_eq_true_eq] at h; exact h.1.2
        refine WE.sop (ds := [.tup ((ds.map toS).map D.str)]) (by rw [← es]; rfl) (lenSet_tup _ (by omega)) ?_
        walk_at "ws"
        have hv : (false ^^ ((DNT.cnt (List.map toS ds) (List.map toS ds).length : Nat) : Int) == ((ds.length : Nat) : Int)) = decide ((ds.map toS).Nodup) := by
          rw [Bool.false_xor, Bool.eq_iff_iff, beq_iff_eq, decide_eq_true_eq, ← hl]
          have := (cnt_nodup (ds.map toS) _ (Nat.le_refl _)).2
          rw [List.take_length] at this
          rw [← this]
          omega
        rw [hv]
        rw [areN_tup, h, Bool.true_and] at q
        exact q
end DN

set_option Elab.async false
set_option linter.all false
set_option maxRecDepth 100000
set_option maxHeartbeats 4000000
/-! The plain law of k00: what is a row. -/
namespace DN
open PySem PySem.Spec PyProof.Rows L2
variable [KSeq]
local macro_rules | `(tactic| walk_at "immt") => `(tactic| first | assumption | (with_unfolding_all exact rfl) | with_reducible exact imm_ints _ | with_reducible exact imm_strs _ | with_reducible exact imm_tupS _)
local macro_rules | `(tactic| walk_at "opd") => `(tactic| first
  | with_reducible assumption
  | with_reducible exact lenS_lst _ | with_reducible exact lenS_tup _ | with_reducible exact lenS_seq _ | with_reducible exact lenS_str (by with_unfolding_all first | assumption | omega)
  | with_reducible exact eqS_int _ _ _ | with_reducible exact eqS_ints_nil _ _ | with_reducible exact listK2_lst (by walk_at "immt") | with_reducible exact inS_lst _ (by assumption) (by assumption) | with_reducible exact inS_tup _ (by assumption) (by assumption) | with_reducible exact ordS_int _ _ _ | with_reducible exact addK_int _ _ _ _ | with_reducible exact subD_int _ _
  | with_reducible exact modD_int (by with_unfolding_all first | assumption | omega | decide)
  | with_reducible exact fdivD_int (by with_unfolding_all first | assumption | omega | decide) (by with_unfolding_all first | assumption | omega | decide)
  | with_reducible exact mulK_intR (by with_unfolding_all first | decide | omega) | with_reducible exact mulK_intL (by with_unfolding_all first | decide | omega)
  | with_reducible exact powD_int (by with_unfolding_all first | decide | omega) (by with_unfolding_all first | decide | omega) (by with_unfolding_all first | decide | omega)
  | with_reducible exact inS_intG _ (by with_unfolding_all exact rfl)
  | with_reducible exact slHi_lst (by walk_at "immt") | with_reducible exact slLo_lst (by walk_at "immt") | with_reducible exact tupK_lst (by walk_at "immt") | with_reducible exact max2S_int _ _ | with_reducible exact min2S_int _ _
  | with_unfolding_all exact rfl)
local macro_rules | `(tactic| walk_at "uni") => `(tactic| with_reducible first | exact uni_nil | exact uni_I (by walk_at "immt") (by walk_at "uni") | exact uni_1 (by walk_at "immt") (by walk_at "uni") | exact uni_j (by walk_at "immt") (by walk_at "uni"))
local macro_rules | `(tactic| walk_at "prep") => `(tactic| first
  | with_reducible exact prep_nil
  | (with_reducible apply prep_vF; walk_at "prep") | (with_reducible apply prep_vT; walk_at "prep")
  | (with_reducible apply prep_m; (with_unfolding_all exact rfl); walk_at "prep")
  | (with_reducible apply prep_i; (with_unfolding_all exact rfl); walk_at "immt"; walk_at "prep")
  | (with_reducible apply prep_f; (with_unfolding_all exact rfl); (with_unfolding_all exact rfl); walk_at "prep"))
local macro_rules | `(tactic| walk_at "w1") => `(tactic| with_reducible first
  | refine WS.seq ?_ | refine SqP.nx ?_ | refine SqP.rt ?_ | refine WS.skip ?_ | refine WS.ifS ?_ | refine WS.retv ?_ | refine WS.expr ?_ | refine WS.asgN ?_ | refine WS.asg ?_ | refine WS.par ?_ | refine WS.forS ?_
  | refine WE.opE ?_ | refine WE.ev ?_ | refine WE.eb (by with_unfolding_all exact rfl) ?_ | refine WE.e0 ?_ | refine WE.cst ?_ | refine WE.ret ?_ | refine WE.boolM ?_
  | refine WE.frz (WE.idx (by with_unfolding_all exact rfl) (by walk_at "opd") ?_) | refine WE.sop (by with_unfolding_all exact rfl) (by walk_at "opd") ?_ | refine WE.nop (by with_unfolding_all exact rfl) (by walk_at "opd") ?_ | refine WE.frz (WE.nop (by with_unfolding_all exact rfl) (by walk_at "opd") ?_)
  | refine WE.nameI (by with_unfolding_all exact rfl) (by walk_at "immt") ?_ | refine WE.movI (by with_unfolding_all exact rfl) (by walk_at "immt") ?_
  | refine WE.notM ?_ | refine WE.andM ?_ | refine WE.orM ?_ | refine WE.andV ?_ | refine WE.orV ?_ | refine WE.notV ?_ | refine WE.ifV ?_ | refine WE.chainV ?_ | refine WE.bind ?_ | refine WE.valM ?_ | refine WE.intS ?_ | refine WE.lcS ?_ | refine WE.itsR1 ?_ | refine WE.itsV ?_
  | refine WE.setRest (by with_unfolding_all exact rfl) ?_ | refine WE.setTurn (by with_unfolding_all exact rfl) ?_
  | refine WE.uniL (by walk_at "uni") (by with_unfolding_all exact of_decide_eq_true rfl) ?_ | refine WE.uniT (by walk_at "uni") (by with_unfolding_all exact of_decide_eq_true rfl) ?_
  | refine WE.pth (by with_unfolding_all exact rfl) (by with_unfolding_all exact rfl) (by with_unfolding_all exact rfl) (by with_unfolding_all exact rfl) (by with_unfolding_all exact rfl) (by with_unfolding_all exact rfl) ?_
  | refine WE.popAt (by with_unfolding_all exact rfl) (by first | with_reducible exact ixN_zero _ | with_unfolding_all exact rfl) (by with_unfolding_all exact rfl) (by with_unfolding_all exact rfl) ?_
  | refine WS.forH0 (by with_unfolding_all exact rfl) (by with_unfolding_all first | exact .inr rfl | exact .inl rfl) ?_
  | refine WE.callC (by first | with_unfolding_all exact rfl | walk_at "prep") ?_
  | refine WE.mth ?_)
local macro_rules | `(tactic| walk_at "nenv") => `(tactic| try simp only [kz_str, kz_int, Bool.false_eq_true, if_false, if_true, List.take_succ_cons, List.take_zero, List.take_nil, List.length_cons, List.length_nil, Nat.zero_add, Nat.reduceAdd, List.set_cons_zero, List.set_cons_succ, List.set_nil, zipO, puts, List.append_nil, List.cons_append, List.nil_append, wipeE, unwipe, slotE, List.getElem?_cons_zero, List.getElem?_cons_succ])
local macro_rules | `(tactic| walk_at "w2") => `(tactic| first
  | walk_at "w1"
  | (with_reducible refine ⟨ltN (by with_unfolding_all exact rfl), ?_⟩; try walk_at "nenv")
  | with_reducible refine ⟨small62_of (by omega) (by omega), ?_⟩
  | (with_reducible refine ⟨tyT (by with_unfolding_all exact rfl), ?_⟩; try walk_at "nenv")
  | (refine ⟨_, by with_unfolding_all exact rfl, ?_⟩; try walk_at "nenv")
  | with_reducible refine .inl ⟨_, .inl rfl, ?_⟩
  | with_reducible refine .inl ⟨_, .inr (.inl rfl), ?_⟩
  | with_reducible refine .inr ⟨_, rfl, ?_⟩
  | (with_reducible refine WE.nameF (by with_unfolding_all exact rfl) (by first | assumption | with_unfolding_all exact rfl) ?_; try walk_at "nenv")
  | (with_reducible refine WE.movF (by with_unfolding_all exact rfl) (by first | assumption | with_unfolding_all exact rfl) ?_; try walk_at "nenv")
  | refine ⟨fun _ => ?_, fun h => Bool.noConfusion (show true = false from h)⟩
  | refine ⟨fun h => Bool.noConfusion (show false = true from h), fun _ => ?_⟩)
local macro_rules | `(tactic| walk_at "ws") => `(tactic| repeat walk_at "w2")
local macro_rules | `(tactic| walk_at "bag") => `(tactic| refine ⟨Bag.cln1 _ _ _ (by walk_at "immt"), ?_⟩)
def isI : D → Bool
  | .int _ => true
  | _ => false
def isIn (a b : Int) : D → Bool
  | .int i => decide (a ≤ i) && decide (i ≤ b)
  | _ => false
theorem is_int_ok (L : Nat) (d : D) (k : Nat) (fd : d.fit L = true) (Q : Nat → D → List KD → Prop) (q : Q 9 (.bl (isI d)) []) : WR Q (R_k00_17 [(k, d)]) := by
  cases d with
  | dct kvs => simp [D.fit] at fd
  | seq ds => simp [D.fit] at fd
  | _ => exact WR.of rfl q
theorem is_number_ok (L : Nat) (d : D) (k : Nat) (fd : d.fit L = true) (Q : Nat → D → List KD → Prop) (q : Q 9 (.bl (isI d)) []) : WR Q (R_k00_2 [(k, d)]) := by
  cases d with
  | dct kvs => simp [D.fit] at fd
  | seq ds => simp [D.fit] at fd
  | _ => exact WR.of rfl q
theorem is_in_ok (L : Nat) (d : D) (k k1 k2 : Nat) (a b : Int) (hk : k = (kz d).1 ∨ isI d = true) (fd : d.fit L = true) (Q : Nat → D → List KD → Prop) (q : Q 9 (.bl (isIn a b d)) []) : WR Q (R_k00_3 [(k, d), (k1, .int a), (k2, .int b)]) := by
  cases d with
  | dct kvs => simp [D.fit] at fd
  | seq ds => simp [D.fit] at fd
  | int i =>
    refine WR.fn (ρ := [some (k, .int i), some (k1, .int a), some (k2, .int b)]) rfl ?_
    unfold F_k00_3
    walk_at "ws"
    refine is_number_ok L (.int i) _ fd _ ⟨rfl, ?_⟩
    walk_at "nenv"
    walk_at "ws"
    refine ⟨fun h => ?_, fun h => ?_⟩
    · walk_at "ws"
      rw [show isIn a b (.int i) = Ord4.le.i i b from by
        show (decide (a ≤ i) && decide (i ≤ b)) = decide (i ≤ b)
        rw [show decide (a ≤ i) = true from h, Bool.true_and]] at q
      exact q
    · walk_at "ws"
      rw [show isIn a b (.int i) = false from by
        show (decide (a ≤ i) && decide (i ≤ b)) = false
        rw [show decide (a ≤ i) = false from h, Bool.false_and]] at q
      exact q
  | tup ds =>
    obtain rfl : k = (kz (.tup ds)).1 := hk.resolve_right (by simp [isI])
    refine WR.fn (ρ := [some (kz (.tup ds)), some (k1, .int a), some (k2, .int b)]) rfl ?_
    unfold F_k00_3
    walk_at "ws"
    refine WE.callZ rfl (fun _ => rfl) (is_number_ok L _ _ fd _ ⟨rfl, ?_⟩)
    walk_at "ws"
    exact q
  | _ => exact WR.of rfl q
def pairB (os : List Str) (n : Int) : D → Bool
  | .tup [a, b] => isNm a && os.contains (toS a) && isIn 0 (n - 1) b
  | _ => false
def rowB (w : Nat) (os : List Str) (n : Int) : D → Bool
  | .tup ps => ps.length == w && ps.all (pairB os n)
  | _ => false
theorem fit_two {L : Nat} {a b : D} (h : (D.tup [a, b]).fit L = true) : a.fit L = true ∧ b.fit L = true := by
  obtain ⟨_, w⟩ := fit_tup.mp h
  exact ⟨w a (by simp), w b (by simp)⟩
theorem is_row_ok (L : Nat) (l : L ≤ 10000) (d : D) (fd : d.fit L = true) (bs : List D) (lb : bs.length ≤ L) (k1 : Nat) (os : List Str) (hos : ∀ x ∈ os, PyData.strOk x = true) (k2 : Nat) (n : Int) (k3 : Nat) (Q : Nat → D → List KD → Prop) (q : Q 9 (.bl (rowB bs.length os n d)) []) : WR Q (R_k00_8 [kz d, (k1, .tup bs), (k2, .tup (os.map .str)), (k3, .int n)]) := by
  cases d with
  | non => exact WR.of rfl q
  | bl b => exact WR.of rfl q
  | int i => exact WR.of rfl q
  | str x => exact WR.of rfl q
  | lst ds => exact WR.of rfl q
  | dct kvs => simp [D.fit] at fd
  | seq ds => simp [D.fit] at fd
  | tup ds =>
    obtain ⟨lds, fds⟩ := fit_tup.mp fd
    refine WR.fn (ρ := [some (kz (.tup ds)), some (k1, .tup bs), some (k2, .tup (os.map .str)), some (k3, .int n), none]) rfl ?_
    unfold F_k00_8
    walk_at "ws"
    refine ⟨fun h => ?_, fun h => ?_⟩
    · walk_at "ws"
      rw [show rowB bs.length os n (.tup ds) = false from by
        show (ds.length == bs.length && _) = false
        rw [show (ds.length == bs.length) = false from by
          rw [Bool.true_xor, Bool.not_eq_true', beq_eq_false_iff_ne] at h
          rw [beq_eq_false_iff_ne]; omega, Bool.false_and]] at q
      exact q
    · have hlen : (ds.length == bs.length) = true := by
        rw [Bool.true_xor, Bool.not_eq_false', beq_iff_eq] at h
        rw [beq_iff_eq]; omega
      walk_at "ws"
      refine WE.nameA rfl fun k' hk' => .inl ⟨ds, .inr (.inl rfl), ?_⟩
      walk_at "nenv"
      refine WS.loopAll (pairB os n) (fun ρ => ∃ k' y, ρ = [some (k', .tup ds), some (k1, .tup bs), some (k2, .tup (os.map .str)), some (k3, .int n), y]) ds ⟨_, _, rfl⟩ (by rintro _ ⟨k', y, rfl⟩; exact ltN rfl) (fun d hd ρ h => ?_) (fun ha ρ h => ?_) (fun ha ρ => ?_)
      · obtain ⟨k', y, rfl⟩ := h
        walk_at "nenv"
        have fd2 := fds d hd
        cases d with
        | non => walk_at "ws"; exact ⟨rfl, rfl, rfl⟩
        | bl b => walk_at "ws"; exact ⟨rfl, rfl, rfl⟩
        | int i => walk_at "ws"; exact ⟨rfl, rfl, rfl⟩
        | str x => walk_at "ws"; exact ⟨rfl, rfl, rfl⟩
        | lst ds => walk_at "ws"; exact ⟨rfl, rfl, rfl⟩
        | dct kvs => simp [D.fit] at fd2
        | seq ds => simp [D.fit] at fd2
        | tup ps =>
          walk_at "ws"
          refine ⟨fun h2 => ?_, fun h2 => ?_⟩
          · walk_at "ws"
            refine ⟨?_, rfl, rfl⟩
            match ps, h2 with
            | [], _ => rfl
            | [_], _ => rfl
            | [_, _], h2 => cases h2
            | _ :: _ :: _ :: _, _ => rfl
          · have : ∃ a b, ps = [a, b] := by
              rw [Bool.true_xor, Bool.not_eq_false', beq_iff_eq] at h2
              match ps, h2 with
              | [a, b], _ => exact ⟨a, b, rfl⟩
              | [], h2 => cases h2
              | [_], h2 => cases h2
              | _ :: _ :: _ :: _, h2 => simp only [List.length_cons] at h2; omega
            obtain ⟨a, b, rfl⟩ := this
            obtain ⟨fa, fb⟩ := fit_two fd2
            walk_at "ws"
            refine WE.frz (WE.idx rfl (idxK_tupG (d := a) (by simp [atI, ixN]) (kz_or _)) ?_)
            walk_at "ws"
            refine is_name_ok L l a _ fa _ ⟨by rfl, ?_⟩
            walk_at "nenv"
            walk_at "ws"
            refine ⟨fun hn => ?_, fun hn => ?_⟩
            · walk_at "ws"
              refine ⟨?_, rfl, rfl⟩
              show (isNm a && _ && _) = false
              rw [show isNm a = false from by simpa using hn]; rfl
            · have hn : isNm a = true := by simpa using hn
              obtain ⟨x, rfl, hx⟩ := isNm_str hn
              walk_at "ws"
              refine WE.sop rfl (inS_tup _ (nm_ok hx) hos) ?_
              walk_at "ws"
              refine ⟨fun hc => ?_, fun hc => ?_⟩
              · walk_at "ws"
                refine ⟨?_, rfl, rfl⟩
                show (isNm (.str x) && os.contains x && _) = false
                rw [show os.contains x = false from by simpa using hc, Bool.and_false]; rfl
              · walk_at "ws"
                refine WE.frz (WE.idx rfl (idxK_tupG (d := b) (by simp [atI, ixN]) (kz_or _)) ?_)
                walk_at "ws"
                refine is_in_ok L b _ _ _ _ _ (.inl rfl) fb _ ⟨by rfl, ?_⟩
                walk_at "nenv"
                walk_at "ws"
                have hp : pairB os n (.tup [.str x, b]) = isIn 0 (n - 1) b := by
                  show (isNm (.str x) && os.contains x && isIn 0 (n - 1) b) = _
                  rw [show os.contains x = true from by simpa using hc, hn]; rfl
                rw [hp]
                refine ⟨fun hi => ?_, fun hi => ?_⟩
                · walk_at "ws"
                  exact ⟨by simpa using hi, rfl, rfl⟩
                · walk_at "ws"
                  exact ⟨by simpa using hi, _, _, rfl⟩
      · obtain ⟨k', y, rfl⟩ := h
        walk_at "ws"
        rw [show rowB bs.length os n (.tup ds) = true from by
          show (ds.length == bs.length && ds.all _) = true
          rw [hlen, ha]; rfl] at q
        exact q
      · refine ⟨[], rfl, ?_⟩
        rw [show rowB bs.length os n (.tup ds) = false from by
          show (ds.length == bs.length && ds.all _) = false
          rw [hlen, ha]; rfl] at q
        exact q
end DN

set_option Elab.async false
set_option linter.all false
set_option maxRecDepth 100000
set_option maxHeartbeats 4000000
/-! The plain law of k00: what is a machine. -/
namespace DN
open PySem PySem.Spec PyProof.Rows L2
variable [KSeq]
local macro_rules | `(tactic| walk_at "immt") => `(tactic| first | assumption | (with_unfolding_all exact rfl) | with_reducible exact imm_ints _ | with_reducible exact imm_strs _ | with_reducible exact imm_tupS _)
local macro_rules | `(tactic| walk_at "opd") => `(tactic| first
  | with_reducible assumption
  | with_reducible exact lenS_lst _ | with_reducible exact lenS_tup _ | with_reducible exact lenS_seq _ | with_reducible exact lenS_str (by with_unfolding_all first | assumption | omega)
  | with_reducible exact eqS_int _ _ _ | with_reducible exact eqS_ints_nil _ _ | with_reducible exact listK2_lst (by walk_at "immt") | with_reducible exact inS_lst _ (by assumption) (by assumption) | with_reducible exact inS_tup _ (by assumption) (by assumption) | with_reducible exact ordS_int _ _ _ | with_reducible exact addK_int _ _ _ _ | with_reducible exact subD_int _ _
  | with_reducible exact modD_int (by with_unfolding_all first | assumption | omega | decide)
  | with_reducible exact fdivD_int (by with_unfolding_all first | assumption | omega | decide) (by with_unfolding_all first | assumption | omega | decide)
  | with_reducible exact mulK_intR (by with_unfolding_all first | decide | omega) | with_reducible exact mulK_intL (by with_unfolding_all first | decide | omega)
  | with_reducible exact powD_int (by with_unfolding_all first | decide | omega) (by with_unfolding_all first | decide | omega) (by with_unfolding_all first | decide | omega)
  | with_reducible exact inS_intG _ (by with_unfolding_all exact rfl)
  | with_reducible exact slHi_lst (by walk_at "immt") | with_reducible exact slLo_lst (by walk_at "immt") | with_reducible exact tupK_lst (by walk_at "immt") | with_reducible exact max2S_int _ _ | with_reducible exact min2S_int _ _
  | with_unfolding_all exact rfl)
local macro_rules | `(tactic| walk_at "uni") => `(tactic| with_reducible first | exact uni_nil | exact uni_I (by walk_at "immt") (by walk_at "uni") | exact uni_1 (by walk_at "immt") (by walk_at "uni") | exact uni_j (by walk_at "immt") (by walk_at "uni"))
local macro_rules | `(tactic| walk_at "prep") => `(tactic| first
  | with_reducible exact prep_nil
  | (with_reducible apply prep_vF; walk_at "prep") | (with_reducible apply prep_vT; walk_at "prep")
  | (with_reducible apply prep_m; (with_unfolding_all exact rfl); walk_at "prep")
  | (with_reducible apply prep_i; (with_unfolding_all exact rfl); walk_at "immt"; walk_at "prep")
  | (with_reducible apply prep_f; (with_unfolding_all exact rfl); (with_unfolding_all exact rfl); walk_at "prep"))
local macro_rules | `(tactic| walk_at "w1") => `(tactic| with_reducible first
  | refine WS.seq ?_ | refine SqP.nx ?_ | refine SqP.rt ?_ | refine WS.skip ?_ | refine WS.ifS ?_ | refine WS.retv ?_ | refine WS.expr ?_ | refine WS.asgN ?_ | refine WS.asg ?_ | refine WS.par ?_ | refine WS.forS ?_
  | refine WE.opE ?_ | refine WE.ev ?_ | refine WE.eb (by with_unfolding_all exact rfl) ?_ | refine WE.e0 ?_ | refine WE.cst ?_ | refine WE.ret ?_ | refine WE.boolM ?_
  | refine WE.frz (WE.idx (by with_unfolding_all exact rfl) (by walk_at "opd") ?_) | refine WE.sop (by with_unfolding_all exact rfl) (by walk_at "opd") ?_ | refine WE.nop (by with_unfolding_all exact rfl) (by walk_at "opd") ?_ | refine WE.frz (WE.nop (by with_unfolding_all exact rfl) (by walk_at "opd") ?_)
  | refine WE.nameI (by with_unfolding_all exact rfl) (by walk_at "immt") ?_ | refine WE.movI (by with_unfolding_all exact rfl) (by walk_at "immt") ?_
  | refine WE.notM ?_ | refine WE.andM ?_ | refine WE.orM ?_ | refine WE.andV ?_ | refine WE.orV ?_ | refine WE.notV ?_ | refine WE.ifV ?_ | refine WE.chainV ?_ | refine WE.bind ?_ | refine WE.valM ?_ | refine WE.intS ?_ | refine WE.lcS ?_ | refine WE.itsR1 ?_ | refine WE.itsV ?_
  | refine WE.setRest (by with_unfolding_all exact rfl) ?_ | refine WE.setTurn (by with_unfolding_all exact rfl) ?_
  | refine WE.uniL (by walk_at "uni") (by with_unfolding_all exact of_decide_eq_true rfl) ?_ | refine WE.uniT (by walk_at "uni") (by with_unfolding_all exact of_decide_eq_true rfl) ?_
  | refine WE.pth (by with_unfolding_all exact rfl) (by with_unfolding_all exact rfl) (by with_unfolding_all exact rfl) (by with_unfolding_all exact rfl) (by with_unfolding_all exact rfl) (by with_unfolding_all exact rfl) ?_
  | refine WE.popAt (by with_unfolding_all exact rfl) (by first | with_reducible exact ixN_zero _ | with_unfolding_all exact rfl) (by with_unfolding_all exact rfl) (by with_unfolding_all exact rfl) ?_
  | refine WS.forH0 (by with_unfolding_all exact rfl) (by with_unfolding_all first | exact .inr rfl | exact .inl rfl) ?_
  | refine WE.callC (by first | with_unfolding_all exact rfl | walk_at "prep") ?_
  | refine WE.mth ?_)
local macro_rules | `(tactic| walk_at "nenv") => `(tactic| try simp only [kz_str, kz_int, Bool.false_eq_true, if_false, if_true, List.take_succ_cons, List.take_zero, List.take_nil, List.length_cons, List.length_nil, Nat.zero_add, Nat.reduceAdd, List.set_cons_zero, List.set_cons_succ, List.set_nil, zipO, puts, List.append_nil, List.cons_append, List.nil_append, wipeE, unwipe, slotE, List.getElem?_cons_zero, List.getElem?_cons_succ])
local macro_rules | `(tactic| walk_at "w2") => `(tactic| first
  | walk_at "w1"
  | (with_reducible refine ⟨ltN (by with_unfolding_all exact rfl), ?_⟩; try walk_at "nenv")
  | with_reducible refine ⟨small62_of (by omega) (by omega), ?_⟩
  | (with_reducible refine ⟨tyT (by with_unfolding_all exact rfl), ?_⟩; try walk_at "nenv")
  | (refine ⟨_, by with_unfolding_all exact rfl, ?_⟩; try walk_at "nenv")
  | with_reducible refine .inl ⟨_, .inl rfl, ?_⟩
  | with_reducible refine .inl ⟨_, .inr (.inl rfl), ?_⟩
  | with_reducible refine .inr ⟨_, rfl, ?_⟩
  | (with_reducible refine WE.nameF (by with_unfolding_all exact rfl) (by first | assumption | with_unfolding_all exact rfl) ?_; try walk_at "nenv")
  | (with_reducible refine WE.movF (by with_unfolding_all exact rfl) (by first | assumption | with_unfolding_all exact rfl) ?_; try walk_at "nenv")
  | refine ⟨fun _ => ?_, fun h => Bool.noConfusion (show true = false from h)⟩
  | refine ⟨fun h => Bool.noConfusion (show false = true from h), fun _ => ?_⟩)
local macro_rules | `(tactic| walk_at "ws") => `(tactic| repeat walk_at "w2")
local macro_rules | `(tactic| walk_at "bag") => `(tactic| refine ⟨Bag.cln1 _ _ _ (by walk_at "immt"), ?_⟩)
def lenD : D → Nat
  | .tup ds => ds.length
  | _ => 0
def strsD : D → List Str
  | .tup ds => ds.map toS
  | _ => []
def isTup : D → Bool
  | .tup _ => true
  | _ => false
def isStr : D → Bool
  | .str _ => true
  | _ => false
def rowsB (w : Nat) (os : List Str) : D → Bool
  | .tup rows => decide (1 ≤ rows.length) && decide (rows.length ≤ 12) && rows.all (rowB w os rows.length)
  | _ => false
def isM : D → Bool
  | .tup [a, b, c, r] => isStr a && toS a == "machine" && areN 1 4 b && areN 2 4 c && rowsB (lenD b) (strsD c) r
  | _ => false
theorem areN_to {a b : Int} {d : D} (h : areN a b d = true) : ∃ ws : List Str, d = .tup (ws.map .str) ∧ (∀ x ∈ ws, nm x = true) ∧ ws.Nodup ∧ a ≤ ws.length ∧ (ws.length : Int) ≤ b := by
  cases d with
  | tup ds =>
    rw [areN_tup, Bool.and_eq_true, Bool.and_eq_true, Bool.and_eq_true, decide_eq_true_eq, decide_eq_true_eq, decide_eq_true_eq] at h
    have es := strs_of h.1.2
    refine ⟨ds.map toS, by rw [← es], fun x hx => ?_, h.2, by rw [List.length_map]; exact h.1.1.1, by rw [List.length_map]; exact h.1.1.2⟩
    obtain ⟨d, hd, rfl⟩ := List.mem_map.mp hx
    obtain ⟨x, rfl, hx2⟩ := isNm_str (List.all_eq_true.mp h.1.2 d hd)
    exact hx2
  | _ => simp [areN] at h
theorem isM_len {ds : List D} (h : ds.length ≠ 4) : isM (.tup ds) = false := by
  match ds, h with
  | [], _ => rfl
  | [_], _ => rfl
  | [_, _], _ => rfl
  | [_, _, _], _ => rfl
  | [_, _, _, _], h => exact absurd rfl h
  | _ :: _ :: _ :: _ :: _ :: _, _ => rfl
theorem four_of {ds : List D} (h : ds.length = 4) : ∃ a b c r, ds = [a, b, c, r] := by
  match ds, h with
  | [a, b, c, r], _ => exact ⟨a, b, c, r, rfl⟩
theorem is_machine_ok (L : Nat) (l : L ≤ 10000) (d : D) (fd : d.fit L = true) (Q : Nat → D → List KD → Prop) (q : Q 9 (.bl (isM d)) []) : WR Q (R_k00_9 [kz d]) := by
  cases d with
  | non => exact WR.of rfl q
  | bl b => exact WR.of rfl q
  | int i => exact WR.of rfl q
  | str x => exact WR.of rfl q
  | lst ds => exact WR.of rfl q
  | dct kvs => simp [D.fit] at fd
  | seq ds => simp [D.fit] at fd
  | tup ds =>
    obtain ⟨lds, fds⟩ := fit_tup.mp fd
    refine WR.fn (ρ := [some (kz (.tup ds)), none]) rfl ?_
    unfold F_k00_9
    walk_at "ws"
    refine ⟨fun h => ?_, fun h => ?_⟩
    · walk_at "ws"
      rw [isM_len (fun e => by rw [e] at h; cases h)] at q
      exact q
    · obtain ⟨a, b, c, r, rfl⟩ := four_of (ds := ds) (by rw [Bool.true_xor, Bool.not_eq_false', beq_iff_eq] at h; omega)
      have fa := fds a (by simp)
      have fb := fds b (by simp)
      have fc := fds c (by simp)
      have fr := fds r (by simp)
      have ia : idxK [kz (.tup [a, b, c, r]), (9, .int 0)] = some (kz a) := idxK_tupG rfl (kz_or _)
      have ib : idxK [kz (.tup [a, b, c, r]), (9, .int 1)] = some (kz b) := idxK_tupG rfl (kz_or _)
      have ic : idxK [kz (.tup [a, b, c, r]), (9, .int 2)] = some (kz c) := idxK_tupG rfl (kz_or _)
      have ir : idxK [kz (.tup [a, b, c, r]), (9, .int 3)] = some (kz r) := idxK_tupG rfl (kz_or _)
      clear h
      walk_at "ws"
      cases a with
      | dct kvs => simp [D.fit] at fa
      | seq ds => simp [D.fit] at fa
      | non => walk_at "ws"; exact q
      | bl _ => walk_at "ws"; exact q
      | int _ => walk_at "ws"; exact q
      | tup _ => walk_at "ws"; exact q
      | lst _ => walk_at "ws"; exact q
      | str s =>
        have os := (fit_str.mp fa).2
        walk_at "ws"
        refine WE.sop rfl (eqS_str _ os (by decide +kernel)) ?_
        walk_at "ws"
        have hM : isM (.tup [.str s, b, c, r]) = ((s == "machine") && areN 1 4 b && areN 2 4 c && rowsB (lenD b) (strsD c) r) := by
          show (true && s == "machine" && _ && _ && _) = _
          rw [Bool.true_and]
        rw [hM] at q
        refine ⟨fun h => ?_, fun h => ?_⟩
        · walk_at "ws"
          rw [show (s == ("machine" : Str)) = false from by simpa using h] at q
          exact q
        · rw [show (s == ("machine" : Str)) = true from by simpa using h, Bool.true_and] at q
          walk_at "ws"
          refine are_names_ok L l b _ (kz_or b) fb _ _ _ _ _ ⟨by rfl, ?_⟩
          walk_at "nenv"
          walk_at "ws"
          refine ⟨fun h => ?_, fun h => ?_⟩
          · walk_at "ws"
            rw [show areN 1 4 b = false from by simpa using h] at q
            exact q
          · have hb : areN 1 4 b = true := by simpa using h
            rw [hb, Bool.true_and] at q
            walk_at "ws"
            refine are_names_ok L l c _ (kz_or c) fc _ _ _ _ _ ⟨by rfl, ?_⟩
            walk_at "nenv"
            walk_at "ws"
            refine ⟨fun h => ?_, fun h => ?_⟩
            · walk_at "ws"
              rw [show areN 2 4 c = false from by simpa using h] at q
              exact q
            · have hc : areN 2 4 c = true := by simpa using h
              rw [hc, Bool.true_and] at q
              walk_at "ws"
              cases r with
              | dct kvs => simp [D.fit] at fr
              | seq ds => simp [D.fit] at fr
              | non => walk_at "ws"; exact q
              | bl _ => walk_at "ws"; exact q
              | int _ => walk_at "ws"; exact q
              | str _ => walk_at "ws"; exact q
              | lst _ => walk_at "ws"; exact q
              | tup rows =>
                obtain ⟨lr, frs⟩ := fit_tup.mp fr
                walk_at "ws"
                have hR : rowsB (lenD b) (strsD c) (.tup rows) = (decide (1 ≤ rows.length) && decide (rows.length ≤ 12) && rows.all (rowB (lenD b) (strsD c) rows.length)) := rfl
                rw [hR] at q
                refine ⟨fun h1 => ?_, fun h1 => ?_⟩
                · rw [show decide (1 ≤ rows.length) = true from decide_eq_true (by have : (1 : Int) ≤ rows.length := of_decide_eq_true h1; omega), Bool.true_and] at q
                  walk_at "ws"
                  refine ⟨fun h2 => ?_, fun h2 => ?_⟩
                  · rw [show decide (rows.length ≤ 12) = false from decide_eq_false (by have : ¬ (rows.length : Int) ≤ 12 := of_decide_eq_false ((Bool.not_eq_true' _).mp h2); omega)] at q
                    walk_at "ws"
                    exact q
                  · rw [show decide (rows.length ≤ 12) = true from decide_eq_true (by have : (rows.length : Int) ≤ 12 := of_decide_eq_true ((Bool.not_eq_false' _).mp h2); omega), Bool.true_and] at q
                    obtain ⟨bs, rfl, hbs, _⟩ := areN_to hb
                    obtain ⟨cs, rfl, hcs, _⟩ := areN_to hc
                    have hlen : ((bs.map D.str).length : Nat) = bs.length := List.length_map _
                    rw [show lenD (.tup (bs.map D.str)) = bs.length from hlen, show strsD (.tup (cs.map D.str)) = cs from toS_map cs] at q
                    walk_at "ws"
                    refine WS.loopAll (rowB bs.length cs rows.length) (fun ρ => ∃ y, ρ = [some (kz (D.tup [D.str s, D.tup (List.map D.str bs), D.tup (List.map D.str cs), D.tup rows])), y]) rows ⟨_, rfl⟩ (by rintro _ ⟨y, rfl⟩; exact ltN rfl) (fun d hd ρ h => ?_) (fun ha ρ h => ?_) (fun ha ρ => ?_)
                    · obtain ⟨y, rfl⟩ := h
                      walk_at "nenv"
                      walk_at "ws"
                      have hrow := is_row_ok L l d (frs d hd) (bs.map D.str) ((fit_tup.mp fb).1) (kz (.tup (bs.map D.str))).1 cs (fun x hx => nm_ok (hcs x hx)) (kz (.tup (cs.map D.str))).1 rows.length 9
                      refine WE.callZ rfl (fun _ => rfl) (hrow _ ⟨rfl, ?_⟩)
                      rw [hlen]
                      walk_at "ws"
                      refine ⟨fun hi => ?_, fun hi => ?_⟩
                      · walk_at "ws"
                        exact ⟨by simpa using hi, rfl, rfl⟩
                      · walk_at "ws"
                        exact ⟨by simpa using hi, _, rfl⟩
                    · obtain ⟨y, rfl⟩ := h
                      walk_at "ws"
                      rw [ha] at q
                      exact q
                    · rw [ha] at q
                      exact ⟨[], rfl, q⟩
                · rw [show decide (1 ≤ rows.length) = false from decide_eq_false (by have : ¬ (1 : Int) ≤ rows.length := of_decide_eq_false h1; omega)] at q
                  walk_at "ws"
                  exact q
end DN

set_option Elab.async false
set_option linter.all false
set_option maxRecDepth 100000
set_option maxHeartbeats 4000000
/-! The plain law of k00: what is a machine, by the law. -/
namespace DN
open PySem PySem.Spec PyProof.Rows L2
variable [KSeq]
local macro_rules | `(tactic| walk_at "immt") => `(tactic| first | assumption | (with_unfolding_all exact rfl) | with_reducible exact imm_ints _ | with_reducible exact imm_strs _ | with_reducible exact imm_tupS _)
local macro_rules | `(tactic| walk_at "opd") => `(tactic| first
  | with_reducible assumption
  | with_reducible exact lenS_lst _ | with_reducible exact lenS_tup _ | with_reducible exact lenS_seq _ | with_reducible exact lenS_str (by with_unfolding_all first | assumption | omega)
  | with_reducible exact eqS_int _ _ _ | with_reducible exact eqS_ints_nil _ _ | with_reducible exact listK2_lst (by walk_at "immt") | with_reducible exact inS_lst _ (by assumption) (by assumption) | with_reducible exact inS_tup _ (by assumption) (by assumption) | with_reducible exact ordS_int _ _ _ | with_reducible exact addK_int _ _ _ _ | with_reducible exact subD_int _ _
  | with_reducible exact modD_int (by with_unfolding_all first | assumption | omega | decide)
  | with_reducible exact fdivD_int (by with_unfolding_all first | assumption | omega | decide) (by with_unfolding_all first | assumption | omega | decide)
  | with_reducible exact mulK_intR (by with_unfolding_all first | decide | omega) | with_reducible exact mulK_intL (by with_unfolding_all first | decide | omega)
  | with_reducible exact powD_int (by with_unfolding_all first | decide | omega) (by with_unfolding_all first | decide | omega) (by with_unfolding_all first | decide | omega)
  | with_reducible exact inS_intG _ (by with_unfolding_all exact rfl)
  | with_reducible exact slHi_lst (by walk_at "immt") | with_reducible exact slLo_lst (by walk_at "immt") | with_reducible exact tupK_lst (by walk_at "immt") | with_reducible exact max2S_int _ _ | with_reducible exact min2S_int _ _
  | with_unfolding_all exact rfl)
local macro_rules | `(tactic| walk_at "uni") => `(tactic| with_reducible first | exact uni_nil | exact uni_I (by walk_at "immt") (by walk_at "uni") | exact uni_1 (by walk_at "immt") (by walk_at "uni") | exact uni_j (by walk_at "immt") (by walk_at "uni"))
local macro_rules | `(tactic| walk_at "prep") => `(tactic| first
  | with_reducible exact prep_nil
  | (with_reducible apply prep_vF; walk_at "prep") | (with_reducible apply prep_vT; walk_at "prep")
  | (with_reducible apply prep_m; (with_unfolding_all exact rfl); walk_at "prep")
  | (with_reducible apply prep_i; (with_unfolding_all exact rfl); walk_at "immt"; walk_at "prep")
  | (with_reducible apply prep_f; (with_unfolding_all exact rfl); (with_unfolding_all exact rfl); walk_at "prep"))
local macro_rules | `(tactic| walk_at "w1") => `(tactic| with_reducible first
  | refine WS.seq ?_ | refine SqP.nx ?_ | refine SqP.rt ?_ | refine WS.skip ?_ | refine WS.ifS ?_ | refine WS.retv ?_ | refine WS.expr ?_ | refine WS.asgN ?_ | refine WS.asg ?_ | refine WS.par ?_ | refine WS.forS ?_
  | refine WE.opE ?_ | refine WE.ev ?_ | refine WE.eb (by with_unfolding_all exact rfl) ?_ | refine WE.e0 ?_ | refine WE.cst ?_ | refine WE.ret ?_ | refine WE.boolM ?_
  | refine WE.frz (WE.idx (by with_unfolding_all exact rfl) (by walk_at "opd") ?_) | refine WE.sop (by with_unfolding_all exact rfl) (by walk_at "opd") ?_ | refine WE.nop (by with_unfolding_all exact rfl) (by walk_at "opd") ?_ | refine WE.frz (WE.nop (by with_unfolding_all exact rfl) (by walk_at "opd") ?_)
  | refine WE.nameI (by with_unfolding_all exact rfl) (by walk_at "immt") ?_ | refine WE.movI (by with_unfolding_all exact rfl) (by walk_at "immt") ?_
  | refine WE.notM ?_ | refine WE.andM ?_ | refine WE.orM ?_ | refine WE.andV ?_ | refine WE.orV ?_ | refine WE.notV ?_ | refine WE.ifV ?_ | refine WE.chainV ?_ | refine WE.bind ?_ | refine WE.valM ?_ | refine WE.intS ?_ | refine WE.lcS ?_ | refine WE.itsR1 ?_ | refine WE.itsV ?_
  | refine WE.setRest (by with_unfolding_all exact rfl) ?_ | refine WE.setTurn (by with_unfolding_all exact rfl) ?_
  | refine WE.uniL (by walk_at "uni") (by with_unfolding_all exact of_decide_eq_true rfl) ?_ | refine WE.uniT (by walk_at "uni") (by with_unfolding_all exact of_decide_eq_true rfl) ?_
  | refine WE.pth (by with_unfolding_all exact rfl) (by with_unfolding_all exact rfl) (by with_unfolding_all exact rfl) (by with_unfolding_all exact rfl) (by with_unfolding_all exact rfl) (by with_unfolding_all exact rfl) ?_
  | refine WE.popAt (by with_unfolding_all exact rfl) (by first | with_reducible exact ixN_zero _ | with_unfolding_all exact rfl) (by with_unfolding_all exact rfl) (by with_unfolding_all exact rfl) ?_
  | refine WS.forH0 (by with_unfolding_all exact rfl) (by with_unfolding_all first | exact .inr rfl | exact .inl rfl) ?_
  | refine WE.callC (by first | with_unfolding_all exact rfl | walk_at "prep") ?_
  | refine WE.mth ?_)
local macro_rules | `(tactic| walk_at "nenv") => `(tactic| try simp only [kz_str, kz_int, Bool.false_eq_true, if_false, if_true, List.take_succ_cons, List.take_zero, List.take_nil, List.length_cons, List.length_nil, Nat.zero_add, Nat.reduceAdd, List.set_cons_zero, List.set_cons_succ, List.set_nil, zipO, puts, List.append_nil, List.cons_append, List.nil_append, wipeE, unwipe, slotE, List.getElem?_cons_zero, List.getElem?_cons_succ])
local macro_rules | `(tactic| walk_at "w2") => `(tactic| first
  | walk_at "w1"
  | (with_reducible refine ⟨ltN (by with_unfolding_all exact rfl), ?_⟩; try walk_at "nenv")
  | with_reducible refine ⟨small62_of (by omega) (by omega), ?_⟩
  | (with_reducible refine ⟨tyT (by with_unfolding_all exact rfl), ?_⟩; try walk_at "nenv")
  | (refine ⟨_, by with_unfolding_all exact rfl, ?_⟩; try walk_at "nenv")
  | with_reducible refine .inl ⟨_, .inl rfl, ?_⟩
  | with_reducible refine .inl ⟨_, .inr (.inl rfl), ?_⟩
  | with_reducible refine .inr ⟨_, rfl, ?_⟩
  | (with_reducible refine WE.nameF (by with_unfolding_all exact rfl) (by first | assumption | with_unfolding_all exact rfl) ?_; try walk_at "nenv")
  | (with_reducible refine WE.movF (by with_unfolding_all exact rfl) (by first | assumption | with_unfolding_all exact rfl) ?_; try walk_at "nenv")
  | refine ⟨fun _ => ?_, fun h => Bool.noConfusion (show true = false from h)⟩
  | refine ⟨fun h => Bool.noConfusion (show false = true from h), fun _ => ?_⟩)
local macro_rules | `(tactic| walk_at "ws") => `(tactic| repeat walk_at "w2")
local macro_rules | `(tactic| walk_at "bag") => `(tactic| refine ⟨Bag.cln1 _ _ _ (by walk_at "immt"), ?_⟩)
def B25 : S := seqS (ifS (notM (boolM (opE [.b 1] (sop (isiS "tuple"))))) (seqS (retS (cst (.bl false))) (skipS)) (skipS)) (seqS (ifS (boolM (opE [.v (opE [.b 1] (sop lenS)), .v (opE [.v (opE [.b 0, .v (cst (.int 1))] (frzOps idxOp))] (sop lenS))] (sop (eqS true)))) (seqS (retS (cst (.bl false))) (skipS)) (skipS)) (seqS (forH 1 (.n 2) (seqS (ifS (notM (boolM (opE [.b 2] (sop (isiS "tuple"))))) (seqS (retS (cst (.bl false))) (skipS)) (skipS)) (seqS (ifS (orM (boolM (opE [.v (opE [.b 2] (sop lenS)), .v (cst (.int 2))] (sop (eqS true)))) (orM (notM (boolM (opE [.v (opE [.b 2, .v (cst (.int 0))] (frzOps idxOp))] (callG [false] R_k00_23)))) (notM (boolM (opE [.v (opE [.b 2, .v (cst (.int 1))] (frzOps idxOp))] (callG [false] R_k00_17)))))) (seqS (retS (cst (.bl false))) (skipS)) (skipS)) (seqS (ifS (orM (boolM (opE [.v (opE [.b 2, .v (cst (.int 0))] (frzOps idxOp)), .v (opE [.b 0, .v (cst (.int 2))] (frzOps idxOp))] (sop (inS true)))) (boolM (opE [.v (opE [.b 2, .v (cst (.int 1))] (frzOps idxOp)), .v (opE [.v (opE [.b 0, .v (cst (.int 3))] (frzOps idxOp))] (sop lenS))] (sop (rng1S true))))) (seqS (retS (cst (.bl false))) (skipS)) (skipS)) (skipS))))) (skipS)))
theorem lrow_ok (L : Nat) (l : L ≤ 10000) (M : List D) (bs cs : List Str) (rows : List D) (s0 : D) (hM : M = [s0, .tup (bs.map .str), .tup (cs.map .str), .tup rows]) (hcs : ∀ x ∈ cs, nm x = true) (d : D) (fd2 : d.fit L = true) (y z : Sl) : WS (OneP (rowB bs.length cs rows.length d) (fun ρ => ∃ y z, ρ = [some (kz (D.tup M)), y, z])) (B25 [some (kz (D.tup M)), some (kz d), z]) := by
  have ib : idxK [kz (.tup M), (9, .int 1)] = some (kz (.tup (bs.map .str))) := idxK_tupG (by rw [hM]; rfl) (kz_or _)
  have ic : idxK [kz (.tup M), (9, .int 2)] = some (kz (.tup (cs.map .str))) := idxK_tupG (by rw [hM]; rfl) (kz_or _)
  have ir : idxK [kz (.tup M), (9, .int 3)] = some (kz (.tup rows)) := idxK_tupG (by rw [hM]; rfl) (kz_or _)
  clear hM
  have hlen : ((bs.map D.str).length : Nat) = bs.length := List.length_map _
  unfold B25
  cases d with
  | dct kvs => simp [D.fit] at fd2
  | seq ds => simp [D.fit] at fd2
  | non => walk_at "ws"; exact ⟨rfl, rfl, rfl⟩
  | bl b => walk_at "ws"; exact ⟨rfl, rfl, rfl⟩
  | int i => walk_at "ws"; exact ⟨rfl, rfl, rfl⟩
  | str x => walk_at "ws"; exact ⟨rfl, rfl, rfl⟩
  | lst ds => walk_at "ws"; exact ⟨rfl, rfl, rfl⟩
  | tup ps =>
    obtain ⟨lps, fps⟩ := fit_tup.mp fd2
    walk_at "ws"
    have hR : rowB bs.length cs rows.length (.tup ps) = (ps.length == bs.length && ps.all (pairB cs rows.length)) := rfl
    rw [hR]
    refine ⟨fun h => ?_, fun h => ?_⟩
    · walk_at "ws"
      refine ⟨?_, rfl, rfl⟩
      rw [show (ps.length == bs.length) = false from by
        rw [Bool.true_xor, Bool.not_eq_true', beq_eq_false_iff_ne] at h
        rw [beq_eq_false_iff_ne]; omega, Bool.false_and]
    · rw [show (ps.length == bs.length) = true from by
        rw [Bool.true_xor, Bool.not_eq_false', beq_iff_eq] at h
        rw [beq_iff_eq]; omega, Bool.true_and]
      walk_at "ws"
      refine WE.nameA rfl fun k' hk' => .inl ⟨ps, .inr (.inl rfl), ?_⟩
      walk_at "nenv"
      refine WS.loopAll (pairB cs rows.length) (fun ρ => ∃ k y, ρ = [some (kz (D.tup M)), some (k, D.tup ps), y]) ps ⟨_, _, rfl⟩ (by rintro _ ⟨k, y, rfl⟩; exact ltN rfl) (fun d hd ρ h => ?_) (fun ha ρ h => ?_) (fun ha ρ => ?_)
      · obtain ⟨k, y, rfl⟩ := h
        have fd3 := fps d hd
        walk_at "nenv"
        cases d with
        | dct kvs => simp [D.fit] at fd3
        | seq ds => simp [D.fit] at fd3
        | non => walk_at "ws"; exact ⟨rfl, rfl, rfl⟩
        | bl b => walk_at "ws"; exact ⟨rfl, rfl, rfl⟩
        | int i => walk_at "ws"; exact ⟨rfl, rfl, rfl⟩
        | str x => walk_at "ws"; exact ⟨rfl, rfl, rfl⟩
        | lst ds => walk_at "ws"; exact ⟨rfl, rfl, rfl⟩
        | tup qs =>
          walk_at "ws"
          refine ⟨fun h2 => ?_, fun h2 => ?_⟩
          · walk_at "ws"
            refine ⟨?_, rfl, rfl⟩
            match qs, h2 with
            | [], _ => rfl
            | [_], _ => rfl
            | [_, _], h2 => cases h2
            | _ :: _ :: _ :: _, _ => rfl
          · have : ∃ a b, qs = [a, b] := by
              rw [Bool.true_xor, Bool.not_eq_false', beq_iff_eq] at h2
              match qs, h2 with
              | [a, b], _ => exact ⟨a, b, rfl⟩
              | [], h2 => cases h2
              | [_], h2 => cases h2
              | _ :: _ :: _ :: _, h2 => simp only [List.length_cons] at h2; omega
            obtain ⟨a, b, rfl⟩ := this
            obtain ⟨fa, fb⟩ := fit_two fd3
            have ja : idxK [kz (.tup [a, b]), (9, .int 0)] = some (kz a) := idxK_tupG rfl (kz_or _)
            have jb : idxK [kz (.tup [a, b]), (9, .int 1)] = some (kz b) := idxK_tupG rfl (kz_or _)
            have hP : pairB cs rows.length (.tup [a, b]) = (isNm a && cs.contains (toS a) && isIn 0 (rows.length - 1) b) := rfl
            rw [hP]
            clear h2 h hR
            walk_at "ws"
            refine lnm_ok L l a _ fa _ ⟨by rfl, ?_⟩
            walk_at "nenv"
            walk_at "ws"
            refine ⟨fun hn => ?_, fun hn => ?_⟩
            · walk_at "ws"
              exact ⟨by rw [show isNm a = false from by simpa using hn]; rfl, rfl, rfl⟩
            · have hn : isNm a = true := by simpa using hn
              rw [hn, Bool.true_and]
              walk_at "ws"
              refine is_int_ok L b _ fb _ ⟨by rfl, ?_⟩
              walk_at "nenv"
              walk_at "ws"
              refine ⟨fun hi => ?_, fun hi => ?_⟩
              · walk_at "ws"
                have hi : isI b = false := by simpa using hi
                refine ⟨?_, rfl, rfl⟩
                have : isIn 0 ((rows.length : Int) - 1) b = false := by
                  cases b <;> first | rfl | cases hi
                rw [this, Bool.and_false]
              · obtain ⟨x, rfl, hx⟩ := isNm_str hn
                have hi : isI b = true := by simpa using hi
                have hb : ∃ i, b = .int i := by
                  cases b <;> first | exact ⟨_, rfl⟩ | cases hi
                obtain ⟨i, rfl⟩ := hb
                walk_at "ws"
                refine WE.sop rfl (inS_tup _ (nm_ok hx) (fun z hz => nm_ok (hcs z hz))) ?_
                walk_at "ws"
                have hI : isIn 0 ((rows.length : Int) - 1) (.int i) = decide (0 ≤ i ∧ i < (rows.length : Int)) := by
                  show (decide (0 ≤ i) && decide (i ≤ (rows.length : Int) - 1)) = _
                  rw [Bool.eq_iff_iff, Bool.and_eq_true, decide_eq_true_eq, decide_eq_true_eq, decide_eq_true_eq]
                  omega
                rw [hI, show toS (D.str x) = x from rfl]
                refine ⟨fun hc => ?_, fun hc => ?_⟩
                · walk_at "ws"
                  exact ⟨by rw [show cs.contains x = false from by simpa using hc]; rfl, rfl, rfl⟩
                · rw [show cs.contains x = true from by simpa using hc, Bool.true_and]
                  walk_at "ws"
                  refine ⟨fun hr => ?_, fun hr => ?_⟩
                  · walk_at "ws"
                    exact ⟨by rw [Bool.true_xor] at hr; exact (Bool.not_eq_true' _).mp hr, rfl, rfl⟩
                  · walk_at "ws"
                    exact ⟨by rw [Bool.true_xor] at hr; exact (Bool.not_eq_false' _).mp hr, _, _, rfl⟩
      · obtain ⟨k, y, rfl⟩ := h
        walk_at "ws"
        exact ⟨ha, _, _, rfl⟩
      · exact ⟨ha, rfl, rfl⟩
end DN

set_option Elab.async false
set_option linter.all false
set_option maxRecDepth 100000
set_option maxHeartbeats 4000000
/-! The plain law of k00: what is a machine, by the law. -/
namespace DN
open PySem PySem.Spec PyProof.Rows L2
variable [KSeq]
local macro_rules | `(tactic| walk_at "immt") => `(tactic| first | assumption | (with_unfolding_all exact rfl) | with_reducible exact imm_ints _ | with_reducible exact imm_strs _ | with_reducible exact imm_tupS _)
local macro_rules | `(tactic| walk_at "opd") => `(tactic| first
  | with_reducible assumption
  | with_reducible exact lenS_lst _ | with_reducible exact lenS_tup _ | with_reducible exact lenS_seq _ | with_reducible exact lenS_str (by with_unfolding_all first | assumption | omega)
  | with_reducible exact eqS_int _ _ _ | with_reducible exact eqS_ints_nil _ _ | with_reducible exact listK2_lst (by walk_at "immt") | with_reducible exact inS_lst _ (by assumption) (by assumption) | with_reducible exact inS_tup _ (by assumption) (by assumption) | with_reducible exact ordS_int _ _ _ | with_reducible exact addK_int _ _ _ _ | with_reducible exact subD_int _ _
  | with_reducible exact modD_int (by with_unfolding_all first | assumption | omega | decide)
  | with_reducible exact fdivD_int (by with_unfolding_all first | assumption | omega | decide) (by with_unfolding_all first | assumption | omega | decide)
  | with_reducible exact mulK_intR (by with_unfolding_all first | decide | omega) | with_reducible exact mulK_intL (by with_unfolding_all first | decide | omega)
  | with_reducible exact powD_int (by with_unfolding_all first | decide | omega) (by with_unfolding_all first | decide | omega) (by with_unfolding_all first | decide | omega)
  | with_reducible exact inS_intG _ (by with_unfolding_all exact rfl)
  | with_reducible exact slHi_lst (by walk_at "immt") | with_reducible exact slLo_lst (by walk_at "immt") | with_reducible exact tupK_lst (by walk_at "immt") | with_reducible exact max2S_int _ _ | with_reducible exact min2S_int _ _
  | with_unfolding_all exact rfl)
local macro_rules | `(tactic| walk_at "uni") => `(tactic| with_reducible first | exact uni_nil | exact uni_I (by walk_at "immt") (by walk_at "uni") | exact uni_1 (by walk_at "immt") (by walk_at "uni") | exact uni_j (by walk_at "immt") (by walk_at "uni"))
local macro_rules | `(tactic| walk_at "prep") => `(tactic| first
  | with_reducible exact prep_nil
  | (with_reducible apply prep_vF; walk_at "prep") | (with_reducible apply prep_vT; walk_at "prep")
  | (with_reducible apply prep_m; (with_unfolding_all exact rfl); walk_at "prep")
  | (with_reducible apply prep_i; (with_unfolding_all exact rfl); walk_at "immt"; walk_at "prep")
  | (with_reducible apply prep_f; (with_unfolding_all exact rfl); (with_unfolding_all exact rfl); walk_at "prep"))
local macro_rules | `(tactic| walk_at "w1") => `(tactic| with_reducible first
  | refine WS.seq ?_ | refine SqP.nx ?_ | refine SqP.rt ?_ | refine WS.skip ?_ | refine WS.ifS ?_ | refine WS.retv ?_ | refine WS.expr ?_ | refine WS.asgN ?_ | refine WS.asg ?_ | refine WS.par ?_ | refine WS.forS ?_
  | refine WE.opE ?_ | refine WE.ev ?_ | refine WE.eb (by with_unfolding_all exact rfl) ?_ | refine WE.e0 ?_ | refine WE.cst ?_ | refine WE.ret ?_ | refine WE.boolM ?_
  | refine WE.frz (WE.idx (by with_unfolding_all exact rfl) (by walk_at "opd") ?_) | refine WE.sop (by with_unfolding_all exact rfl) (by walk_at "opd") ?_ | refine WE.nop (by with_unfolding_all exact rfl) (by walk_at "opd") ?_ | refine WE.frz (WE.nop (by with_unfolding_all exact rfl) (by walk_at "opd") ?_)
  | refine WE.nameI (by with_unfolding_all exact rfl) (by walk_at "immt") ?_ | refine WE.movI (by with_unfolding_all exact rfl) (by walk_at "immt") ?_
  | refine WE.notM ?_ | refine WE.andM ?_ | refine WE.orM ?_ | refine WE.andV ?_ | refine WE.orV ?_ | refine WE.notV ?_ | refine WE.ifV ?_ | refine WE.chainV ?_ | refine WE.bind ?_ | refine WE.valM ?_ | refine WE.intS ?_ | refine WE.lcS ?_ | refine WE.itsR1 ?_ | refine WE.itsV ?_
  | refine WE.setRest (by with_unfolding_all exact rfl) ?_ | refine WE.setTurn (by with_unfolding_all exact rfl) ?_
  | refine WE.uniL (by walk_at "uni") (by with_unfolding_all exact of_decide_eq_true rfl) ?_ | refine WE.uniT (by walk_at "uni") (by with_unfolding_all exact of_decide_eq_true rfl) ?_
  | refine WE.pth (by with_unfolding_all exact rfl) (by with_unfolding_all exact rfl) (by with_unfolding_all exact rfl) (by with_unfolding_all exact rfl) (by with_unfolding_all exact rfl) (by with_unfolding_all exact rfl) ?_
  | refine WE.popAt (by with_unfolding_all exact rfl) (by first | with_reducible exact ixN_zero _ | with_unfolding_all exact rfl) (by with_unfolding_all exact rfl) (by with_unfolding_all exact rfl) ?_
  | refine WS.forH0 (by with_unfolding_all exact rfl) (by with_unfolding_all first | exact .inr rfl | exact .inl rfl) ?_
  | refine WE.callC (by first | with_unfolding_all exact rfl | walk_at "prep") ?_
  | refine WE.mth ?_)
local macro_rules | `(tactic| walk_at "nenv") => `(tactic| try simp only [kz_str, kz_int, Bool.false_eq_true, if_false, if_true, List.take_succ_cons, List.take_zero, List.take_nil, List.length_cons, List.length_nil, Nat.zero_add, Nat.reduceAdd, List.set_cons_zero, List.set_cons_succ, List.set_nil, zipO, puts, List.append_nil, List.cons_append, List.nil_append, wipeE, unwipe, slotE, List.getElem?_cons_zero, List.getElem?_cons_succ])
local macro_rules | `(tactic| walk_at "w2") => `(tactic| first
  | walk_at "w1"
  | (with_reducible refine ⟨ltN (by with_unfolding_all exact rfl), ?_⟩; try walk_at "nenv")
  | with_reducible refine ⟨small62_of (by omega) (by omega), ?_⟩
  | (with_reducible refine ⟨tyT (by with_unfolding_all exact rfl), ?_⟩; try walk_at "nenv")
  | (refine ⟨_, by with_unfolding_all exact rfl, ?_⟩; try walk_at "nenv")
  | with_reducible refine .inl ⟨_, .inl rfl, ?_⟩
  | with_reducible refine .inl ⟨_, .inr (.inl rfl), ?_⟩
  | with_reducible refine .inr ⟨_, rfl, ?_⟩
  | (with_reducible refine WE.nameF (by with_unfolding_all exact rfl) (by first | assumption | with_unfolding_all exact rfl) ?_; try walk_at "nenv")
  | (with_reducible refine WE.movF (by with_unfolding_all exact rfl) (by first | assumption | with_unfolding_all exact rfl) ?_; try walk_at "nenv")
  | refine ⟨fun _ => ?_, fun h => Bool.noConfusion (show true = false from h)⟩
  | refine ⟨fun h => Bool.noConfusion (show false = true from h), fun _ => ?_⟩)
local macro_rules | `(tactic| walk_at "ws") => `(tactic| repeat walk_at "w2")
local macro_rules | `(tactic| walk_at "bag") => `(tactic| refine ⟨Bag.cln1 _ _ _ (by walk_at "immt"), ?_⟩)
theorem isM_str {a b c r : D} (h : isStr a = false) : isM (.tup [a, b, c, r]) = false := by
  show (isStr a && _ && _ && _ && _) = false
  rw [h]; rfl
theorem isM_tup {a b c r : D} (h : isTup r = false) : isM (.tup [a, b, c, r]) = false := by
  show (_ && rowsB _ _ r) = false
  cases r with
  | tup _ => cases h
  | _ => exact Bool.and_false _
theorem lmachine_ok (L : Nat) (l : L ≤ 10000) (d : D) (fd : d.fit L = true) (dd : d.dep ≤ 60) (Q : Nat → D → List KD → Prop) (q : Q 9 (.bl (isM d)) []) : WR Q (R_k00_25 [kz d]) := by
  cases d with
  | non => exact WR.of rfl q
  | bl b => exact WR.of rfl q
  | int i => exact WR.of rfl q
  | str x => exact WR.of rfl q
  | lst ds => exact WR.of rfl q
  | dct kvs => simp [D.fit] at fd
  | seq ds => simp [D.fit] at fd
  | tup ds =>
    obtain ⟨lds, fds⟩ := fit_tup.mp fd
    have dds : ∀ d ∈ ds, d.dep ≤ 60 := dep_tup (by omega)
    refine WR.fn (ρ := [some (kz (.tup ds)), none, none]) rfl ?_
    unfold F_k00_25
    walk_at "ws"
    refine ⟨fun h => ?_, fun h => ?_⟩
    · walk_at "ws"
      rw [isM_len (fun e => by rw [e] at h; cases h)] at q
      exact q
    · obtain ⟨a, b, c, r, rfl⟩ := four_of (ds := ds) (by rw [Bool.true_xor, Bool.not_eq_false', beq_iff_eq] at h; omega)
      have fa := fds a (by simp)
      have fb := fds b (by simp)
      have fc := fds c (by simp)
      have fr := fds r (by simp)
      have db := dds b (by simp)
      have dc := dds c (by simp)
      have ia : idxK [kz (.tup [a, b, c, r]), (9, .int 0)] = some (kz a) := idxK_tupG rfl (kz_or _)
      have ib : idxK [kz (.tup [a, b, c, r]), (9, .int 1)] = some (kz b) := idxK_tupG rfl (kz_or _)
      have ic : idxK [kz (.tup [a, b, c, r]), (9, .int 2)] = some (kz c) := idxK_tupG rfl (kz_or _)
      have ir : idxK [kz (.tup [a, b, c, r]), (9, .int 3)] = some (kz r) := idxK_tupG rfl (kz_or _)
      clear h
      walk_at "ws"
      cases a with
      | dct kvs => simp [D.fit] at fa
      | seq ds => simp [D.fit] at fa
      | non => walk_at "ws"; exact q
      | bl _ => walk_at "ws"; exact q
      | int _ => walk_at "ws"; exact q
      | tup _ => walk_at "ws"; exact q
      | lst _ => walk_at "ws"; exact q
      | str s =>
        have os := (fit_str.mp fa).2
        walk_at "ws"
        cases r with
        | dct kvs => simp [D.fit] at fr
        | seq ds => simp [D.fit] at fr
        | non => walk_at "ws"; rw [isM_tup rfl] at q; exact q
        | bl _ => walk_at "ws"; rw [isM_tup rfl] at q; exact q
        | int _ => walk_at "ws"; rw [isM_tup rfl] at q; exact q
        | str _ => walk_at "ws"; rw [isM_tup rfl] at q; exact q
        | lst _ => walk_at "ws"; rw [isM_tup rfl] at q; exact q
        | tup rows =>
          obtain ⟨lr, frs⟩ := fit_tup.mp fr
          walk_at "ws"
          refine WE.sop rfl (eqS_str _ os (by decide +kernel)) ?_
          walk_at "ws"
          have hM : isM (.tup [.str s, b, c, .tup rows]) = ((s == "machine") && areN 1 4 b && areN 2 4 c && rowsB (lenD b) (strsD c) (.tup rows)) := by
            show (true && s == "machine" && _ && _ && _) = _
            rw [Bool.true_and]
          rw [hM] at q
          refine ⟨fun h => ?_, fun h => ?_⟩
          · walk_at "ws"
            rw [show (s == ("machine" : Str)) = false from by simpa using h] at q
            exact q
          · rw [show (s == ("machine" : Str)) = true from by simpa using h, Bool.true_and] at q
            walk_at "ws"
            refine lnames_ok L l b _ (kz_or b) fb db _ _ (by omega) _ _ _ ⟨by rfl, ?_⟩
            walk_at "nenv"
            walk_at "ws"
            refine ⟨fun h => ?_, fun h => ?_⟩
            · walk_at "ws"
              rw [show areN 1 4 b = false from by simpa using h] at q
              exact q
            · have hb : areN 1 4 b = true := by simpa using h
              rw [hb, Bool.true_and] at q
              walk_at "ws"
              refine lnames_ok L l c _ (kz_or c) fc dc _ _ (by omega) _ _ _ ⟨by rfl, ?_⟩
              walk_at "nenv"
              walk_at "ws"
              refine ⟨fun h => ?_, fun h => ?_⟩
              · walk_at "ws"
                rw [show areN 2 4 c = false from by simpa using h] at q
                exact q
              · have hc : areN 2 4 c = true := by simpa using h
                rw [hc, Bool.true_and] at q
                obtain ⟨bs, rfl, hbs, _⟩ := areN_to hb
                obtain ⟨cs, rfl, hcs, _⟩ := areN_to hc
                have hlen : ((bs.map D.str).length : Nat) = bs.length := List.length_map _
                rw [show lenD (.tup (bs.map D.str)) = bs.length from hlen, show strsD (.tup (cs.map D.str)) = cs from toS_map cs] at q
                clear h hb hc
                walk_at "ws"
                have hR : rowsB bs.length cs (.tup rows) = (decide (1 ≤ rows.length) && decide (rows.length ≤ 12) && rows.all (rowB bs.length cs rows.length)) := rfl
                rw [hR] at q
                refine ⟨fun h => ?_, fun h => ?_⟩
                · walk_at "ws"
                  have : (decide (1 ≤ rows.length) && decide (rows.length ≤ 12)) = false := by
                    rw [Bool.true_xor, Bool.not_eq_true', decide_eq_false_iff_not] at h
                    rw [Bool.eq_false_iff]
                    intro hh
                    rw [Bool.and_eq_true, decide_eq_true_eq, decide_eq_true_eq] at hh
                    omega
                  rw [this, Bool.false_and] at q
                  exact q
                · have : (decide (1 ≤ rows.length) && decide (rows.length ≤ 12)) = true := by
                    rw [Bool.true_xor, Bool.not_eq_false', decide_eq_true_eq] at h
                    rw [Bool.and_eq_true, decide_eq_true_eq, decide_eq_true_eq]
                    omega
                  rw [this, Bool.true_and] at q
                  walk_at "ws"
                  refine WS.loopAll (rowB bs.length cs rows.length) (fun ρ => ∃ y z, ρ = [some (kz (D.tup [D.str s, D.tup (List.map D.str bs), D.tup (List.map D.str cs), D.tup rows])), y, z]) rows ⟨_, _, rfl⟩ (by rintro _ ⟨y, z, rfl⟩; exact ltN rfl) (fun d hd ρ h => ?_) (fun ha ρ h => ?_) (fun ha ρ => ?_)
                  · obtain ⟨y, z, rfl⟩ := h
                    exact lrow_ok L l _ bs cs rows _ rfl hcs d (frs d hd) y z
                  · obtain ⟨y, z, rfl⟩ := h
                    walk_at "ws"
                    rw [ha] at q
                    exact q
                  · rw [ha] at q
                    exact ⟨[], rfl, q⟩
end DN

set_option Elab.async false
set_option linter.all false
set_option maxRecDepth 100000
set_option maxHeartbeats 4000000
/-! The plain law of k00: bent data. -/
namespace DN
open PySem PySem.Spec PyProof.Rows L2
variable [KSeq]
local macro_rules | `(tactic| walk_at "immt") => `(tactic| first | assumption | (with_unfolding_all exact rfl) | with_reducible exact imm_ints _ | with_reducible exact imm_strs _ | with_reducible exact imm_tupS _)
local macro_rules | `(tactic| walk_at "opd") => `(tactic| first
  | with_reducible assumption
  | with_reducible exact lenS_lst _ | with_reducible exact lenS_tup _ | with_reducible exact lenS_seq _ | with_reducible exact lenS_str (by with_unfolding_all first | assumption | omega)
  | with_reducible exact eqS_int _ _ _ | with_reducible exact eqS_ints_nil _ _ | with_reducible exact listK2_lst (by walk_at "immt") | with_reducible exact inS_lst _ (by assumption) (by assumption) | with_reducible exact inS_tup _ (by assumption) (by assumption) | with_reducible exact ordS_int _ _ _ | with_reducible exact addK_int _ _ _ _ | with_reducible exact subD_int _ _
  | with_reducible exact modD_int (by with_unfolding_all first | assumption | omega | decide)
  | with_reducible exact fdivD_int (by with_unfolding_all first | assumption | omega | decide) (by with_unfolding_all first | assumption | omega | decide)
  | with_reducible exact mulK_intR (by with_unfolding_all first | decide | omega) | with_reducible exact mulK_intL (by with_unfolding_all first | decide | omega)
  | with_reducible exact powD_int (by with_unfolding_all first | decide | omega) (by with_unfolding_all first | decide | omega) (by with_unfolding_all first | decide | omega)
  | with_reducible exact inS_intG _ (by with_unfolding_all exact rfl)
  | with_reducible exact slHi_lst (by walk_at "immt") | with_reducible exact slLo_lst (by walk_at "immt") | with_reducible exact tupK_lst (by walk_at "immt") | with_reducible exact max2S_int _ _ | with_reducible exact min2S_int _ _
  | with_unfolding_all exact rfl)
local macro_rules | `(tactic| walk_at "uni") => `(tactic| with_reducible first | exact uni_nil | exact uni_I (by walk_at "immt") (by walk_at "uni") | exact uni_1 (by walk_at "immt") (by walk_at "uni") | exact uni_j (by walk_at "immt") (by walk_at "uni"))
local macro_rules | `(tactic| walk_at "prep") => `(tactic| first
  | with_reducible exact prep_nil
  | (with_reducible apply prep_vF; walk_at "prep") | (with_reducible apply prep_vT; walk_at "prep")
  | (with_reducible apply prep_m; (with_unfolding_all exact rfl); walk_at "prep")
  | (with_reducible apply prep_i; (with_unfolding_all exact rfl); walk_at "immt"; walk_at "prep")
  | (with_reducible apply prep_f; (with_unfolding_all exact rfl); (with_unfolding_all exact rfl); walk_at "prep"))
local macro_rules | `(tactic| walk_at "w1") => `(tactic| with_reducible first
  | refine WS.seq ?_ | refine SqP.nx ?_ | refine SqP.rt ?_ | refine WS.skip ?_ | refine WS.ifS ?_ | refine WS.retv ?_ | refine WS.expr ?_ | refine WS.asgN ?_ | refine WS.asg ?_ | refine WS.par ?_ | refine WS.forS ?_
  | refine WE.opE ?_ | refine WE.ev ?_ | refine WE.eb (by with_unfolding_all exact rfl) ?_ | refine WE.e0 ?_ | refine WE.cst ?_ | refine WE.ret ?_ | refine WE.boolM ?_
  | refine WE.frz (WE.idx (by with_unfolding_all exact rfl) (by walk_at "opd") ?_) | refine WE.sop (by with_unfolding_all exact rfl) (by walk_at "opd") ?_ | refine WE.nop (by with_unfolding_all exact rfl) (by walk_at "opd") ?_ | refine WE.frz (WE.nop (by with_unfolding_all exact rfl) (by walk_at "opd") ?_)
  | refine WE.nameI (by with_unfolding_all exact rfl) (by walk_at "immt") ?_ | refine WE.movI (by with_unfolding_all exact rfl) (by walk_at "immt") ?_
  | refine WE.notM ?_ | refine WE.andM ?_ | refine WE.orM ?_ | refine WE.andV ?_ | refine WE.orV ?_ | refine WE.notV ?_ | refine WE.ifV ?_ | refine WE.chainV ?_ | refine WE.bind ?_ | refine WE.valM ?_ | refine WE.intS ?_ | refine WE.lcS ?_ | refine WE.itsR1 ?_ | refine WE.itsV ?_
  | refine WE.setRest (by with_unfolding_all exact rfl) ?_ | refine WE.setTurn (by with_unfolding_all exact rfl) ?_
  | refine WE.uniL (by walk_at "uni") (by with_unfolding_all exact of_decide_eq_true rfl) ?_ | refine WE.uniT (by walk_at "uni") (by with_unfolding_all exact of_decide_eq_true rfl) ?_
  | refine WE.pth (by with_unfolding_all exact rfl) (by with_unfolding_all exact rfl) (by with_unfolding_all exact rfl) (by with_unfolding_all exact rfl) (by with_unfolding_all exact rfl) (by with_unfolding_all exact rfl) ?_
  | refine WE.popAt (by with_unfolding_all exact rfl) (by first | with_reducible exact ixN_zero _ | with_unfolding_all exact rfl) (by with_unfolding_all exact rfl) (by with_unfolding_all exact rfl) ?_
  | refine WS.forH0 (by with_unfolding_all exact rfl) (by with_unfolding_all first | exact .inr rfl | exact .inl rfl) ?_
  | refine WE.callC (by first | with_unfolding_all exact rfl | walk_at "prep") ?_
  | refine WE.mth ?_)
local macro_rules | `(tactic| walk_at "nenv") => `(tactic| try simp only [kz_str, kz_int, Bool.false_eq_true, if_false, if_true, List.take_succ_cons, List.take_zero, List.take_nil, List.length_cons, List.length_nil, Nat.zero_add, Nat.reduceAdd, List.set_cons_zero, List.set_cons_succ, List.set_nil, zipO, puts, List.append_nil, List.cons_append, List.nil_append, wipeE, unwipe, slotE, List.getElem?_cons_zero, List.getElem?_cons_succ])
local macro_rules | `(tactic| walk_at "w2") => `(tactic| first
  | walk_at "w1"
  | (with_reducible refine ⟨ltN (by with_unfolding_all exact rfl), ?_⟩; try walk_at "nenv")
  | with_reducible refine ⟨small62_of (by omega) (by omega), ?_⟩
  | (with_reducible refine ⟨tyT (by with_unfolding_all exact rfl), ?_⟩; try walk_at "nenv")
  | (refine ⟨_, by with_unfolding_all exact rfl, ?_⟩; try walk_at "nenv")
  | with_reducible refine .inl ⟨_, .inl rfl, ?_⟩
  | with_reducible refine .inl ⟨_, .inr (.inl rfl), ?_⟩
  | with_reducible refine .inr ⟨_, rfl, ?_⟩
  | (with_reducible refine WE.nameF (by with_unfolding_all exact rfl) (by first | assumption | with_unfolding_all exact rfl) ?_; try walk_at "nenv")
  | (with_reducible refine WE.movF (by with_unfolding_all exact rfl) (by first | assumption | with_unfolding_all exact rfl) ?_; try walk_at "nenv")
  | refine ⟨fun _ => ?_, fun h => Bool.noConfusion (show true = false from h)⟩
  | refine ⟨fun h => Bool.noConfusion (show false = true from h), fun _ => ?_⟩)
local macro_rules | `(tactic| walk_at "ws") => `(tactic| repeat walk_at "w2")
local macro_rules | `(tactic| walk_at "bag") => `(tactic| refine ⟨Bag.cln1 _ _ _ (by walk_at "immt"), ?_⟩)
/-! ### sameness of truth values -/
theorem same_of (d : D) (p : PyData) (e : d.py = some p) (h : (SeqAt.shaped p && PyData.eqv p p && p.showable && !p.hasDict && decide (p.depth ≤ 40) && decide (p.shown.length ≤ lineN) && PyData.strOk p.shown) = true) (k j : Nat) (Q : Nat → D → List KD → Prop) (q : Q 9 (.bl true) []) : WR Q (R_k00_16 [(k, d), (j, d)]) := by
  simp only [Bool.and_eq_true] at h
  obtain ⟨⟨⟨⟨⟨⟨h1, h2⟩, h3⟩, h4⟩, h5⟩, h6⟩, h7⟩ := h
  have er : reprS [d] = some (.str p.shown) := by
    unfold reprS
    dsimp only
    rw [e]
    dsimp only
    rw [h3, h4, h5, h6]; rfl
  refine WR.fn (ρ := [some (k, d), some (j, d)]) rfl ?_
  unfold F_k00_16
  refine WS.seq (WS.retv (WE.andV (WE.boolM (WE.opE (WE.eb rfl (WE.eb rfl (WE.e0 (WE.sop rfl (eqS_of e e h1 h1) ?_))))))))
  rw [h2]
  refine ⟨true, rfl, fun _ => ?_, fun h => by cases h⟩
  walk_at "ws"
  refine WE.sop rfl (eqS_str _ h7 h7) ?_
  rw [beq_self_eq_true]
  walk_at "ws"
  exact q
theorem same_b (b : Bool) (k j : Nat) (Q : Nat → D → List KD → Prop) (q : Q 9 (.bl true) []) : WR Q (R_k00_16 [(k, .bl b), (j, .bl b)]) :=
  same_of _ (.bool b) rfl (by cases b <;> decide +kernel) k j Q q
theorem same_2 (b c : Bool) (k j : Nat) (Q : Nat → D → List KD → Prop) (q : Q 9 (.bl true) []) : WR Q (R_k00_16 [(k, .lst [.bl b, .bl c]), (j, .lst [.bl b, .bl c])]) :=
  same_of _ (.list [.bool b, .bool c]) rfl (by cases b <;> cases c <;> decide +kernel) k j Q q
theorem same_4 (b : Bool) (k j : Nat) (Q : Nat → D → List KD → Prop) (q : Q 9 (.bl true) []) : WR Q (R_k00_16 [(k, .lst [.bl true, .bl false, .bl false, .bl b]), (j, .lst [.bl true, .bl false, .bl false, .bl b])]) :=
  same_of _ (.list [.bool true, .bool false, .bool false, .bool b]) rfl (by cases b <;> decide +kernel) k j Q q
end DN

set_option Elab.async false
set_option linter.all false
set_option maxRecDepth 100000
set_option maxHeartbeats 4000000
/-! The plain law of k00: bent parts. -/
namespace DN
open PySem PySem.Spec PyProof.Rows L2
variable [KSeq]
local macro_rules | `(tactic| walk_at "immt") => `(tactic| first | assumption | (with_unfolding_all exact rfl) | with_reducible exact imm_ints _ | with_reducible exact imm_strs _ | with_reducible exact imm_tupS _)
local macro_rules | `(tactic| walk_at "opd") => `(tactic| first
  | with_reducible assumption
  | with_reducible exact lenS_lst _ | with_reducible exact lenS_tup _ | with_reducible exact lenS_seq _ | with_reducible exact lenS_str (by with_unfolding_all first | assumption | omega)
  | with_reducible exact eqS_int _ _ _ | with_reducible exact eqS_ints_nil _ _ | with_reducible exact listK2_lst (by walk_at "immt") | with_reducible exact inS_lst _ (by assumption) (by assumption) | with_reducible exact inS_tup _ (by assumption) (by assumption) | with_reducible exact ordS_int _ _ _ | with_reducible exact addK_int _ _ _ _ | with_reducible exact subD_int _ _
  | with_reducible exact modD_int (by with_unfolding_all first | assumption | omega | decide)
  | with_reducible exact fdivD_int (by with_unfolding_all first | assumption | omega | decide) (by with_unfolding_all first | assumption | omega | decide)
  | with_reducible exact mulK_intR (by with_unfolding_all first | decide | omega) | with_reducible exact mulK_intL (by with_unfolding_all first | decide | omega)
  | with_reducible exact powD_int (by with_unfolding_all first | decide | omega) (by with_unfolding_all first | decide | omega) (by with_unfolding_all first | decide | omega)
  | with_reducible exact inS_intG _ (by with_unfolding_all exact rfl)
  | with_reducible exact listK2_tup (by assumption) | with_reducible exact revK_tup (by assumption) | with_reducible exact slHi_tup (by assumption) | with_reducible exact slLo_tup (by assumption)
  | with_reducible exact slHi_str (by assumption) | with_reducible exact slLo_str (by assumption)
  | with_reducible exact slHi_lst (by walk_at "immt") | with_reducible exact slLo_lst (by walk_at "immt") | with_reducible exact tupK_lst (by walk_at "immt") | with_reducible exact max2S_int _ _ | with_reducible exact min2S_int _ _
  | with_unfolding_all exact rfl)
local macro_rules | `(tactic| walk_at "uni") => `(tactic| with_reducible first | exact uni_nil | exact uni_I (by walk_at "immt") (by walk_at "uni") | exact uni_1 (by walk_at "immt") (by walk_at "uni") | exact uni_j (by walk_at "immt") (by walk_at "uni"))
local macro_rules | `(tactic| walk_at "prep") => `(tactic| first
  | with_reducible exact prep_nil
  | (with_reducible apply prep_vF; walk_at "prep") | (with_reducible apply prep_vT; walk_at "prep")
  | (with_reducible apply prep_m; (with_unfolding_all exact rfl); walk_at "prep")
  | (with_reducible apply prep_i; (with_unfolding_all exact rfl); walk_at "immt"; walk_at "prep")
  | (with_reducible apply prep_f; (with_unfolding_all exact rfl); (with_unfolding_all exact rfl); walk_at "prep"))
local macro_rules | `(tactic| walk_at "w1") => `(tactic| with_reducible first
  | refine WS.seq ?_ | refine SqP.nx ?_ | refine SqP.rt ?_ | refine WS.skip ?_ | refine WS.ifS ?_ | refine WS.retv ?_ | refine WS.expr ?_ | refine WS.asgN ?_ | refine WS.asg ?_ | refine WS.par ?_ | refine WS.forS ?_
  | refine WE.opE ?_ | refine WE.ev ?_ | refine WE.eb (by with_unfolding_all exact rfl) ?_ | refine WE.e0 ?_ | refine WE.cst ?_ | refine WE.ret ?_ | refine WE.boolM ?_
  | refine WE.frz (WE.idx (by with_unfolding_all exact rfl) (by walk_at "opd") ?_) | refine WE.sop (by with_unfolding_all exact rfl) (by walk_at "opd") ?_ | refine WE.nop (by with_unfolding_all exact rfl) (by walk_at "opd") ?_ | refine WE.frz (WE.nop (by with_unfolding_all exact rfl) (by walk_at "opd") ?_)
  | refine WE.nameI (by with_unfolding_all exact rfl) (by walk_at "immt") ?_ | refine WE.movI (by with_unfolding_all exact rfl) (by walk_at "immt") ?_
  | refine WE.notM ?_ | refine WE.andM ?_ | refine WE.orM ?_ | refine WE.andV ?_ | refine WE.orV ?_ | refine WE.notV ?_ | refine WE.ifV ?_ | refine WE.chainV ?_ | refine WE.bind ?_ | refine WE.valM ?_ | refine WE.intS ?_ | refine WE.lcS ?_ | refine WE.itsR1 ?_ | refine WE.itsV ?_
  | refine WE.setRest (by with_unfolding_all exact rfl) ?_ | refine WE.setTurn (by with_unfolding_all exact rfl) ?_
  | refine WE.uniL (by walk_at "uni") (by with_unfolding_all exact of_decide_eq_true rfl) ?_ | refine WE.uniT (by walk_at "uni") (by with_unfolding_all exact of_decide_eq_true rfl) ?_
  | refine WE.pth (by with_unfolding_all exact rfl) (by with_unfolding_all exact rfl) (by with_unfolding_all exact rfl) (by with_unfolding_all exact rfl) (by with_unfolding_all exact rfl) (by with_unfolding_all exact rfl) ?_
  | refine WE.popAt (by with_unfolding_all exact rfl) (by first | with_reducible exact ixN_zero _ | with_unfolding_all exact rfl) (by with_unfolding_all exact rfl) (by with_unfolding_all exact rfl) ?_
  | refine WS.forH0 (by with_unfolding_all exact rfl) (by with_unfolding_all first | exact .inr rfl | exact .inl rfl) ?_
  | refine WE.fvL (by with_unfolding_all exact rfl) (by with_unfolding_all exact of_decide_eq_true rfl) (fun _ => ?_)
  | refine WE.callC (by first | with_unfolding_all exact rfl | walk_at "prep") ?_
  | refine WE.mth ?_)
local macro_rules | `(tactic| walk_at "nenv") => `(tactic| try simp only [kz_str, kz_int, Bool.false_eq_true, if_false, if_true, List.take_succ_cons, List.take_zero, List.take_nil, List.length_cons, List.length_nil, Nat.zero_add, Nat.reduceAdd, List.set_cons_zero, List.set_cons_succ, List.set_nil, zipO, puts, List.append_nil, List.cons_append, List.nil_append, wipeE, unwipe, slotE, List.getElem?_cons_zero, List.getElem?_cons_succ])
local macro_rules | `(tactic| walk_at "w2") => `(tactic| first
  | walk_at "w1"
  | (with_reducible refine ⟨ltN (by with_unfolding_all exact rfl), ?_⟩; try walk_at "nenv")
  | with_reducible refine ⟨small62_of (by omega) (by omega), ?_⟩
  | (with_reducible refine ⟨tyT (by with_unfolding_all exact rfl), ?_⟩; try walk_at "nenv")
  | (refine ⟨_, by with_unfolding_all exact rfl, ?_⟩; try walk_at "nenv")
  | with_reducible refine .inl ⟨_, .inl rfl, ?_⟩
  | with_reducible refine .inl ⟨_, .inr (.inl rfl), ?_⟩
  | with_reducible refine .inr ⟨_, rfl, ?_⟩
  | (with_reducible refine WE.nameF (by with_unfolding_all exact rfl) (by first | assumption | with_unfolding_all exact rfl) ?_; try walk_at "nenv")
  | (with_reducible refine WE.movF (by with_unfolding_all exact rfl) (by first | assumption | with_unfolding_all exact rfl) ?_; try walk_at "nenv")
  | refine ⟨fun _ => ?_, fun h => Bool.noConfusion (show true = false from h)⟩
  | refine ⟨fun h => Bool.noConfusion (show false = true from h), fun _ => ?_⟩)
local macro_rules | `(tactic| walk_at "ws") => `(tactic| repeat walk_at "w2")
local macro_rules | `(tactic| walk_at "bag") => `(tactic| refine ⟨Bag.cln1 _ _ _ (by walk_at "immt"), ?_⟩)
theorem imm_or (d : D) : kz d = (9, d) ∨ kz d = (0, d) := by
  unfold kz
  cases d.imm
  · exact .inr rfl
  · exact .inl rfl
theorem WE.nameZ {Q : KD → En → Prop} {ρ : En} {i : Nat} {d : D} (e : ρ[i]? = some (some (kz d))) (q : Q (kz d) ρ) : WE Q (nameS i ρ) := by
  have hs : ρ.set i (some (kz d)) = ρ := by
    obtain ⟨h, e⟩ := List.getElem?_eq_some_iff.mp e
    rw [← e, List.set_getElem_self]
  cases im : d.imm with
  | true =>
    have ek : kz d = (9, d) := by unfold kz; rw [if_pos im]
    rw [ek] at e q
    exact WE.nameI e im q
  | false =>
    have ek : kz d = (0, d) := by unfold kz; rw [im]; rfl
    rw [ek] at e q hs
    refine WE.nameF e im ?_
    rw [hs]; exact q
/-- near enough to d -/
def Near (L : Nat) (d : D) (x : D) : Prop := x.fit (2 * L + 8) = true ∧ x.dep ≤ d.dep + 1
theorem near_tup1 {L : Nat} {d : D} (fd : d.fit L = true) : Near L d (.tup [d]) := by
  refine ⟨fit_tup.mpr ⟨by simp, fun x hx => ?_⟩, ?_⟩
  · rw [List.mem_singleton] at hx; subst hx; exact D.fit_mono (by omega) _ fd
  · rw [D.dep, D.depAll, D.depAll]; omega
theorem near_lst1 {L : Nat} {d : D} (fd : d.fit L = true) : Near L d (.lst [d]) := by
  refine ⟨fit_lst.mpr ⟨by simp, fun x hx => ?_⟩, ?_⟩
  · rw [List.mem_singleton] at hx; subst hx; exact D.fit_mono (by omega) _ fd
  · rw [D.dep, D.depAll, D.depAll]; omega
theorem near_str {L : Nat} {d : D} {x : Str} (h : x.length ≤ 2 * L + 8) (h2 : PyData.strOk x = true) : Near L d (.str x) := ⟨fit_str.mpr ⟨h, h2⟩, by simp [D.dep]⟩
theorem near_pair {L : Nat} {d : D} {x : Str} {i : Int} (h : x.length ≤ 1) (h2 : PyData.strOk x = true) : Near L d (.tup [.str x, .int i]) := by
  refine ⟨fit_tup.mpr ⟨by simp, fun y hy => ?_⟩, ?_⟩
  · simp only [List.mem_cons, List.not_mem_nil, or_false] at hy
    rcases hy with rfl | rfl
    · exact fit_str.mpr ⟨by omega, h2⟩
    · rfl
  · simp [D.dep, D.depAll]
theorem near_tup {L : Nat} {ds es : List D} (fd : (D.tup ds).fit L = true) (h : ∀ x ∈ es, x ∈ ds ∨ x = .non) (l : es.length ≤ 2 * L + 8) : Near L (.tup ds) (.tup es) ∧ Near L (.tup ds) (.lst es) := by
  obtain ⟨_, fds⟩ := fit_tup.mp fd
  have h1 : ∀ x ∈ es, x.fit (2 * L + 8) = true := fun x hx => by
    rcases h x hx with h | rfl
    · exact D.fit_mono (by omega) _ (fds x h)
    · rfl
  have h2 : D.depAll es ≤ D.depAll ds := depAll_le.mpr fun x hx => by
    rcases h x hx with h | rfl
    · exact depAll_le.mp (Nat.le_refl _) x h
    · simp [D.dep]
  refine ⟨⟨fit_tup.mpr ⟨l, h1⟩, ?_⟩, ⟨fit_lst.mpr ⟨l, h1⟩, ?_⟩⟩
  · rw [D.dep, D.dep]; omega
  · rw [D.dep, D.dep]; omega
/-- what stands in the first list -/
def base (d : D) : List D := [.non, .int 5, .bl true, .bl false, .str "", .tup [], .str "a", .tup [d], .lst [d], .int (0 - 1), .int 0, .int 1, .int 2, .int 11, .int 12, .tup [.str "0", .int 0], .tup [.str "1", .int 1]]
theorem base_near {L : Nat} {d : D} (fd : d.fit L = true) : ∀ x ∈ base d, Near L d x := by
  intro x hx
  unfold base at hx
  simp only [List.mem_cons, List.not_mem_nil, or_false] at hx
  rcases hx with rfl | rfl | rfl | rfl | rfl | rfl | rfl | rfl | rfl | rfl | rfl | rfl | rfl | rfl | rfl | rfl | rfl
  · exact ⟨rfl, by simp [D.dep]⟩
  · exact ⟨rfl, by simp [D.dep]⟩
  · exact ⟨rfl, by simp [D.dep]⟩
  · exact ⟨rfl, by simp [D.dep]⟩
  · exact near_str (by have : (Str.ofString "").length = 0 := by decide
                       omega) (by decide +kernel)
  · exact ⟨fit_tup.mpr ⟨by simp, fun x hx => nomatch hx⟩, by simp [D.dep, D.depAll]⟩
  · exact near_str (by have : (Str.ofString "a").length = 1 := by decide
                       omega) (by decide +kernel)
  · exact near_tup1 fd
  · exact near_lst1 fd
  · exact ⟨rfl, by simp [D.dep]⟩
  · exact ⟨rfl, by simp [D.dep]⟩
  · exact ⟨rfl, by simp [D.dep]⟩
  · exact ⟨rfl, by simp [D.dep]⟩
  · exact ⟨rfl, by simp [D.dep]⟩
  · exact ⟨rfl, by simp [D.dep]⟩
  · exact near_pair (by decide) (by decide +kernel)
  · exact near_pair (by decide) (by decide +kernel)
theorem part_ok (L : Nat) (l : L ≤ 10000) (d : D) (fd : d.fit L = true) (s : Bag) (B : Nat) (h : s.Ok (B + 1)) (Q : Nat → D → List KD → Prop) (q : ∀ x : D, Near L d x → ∀ s' : Bag, s'.Ok B → Q (kz x).1 x [(10, s'.d)]) : WR Q (R_k00_27 [(10, s.d), kz d]) := by
  refine WR.fn (ρ := [some (10, s.d), some (kz d), none]) rfl ?_
  unfold F_k00_27
  refine WS.seq (WS.mono (P := fun o => ∃ k, o = .nx [some (10, s.d), some (kz d), some (k, .lst (base d))]) ?_ ?_)
  · walk_at "ws"
    cases im : d.imm with
    | true =>
      rw [show kz d = (9, d) by unfold kz; rw [if_pos im]]
      walk_at "ws"
      exact ⟨_, rfl⟩
    | false =>
      rw [show kz d = (0, d) by unfold kz; rw [im]; rfl]
      walk_at "ws"
      exact ⟨_, rfl⟩
  · rintro _ ⟨k, rfl⟩
    refine SqP.nx ?_
    have fin : ∀ (k : Nat) (es : List D), es ≠ [] → es.length < 1000 → (∀ x ∈ es, Near L d x) → WS (RnP Q [true, false]) (seqS (retS (opE [.b 0, .b 2] (callG [true, false] R_k00_14))) skipS [some (10, s.d), some (kz d), some (k, .lst es)]) := fun k es ne le hn => by
      refine WS.seq (WS.retv (WE.opE (WE.eb rfl (WE.eb rfl (WE.e0 (WE.callV rfl ?_))))))
      refine pick_lst _ B h es _ (.inl (by omega)) ne (by omega) _ fun x hx s' h' vw hv => ?_
      have ho : ∀ vw', outsOf (puts ([some (10, s.d), some (kz d), some (k, .lst es)].set 0 none |>.set 2 none) (zipO [some 0] [(10, s'.d)] ++ vw')) (mIdx 0 [true, false]) = some [(10, s'.d)] → vw' = vw → RnP Q [true, false] (.rt (kz x).1 x (puts ([some (10, s.d), some (kz d), some (k, .lst es)].set 0 none |>.set 2 none) (zipO [some 0] [(10, s'.d)] ++ vw))) := fun vw' e1 e2 => by
        subst e2
        exact ⟨_, e1, q x (hn x hx) s' h'⟩
      rcases hv with rfl | rfl
      · exact ho _ rfl rfl
      · exact ho _ rfl rfl
    have hb := base_near fd
    cases d with
    | dct kvs => simp [D.fit] at fd
    | seq ds => simp [D.fit] at fd
    | non =>
      walk_at "ws"
      refine WR.of rfl ⟨rfl, _, rfl, fun h => (by cases h), fun _ => WS.skip (SqP.nx ?_)⟩
      exact fin _ _ (by simp [base]) (by simp [base]) hb
    | bl b =>
      walk_at "ws"
      refine WR.of rfl ⟨rfl, _, rfl, fun h => (by cases h), fun _ => WS.skip (SqP.nx ?_)⟩
      exact fin _ _ (by simp [base]) (by simp [base]) hb
    | lst ds =>
      walk_at "ws"
      refine WR.of rfl ⟨rfl, _, rfl, fun h => (by cases h), fun _ => WS.skip (SqP.nx ?_)⟩
      exact fin _ _ (by simp [base]) (by simp [base]) hb
    | int i =>
      walk_at "ws"
      refine WR.of rfl ⟨rfl, _, rfl, fun _ => ?_, fun h => (by cases h)⟩
      walk_at "nenv"
      walk_at "ws"
      refine WE.addLst rfl rfl (by simp [base, lineN]) fun k2 => ?_
      walk_at "nenv"
      refine ⟨ltN rfl, SqP.nx (WS.skip (SqP.nx ?_))⟩
      refine fin _ _ (by simp [base]) (by simp [base]) fun x hx => ?_
      rcases List.mem_append.mp hx with hx | hx
      · exact hb x hx
      · simp only [List.mem_cons, List.not_mem_nil, or_false] at hx
        rcases hx with rfl | rfl <;> exact ⟨rfl, by simp [D.dep]⟩
    | str x =>
      have lx := fit_len fd l
      obtain ⟨lx1, lx2⟩ := fit_str.mp fd
      walk_at "ws"
      have ea : (Str.ofString "a").length = 1 := by decide
      have eb : (Str.ofString " ").length = 1 := by decide
      refine WE.frz (WE.nop rfl (addK_str (by unfold lineN; omega)) ?_)
      walk_at "ws"
      refine WE.frz (WE.nop rfl (addK_str (by unfold lineN; omega)) ?_)
      walk_at "ws"
      refine WE.addLst rfl rfl (by simp [base, lineN]) fun k2 => ?_
      walk_at "nenv"
      refine ⟨ltN rfl, SqP.nx ?_⟩
      walk_at "ws"
      refine WR.of rfl ⟨rfl, _, rfl, fun h => (by cases h), fun _ => WS.skip (SqP.nx ?_)⟩
      refine fin _ _ (by simp [base]) (by simp [base]) fun y hx => ?_
      rcases List.mem_append.mp hx with hx | hx
      · exact hb y hx
      · have hcl := cutS_len x none (some (-1))
        simp only [List.mem_cons, List.not_mem_nil, or_false] at hx
        rcases hx with rfl | rfl | rfl | rfl | rfl | rfl
        · exact near_str (by rw [len_app]; omega) (strOk_app lx2 (by decide +kernel))
        · exact near_str (by omega) (cutS_ok lx2)
        · exact near_str (by rw [len_app]; omega) (strOk_app lx2 (by decide +kernel))
        · exact near_str (by have : (Str.ofString "machine").length = 7 := by decide
                             omega) (by decide +kernel)
        · exact near_str (by have : (Str.ofString "0").length = 1 := by decide
                             omega) (by decide +kernel)
        · exact near_str (by have : (Str.ofString "A").length = 1 := by decide
                             omega) (by decide +kernel)
    | tup ds =>
      obtain ⟨lds, fds⟩ := fit_tup.mp fd
      obtain ⟨k1, hk, e⟩ := kz_tup ds
      rw [e] at fin ⊢
      have hc := cutD_len ds (some (-1)) none
      walk_at "ws"
      refine WE.frz (WE.nop rfl (addK_tupG hk (kT_or _) (by unfold lineN; omega)) ?_)
      walk_at "ws"
      refine WE.frz (WE.nop rfl (addK_tupG hk (.inr rfl) (by simp; unfold lineN; omega)) ?_)
      walk_at "ws"
      refine WE.frz (WE.nop rfl (addK_tupG hk hk (by unfold lineN; omega)) ?_)
      walk_at "ws"
      rw [← e] at fin ⊢
      refine WE.callZ rfl (fun _ => rfl) (is_int_ok L _ _ fd _ ⟨rfl, _, rfl, fun h => (by cases h), fun _ => WS.skip (SqP.nx ?_)⟩)
      refine fin _ _ (by simp) (by simp) fun y hx => ?_
      simp only [List.mem_cons, List.not_mem_nil, or_false] at hx
      have nt : ∀ es : List D, (∀ x ∈ es, x ∈ ds ∨ x = .non) → es.length ≤ 2 * L + 8 → Near L (.tup ds) (.tup es) := fun es h1 h2 => (near_tup fd h1 h2).1
      have hc2 := cutD_len ds none (some (-1))
      have hc3 := cutD_len ds (some 1) none
      rcases hx with rfl | rfl | rfl | rfl | rfl | rfl | rfl | rfl | rfl
      · exact (near_tup fd (fun x h => .inl h) (by omega)).2
      · exact nt _ (fun x h => .inl (List.mem_reverse.mp h)) (by rw [List.length_reverse]; omega)
      · exact nt _ (fun x h => by
          rcases List.mem_append.mp h with h | h
          · exact .inl h
          · exact .inl (cutD_mem h)) (by rw [List.length_append]; omega)
      · exact nt _ (fun x h => .inl (cutD_mem h)) (by omega)
      · exact nt _ (fun x h => .inl (cutD_mem h)) (by omega)
      · exact nt _ (fun x h => by
          rcases List.mem_append.mp h with h | h
          · exact .inl h
          · exact .inr (List.mem_singleton.mp h)) (by rw [List.length_append]; simp; omega)
      · exact ⟨rfl, by simp [D.dep]⟩
      · exact nt _ (fun x h => nomatch h) (by simp)
      · exact nt _ (fun x h => by
          rcases List.mem_append.mp h with h | h <;> exact .inl h) (by rw [List.length_append]; omega)
end DN

set_option Elab.async false
set_option linter.all false
set_option maxRecDepth 100000
set_option maxHeartbeats 4000000
/-! The plain law of k00: bent data. -/
namespace DN
open PySem PySem.Spec PyProof.Rows L2
variable [KSeq]
local macro_rules | `(tactic| walk_at "immt") => `(tactic| first | assumption | (with_unfolding_all exact rfl) | with_reducible exact imm_ints _ | with_reducible exact imm_strs _ | with_reducible exact imm_tupS _)
local macro_rules | `(tactic| walk_at "opd") => `(tactic| first
  | with_reducible assumption
  | with_reducible exact lenS_lst _ | with_reducible exact lenS_tup _ | with_reducible exact lenS_seq _ | with_reducible exact lenS_str (by with_unfolding_all first | assumption | omega)
  | with_reducible exact eqS_int _ _ _ | with_reducible exact eqS_ints_nil _ _ | with_reducible exact listK2_lst (by walk_at "immt") | with_reducible exact inS_lst _ (by assumption) (by assumption) | with_reducible exact inS_tup _ (by assumption) (by assumption) | with_reducible exact ordS_int _ _ _ | with_reducible exact addK_int _ _ _ _ | with_reducible exact subD_int _ _
  | with_reducible exact modD_int (by with_unfolding_all first | assumption | omega | decide)
  | with_reducible exact fdivD_int (by with_unfolding_all first | assumption | omega | decide) (by with_unfolding_all first | assumption | omega | decide)
  | with_reducible exact mulK_intR (by with_unfolding_all first | decide | omega) | with_reducible exact mulK_intL (by with_unfolding_all first | decide | omega)
  | with_reducible exact powD_int (by with_unfolding_all first | decide | omega) (by with_unfolding_all first | decide | omega) (by with_unfolding_all first | decide | omega)
  | with_reducible exact inS_intG _ (by with_unfolding_all exact rfl)
  | with_reducible exact listK2_tup (by assumption) | with_reducible exact revK_tup (by assumption) | with_reducible exact slHi_tup (by assumption) | with_reducible exact slLo_tup (by assumption)
  | with_reducible exact slHi_str (by assumption) | with_reducible exact slLo_str (by assumption)
  | with_reducible exact slHi_lst (by walk_at "immt") | with_reducible exact slLo_lst (by walk_at "immt") | with_reducible exact tupK_lst (by walk_at "immt") | with_reducible exact max2S_int _ _ | with_reducible exact min2S_int _ _
  | with_unfolding_all exact rfl)
local macro_rules | `(tactic| walk_at "uni") => `(tactic| with_reducible first | exact uni_nil | exact uni_I (by walk_at "immt") (by walk_at "uni") | exact uni_1 (by walk_at "immt") (by walk_at "uni") | exact uni_j (by walk_at "immt") (by walk_at "uni"))
local macro_rules | `(tactic| walk_at "prep") => `(tactic| first
  | with_reducible exact prep_nil
  | (with_reducible apply prep_vF; walk_at "prep") | (with_reducible apply prep_vT; walk_at "prep")
  | (with_reducible apply prep_m; (with_unfolding_all exact rfl); walk_at "prep")
  | (with_reducible apply prep_i; (with_unfolding_all exact rfl); walk_at "immt"; walk_at "prep")
  | (with_reducible apply prep_f; (with_unfolding_all exact rfl); (with_unfolding_all exact rfl); walk_at "prep"))
local macro_rules | `(tactic| walk_at "w1") => `(tactic| with_reducible first
  | refine WS.seq ?_ | refine SqP.nx ?_ | refine SqP.rt ?_ | refine WS.skip ?_ | refine WS.ifS ?_ | refine WS.retv ?_ | refine WS.expr ?_ | refine WS.asgN ?_ | refine WS.asg ?_ | refine WS.par ?_ | refine WS.forS ?_
  | refine WE.opE ?_ | refine WE.ev ?_ | refine WE.eb (by with_unfolding_all exact rfl) ?_ | refine WE.e0 ?_ | refine WE.cst ?_ | refine WE.ret ?_ | refine WE.boolM ?_
  | refine WE.frz (WE.idx (by with_unfolding_all exact rfl) (by walk_at "opd") ?_) | refine WE.sop (by with_unfolding_all exact rfl) (by walk_at "opd") ?_ | refine WE.nop (by with_unfolding_all exact rfl) (by walk_at "opd") ?_ | refine WE.frz (WE.nop (by with_unfolding_all exact rfl) (by walk_at "opd") ?_)
  | refine WE.nameI (by with_unfolding_all exact rfl) (by walk_at "immt") ?_ | refine WE.movI (by with_unfolding_all exact rfl) (by walk_at "immt") ?_
  | refine WE.notM ?_ | refine WE.andM ?_ | refine WE.orM ?_ | refine WE.andV ?_ | refine WE.orV ?_ | refine WE.notV ?_ | refine WE.ifV ?_ | refine WE.chainV ?_ | refine WE.bind ?_ | refine WE.valM ?_ | refine WE.intS ?_ | refine WE.lcS ?_ | refine WE.itsR1 ?_ | refine WE.itsV ?_
  | refine WE.setRest (by with_unfolding_all exact rfl) ?_ | refine WE.setTurn (by with_unfolding_all exact rfl) ?_
  | refine WE.uniL (by walk_at "uni") (by with_unfolding_all exact of_decide_eq_true rfl) ?_ | refine WE.uniT (by walk_at "uni") (by with_unfolding_all exact of_decide_eq_true rfl) ?_
  | refine WE.pth (by with_unfolding_all exact rfl) (by with_unfolding_all exact rfl) (by with_unfolding_all exact rfl) (by with_unfolding_all exact rfl) (by with_unfolding_all exact rfl) (by with_unfolding_all exact rfl) ?_
  | refine WE.popAt (by with_unfolding_all exact rfl) (by first | with_reducible exact ixN_zero _ | with_unfolding_all exact rfl) (by with_unfolding_all exact rfl) (by with_unfolding_all exact rfl) ?_
  | refine WS.forH0 (by with_unfolding_all exact rfl) (by with_unfolding_all first | exact .inr rfl | exact .inl rfl) ?_
  | refine WE.fvL (by with_unfolding_all exact rfl) (by with_unfolding_all exact of_decide_eq_true rfl) (fun _ => ?_)
  | refine WE.call (by first | with_unfolding_all exact rfl | walk_at "prep") ?_
  | refine WE.callC (by first | with_unfolding_all exact rfl | walk_at "prep") ?_
  | refine WE.mth ?_)
local macro_rules | `(tactic| walk_at "nenv") => `(tactic| try simp only [kz_str, kz_int, Bool.false_eq_true, if_false, if_true, List.take_succ_cons, List.take_zero, List.take_nil, List.length_cons, List.length_nil, Nat.zero_add, Nat.reduceAdd, List.set_cons_zero, List.set_cons_succ, List.set_nil, zipO, puts, List.append_nil, List.cons_append, List.nil_append, wipeE, unwipe, slotE, List.getElem?_cons_zero, List.getElem?_cons_succ])
local macro_rules | `(tactic| walk_at "w2") => `(tactic| first
  | walk_at "w1"
  | (with_reducible refine ⟨ltN (by with_unfolding_all exact rfl), ?_⟩; try walk_at "nenv")
  | with_reducible refine ⟨small62_of (by omega) (by omega), ?_⟩
  | (with_reducible refine ⟨tyT (by with_unfolding_all exact rfl), ?_⟩; try walk_at "nenv")
  | (refine ⟨_, by with_unfolding_all exact rfl, ?_⟩; try walk_at "nenv")
  | with_reducible refine .inl ⟨_, .inl rfl, ?_⟩
  | with_reducible refine .inl ⟨_, .inr (.inl rfl), ?_⟩
  | with_reducible refine .inr ⟨_, rfl, ?_⟩
  | (with_reducible refine WE.nameF (by with_unfolding_all exact rfl) (by first | assumption | with_unfolding_all exact rfl) ?_; try walk_at "nenv")
  | (with_reducible refine WE.movF (by with_unfolding_all exact rfl) (by first | assumption | with_unfolding_all exact rfl) ?_; try walk_at "nenv")
  | refine ⟨fun _ => ?_, fun h => Bool.noConfusion (show true = false from h)⟩
  | refine ⟨fun h => Bool.noConfusion (show false = true from h), fun _ => ?_⟩)
local macro_rules | `(tactic| walk_at "ws") => `(tactic| repeat walk_at "w2")
local macro_rules | `(tactic| walk_at "bag") => `(tactic| refine ⟨Bag.cln1 _ _ _ (by walk_at "immt"), ?_⟩)
theorem idxK_kz {j : Nat} {ds : List D} {i : Int} {d : D} (e : atI ds i = some d) : idxK [kz (.tup ds), (j, .int i)] = some (kz d) := idxK_tupG e (kz_or (.tup ds))
theorem bent_ok : ∀ (n : Nat) (L : Nat) (l : L ≤ 10000) (d : D) (fd : d.fit L = true) (dd : d.dep ≤ n) (d6 : d.dep ≤ 60) (s : Bag) (B : Nat) (h : s.Ok (B + (2 * n + 2))) (Q : Nat → D → List KD → Prop) (q : ∀ x : D, Near L d x → ∀ s' : Bag, s'.Ok B → Q (kz x).1 x [(10, s'.d)]), WR Q (R_k00_28 (n + 1) [(10, s.d), kz d])
  | n, L, l, d, fd, dd, d6, s, B, h, Q, q => by
    have part : ∀ s' : Bag, s'.Ok (B + 1) → WS (RnP Q [true, false]) (seqS (retS (opE [.b 0, .b 1] (callG [true, false] R_k00_27))) skipS [some (10, s'.d), some (kz d), none]) := fun s' h' => by
      refine WS.seq (WS.retv (WE.opE (WE.eb rfl (WE.eb rfl (WE.e0 ?_)))))
      cases im : d.imm with
      | true =>
        have e : kz d = (9, d) := by unfold kz; rw [if_pos im]
        have pk := part_ok L l d fd s' B h'
        rw [e] at pk ⊢
        refine WE.callV (prep_m rfl (prep_i rfl im prep_nil)) (pk _ fun x hx s2 h2 vw hv => ?_)
        rcases hv with rfl | rfl <;> exact ⟨_, rfl, q x hx s2 h2⟩
      | false =>
        have e : kz d = (0, d) := by unfold kz; rw [im]; rfl
        have pk := part_ok L l d fd s' B h'
        rw [e] at pk ⊢
        refine WE.callV (prep_m rfl (prep_f rfl im prep_nil)) (pk _ fun x hx s2 h2 vw hv => ?_)
        rcases hv with rfl | rfl <;> exact ⟨_, rfl, q x hx s2 h2⟩
    show WR Q (runS 3 [true, false] (F_k00_28 (R_k00_28 n)) [(10, s.d), kz d])
    refine WR.fn (ρ := [some (10, s.d), some (kz d), none]) rfl ?_
    unfold F_k00_28
    cases d with
    | dct kvs => simp [D.fit] at fd
    | seq ds => simp [D.fit] at fd
    | non =>
      refine WS.seq (WS.ifS ?_)
      walk_at "ws"
      exact ⟨fun h => (by cases h), fun _ => WS.skip (SqP.nx (part s (h.mono (by omega))))⟩
    | bl b =>
      refine WS.seq (WS.ifS ?_)
      walk_at "ws"
      exact ⟨fun h => (by cases h), fun _ => WS.skip (SqP.nx (part s (h.mono (by omega))))⟩
    | int i =>
      refine WS.seq (WS.ifS ?_)
      walk_at "ws"
      exact ⟨fun h => (by cases h), fun _ => WS.skip (SqP.nx (part s (h.mono (by omega))))⟩
    | str x =>
      refine WS.seq (WS.ifS ?_)
      walk_at "ws"
      exact ⟨fun h => (by cases h), fun _ => WS.skip (SqP.nx (part s (h.mono (by omega))))⟩
    | lst ds =>
      refine WS.seq (WS.ifS ?_)
      walk_at "ws"
      exact ⟨fun h => (by cases h), fun _ => WS.skip (SqP.nx (part s (h.mono (by omega))))⟩
    | tup ds =>
      obtain ⟨lds, fds⟩ := fit_tup.mp fd
      have dds : ∀ d ∈ ds, d.dep ≤ 60 := dep_tup (by omega)
      refine WS.seq (WS.ifS ?_)
      refine WE.mono (P := fun b ρ1 => ∃ s1 : Bag, ρ1 = [some (10, s1.d), some (kz (.tup ds)), none] ∧ s1.Ok (B + (2 * n + 1)) ∧ (b = true → ds ≠ [])) ?_ ?_
      · walk_at "ws"
        refine take_ok _ (B + (2 * n + 1)) h _ (by omega) (by omega) _ _ fun v s1 v0 v1 h1 => ?_
        walk_at "nenv"
        walk_at "ws"
        refine ⟨fun _ => ?_, fun _ => ⟨s1, rfl, h1, fun h => by cases h⟩⟩
        walk_at "ws"
        refine WE.sop rfl (eqS_tnil (fun d hd => okD_of (fds d hd) (dds d hd)) _) ?_
        walk_at "ws"
        refine ⟨h1, fun hh => ?_⟩
        intro e0
        subst e0
        cases hh
      · rintro b _ ⟨s1, rfl, h1, hne⟩
        refine ⟨fun hb => ?_, fun _ => WS.skip (SqP.nx ?_)⟩
        · have ne := hne hb
          have l0 : 0 < ds.length := List.length_pos_iff.mpr ne
          walk_at "ws"
          refine take_ok _ (B + 2 * n) h1 _ (by omega) (by omega) _ _ fun v s2 v0 v1 h2 => ?_
          walk_at "nenv"
          refine ⟨ltN rfl, SqP.nx ?_⟩
          walk_at "nenv"
          obtain ⟨y, ey, _, hy⟩ := atI_in v0 v1
          have hk := kz_or (.tup ds)
          have hk' : kT ds = 0 ∨ D.immAll ds = true := kT_or ds
          have hix : idxK [kz (.tup ds), (9, .int v)] = some (kz y) := idxK_kz ey
          have dy : y.dep + 1 ≤ (D.tup ds).dep := by
            rw [D.dep]
            have := depAll_le.mp (Nat.le_refl (D.depAll ds)) y hy
            omega
          rw [kT_kz] at hix ⊢
          walk_at "ws"
          obtain ⟨n, rfl⟩ : ∃ m, n = m + 1 := ⟨n - 1, by omega⟩
          refine bent_ok n L l y (fds y hy) (by omega) (by omega) s2 B (h2.mono (by omega)) _ fun x hx s3 h3 => ?_
          walk_at "nenv"
          walk_at "ws"
          refine WE.tup1 fun k1 hk1 => ?_
          have hc1 := cutD_len ds none (some v)
          have hc2 := cutD_len ds (some (v + 1)) none
          walk_at "ws"
          refine WE.frz (WE.nop rfl (addK_tupG (kT_or _) hk1 (by simp; unfold lineN; omega)) ?_)
          walk_at "ws"
          refine WE.frz (WE.nop rfl (addK_tupG (kT_or _) (kT_or _) (by simp; unfold lineN; omega)) ?_)
          walk_at "ws"
          refine q (.tup (cutD ds none (some v) ++ [x] ++ cutD ds (some (v + 1)) none)) ⟨fit_tup.mpr ⟨by simp; omega, fun z hz => ?_⟩, ?_⟩ s3 h3
          · rcases List.mem_append.mp hz with hz | hz
            · rcases List.mem_append.mp hz with hz | hz
              · exact D.fit_mono (by omega) _ (fds z (cutD_mem hz))
              · rw [List.mem_singleton] at hz; subst hz; exact hx.1
            · exact D.fit_mono (by omega) _ (fds z (cutD_mem hz))
          · have hd : ∀ z ∈ ds, z.dep ≤ (D.tup ds).dep := fun z hz => by
              rw [D.dep]
              have := depAll_le.mp (Nat.le_refl (D.depAll ds)) z hz
              omega
            have hx2 := hx.2
            have : D.depAll (cutD ds none (some v) ++ [x] ++ cutD ds (some (v + 1)) none) ≤ (D.tup ds).dep := depAll_le.mpr fun z hz => by
              rcases List.mem_append.mp hz with hz | hz
              · rcases List.mem_append.mp hz with hz | hz
                · exact hd z (cutD_mem hz)
                · rw [List.mem_singleton] at hz; subst hz; omega
              · exact hd z (cutD_mem hz)
            rw [D.dep]; omega
        · exact part s1 (h1.mono (by omega))
end DN

set_option Elab.async false
set_option linter.all false
set_option maxRecDepth 100000
set_option maxHeartbeats 4000000
/-! The plain law of k00: the bag at the start, near words, drawn machines. -/
namespace DN
open PySem PySem.Spec PyProof.Rows L2
variable [KSeq]
local macro_rules | `(tactic| walk_at "immt") => `(tactic| first | assumption | (with_unfolding_all exact rfl) | with_reducible exact imm_ints _ | with_reducible exact imm_strs _ | with_reducible exact imm_tupS _)
local macro_rules | `(tactic| walk_at "opd") => `(tactic| first
  | with_reducible assumption
  | with_reducible exact lenS_lst _ | with_reducible exact lenS_tup _ | with_reducible exact lenS_seq _ | with_reducible exact lenS_str (by with_unfolding_all first | assumption | omega)
  | with_reducible exact eqS_int _ _ _ | with_reducible exact eqS_ints_nil _ _ | with_reducible exact listK2_lst (by walk_at "immt") | with_reducible exact inS_lst _ (by assumption) (by assumption) | with_reducible exact inS_tup _ (by assumption) (by assumption) | with_reducible exact ordS_int _ _ _ | with_reducible exact addK_int _ _ _ _ | with_reducible exact subD_int _ _
  | with_reducible exact modD_int (by with_unfolding_all first | assumption | omega | decide)
  | with_reducible exact fdivD_int (by with_unfolding_all first | assumption | omega | decide) (by with_unfolding_all first | assumption | omega | decide)
  | with_reducible exact mulK_intR (by with_unfolding_all first | decide | omega) | with_reducible exact mulK_intL (by with_unfolding_all first | decide | omega)
  | with_reducible exact powD_int (by with_unfolding_all first | decide | omega) (by with_unfolding_all first | decide | omega) (by with_unfolding_all first | decide | omega)
  | with_reducible exact inS_intG _ (by with_unfolding_all exact rfl)
  | with_reducible exact listK2_tup (by assumption) | with_reducible exact revK_tup (by assumption) | with_reducible exact slHi_tup (by assumption) | with_reducible exact slLo_tup (by assumption)
  | with_reducible exact slHi_str (by assumption) | with_reducible exact slLo_str (by assumption)
  | with_reducible exact slHi_lst (by walk_at "immt") | with_reducible exact slLo_lst (by walk_at "immt") | with_reducible exact tupK_lst (by walk_at "immt") | with_reducible exact max2S_int _ _ | with_reducible exact min2S_int _ _
  | with_unfolding_all exact rfl)
local macro_rules | `(tactic| walk_at "uni") => `(tactic| with_reducible first | exact uni_nil | exact uni_I (by walk_at "immt") (by walk_at "uni") | exact uni_1 (by walk_at "immt") (by walk_at "uni") | exact uni_j (by walk_at "immt") (by walk_at "uni"))
local macro_rules | `(tactic| walk_at "prep") => `(tactic| first
  | with_reducible exact prep_nil
  | (with_reducible apply prep_vF; walk_at "prep") | (with_reducible apply prep_vT; walk_at "prep")
  | (with_reducible apply prep_m; (with_unfolding_all exact rfl); walk_at "prep")
  | (with_reducible apply prep_i; (with_unfolding_all exact rfl); walk_at "immt"; walk_at "prep")
  | (with_reducible apply prep_f; (with_unfolding_all exact rfl); (with_unfolding_all exact rfl); walk_at "prep"))
local macro_rules | `(tactic| walk_at "w1") => `(tactic| with_reducible first
  | refine WS.seq ?_ | refine SqP.nx ?_ | refine SqP.rt ?_ | refine WS.skip ?_ | refine WS.ifS ?_ | refine WS.retv ?_ | refine WS.expr ?_ | refine WS.asgN ?_ | refine WS.asg ?_ | refine WS.par ?_ | refine WS.forS ?_
  | refine WE.opE ?_ | refine WE.ev ?_ | refine WE.eb (by with_unfolding_all exact rfl) ?_ | refine WE.e0 ?_ | refine WE.cst ?_ | refine WE.ret ?_ | refine WE.boolM ?_
  | refine WE.frz (WE.idx (by with_unfolding_all exact rfl) (by walk_at "opd") ?_) | refine WE.sop (by with_unfolding_all exact rfl) (by walk_at "opd") ?_ | refine WE.nop (by with_unfolding_all exact rfl) (by walk_at "opd") ?_ | refine WE.frz (WE.nop (by with_unfolding_all exact rfl) (by walk_at "opd") ?_)
  | refine WE.nameI (by with_unfolding_all exact rfl) (by walk_at "immt") ?_ | refine WE.movI (by with_unfolding_all exact rfl) (by walk_at "immt") ?_
  | refine WE.notM ?_ | refine WE.andM ?_ | refine WE.orM ?_ | refine WE.andV ?_ | refine WE.orV ?_ | refine WE.notV ?_ | refine WE.ifV ?_ | refine WE.chainV ?_ | refine WE.bind ?_ | refine WE.valM ?_ | refine WE.intS ?_ | refine WE.lcS ?_ | refine WE.itsR1 ?_ | refine WE.itsV ?_
  | refine WE.setRest (by with_unfolding_all exact rfl) ?_ | refine WE.setTurn (by with_unfolding_all exact rfl) ?_
  | refine WE.uniL (by walk_at "uni") (by with_unfolding_all exact of_decide_eq_true rfl) ?_ | refine WE.uniT (by walk_at "uni") (by with_unfolding_all exact of_decide_eq_true rfl) ?_
  | refine WE.pth (by with_unfolding_all exact rfl) (by with_unfolding_all exact rfl) (by with_unfolding_all exact rfl) (by with_unfolding_all exact rfl) (by with_unfolding_all exact rfl) (by with_unfolding_all exact rfl) ?_
  | refine WE.popAt (by with_unfolding_all exact rfl) (by first | with_reducible exact ixN_zero _ | with_unfolding_all exact rfl) (by with_unfolding_all exact rfl) (by with_unfolding_all exact rfl) ?_
  | refine WS.forH0 (by with_unfolding_all exact rfl) (by with_unfolding_all first | exact .inr rfl | exact .inl rfl) ?_
  | refine WE.fvL (by with_unfolding_all exact rfl) (by with_unfolding_all exact of_decide_eq_true rfl) (fun _ => ?_)
  | refine WE.call (by first | with_unfolding_all exact rfl | walk_at "prep") ?_
  | refine WE.callC (by first | with_unfolding_all exact rfl | walk_at "prep") ?_
  | refine WE.mth ?_)
local macro_rules | `(tactic| walk_at "nenv") => `(tactic| try simp only [kz_str, kz_int, Bool.false_eq_true, if_false, if_true, List.take_succ_cons, List.take_zero, List.take_nil, List.length_cons, List.length_nil, Nat.zero_add, Nat.reduceAdd, List.set_cons_zero, List.set_cons_succ, List.set_nil, zipO, puts, List.append_nil, List.cons_append, List.nil_append, wipeE, unwipe, slotE, List.getElem?_cons_zero, List.getElem?_cons_succ])
local macro_rules | `(tactic| walk_at "w2") => `(tactic| first
  | walk_at "w1"
  | (with_reducible refine ⟨ltN (by with_unfolding_all exact rfl), ?_⟩; try walk_at "nenv")
  | with_reducible refine ⟨small62_of (by omega) (by omega), ?_⟩
  | (with_reducible refine ⟨tyT (by with_unfolding_all exact rfl), ?_⟩; try walk_at "nenv")
  | (refine ⟨_, by with_unfolding_all exact rfl, ?_⟩; try walk_at "nenv")
  | with_reducible refine .inl ⟨_, .inl rfl, ?_⟩
  | with_reducible refine .inl ⟨_, .inr (.inl rfl), ?_⟩
  | with_reducible refine .inr ⟨_, rfl, ?_⟩
  | (with_reducible refine WE.nameF (by with_unfolding_all exact rfl) (by first | assumption | with_unfolding_all exact rfl) ?_; try walk_at "nenv")
  | (with_reducible refine WE.movF (by with_unfolding_all exact rfl) (by first | assumption | with_unfolding_all exact rfl) ?_; try walk_at "nenv")
  | refine ⟨fun _ => ?_, fun h => Bool.noConfusion (show true = false from h)⟩
  | refine ⟨fun h => Bool.noConfusion (show false = true from h), fun _ => ?_⟩)
local macro_rules | `(tactic| walk_at "ws") => `(tactic| repeat walk_at "w2")
local macro_rules | `(tactic| walk_at "bag") => `(tactic| refine ⟨Bag.cln1 _ _ _ (by walk_at "immt"), ?_⟩)
theorem begun_ok (ns : List Int) (hn : ns.length ≤ 63) (k : Nat) (Q : Nat → D → List KD → Prop) (q : ∀ s : Bag, s.Ok 100000000000 → Q 10 s.d []) : WR Q (R_k00_11 [(k, .seq (ns.map .int))]) := by
  have im : (D.seq (ns.map .int)).imm = true := imm_ints ns
  refine WR.fn (ρ := [some (k, .seq (ns.map .int)), none, none]) rfl ?_
  unfold F_k00_11
  walk_at "ws"
  refine .inl ⟨_, .inr (.inr rfl), ?_⟩
  have lc : ∀ (c : M Bool) (el : M KD) (x1 : Sl) (Q' : KD → En → Prop), (∀ i : Int, WE (fun b ρ1 => (b = true → WE (fun kd ρ2 => (∃ j : Int, kd = (9, .int j)) ∧ ρ2 = [some (k, D.seq (ns.map .int)), x1, some (9, .int i)]) (el ρ1)) ∧ ρ1 = [some (k, D.seq (ns.map .int)), x1, some (9, .int i)]) (c [some (k, D.seq (ns.map .int)), x1, some (9, .int i)])) →
      (∀ ws : List Int, Q' (9, .lst (ws.map .int)) [some (k, D.seq (ns.map .int)), x1, none]) → WE Q' (lcL (.n 2) c el [2] ((ns.map D.int).map kz) 8 [] [some (k, D.seq (ns.map .int)), x1, none]) := fun c el x1 Q' hc q' => by
    refine WE.lcL (I := fun ds k' acc ρ => k' = 8 ∧ ρ = [some (k, D.seq (ns.map .int)), x1, none] ∧ (∀ kd ∈ ds, ∃ i : Int, kd = (9, .int i)) ∧ acc.length + ds.length ≤ 63 ∧ ∃ ws : List Int, acc = ws.map .int) _ ⟨rfl, rfl, ?_, by simpa using hn, [], rfl⟩ (fun kd r k' acc ρ h => ?_) (fun k' acc ρ h => ?_)
    · intro kd hk
      obtain ⟨d, hd, rfl⟩ := List.mem_map.mp hk
      obtain ⟨i, _, rfl⟩ := List.mem_map.mp hd
      exact ⟨i, rfl⟩
    · obtain ⟨rfl, rfl, hi, hl, ws, rfl⟩ := h
      obtain ⟨i, rfl⟩ := hi _ List.mem_cons_self
      simp only [List.length_cons, List.length_map] at hl
      refine ⟨_, rfl, (hc i).mono fun b ρ1 hb => ⟨fun h => (hb.1 h).mono fun kd ρ2 hk => ?_, fun _ => ?_⟩⟩
      · obtain ⟨⟨j, rfl⟩, rfl⟩ := hk
        refine ⟨by rw [List.length_map]; unfold lineN; omega, 8, rfl, rfl, rfl, fun kd hk => hi kd (List.mem_cons_of_mem _ hk), by simp; omega, ws ++ [j], by rw [List.map_append]; rfl⟩
      · obtain ⟨_, rfl⟩ := hb
        exact ⟨rfl, rfl, fun kd hk => hi kd (List.mem_cons_of_mem _ hk), by simp; omega, ws, rfl⟩
    · obtain ⟨rfl, rfl, _, _, ws, rfl⟩ := h
      exact q' ws
  refine lc _ _ _ _ (fun i => ?_) fun ws => ?_
  · walk_at "ws"
    refine ⟨fun _ => ?_, trivial⟩
    walk_at "ws"
    exact ⟨⟨_, rfl⟩, by trivial⟩
  · walk_at "nenv"
    walk_at "ws"
    refine .inl ⟨_, .inr (.inr rfl), ?_⟩
    refine lc _ _ _ _ (fun i => ?_) fun cs => ?_
    · walk_at "ws"
      refine ⟨fun _ => ?_, by trivial⟩
      walk_at "ws"
      exact ⟨⟨_, rfl⟩, by trivial⟩
    · walk_at "nenv"
      walk_at "ws"
      exact q ⟨ws, cs, 0, 0⟩ ⟨Int.le_refl _, .inr (by show (0 : Int) + ((100000000000 : Nat) : Int) ≤ 1000000000000; decide)⟩
theorem a_machine_ok (s : Bag) (B : Nat) (m : Int) (m0 : 0 < m) (m1 : m ≤ 12) (k : Nat) (h : s.Ok (B + 400)) (Q : Nat → D → List KD → Prop) (q : ∀ ins outs rows n, 1 ≤ ins.length → ins.length ≤ 4 → 2 ≤ outs.length → outs.length ≤ 4 → ins.Nodup → outs.Nodup → (∀ x ∈ ins, nm x = true) → (∀ x ∈ outs, nm x = true) → 1 ≤ n → n ≤ 12 → rows.length = n.toNat → (∀ row ∈ rows, RowOk outs ins.length n row) → ∀ s' : Bag, s'.Ok B → Q 8 (mchD ins outs rows) [(10, s'.d)]) : WR Q (R_k00_21 [(10, s.d), (k, .int m)]) := by
  refine WR.fn (ρ := [some (10, s.d), some (k, .int m), none, none]) rfl ?_
  unfold F_k00_21
  walk_at "ws"
  refine letters_ok _ (B + 300) (h.mono (by omega)) _ fun ins outs i0 i1 o0 o1 ind ond inm onm s1 h1 => ?_
  walk_at "nenv"
  walk_at "ws"
  refine take_ok _ (B + 299) h1 _ (by omega) (by omega) _ _ fun v s2 v0 v1 h2 => ?_
  walk_at "nenv"
  walk_at "ws"
  refine machine_ok _ B ins outs _ (by omega) (by omega) i0 i1 (by omega) (by omega) (h2.mono (by omega)) _ fun rows hr hrow s3 h3 => ?_
  walk_at "nenv"
  walk_at "ws"
  exact q ins outs rows _ i0 i1 o0 o1 ind ond inm onm (by omega) (by omega) hr hrow s3 h3
/-- a text that is short and well -/
def Wd (x : Str) : Prop := x.length ≤ 100 ∧ PyData.strOk x = true
theorem wd_cut {x : Str} {lo hi : Option Int} (h : Wd x) : Wd (cutS x lo hi) := ⟨Nat.le_trans (cutS_len _ _ _) h.1, cutS_ok h.2⟩
theorem near_word_ok (s : Bag) (B : Nat) (h : s.Ok (B + 20)) (Q : Nat → D → List KD → Prop) (q : ∀ x : Str, Wd x → ∀ s' : Bag, s'.Ok B → Q 9 (.str x) [(10, s'.d)]) : WR Q (R_k00_26 [(10, s.d)]) := by
  refine WR.fn (ρ := [some (10, s.d), none, none, none, none]) rfl ?_
  unfold F_k00_26
  walk_at "ws"
  refine names_ok _ (B + 8) _ _ (by omega) (by omega) (h.mono (by omega)) _ fun ws il ind inm s1 h1 => ?_
  obtain ⟨w, rfl⟩ : ∃ w, ws = [w] := by
    match ws, il with
    | [w], _ => exact ⟨w, rfl⟩
  have hw := inm w (by simp)
  have lw := nm_len hw
  walk_at "nenv"
  walk_at "ws"
  refine pick_lst _ (B + 7) h1 ((["", "", "abcdefgh", "0"] : List Str).map .str) _ (.inr (imm_strs _)) (by simp) (by simp) _ fun d hd s2 h2 => ?_
  obtain ⟨y, hy, rfl⟩ := List.mem_map.mp hd
  have hy2 : y.length ≤ 8 ∧ PyData.strOk y = true := by
    have : ∀ y ∈ (["", "", "abcdefgh", "0"] : List Str), y.length ≤ 8 ∧ PyData.strOk y = true := by decide +kernel
    exact this y hy
  walk_at "nenv"
  walk_at "ws"
  refine WE.frz (WE.nop rfl (addK_str (by unfold lineN; omega)) ?_)
  have hwd : 1 ≤ (w ++ y).length ∧ (w ++ y).length ≤ 16 := by rw [len_app]; omega
  have hwo : PyData.strOk (w ++ y) = true := strOk_app (nm_ok hw) hy2.2
  have hwl : (w ++ y).length ≤ lineN := by unfold lineN; omega
  generalize w ++ y = x at hwd hwo hwl
  have Wx : Wd x := ⟨by omega, hwo⟩
  walk_at "ws"
  refine take_ok _ (B + 6) h2 _ (by omega) (by omega) _ _ fun v s3 v0 v1 h3 => ?_
  walk_at "nenv"
  walk_at "ws"
  refine take_ok _ (B + 5) h3 _ (by omega) (by omega) _ _ fun u s4 u0 u1 h4 => ?_
  walk_at "nenv"
  walk_at "ws"
  refine pick_str _ (B + 4) h4 SG _ (by decide +kernel) (by decide +kernel) _ fun c hc s5 h5 => ?_
  walk_at "nenv"
  walk_at "ws"
  refine pick_str _ (B + 3) h5 "ABCXYZ_-./ " _ (by decide +kernel) (by decide +kernel) _ fun c2 hc2 s6 h6 => ?_
  walk_at "nenv"
  walk_at "ws"
  have hone : ∀ c : Nat, c < 128 → Wd ⟨#[c]⟩ := fun c h => ⟨by show 1 ≤ 100; omega, sok_of fun d hd => by simp at hd; omega⟩
  have hc2' : c2 < 128 := by
    have : ∀ c ∈ (Str.ofString "ABCXYZ_-./ ").cps.toList, c < 128 := by decide +kernel
    exact this c2 hc2
  refine pick_lst _ (B + 2) h6 (([one c, one c2] : List Str).map .str) _ (.inr (imm_strs _)) (by simp) (by simp) _ fun d hd s7 h7 => ?_
  obtain ⟨sg2, hsg, rfl⟩ := List.mem_map.mp hd
  have Ws : Wd sg2 ∧ sg2.length ≤ 1 := by
    simp only [List.mem_cons, List.not_mem_nil, or_false] at hsg
    rcases hsg with rfl | rfl
    · exact ⟨hone c (sg_lt c hc), Nat.le_refl 1⟩
    · exact ⟨hone c2 hc2', Nat.le_refl 1⟩
  obtain ⟨Ws, Ws1⟩ := Ws
  have app : ∀ (k j : Nat) (a b : Str), a.length ≤ 40 → b.length ≤ 40 → addK [(k, .str a), (j, .str b)] = some (9, .str (a ++ b)) := fun k j a b h1 h2 => addK_str (by unfold lineN; omega)
  have cl : ∀ lo hi, (cutS x lo hi).length ≤ 16 := fun lo hi => Nat.le_trans (cutS_len x lo hi) hwd.2
  have co : ∀ lo hi, PyData.strOk (cutS x lo hi) = true := fun lo hi => cutS_ok hwo
  walk_at "nenv"
  walk_at "ws"
  refine ⟨fun _ => ?_, fun _ => ?_⟩
  · walk_at "ws"
    refine WE.frz (WE.nop rfl (app _ _ _ _ (by have := cl none (some v); omega) (by omega)) ?_)
    walk_at "ws"
    refine WE.frz (WE.nop rfl (app _ _ _ _ (by rw [len_app]; have := cl none (some v); omega) (by have := cl (some (v + 1)) none; omega)) ?_)
    walk_at "ws"
    exact q _ ⟨by rw [len_app, len_app]; have := cl none (some v); have := cl (some (v + 1)) none; omega, strOk_app (strOk_app (co _ _) Ws.2) (co _ _)⟩ s7 (h7.mono (by omega))
  · walk_at "ws"
    refine ⟨fun _ => ?_, fun _ => ?_⟩
    · walk_at "ws"
      refine WE.frz (WE.nop rfl (app _ _ _ _ (by have := cl none (some v); omega) (by have := cl (some (v + 1)) none; omega)) ?_)
      walk_at "ws"
      exact q _ ⟨by rw [len_app]; have := cl none (some v); have := cl (some (v + 1)) none; omega, strOk_app (co _ _) (co _ _)⟩ s7 (h7.mono (by omega))
    · walk_at "ws"
      refine ⟨fun _ => ?_, fun _ => ?_⟩
      · walk_at "ws"
        refine WE.frz (WE.nop rfl (app _ _ _ _ (by have := cl none (some v); omega) (by omega)) ?_)
        walk_at "ws"
        refine WE.frz (WE.nop rfl (app _ _ _ _ (by rw [len_app]; have := cl none (some v); omega) (by have := cl (some v) none; omega)) ?_)
        walk_at "ws"
        exact q _ ⟨by rw [len_app, len_app]; have := cl none (some v); have := cl (some v) none; omega, strOk_app (strOk_app (co _ _) Ws.2) (co _ _)⟩ s7 (h7.mono (by omega))
      · walk_at "ws"
        refine pick_lst _ (B + 1) h7 (([8, 8, 9, 16] : List Int).map .int) _ (.inr (imm_ints _)) (by simp) (by simp) _ fun d hd s8 h8 => ?_
        obtain ⟨e, _, rfl⟩ := List.mem_map.mp hd
        walk_at "nenv"
        walk_at "ws"
        refine pick_lst _ B h8 (([Str.ofString "", Str.ofString "", sg2] : List Str).map .str) _ (.inr (imm_strs _)) (by simp) (by simp) _ fun d hd s9 h9 => ?_
        obtain ⟨f, hf, rfl⟩ := List.mem_map.mp hd
        have hf2 : f.length ≤ 1 ∧ PyData.strOk f = true := by
          simp only [List.mem_cons, List.not_mem_nil, or_false] at hf
          rcases hf with rfl | rfl | rfl
          · exact ⟨by decide, by decide +kernel⟩
          · exact ⟨by decide, by decide +kernel⟩
          · exact ⟨Ws1, Ws.2⟩
        walk_at "nenv"
        walk_at "ws"
        refine WE.frz (WE.nop rfl (app _ _ _ _ (by have := cl none (some e); omega) (by omega)) ?_)
        walk_at "ws"
        exact q _ ⟨by rw [len_app]; have := cl none (some e); omega, strOk_app (co _ _) hf2.2⟩ s9 h9
end DN

set_option Elab.async false
set_option linter.all false
set_option maxRecDepth 100000
set_option maxHeartbeats 4000000
/-! The plain law of k00: near machines, bad machines. -/
namespace DN
open PySem PySem.Spec PyProof.Rows L2
variable [KSeq]
local macro_rules | `(tactic| walk_at "immt") => `(tactic| first | assumption | (with_unfolding_all exact rfl) | with_reducible exact imm_ints _ | with_reducible exact imm_strs _ | with_reducible exact imm_tupS _)
local macro_rules | `(tactic| walk_at "opd") => `(tactic| first
  | with_reducible assumption
  | with_reducible exact lenS_lst _ | with_reducible exact lenS_tup _ | with_reducible exact lenS_seq _ | with_reducible exact lenS_str (by with_unfolding_all first | assumption | omega)
  | with_reducible exact eqS_int _ _ _ | with_reducible exact eqS_ints_nil _ _ | with_reducible exact listK2_lst (by walk_at "immt") | with_reducible exact inS_lst _ (by assumption) (by assumption) | with_reducible exact inS_tup _ (by assumption) (by assumption) | with_reducible exact ordS_int _ _ _ | with_reducible exact addK_int _ _ _ _ | with_reducible exact subD_int _ _
  | with_reducible exact modD_int (by with_unfolding_all first | assumption | omega | decide)
  | with_reducible exact fdivD_int (by with_unfolding_all first | assumption | omega | decide) (by with_unfolding_all first | assumption | omega | decide)
  | with_reducible exact mulK_intR (by with_unfolding_all first | decide | omega) | with_reducible exact mulK_intL (by with_unfolding_all first | decide | omega)
  | with_reducible exact powD_int (by with_unfolding_all first | decide | omega) (by with_unfolding_all first | decide | omega) (by with_unfolding_all first | decide | omega)
  | with_reducible exact inS_intG _ (by with_unfolding_all exact rfl)
  | with_reducible exact listK2_tup (by assumption) | with_reducible exact revK_tup (by assumption) | with_reducible exact slHi_tup (by assumption) | with_reducible exact slLo_tup (by assumption)
  | with_reducible exact slHi_str (by assumption) | with_reducible exact slLo_str (by assumption)
  | with_reducible exact slHi_lst (by walk_at "immt") | with_reducible exact slLo_lst (by walk_at "immt") | with_reducible exact tupK_lst (by walk_at "immt") | with_reducible exact max2S_int _ _ | with_reducible exact min2S_int _ _
  | with_unfolding_all exact rfl)
local macro_rules | `(tactic| walk_at "uni") => `(tactic| with_reducible first | exact uni_nil | exact uni_I (by walk_at "immt") (by walk_at "uni") | exact uni_1 (by walk_at "immt") (by walk_at "uni") | exact uni_j (by walk_at "immt") (by walk_at "uni"))
local macro_rules | `(tactic| walk_at "prep") => `(tactic| first
  | with_reducible exact prep_nil
  | (with_reducible apply prep_vF; walk_at "prep") | (with_reducible apply prep_vT; walk_at "prep")
  | (with_reducible apply prep_m; (with_unfolding_all exact rfl); walk_at "prep")
  | (with_reducible apply prep_i; (with_unfolding_all exact rfl); walk_at "immt"; walk_at "prep")
  | (with_reducible apply prep_f; (with_unfolding_all exact rfl); (with_unfolding_all exact rfl); walk_at "prep"))
local macro_rules | `(tactic| walk_at "w1") => `(tactic| with_reducible first
  | refine WS.seq ?_ | refine SqP.nx ?_ | refine SqP.rt ?_ | refine WS.skip ?_ | refine WS.ifS ?_ | refine WS.retv ?_ | refine WS.expr ?_ | refine WS.asgN ?_ | refine WS.asg ?_ | refine WS.par ?_ | refine WS.forS ?_
  | refine WE.opE ?_ | refine WE.ev ?_ | refine WE.eb (by with_unfolding_all exact rfl) ?_ | refine WE.e0 ?_ | refine WE.cst ?_ | refine WE.ret ?_ | refine WE.boolM ?_
  | refine WE.frz (WE.idx (by with_unfolding_all exact rfl) (by walk_at "opd") ?_) | refine WE.sop (by with_unfolding_all exact rfl) (by walk_at "opd") ?_ | refine WE.nop (by with_unfolding_all exact rfl) (by walk_at "opd") ?_ | refine WE.frz (WE.nop (by with_unfolding_all exact rfl) (by walk_at "opd") ?_)
  | refine WE.nameI (by with_unfolding_all exact rfl) (by walk_at "immt") ?_ | refine WE.movI (by with_unfolding_all exact rfl) (by walk_at "immt") ?_
  | refine WE.notM ?_ | refine WE.andM ?_ | refine WE.orM ?_ | refine WE.andV ?_ | refine WE.orV ?_ | refine WE.notV ?_ | refine WE.ifV ?_ | refine WE.chainV ?_ | refine WE.bind ?_ | refine WE.valM ?_ | refine WE.intS ?_ | refine WE.lcS ?_ | refine WE.itsR1 ?_ | refine WE.itsV ?_
  | refine WE.setRest (by with_unfolding_all exact rfl) ?_ | refine WE.setTurn (by with_unfolding_all exact rfl) ?_
  | refine WE.uniL (by walk_at "uni") (by with_unfolding_all exact of_decide_eq_true rfl) ?_ | refine WE.uniT (by walk_at "uni") (by with_unfolding_all exact of_decide_eq_true rfl) ?_
  | refine WE.pth (by with_unfolding_all exact rfl) (by with_unfolding_all exact rfl) (by with_unfolding_all exact rfl) (by with_unfolding_all exact rfl) (by with_unfolding_all exact rfl) (by with_unfolding_all exact rfl) ?_
  | refine WE.popAt (by with_unfolding_all exact rfl) (by first | with_reducible exact ixN_zero _ | with_unfolding_all exact rfl) (by with_unfolding_all exact rfl) (by with_unfolding_all exact rfl) ?_
  | refine WS.forH0 (by with_unfolding_all exact rfl) (by with_unfolding_all first | exact .inr rfl | exact .inl rfl) ?_
  | refine WE.fvL (by with_unfolding_all exact rfl) (by with_unfolding_all exact of_decide_eq_true rfl) (fun _ => ?_)
  | refine WE.call (by first | with_unfolding_all exact rfl | walk_at "prep") ?_
  | refine WE.callC (by first | with_unfolding_all exact rfl | walk_at "prep") ?_
  | refine WE.mth ?_)
local macro_rules | `(tactic| walk_at "nenv") => `(tactic| try simp only [kz_str, kz_int, Bool.false_eq_true, if_false, if_true, List.take_succ_cons, List.take_zero, List.take_nil, List.length_cons, List.length_nil, Nat.zero_add, Nat.reduceAdd, List.set_cons_zero, List.set_cons_succ, List.set_nil, zipO, puts, List.append_nil, List.cons_append, List.nil_append, wipeE, unwipe, slotE, List.getElem?_cons_zero, List.getElem?_cons_succ])
local macro_rules | `(tactic| walk_at "w2") => `(tactic| first
  | walk_at "w1"
  | (with_reducible refine ⟨ltN (by with_unfolding_all exact rfl), ?_⟩; try walk_at "nenv")
  | with_reducible refine ⟨small62_of (by omega) (by omega), ?_⟩
  | (with_reducible refine ⟨tyT (by with_unfolding_all exact rfl), ?_⟩; try walk_at "nenv")
  | (refine ⟨_, by with_unfolding_all exact rfl, ?_⟩; try walk_at "nenv")
  | with_reducible refine .inl ⟨_, .inl rfl, ?_⟩
  | with_reducible refine .inl ⟨_, .inr (.inl rfl), ?_⟩
  | with_reducible refine .inr ⟨_, rfl, ?_⟩
  | (with_reducible refine WE.nameF (by with_unfolding_all exact rfl) (by first | assumption | with_unfolding_all exact rfl) ?_; try walk_at "nenv")
  | (with_reducible refine WE.movF (by with_unfolding_all exact rfl) (by first | assumption | with_unfolding_all exact rfl) ?_; try walk_at "nenv")
  | refine ⟨fun _ => ?_, fun h => Bool.noConfusion (show true = false from h)⟩
  | refine ⟨fun h => Bool.noConfusion (show false = true from h), fun _ => ?_⟩)
local macro_rules | `(tactic| walk_at "ws") => `(tactic| repeat walk_at "w2")
local macro_rules | `(tactic| walk_at "bag") => `(tactic| refine ⟨Bag.cln1 _ _ _ (by walk_at "immt"), ?_⟩)
/-- data that both readers can judge -/
def Jd (d : D) : Prop := d.fit 100 = true ∧ d.dep ≤ 6
theorem jd_mch {ins outs : List Str} {rows : List (List (Str × Int))} {n : Nat} (i1 : ins.length ≤ 5) (o1 : outs.length ≤ 5) (inm : ∀ x ∈ ins, nm x = true) (onm : ∀ x ∈ outs, nm x = true) (hr : rows.length ≤ 20) (hrow : ∀ row ∈ rows, row.length ≤ 5 ∧ ∀ p ∈ row, nm p.1 = true) : Jd (mchD ins outs rows) := by
  have fs : ∀ ws : List Str, ws.length ≤ 5 → (∀ x ∈ ws, nm x = true) → (D.tup (ws.map .str)).fit 100 = true ∧ (D.tup (ws.map .str)).dep ≤ 1 := fun ws hl hn => by
    refine ⟨fit_tup.mpr ⟨by rw [List.length_map]; omega, fun d hd => ?_⟩, ?_⟩
    · obtain ⟨x, hx, rfl⟩ := List.mem_map.mp hd
      have := nm_len (hn x hx)
      exact fit_str.mpr ⟨by omega, nm_ok (hn x hx)⟩
    · rw [D.dep]
      have : D.depAll (ws.map D.str) ≤ 0 := depAll_le.mpr fun d hd => by
        obtain ⟨x, hx, rfl⟩ := List.mem_map.mp hd
        simp [D.dep]
      omega
  have fr : (D.tup (rows.map rowD)).fit 100 = true ∧ (D.tup (rows.map rowD)).dep ≤ 3 := by
    refine ⟨fit_tup.mpr ⟨by rw [List.length_map]; omega, fun d hd => ?_⟩, ?_⟩
    · obtain ⟨row, hrw, rfl⟩ := List.mem_map.mp hd
      refine fit_tup.mpr ⟨by rw [List.length_map]; have := (hrow row hrw).1; omega, fun d hd => ?_⟩
      obtain ⟨p, hp, rfl⟩ := List.mem_map.mp hd
      have hx := (hrow row hrw).2 p hp
      have := nm_len hx
      refine fit_tup.mpr ⟨by simp, fun d hd => ?_⟩
      simp only [List.mem_cons, List.not_mem_nil, or_false] at hd
      rcases hd with rfl | rfl
      · exact fit_str.mpr ⟨by omega, nm_ok hx⟩
      · rfl
    · rw [D.dep]
      have : D.depAll (rows.map rowD) ≤ 2 := depAll_le.mpr fun d hd => by
        obtain ⟨row, hrw, rfl⟩ := List.mem_map.mp hd
        show (D.tup (row.map prD)).dep ≤ 2
        rw [D.dep]
        have : D.depAll (row.map prD) ≤ 1 := depAll_le.mpr fun d hd => by
          obtain ⟨p, hp, rfl⟩ := List.mem_map.mp hd
          show (D.tup [.str p.1, .int p.2]).dep ≤ 1
          simp [D.dep, D.depAll]
        omega
      omega
  have f1 := fs ins (by omega) inm
  have f2 := fs outs (by omega) onm
  constructor
  · refine fit_tup.mpr ⟨by simp, fun d hd => ?_⟩
    simp only [List.mem_cons, List.not_mem_nil, or_false] at hd
    rcases hd with rfl | rfl | rfl | rfl
    · exact fit_str.mpr ⟨by decide +kernel, by decide +kernel⟩
    · exact f1.1
    · exact f2.1
    · exact fr.1
  · show (D.tup _).dep ≤ 6
    rw [D.dep]
    have : D.depAll [.str "machine", .tup (ins.map .str), .tup (outs.map .str), .tup (rows.map rowD)] ≤ 3 := depAll_le.mpr fun d hd => by
      simp only [List.mem_cons, List.not_mem_nil, or_false] at hd
      rcases hd with rfl | rfl | rfl | rfl
      · simp [D.dep]
      · omega
      · omega
      · exact fr.2
    omega
theorem jd_all {ds : List D} (h : (ds.all fun x => x.fit 100 && decide (x.dep ≤ 6)) = true) : ∀ x ∈ ds, Jd x := fun x hx => by
  have := List.all_eq_true.mp h x hx
  rw [Bool.and_eq_true, decide_eq_true_eq] at this
  exact this
theorem bad_ok (s : Bag) (B : Nat) (h : s.Ok (B + 1)) (Q : Nat → D → List KD → Prop) (q : ∀ x : D, Jd x → ∀ s' : Bag, s'.Ok B → Q (kz x).1 x [(10, s'.d)]) : WR Q (R_k00_29 [(10, s.d)]) := by
  refine WR.fn (ρ := [some (10, s.d), none, none]) rfl ?_
  unfold F_k00_29
  walk_at "ws"
  refine WE.addLst rfl rfl (by simp [lineN]) fun k2 => ?_
  walk_at "nenv"
  walk_at "ws"
  refine pick_lst _ B h _ _ (.inl (by decide +kernel)) (by simp) (by simp) _ fun x hx s1 h1 => ?_
  walk_at "nenv"
  walk_at "ws"
  exact q x (jd_all (by decide +kernel) x hx) s1 h1
def lrow (row : List (Str × Int)) : D := .lst (row.map prD)
theorem near_ok (s : Bag) (B : Nat) (ins outs : List Str) (rows : List (List (Str × Int))) (i0 : 1 ≤ ins.length) (i1 : ins.length ≤ 4) (o0 : 1 ≤ outs.length) (o1 : outs.length ≤ 5) (inm : ∀ x ∈ ins, nm x = true) (onm : ∀ x ∈ outs, nm x = true) (r0 : 1 ≤ rows.length) (hr : rows.length ≤ 20) (n : Int) (hrow : ∀ row ∈ rows, RowOk outs ins.length n row) (h : s.Ok (B + 5)) (k : Nat) (Q : Nat → D → List KD → Prop) (q : ∀ x : D, Jd x → ∀ s' : Bag, s'.Ok B → Q (kz x).1 x [(10, s'.d)]) : WR Q (R_k00_22 [(10, s.d), (9, mchD ins outs rows)]) := by
  refine WR.fn (ρ := [some (10, s.d), some (9, mchD ins outs rows), none, none, none, none, none, none]) rfl ?_
  unfold F_k00_22
  have imi := imm_strs ins
  have imo := imm_strs outs
  have imr : D.immAll (rows.map rowD) = true := imm_rows rows
  have imm : D.immAll [.str "machine", .tup (ins.map .str), .tup (outs.map .str), .tup (rows.map rowD)] = true := by
    simp [D.immAll, D.imm, imi, imo, imr]
  have e1 : idxK [(9, mchD ins outs rows), (9, .int 1)] = some (9, .tup (ins.map .str)) := idxK_tupI rfl imi
  have e2 : idxK [(9, mchD ins outs rows), (9, .int 2)] = some (9, .tup (outs.map .str)) := idxK_tupI rfl imo
  have e3 : idxK [(9, mchD ins outs rows), (9, .int 3)] = some (9, .tup (rows.map rowD)) := idxK_tupI rfl imr
  have e4 : slHi [(9, mchD ins outs rows), (9, .int 3)] = some (9, .tup [.str "machine", .tup (ins.map .str), .tup (outs.map .str)]) := by
    rw [show mchD ins outs rows = .tup [.str "machine", .tup (ins.map .str), .tup (outs.map .str), .tup (rows.map rowD)] from rfl, slHi_tup (.inr imm), cutD_hi _ (by decide)]
    have : kT ([D.str "machine", .tup (ins.map .str), .tup (outs.map .str), .tup (rows.map rowD)].take (Int.toNat 3)) = 9 := if_pos (by
      show D.immAll [D.str "machine", .tup (ins.map .str), .tup (outs.map .str)] = true
      simp [D.immAll, D.imm, imi, imo])
    rw [this]; rfl
  have eL : ∀ row, listK2 [(9, rowD row)] = some (9, lrow row) := fun row => by
    show listK2 [(9, .tup (row.map prD))] = _
    rw [listK2_tup (.inr (imm_prs row))]
    have : kL (row.map prD) = 9 := if_pos (imm_prs row)
    rw [this]; rfl
  have leni : (ins.map D.str).length = ins.length := List.length_map _
  walk_at "ws"
  refine WE.lcL (I := fun ds k' acc ρ => ρ = [some (10, s.d), some (9, mchD ins outs rows), none, none, none, none, none, none] ∧ ∃ done rest, rows = done ++ rest ∧ ds = (rest.map rowD).map kz ∧ acc = done.map lrow ∧ (k' = 9 ∨ (k' = 8 ∧ done = []))) _ ⟨rfl, [], rows, rfl, rfl, rfl, .inr ⟨rfl, rfl⟩⟩ (fun kd r k' acc ρ h => ?_) (fun k' acc ρ h => ?_)
  · obtain ⟨rfl, done, rest, er, ed, rfl, hk⟩ := h
    cases rest with
    | nil => cases ed
    | cons row rest =>
      simp only [List.map_cons, List.cons.injEq] at ed
      obtain ⟨rfl, rfl⟩ := ed
      rw [show kz (rowD row) = (9, rowD row) by unfold kz; rw [if_pos (imm_row row)]]
      have el := eL row
      have hl : done.length ≤ 20 := by rw [er] at hr; rw [List.length_append] at hr; omega
      walk_at "ws"
      refine ⟨by rw [List.length_map]; unfold lineN; omega, 9, ?_, rfl, done ++ [row], rest, by rw [er]; simp, rfl, by rw [List.map_append]; rfl, .inl rfl⟩
      unfold joinLv
      rw [if_neg (show ¬ (lrow row).imm = true from Bool.false_ne_true)]
      rcases hk with rfl | ⟨rfl, rfl⟩
      · split <;> rfl
      · rfl
  · obtain ⟨rfl, done, rest, er, ed, rfl, hk⟩ := h
    have : rest = [] := by simpa using ed.symm
    subst this
    rw [List.append_nil] at er
    subst er
    obtain rfl : k' = 9 := by
      rcases hk with rfl | ⟨_, rfl⟩
      · rfl
      · simp at r0
    have lenr : (rows.map lrow).length = rows.length := List.length_map _
    walk_at "nenv"
    walk_at "ws"
    refine take_ok _ (B + 4) h _ (by omega) (by omega) _ _ fun st s1 st0 st1 h1 => ?_
    walk_at "nenv"
    walk_at "ws"
    refine take_ok _ (B + 3) h1 _ (by omega) (by omega) _ _ fun pl s2 pl0 pl1 h2 => ?_
    walk_at "nenv"
    walk_at "ws"
    obtain ⟨row, er, er2, hrm⟩ := atI_in (ds := rows) st0 (by rw [← lenr]; exact st1)
    obtain ⟨rl, rp⟩ := hrow row hrm
    obtain ⟨p, ep, ep2, hpm⟩ := atI_in (ds := row) pl0 (by rw [rl, ← leni]; exact pl1)
    have ix1 : ixN (rows.map lrow).length st = some st.toNat := ixN_in st0 st1
    have ix2 : ixN (row.map prD).length pl = some pl.toNat := ixN_in pl0 (by rw [List.length_map, rl, ← leni]; exact pl1)
    have eg : (rows.map lrow)[st.toNat]? = some (lrow row) := by rw [List.getElem?_map, er2]; rfl
    have ei : idxK [(9, lrow row), (9, .int pl)] = some (9, prD p) := idxK_lstI (by unfold atI; rw [ix2]; show (row.map prD)[pl.toNat]? = _; rw [List.getElem?_map, ep2]; rfl) rfl
    have eset : (rows.map lrow).set st.toNat (lrow row) = rows.map lrow := by
      obtain ⟨hl, e⟩ := List.getElem?_eq_some_iff.mp eg
      rw [← e, List.set_getElem_self]
    refine WE.pth rfl rfl rfl rfl (kidAt_lst ix1 eg) rfl ?_
    walk_at "ws"
    refine WE.idx (ds := [(9, lrow row), (9, .int pl)]) rfl ei ?_
    refine ⟨_, _, rfl, kidPut_lst ix1, ?_⟩
    rw [eset]
    have fin : ∀ (rows' : List (List (Str × Int))) (s' : Bag) (y5 y6 : Sl), rows'.length = rows.length → (∀ row ∈ rows', row.length ≤ 4 ∧ ∀ p ∈ row, p.1 ∈ outs) → s'.Ok B → WS (RnP Q [true, false]) (seqS (retS (opE [.v (opE [.b 1, .v (intS (cst (.int 3)))] (frzOps (nop slHi))), .v (opE [.v (opE [.v (lcS (itsV (nameS 2)) (.n 7) (M.ret true) (opE [.b 7] (frzOps (nop tupK))) [7])] (frzOps (nop tupK)))] dispT)] (frzOps (nop addK)))) skipS [some (10, s'.d), some (9, mchD ins outs rows), some (10, .lst (rows'.map lrow)), some (9, .int st), some (9, .int pl), y5, y6, none]) := fun rows' s' y5 y6 hl' hr' h' => by
      walk_at "ws"
      refine WE.lcL (I := fun ds k' acc ρ => k' = 8 ∧ ρ = [some (10, s'.d), some (9, mchD ins outs rows), some (0, .lst (rows'.map lrow)), some (9, .int st), some (9, .int pl), y5, y6, none] ∧ ∃ done rest, rows' = done ++ rest ∧ ds = (rest.map lrow).map kz ∧ acc = done.map rowD) _ ⟨rfl, rfl, [], rows', rfl, rfl, rfl⟩ (fun kd r k' acc ρ h => ?_) (fun k' acc ρ h => ?_)
      · obtain ⟨rfl, rfl, done, rest, er, ed, rfl⟩ := h
        cases rest with
        | nil => cases ed
        | cons row rest =>
          simp only [List.map_cons, List.cons.injEq] at ed
          obtain ⟨rfl, rfl⟩ := ed
          have hl : done.length ≤ 20 := by rw [er, List.length_append] at hl'; omega
          have et : tupK [(0, lrow row)] = some (9, rowD row) := tupK_lst (imm_prs row)
          rw [show kz (lrow row) = (0, lrow row) from rfl]
          walk_at "ws"
          refine ⟨by rw [List.length_map]; unfold lineN; omega, 8, by unfold joinLv; exact if_pos (imm_row row), rfl, rfl, done ++ [row], rest, by rw [er]; simp, rfl, by rw [List.map_append]; rfl⟩
      · obtain ⟨rfl, rfl, done, rest, er, ed, rfl⟩ := h
        have : rest = [] := by simpa using ed.symm
        subst this
        rw [List.append_nil] at er
        subst er
        have imr' : D.immAll (rows'.map rowD) = true := imm_rows rows'
        have imr2 : (D.tup (rows'.map rowD)).imm = true := imr'
        walk_at "nenv"
        walk_at "ws"
        refine WE.frz (WE.nop rfl (addK_tup (by simp [D.immAll, D.imm, imi, imo]) (by simp [D.immAll, imr2]) (by simp [lineN])) ?_)
        walk_at "ws"
        have := q (mchD ins outs rows') (jd_mch (n := 0) (by omega) o1 inm onm (by omega) fun row h => ⟨Nat.le_trans (hr' row h).1 (by omega), fun p hp => onm _ ((hr' row h).2 p hp)⟩) s' h'
        have ek : (kz (mchD ins outs rows')).1 = 9 := by
          have : (mchD ins outs rows').imm = true := by
            show D.immAll [.str "machine", .tup (ins.map .str), .tup (outs.map .str), .tup (rows'.map rowD)] = true
            simp [D.immAll, D.imm, imi, imo, imr']
          unfold kz; rw [if_pos this]
        rw [ek] at this
        exact this
    have upd : ∀ (o : Str) (z : Int), o ∈ outs → (rows.set st.toNat (row.set pl.toNat (o, z))).length = rows.length ∧ ∀ row' ∈ rows.set st.toNat (row.set pl.toNat (o, z)), row'.length ≤ 4 ∧ ∀ p ∈ row', p.1 ∈ outs := fun o z ho => by
      refine ⟨List.length_set, fun row' hr' => ?_⟩
      rcases List.mem_or_eq_of_mem_set hr' with hm | rfl
      · obtain ⟨a, b⟩ := hrow row' hm
        exact ⟨by omega, fun p hp => (b p hp).1⟩
      · refine ⟨by rw [List.length_set]; omega, fun p' hp' => ?_⟩
        rcases List.mem_or_eq_of_mem_set hp' with hm | rfl
        · exact (rp p' hm).1
        · exact ho
    have eupd : ∀ (o : Str) (z : Int), (rows.map lrow).set st.toNat (.lst ((row.map prD).set pl.toNat (.tup [.str o, .int z]))) = (rows.set st.toNat (row.set pl.toNat (o, z))).map lrow := fun o z => by
      rw [List.map_set]
      show _ = (rows.map lrow).set st.toNat (.lst ((row.set pl.toNat (o, z)).map prD))
      rw [List.map_set]; rfl
    walk_at "nenv"
    walk_at "ws"
    refine take_ok _ (B + 2) h2 _ (by omega) (by omega) _ _ fun z s3 z0 z1 h3 => ?_
    walk_at "nenv"
    walk_at "ws"
    refine ⟨fun _ => ?_, fun _ => ?_⟩
    · walk_at "ws"
      refine pick_tup _ (B + 1) h3 (outs.map .str) _ (.inr imo) (by intro e; rw [List.map_eq_nil_iff] at e; subst e; simp at o0) (by rw [List.length_map]; omega) _ fun d hd s4 h4 => ?_
      obtain ⟨o, ho, rfl⟩ := List.mem_map.mp hd
      walk_at "nenv"
      walk_at "ws"
      refine WE.pth rfl rfl rfl rfl (kidAt_lst ix1 eg) rfl ?_
      walk_at "ws"
      walk_at "nenv"
      refine WE.setL rfl ix2 (k' := 8) rfl ?_
      refine ⟨_, _, rfl, kidPut_lst ix1, ?_⟩
      rw [eupd]
      walk_at "nenv"
      have hu := upd o p.2 ho
      exact SqP.nx (WS.skip (SqP.nx (fin _ s4 _ _ hu.1 hu.2 (h4.mono (by omega)))))
    · walk_at "ws"
      refine take_ok _ (B + 1) h3 _ (by omega) (by omega) _ _ fun z2 s4 z20 z21 h4 => ?_
      walk_at "nenv"
      walk_at "ws"
      refine WE.pth rfl rfl rfl rfl (kidAt_lst ix1 eg) rfl ?_
      walk_at "ws"
      walk_at "nenv"
      refine WE.setL rfl ix2 (k' := 8) rfl ?_
      refine ⟨_, _, rfl, kidPut_lst ix1, ?_⟩
      rw [eupd]
      walk_at "nenv"
      have hu := upd p.1 z2 (rp p hpm).1
      exact SqP.nx (WS.skip (SqP.nx (fin _ s4 _ _ hu.1 hu.2 (h4.mono (by omega)))))
end DN

set_option Elab.async false
set_option linter.all false
set_option maxRecDepth 100000
set_option maxHeartbeats 4000000
/-! The plain law of k00: the limits. -/
namespace DN
open PySem PySem.Spec PyProof.Rows L2
variable [KSeq]
local macro_rules | `(tactic| walk_at "immt") => `(tactic| first | assumption | (with_unfolding_all exact rfl) | with_reducible exact imm_ints _ | with_reducible exact imm_strs _ | with_reducible exact imm_tupS _)
local macro_rules | `(tactic| walk_at "opd") => `(tactic| first
  | with_reducible assumption
  | with_reducible exact lenS_lst _ | with_reducible exact lenS_tup _ | with_reducible exact lenS_seq _ | with_reducible exact lenS_str (by with_unfolding_all first | assumption | omega)
  | with_reducible exact eqS_int _ _ _ | with_reducible exact eqS_ints_nil _ _ | with_reducible exact listK2_lst (by walk_at "immt") | with_reducible exact inS_lst _ (by assumption) (by assumption) | with_reducible exact inS_tup _ (by assumption) (by assumption) | with_reducible exact ordS_int _ _ _ | with_reducible exact addK_int _ _ _ _ | with_reducible exact subD_int _ _
  | with_reducible exact modD_int (by with_unfolding_all first | assumption | omega | decide)
  | with_reducible exact fdivD_int (by with_unfolding_all first | assumption | omega | decide) (by with_unfolding_all first | assumption | omega | decide)
  | with_reducible exact mulK_intR (by with_unfolding_all first | decide | omega) | with_reducible exact mulK_intL (by with_unfolding_all first | decide | omega)
  | with_reducible exact powD_int (by with_unfolding_all first | decide | omega) (by with_unfolding_all first | decide | omega) (by with_unfolding_all first | decide | omega)
  | with_reducible exact inS_intG _ (by with_unfolding_all exact rfl)
  | with_reducible exact listK2_tup (by assumption) | with_reducible exact revK_tup (by assumption) | with_reducible exact slHi_tup (by assumption) | with_reducible exact slLo_tup (by assumption)
  | with_reducible exact slHi_str (by assumption) | with_reducible exact slLo_str (by assumption)
  | with_reducible exact slHi_lst (by walk_at "immt") | with_reducible exact slLo_lst (by walk_at "immt") | with_reducible exact tupK_lst (by walk_at "immt") | with_reducible exact max2S_int _ _ | with_reducible exact min2S_int _ _
  | with_unfolding_all exact rfl)
local macro_rules | `(tactic| walk_at "uni") => `(tactic| with_reducible first | exact uni_nil | exact uni_I (by walk_at "immt") (by walk_at "uni") | exact uni_1 (by walk_at "immt") (by walk_at "uni") | exact uni_j (by walk_at "immt") (by walk_at "uni"))
local macro_rules | `(tactic| walk_at "prep") => `(tactic| first
  | with_reducible exact prep_nil
  | (with_reducible apply prep_vF; walk_at "prep") | (with_reducible apply prep_vT; walk_at "prep")
  | (with_reducible apply prep_m; (with_unfolding_all exact rfl); walk_at "prep")
  | (with_reducible apply prep_i; (with_unfolding_all exact rfl); walk_at "immt"; walk_at "prep")
  | (with_reducible apply prep_f; (with_unfolding_all exact rfl); (with_unfolding_all exact rfl); walk_at "prep"))
local macro_rules | `(tactic| walk_at "w1") => `(tactic| with_reducible first
  | refine WS.seq ?_ | refine SqP.nx ?_ | refine SqP.rt ?_ | refine WS.skip ?_ | refine WS.ifS ?_ | refine WS.retv ?_ | refine WS.expr ?_ | refine WS.asgN ?_ | refine WS.asg ?_ | refine WS.par ?_ | refine WS.forS ?_
  | refine WE.opE ?_ | refine WE.ev ?_ | refine WE.eb (by with_unfolding_all exact rfl) ?_ | refine WE.e0 ?_ | refine WE.cst ?_ | refine WE.ret ?_ | refine WE.boolM ?_
  | refine WE.frz (WE.idx (by with_unfolding_all exact rfl) (by walk_at "opd") ?_) | refine WE.sop (by with_unfolding_all exact rfl) (by walk_at "opd") ?_ | refine WE.nop (by with_unfolding_all exact rfl) (by walk_at "opd") ?_ | refine WE.frz (WE.nop (by with_unfolding_all exact rfl) (by walk_at "opd") ?_)
  | refine WE.nameI (by with_unfolding_all exact rfl) (by walk_at "immt") ?_ | refine WE.movI (by with_unfolding_all exact rfl) (by walk_at "immt") ?_
  | refine WE.notM ?_ | refine WE.andM ?_ | refine WE.orM ?_ | refine WE.andV ?_ | refine WE.orV ?_ | refine WE.notV ?_ | refine WE.ifV ?_ | refine WE.chainV ?_ | refine WE.bind ?_ | refine WE.valM ?_ | refine WE.intS ?_ | refine WE.lcS ?_ | refine WE.itsR1 ?_ | refine WE.itsV ?_
  | refine WE.setRest (by with_unfolding_all exact rfl) ?_ | refine WE.setTurn (by with_unfolding_all exact rfl) ?_
  | refine WE.uniL (by walk_at "uni") (by with_unfolding_all exact of_decide_eq_true rfl) ?_ | refine WE.uniT (by walk_at "uni") (by with_unfolding_all exact of_decide_eq_true rfl) ?_
  | refine WE.pth (by with_unfolding_all exact rfl) (by with_unfolding_all exact rfl) (by with_unfolding_all exact rfl) (by with_unfolding_all exact rfl) (by with_unfolding_all exact rfl) (by with_unfolding_all exact rfl) ?_
  | refine WE.popAt (by with_unfolding_all exact rfl) (by first | with_reducible exact ixN_zero _ | with_unfolding_all exact rfl) (by with_unfolding_all exact rfl) (by with_unfolding_all exact rfl) ?_
  | refine WS.forH0 (by with_unfolding_all exact rfl) (by with_unfolding_all first | exact .inr rfl | exact .inl rfl) ?_
  | refine WE.fvL (by with_unfolding_all exact rfl) (by with_unfolding_all exact of_decide_eq_true rfl) (fun _ => ?_)
  | refine WE.call (by first | with_unfolding_all exact rfl | walk_at "prep") ?_
  | refine WE.callC (by first | with_unfolding_all exact rfl | walk_at "prep") ?_
  | refine WE.mth ?_)
local macro_rules | `(tactic| walk_at "nenv") => `(tactic| try simp only [kz_str, kz_int, Bool.false_eq_true, if_false, if_true, List.take_succ_cons, List.take_zero, List.take_nil, List.length_cons, List.length_nil, Nat.zero_add, Nat.reduceAdd, List.set_cons_zero, List.set_cons_succ, List.set_nil, zipO, puts, List.append_nil, List.cons_append, List.nil_append, wipeE, unwipe, slotE, List.getElem?_cons_zero, List.getElem?_cons_succ])
local macro_rules | `(tactic| walk_at "w2") => `(tactic| first
  | walk_at "w1"
  | (with_reducible refine ⟨ltN (by with_unfolding_all exact rfl), ?_⟩; try walk_at "nenv")
  | with_reducible refine ⟨small62_of (by omega) (by omega), ?_⟩
  | (with_reducible refine ⟨tyT (by with_unfolding_all exact rfl), ?_⟩; try walk_at "nenv")
  | (refine ⟨_, by with_unfolding_all exact rfl, ?_⟩; try walk_at "nenv")
  | with_reducible refine .inl ⟨_, .inl rfl, ?_⟩
  | with_reducible refine .inl ⟨_, .inr (.inl rfl), ?_⟩
  | with_reducible refine .inr ⟨_, rfl, ?_⟩
  | (with_reducible refine WE.nameF (by with_unfolding_all exact rfl) (by first | assumption | with_unfolding_all exact rfl) ?_; try walk_at "nenv")
  | (with_reducible refine WE.movF (by with_unfolding_all exact rfl) (by first | assumption | with_unfolding_all exact rfl) ?_; try walk_at "nenv")
  | refine ⟨fun _ => ?_, fun h => Bool.noConfusion (show true = false from h)⟩
  | refine ⟨fun h => Bool.noConfusion (show false = true from h), fun _ => ?_⟩)
local macro_rules | `(tactic| walk_at "ws") => `(tactic| repeat walk_at "w2")
local macro_rules | `(tactic| walk_at "bag") => `(tactic| refine ⟨Bag.cln1 _ _ _ (by walk_at "immt"), ?_⟩)
theorem areN_strs (a b : Int) (ws : List Str) (hn : ∀ x ∈ ws, nm x = true) (hd : ws.Nodup) : areN a b (.tup (ws.map .str)) = (decide (a ≤ ws.length) && decide ((ws.length : Int) ≤ b)) := by
  rw [areN_tup]
  have h1 : (ws.map D.str).all isNm = true := by
    rw [List.all_map, List.all_eq_true]; exact fun x hx => hn x hx
  have h2 : decide (((ws.map D.str).map toS).Nodup) = true := by rw [toS_map]; exact decide_eq_true hd
  rw [h1, h2, List.length_map, Bool.and_true, Bool.and_true]
theorem isM_mch (ins outs : List Str) (rows : List (List (Str × Int))) : isM (mchD ins outs rows) = (areN 1 4 (.tup (ins.map .str)) && areN 2 4 (.tup (outs.map .str)) && rowsB ins.length outs (.tup (rows.map rowD))) := by
  show (true && (Str.ofString "machine" == Str.ofString "machine") && _ && _ && rowsB (ins.map D.str).length ((outs.map D.str).map toS) _) = _
  rw [beq_self_eq_true, List.length_map, toS_map]; rfl
theorem rowB_ok {outs : List Str} {w : Nat} {n : Int} {row : List (Str × Int)} (onm : ∀ x ∈ outs, nm x = true) (h : RowOk outs w n row) : rowB w outs n (rowD row) = true := by
  show ((row.map prD).length == w && (row.map prD).all (pairB outs n)) = true
  rw [List.length_map, h.1, beq_self_eq_true, Bool.true_and, List.all_map, List.all_eq_true]
  intro p hp
  obtain ⟨h1, h2, h3⟩ := h.2 p hp
  show (nm p.1 && outs.contains p.1 && (decide (0 ≤ p.2) && decide (p.2 ≤ n - 1))) = true
  rw [onm _ h1, List.contains_iff_mem.mpr h1, decide_eq_true h2, decide_eq_true (show p.2 ≤ n - 1 by omega)]; rfl
theorem isM_true {ins outs : List Str} {rows : List (List (Str × Int))} {n : Int} (i0 : 1 ≤ ins.length) (i1 : ins.length ≤ 4) (o0 : 2 ≤ outs.length) (o1 : outs.length ≤ 4) (ind : ins.Nodup) (ond : outs.Nodup) (inm : ∀ x ∈ ins, nm x = true) (onm : ∀ x ∈ outs, nm x = true) (r0 : 1 ≤ rows.length) (r1 : rows.length ≤ 12) (hn : (rows.length : Int) = n) (hrow : ∀ row ∈ rows, RowOk outs ins.length n row) : isM (mchD ins outs rows) = true := by
  rw [isM_mch, areN_strs _ _ _ inm ind, areN_strs _ _ _ onm ond]
  show (_ && _ && (_ && _) && (decide (1 ≤ (rows.map rowD).length) && decide ((rows.map rowD).length ≤ 12) && (rows.map rowD).all (rowB ins.length outs ((rows.map rowD).length : Nat)))) = true
  have hall : (rows.map rowD).all (rowB ins.length outs ((rows.map rowD).length : Nat)) = true := by
    rw [List.all_map, List.all_eq_true]
    intro row hr
    rw [List.length_map, hn]
    exact rowB_ok onm (hrow row hr)
  rw [hall, List.length_map, decide_eq_true (show (1 : Int) ≤ ins.length by omega), decide_eq_true (show (ins.length : Int) ≤ 4 by omega), decide_eq_true (show (2 : Int) ≤ outs.length by omega), decide_eq_true (show (outs.length : Int) ≤ 4 by omega), decide_eq_true r0, decide_eq_true r1]; rfl
theorem imm_mch (ins outs : List Str) (rows : List (List (Str × Int))) : (mchD ins outs rows).imm = true := by
  show D.immAll [.str "machine", .tup (ins.map .str), .tup (outs.map .str), .tup (rows.map rowD)] = true
  simp [D.immAll, D.imm, imm_strs ins, imm_strs outs, imm_rows rows]
theorem kz_imm {d : D} (h : d.imm = true) : kz d = (9, d) := by unfold kz; rw [if_pos h]
theorem mulK_tupI {k j : Nat} {xs : List D} {n : Int} (im : D.immAll xs = true) (n0 : -1000000 ≤ n) (n1 : n ≤ 1000) (l : xs.length ≤ 1000) : mulK [(k, .tup xs), (j, .int n)] = some (9, .tup (List.replicate n.toNat xs).flatten) := by
  have hi : D.immAll (List.replicate n.toNat xs).flatten = true := immAll_mem fun d hd => by
    obtain ⟨l, hl, hd⟩ := List.mem_flatten.mp hd
    rw [List.eq_of_mem_replicate hl] at hd
    exact mem_imm im d hd
  have hk : kT (List.replicate n.toNat xs).flatten = 9 := if_pos hi
  have : mulK [(k, .tup xs), (j, .int n)] = some (kT (List.replicate n.toNat xs).flatten, .tup (List.replicate n.toNat xs).flatten) := if_pos (by
    rw [kids0_of (.inr im), decide_eq_true n0, decide_eq_true n1, decide_eq_true l]; rfl)
  rw [this, hk]
theorem rep_one {w0 : Str} {n : Nat} : (List.replicate n [D.tup [.str w0, .int 0]]).flatten = (List.replicate n (w0, (0 : Int))).map prD := by
  rw [List.flatten_replicate_singleton, List.map_replicate]; rfl
theorem addTail {k j : Nat} {hd : List D} {x : D} (h1 : D.immAll hd = true) (h2 : x.imm = true) (l : hd.length ≤ 1000) : addK [(k, .tup hd), (j, .tup [x])] = some (9, .tup (hd ++ [x])) :=
  addK_tup h1 (by rw [D.immAll, h2]; rfl) (by simp [lineN]; omega)
theorem slHi_tupN {k j : Nat} {ds : List D} {i : Int} (h0 : 0 ≤ i) (im : D.immAll ds = true) : slHi [(k, .tup ds), (j, .int i)] = some (9, .tup (ds.take i.toNat)) := by
  rw [slHi_tup (.inr im), cutD_hi _ h0]
  have : kT (ds.take i.toNat) = 9 := if_pos (immAll_mem fun d hd => mem_imm im d (List.mem_of_mem_take hd))
  rw [this]
theorem WE.lcC {Q : KD → En → Prop} {t : Tg} {c : M Bool} {el : M KD} {vs : List Nat} {kd : KD} {r : List KD} {k : Nat} {acc : List D} {ρ ρ1 : En} (ea : asgT t kd.1 kd.2 ρ = some ρ1) (h : WE (fun b ρ2 => b = true ∧ WE (fun x ρ3 => acc.length < lineN ∧ ∃ k', joinLv k (D.immAll acc) x.1 x.2 = some k' ∧ WE Q (DN.lcL t c el vs r k' (acc ++ [x.2]) (wipeE ρ3 vs))) (el ρ2)) (c ρ1)) : WE Q (DN.lcL t c el vs (kd :: r) k acc ρ) := by
  obtain ⟨b, ρ2, e2, rfl, h⟩ := h.to
  obtain ⟨x, ρ3, e3, l, k', e4, q⟩ := h.to
  unfold DN.lcL
  rw [ea]
  dsimp only
  rw [e2]
  dsimp only
  rw [e3]
  obtain ⟨ke, d⟩ := x
  dsimp only at e4 q ⊢
  rw [if_pos l, e4]
  exact q
theorem limits_ok (s : Bag) (B : Nat) (h : s.Ok (B + 400)) (Q : Nat → D → List KD → Prop) (q : ∀ s' : Bag, s'.Ok B → Q 9 (.bl true) [(10, s'.d)]) : WR Q (R_k00_30 [(10, s.d)]) := by
  refine WR.fn (ρ := [some (10, s.d), none, none, none, none, none, none, none, none, none]) rfl ?_
  unfold F_k00_30
  walk_at "ws"
  refine names_ok _ (B + 300) _ _ (by omega) (by omega) (h.mono (by omega)) _ fun ws wl wnd wnm s1 h1 => ?_
  have iw := imm_strs ws
  have wl5 : ws.length = 5 := wl
  obtain ⟨w0, wr, ew⟩ : ∃ w0 wr, ws = w0 :: wr := by
    match ws, wl5 with
    | a :: r, _ => exact ⟨a, r, rfl⟩
  have i0 : idxK [(9, .lst (ws.map .str)), (9, .int 0)] = some (9, .str w0) := idxK_lstI (by rw [ew]; simp [atI, ixN]) rfl
  walk_at "nenv"
  walk_at "ws"
  have mem6 : ∀ kd ∈ rngI 0 6, ∃ i : Int, kd = (9, .int i) ∧ 0 ≤ i ∧ i < 6 := fun kd hk => (rng_mem hk).imp fun i h => ⟨h.1, h.2.1, by have := h.2.2; omega⟩
  rw [show (Int.toNat 6) = 6 from rfl]
  generalize hrg : rngI 0 6 = rg at mem6
  refine WS.loop (I := fun ds ρ => (∀ kd ∈ ds, ∃ i : Int, kd = (9, .int i) ∧ 0 ≤ i ∧ i < 6) ∧ ∃ x2 x3 x8 : Sl, ρ = [some (10, s1.d), some (9, .lst (ws.map .str)), x2, x3, none, none, none, none, x8, none]) ⟨mem6, _, _, _, rfl⟩ (fun kd r ρ h => ?_) (fun ρ h => ?_)
  · obtain ⟨hm, x2, x3, x8, rfl⟩ := h
    obtain ⟨i, rfl, i00, i01⟩ := hm _ List.mem_cons_self
    replace hm := fun kd hk => hm kd (List.mem_cons_of_mem _ hk)
    walk_at "ws"
    rw [show (Int.toNat 6) = 6 from rfl, hrg]
    refine WS.loop (I := fun ds ρ => (∀ kd ∈ ds, ∃ i : Int, kd = (9, .int i) ∧ 0 ≤ i ∧ i < 6) ∧ ∃ x3 x8 : Sl, ρ = [some (10, s1.d), some (9, .lst (ws.map .str)), some (9, .int i), x3, none, none, none, none, x8, none]) ⟨mem6, _, _, rfl⟩ (fun kd r2 ρ h => ?_) (fun ρ h => ?_)
    · obtain ⟨hm2, x3, x8, rfl⟩ := h
      obtain ⟨o, rfl, o00, o01⟩ := hm2 _ List.mem_cons_self
      replace hm2 := fun kd hk => hm2 kd (List.mem_cons_of_mem _ hk)
      have ei : cutD (ws.map D.str) none (some i) = (ws.take i.toNat).map .str := by rw [cutD_hi _ i00, ← List.map_take]
      have eo : cutD (ws.map D.str) none (some o) = (ws.take o.toNat).map .str := by rw [cutD_hi _ o00, ← List.map_take]
      have ci : D.immAll (cutD (ws.map D.str) none (some i)) = true := cutD_imm _ _ iw
      have co : D.immAll (cutD (ws.map D.str) none (some o)) = true := cutD_imm _ _ iw
      have ci2 : (D.tup (cutD (ws.map D.str) none (some i))).imm = true := ci
      have co2 : (D.tup (cutD (ws.map D.str) none (some o))).imm = true := co
      walk_at "ws"
      refine WE.frz (WE.nop rfl (mulK_tupI rfl (by omega) (by omega) (by simp)) ?_)
      rw [rep_one]
      have cr : (D.tup ((List.replicate i.toNat (w0, (0 : Int))).map prD)).imm = true := imm_row _
      have cr2 : (D.tup [D.tup ((List.replicate i.toNat (w0, (0 : Int))).map prD)]).imm = true := by
        show (D.imm _ && true) = true
        rw [cr]; rfl
      walk_at "ws"
      rw [ei, eo]
      have li : (ws.take i.toNat).length = i.toNat := by rw [List.length_take]; omega
      have lo : (ws.take o.toNat).length = o.toNat := by rw [List.length_take]; omega
      have ni : ∀ x ∈ ws.take i.toNat, nm x = true := fun x hx => wnm x (List.mem_of_mem_take hx)
      have no : ∀ x ∈ ws.take o.toNat, nm x = true := fun x hx => wnm x (List.mem_of_mem_take hx)
      have di : (ws.take i.toNat).Nodup := wnd.sublist (List.take_sublist _ _)
      have do' : (ws.take o.toNat).Nodup := wnd.sublist (List.take_sublist _ _)
      have nw0 : nm w0 = true := wnm w0 (by rw [ew]; simp)
      have jM : Jd (mchD (ws.take i.toNat) (ws.take o.toNat) [List.replicate i.toNat (w0, 0)]) := jd_mch (n := 0) (by omega) (by omega) ni no (by simp) fun row hr => by
        rw [List.mem_singleton] at hr
        subst hr
        refine ⟨by rw [List.length_replicate]; omega, fun p hp => ?_⟩
        rw [List.eq_of_mem_replicate hp]; exact nw0
      have hci : ([1, 2, 3, 4] : List Int).contains i = decide (1 ≤ i ∧ i ≤ 4) := by
        rw [Bool.eq_iff_iff, List.contains_iff_mem, decide_eq_true_eq]; simp; omega
      have hco : ([2, 3, 4] : List Int).contains o = decide (2 ≤ o ∧ o ≤ 4) := by
        rw [Bool.eq_iff_iff, List.contains_iff_mem, decide_eq_true_eq]; simp; omega
      have hM : isM (mchD (ws.take i.toNat) (ws.take o.toNat) [List.replicate i.toNat (w0, 0)]) = (([1, 2, 3, 4] : List Int).contains i && ([2, 3, 4] : List Int).contains o) := by
        rw [hci, hco]
        by_cases hi : 1 ≤ i ∧ i ≤ 4
        · by_cases ho : 2 ≤ o ∧ o ≤ 4
          · rw [decide_eq_true hi, decide_eq_true ho]
            refine isM_true (n := 1) (by omega) (by omega) (by omega) (by omega) di do' ni no (by simp) (by simp) rfl fun row hr => ?_
            rw [List.mem_singleton] at hr
            subst hr
            refine ⟨by rw [List.length_replicate, li], fun p hp => ?_⟩
            rw [List.eq_of_mem_replicate hp]
            refine ⟨?_, Int.le_refl _, by show (0 : Int) < 1; decide⟩
            obtain ⟨m, hm⟩ : ∃ m, o.toNat = m + 1 := ⟨o.toNat - 1, by omega⟩
            rw [ew, hm, List.take_succ_cons]
            exact List.mem_cons_self
          · rw [decide_eq_false ho, Bool.and_false, isM_mch, areN_strs _ _ _ no do', lo]
            have : (decide ((2 : Int) ≤ (o.toNat : Int)) && decide ((o.toNat : Int) ≤ 4)) = false := by
              rw [Bool.eq_false_iff]; intro hh
              rw [Bool.and_eq_true, decide_eq_true_eq, decide_eq_true_eq] at hh
              exact ho (by omega)
            rw [this, Bool.and_false, Bool.false_and]
        · rw [decide_eq_false hi, Bool.false_and, isM_mch, areN_strs _ _ _ ni di, li]
          have : (decide ((1 : Int) ≤ (i.toNat : Int)) && decide ((i.toNat : Int) ≤ 4)) = false := by
            rw [Bool.eq_false_iff]; intro hh
            rw [Bool.and_eq_true, decide_eq_true_eq, decide_eq_true_eq] at hh
            exact hi (by omega)
          rw [this, Bool.false_and, Bool.false_and]
      have im := imm_mch (ws.take i.toNat) (ws.take o.toNat) [List.replicate i.toNat (w0, 0)]
      have hrun := is_machine_ok 100 (by omega) _ jM.1
      rw [kz_imm im, hM] at hrun
      refine WE.call (prep_i rfl im prep_nil) (hrun _ ?_)
      clear hrun hM
      walk_at "nenv"
      walk_at "ws"
      refine ⟨fun h1 => ?_, fun h1 => ?_⟩
      · rw [show ([1, 2, 3, 4] : List Int).contains i = true from by rw [Bool.false_xor] at h1; exact h1, Bool.true_and]
        walk_at "ws"
        rw [Bool.false_xor]
        refine same_b (([2, 3, 4] : List Int).contains o) _ _ _ ?_
        walk_at "nenv"
        walk_at "ws"
        exact LpP.nx ⟨hm2, _, _, rfl⟩
      · rw [show ([1, 2, 3, 4] : List Int).contains i = false from by rw [Bool.false_xor] at h1; exact h1, Bool.false_and]
        walk_at "ws"
        refine same_b false _ _ _ ?_
        walk_at "nenv"
        walk_at "ws"
        exact LpP.nx ⟨hm2, _, _, rfl⟩
    · obtain ⟨hm2, x3, x8, rfl⟩ := h
      walk_at "ws"
      exact LpP.nx ⟨hm, _, _, _, rfl⟩
  · obtain ⟨hm, x2, x3, x8, rfl⟩ := h
    have c4 : D.immAll (cutD (ws.map D.str) none (some 4)) = true := cutD_imm _ _ iw
    have c1 : D.immAll (cutD (ws.map D.str) (some 1) none) = true := cutD_imm _ _ iw
    have e4 : cutD (ws.map D.str) none (some 4) = (ws.take 4).map .str := by rw [cutD_hi _ (by decide), ← List.map_take]; rfl
    have e1 : cutD (ws.map D.str) (some 1) none = (ws.drop 1).map .str := by rw [cutD_lo _ (by decide), ← List.map_drop]; rfl
    refine WS.seq (WS.asgN ?_)
    walk_at "ws"
    rw [e4, e1]
    have li : (ws.take 4).length = 4 := by rw [List.length_take]; omega
    have lo : (ws.drop 1).length = 4 := by rw [List.length_drop]; omega
    refine machine_ok _ (B + 2) (ws.take 4) (ws.drop 1) 12 (by decide) (by decide) (by omega) (by omega) (by omega) (by omega) (h1.mono (by omega)) _ fun rows hr hrow s2 h2 => ?_
    walk_at "nenv"
    refine ⟨ltN rfl, SqP.nx ?_⟩
    have iI := imm_strs (ws.take 4)
    have iO := imm_strs (ws.drop 1)
    have iR : D.immAll (rows.map rowD) = true := imm_rows rows
    have rl : rows.length = 12 := hr
    have wl4 : (ws.take 4).length = 4 := li
    obtain ⟨w1, ew1, nw1⟩ : ∃ w1, ws[1]? = some w1 ∧ nm w1 = true := by
      have : 1 < ws.length := by omega
      exact ⟨ws[1], List.getElem?_eq_getElem this, wnm _ (List.getElem_mem this)⟩
    obtain ⟨r11, e11, hr11⟩ : ∃ r, rows[11]? = some r ∧ r ∈ rows := by
      have : 11 < rows.length := by omega
      exact ⟨rows[11], List.getElem?_eq_getElem this, List.getElem_mem this⟩
    have ow := hrow r11 hr11
    generalize hI : (ws.take 4).map D.str = I at iI
    generalize hO : (ws.drop 1).map D.str = O at iO
    generalize hRR : rows.map rowD = R at iR
    have hmM : mchD (ws.take 4) (ws.drop 1) rows = .tup [.str "machine", .tup I, .tup O, .tup R] := by
      rw [← hI, ← hO, ← hRR]; rfl
    have lR : R.length = 12 := by rw [← hRR, List.length_map]; exact rl
    have ihd : D.immAll [D.str "machine", .tup I, .tup O] = true := by simp [D.immAll, D.imm, iI, iO]
    have iM : D.immAll [D.str "machine", .tup I, .tup O, .tup R] = true := by simp [D.immAll, D.imm, iI, iO, iR]
    have f3 : ∀ k, slHi [(k, mchD (ws.take 4) (ws.drop 1) rows), (9, .int 3)] = some (9, .tup [.str "machine", .tup I, .tup O]) := fun k => by rw [hmM]; exact slHi_tupN (by decide) iM
    have x3 : ∀ k, idxK [(k, mchD (ws.take 4) (ws.drop 1) rows), (9, .int 3)] = some (9, .tup R) := fun k => by rw [hmM]; exact idxK_tupI rfl iR
    have f1 : slHi [(9, .tup R), (9, .int 1)] = some (9, .tup (R.take 1)) := slHi_tupN (by decide) iR
    have f11 : slHi [(9, .tup R), (9, .int 11)] = some (9, .tup (R.take 11)) := slHi_tupN (by decide) iR
    have x11 : idxK [(9, .tup R), (9, .int 11)] = some (9, rowD r11) := idxK_tupI (by
      unfold atI
      rw [ixN_in (by decide) (by rw [lR]; decide)]
      show R[11]? = _
      rw [← hRR, List.getElem?_map, e11]; rfl) (imm_row r11)
    have fr3 : slHi [(9, rowD r11), (9, .int 3)] = some (9, .tup ((r11.map prD).take 3)) := slHi_tupN (by decide) (imm_prs r11)
    have xw : idxK [(9, .lst (ws.map .str)), (9, .int 1)] = some (9, .str w1) := idxK_lstI (by
      unfold atI
      rw [ixN_in (by decide) (by rw [List.length_map, wl5]; decide)]
      show (ws.map D.str)[1]? = _
      rw [List.getElem?_map, ew1]; rfl) rfl
    have iT1 : D.immAll (R.take 1) = true := immAll_mem fun d hd => mem_imm iR d (List.mem_of_mem_take hd)
    have iT11 : D.immAll (R.take 11) = true := immAll_mem fun d hd => mem_imm iR d (List.mem_of_mem_take hd)
    have i13 : D.immAll (R ++ R.take 1) = true := immAll_append iR iT1
    have i13' : (D.tup (R ++ R.take 1)).imm = true := i13
    have f3' := f3 (uniK none)
    have f3'' := f3 8
    have x3' := x3 (uniK none)
    have x3'' := x3 8
    walk_at "nenv"
    walk_at "ws"
    refine WE.frz (WE.nop rfl (addK_tup iR iT1 (by rw [List.length_take, lR]; simp [lineN])) ?_)
    walk_at "ws"
    refine WE.frz (WE.nop rfl (addTail ihd i13' (by simp)) ?_)
    walk_at "nenv"
    walk_at "ws"
    refine pick_lst _ (B + 1) h2 [.int 12, .int 13, .int (0 - 1), .int (0 - 12), .bl true, .non] _ (.inr rfl) (by simp) (by simp) _ fun far hf s3 h3 => ?_
    have hfar : far.imm = true ∧ isIn 0 11 far = false ∧ far.fit 100 = true ∧ far.dep = 0 := by
      simp only [List.mem_cons, List.not_mem_nil, or_false] at hf
      rcases hf with rfl | rfl | rfl | rfl | rfl | rfl <;> exact ⟨rfl, by decide, rfl, by simp [D.dep]⟩
    obtain ⟨hf1, hf2, hf3, hf4⟩ := hfar
    have ipr : (D.tup [.str w1, far]).imm = true := by
      show D.immAll [.str w1, far] = true
      simp [D.immAll, D.imm, hf1]
    have it3 : D.immAll ((r11.map prD).take 3) = true := immAll_mem fun d hd => mem_imm (imm_prs r11) d (List.mem_of_mem_take hd)
    have irow : (D.tup ((r11.map prD).take 3 ++ [.tup [.str w1, far]])).imm = true := immAll_append it3 (by rw [D.immAll, ipr]; rfl)
    have irows : (D.tup (R.take 11 ++ [.tup ((r11.map prD).take 3 ++ [.tup [.str w1, far]])])).imm = true := immAll_append iT11 (by rw [D.immAll, irow]; rfl)
    have iT11' : (D.tup (R.take 11)).imm = true := iT11
    walk_at "nenv"
    walk_at "ws"
    refine WE.frz (WE.nop rfl (addTail it3 ipr (by rw [List.length_take]; omega)) ?_)
    walk_at "ws"
    refine WE.frz (WE.nop rfl (addTail iT11 irow (by rw [List.length_take]; omega)) ?_)
    walk_at "ws"
    refine WE.frz (WE.nop rfl (addTail ihd irows (by simp)) ?_)
    walk_at "nenv"
    walk_at "ws"
    refine WE.frz (WE.nop rfl (addTail ihd iT11' (by simp)) ?_)
    walk_at "nenv"
    have nI : ∀ x ∈ ws.take 4, nm x = true := fun x hx => wnm x (List.mem_of_mem_take hx)
    have nO : ∀ x ∈ ws.drop 1, nm x = true := fun x hx => wnm x (List.mem_of_mem_drop hx)
    have dI : (ws.take 4).Nodup := wnd.sublist (List.take_sublist _ _)
    have dO : (ws.drop 1).Nodup := wnd.sublist (List.drop_sublist _ _)
    have rowj : ∀ row ∈ rows, row.length ≤ 5 ∧ ∀ p ∈ row, nm p.1 = true := fun row h => ⟨by have := (hrow row h).1; omega, fun p hp => nO _ ((hrow row h).2 p hp).1⟩
    have jA : Jd (mchD (ws.take 4) (ws.drop 1) rows) := jd_mch (n := 0) (by omega) (by omega) nI nO (by omega) rowj
    have tA : isM (mchD (ws.take 4) (ws.drop 1) rows) = true := isM_true (n := 12) (by omega) (by omega) (by omega) (by omega) dI dO nI nO (by omega) (by omega) (by omega) hrow
    have eW : mchD (ws.take 4) (ws.drop 1) (rows ++ rows.take 1) = .tup [.str "machine", .tup I, .tup O, .tup (R ++ R.take 1)] := by
      rw [← hI, ← hO, ← hRR, ← List.map_take, ← List.map_append]; rfl
    have eLo : mchD (ws.take 4) (ws.drop 1) (rows.take 11) = .tup [.str "machine", .tup I, .tup O, .tup (R.take 11)] := by
      rw [← hI, ← hO, ← hRR, ← List.map_take]; rfl
    have jW : Jd (.tup [.str "machine", .tup I, .tup O, .tup (R ++ R.take 1)]) := by
      rw [← eW]
      refine jd_mch (n := 0) (by omega) (by omega) nI nO (by rw [List.length_append, List.length_take]; omega) fun row h => ?_
      rcases List.mem_append.mp h with h | h
      · exact rowj row h
      · exact rowj row (List.mem_of_mem_take h)
    have jLo : Jd (.tup [.str "machine", .tup I, .tup O, .tup (R.take 11)]) := by
      rw [← eLo]
      exact jd_mch (n := 0) (by omega) (by omega) nI nO (by rw [List.length_take]; omega) fun row h => rowj row (List.mem_of_mem_take h)
    have tW : isM (.tup [.str "machine", .tup I, .tup O, .tup (R ++ R.take 1)]) = false := by
      rw [← eW, isM_mch]
      show (_ && (_ && decide (((rows ++ rows.take 1).map rowD).length ≤ 12) && _)) = false
      rw [decide_eq_false (show ¬ ((rows ++ rows.take 1).map rowD).length ≤ 12 by rw [List.length_map, List.length_append, List.length_take]; omega), Bool.and_false, Bool.false_and, Bool.and_false]
    generalize hP : R.take 11 ++ [.tup ((r11.map prD).take 3 ++ [.tup [.str w1, far]])] = P at irows
    have lP : P.length = 12 := by rw [← hP, List.length_append, List.length_take, lR]; rfl
    have jOff : Jd (.tup [.str "machine", .tup I, .tup O, .tup P]) := by
      rw [hmM] at jA
      obtain ⟨_, fA⟩ := fit_tup.mp jA.1
      have dA := dep_tup (n := 5) jA.2
      have fI := fA (.tup I) (by simp)
      have fO := fA (.tup O) (by simp)
      obtain ⟨_, fR⟩ := fit_tup.mp (fA (.tup R) (by simp))
      have dR := dep_tup (n := 4) (dA (.tup R) (by simp))
      have m11 : rowD r11 ∈ R := by rw [← hRR]; exact List.mem_map.mpr ⟨r11, hr11, rfl⟩
      obtain ⟨_, f11'⟩ := fit_tup.mp (fR _ m11)
      have d11 : ∀ d ∈ r11.map prD, d.dep ≤ 3 := dep_tup (n := 3) (dR _ m11)
      have lw1 := nm_len nw1
      have fpair : (D.tup [.str w1, far]).fit 100 = true := fit_tup.mpr ⟨by simp, fun d hd => by
        simp only [List.mem_cons, List.not_mem_nil, or_false] at hd
        rcases hd with rfl | rfl
        · exact fit_str.mpr ⟨by omega, nm_ok nw1⟩
        · exact hf3⟩
      have dpair : (D.tup [.str w1, far]).dep ≤ 3 := by simp [D.dep, D.depAll, hf4]
      have frow : (D.tup ((r11.map prD).take 3 ++ [.tup [.str w1, far]])).fit 100 = true := fit_tup.mpr ⟨by rw [List.length_append, List.length_take]; simp; omega, fun d hd => by
        rcases List.mem_append.mp hd with hd | hd
        · exact f11' d (List.mem_of_mem_take hd)
        · rw [List.mem_singleton] at hd; subst hd; exact fpair⟩
      have drow : (D.tup ((r11.map prD).take 3 ++ [.tup [.str w1, far]])).dep ≤ 4 := by
        rw [D.dep]
        have : D.depAll ((r11.map prD).take 3 ++ [.tup [.str w1, far]]) ≤ 3 := depAll_le.mpr fun d hd => by
          rcases List.mem_append.mp hd with hd | hd
          · exact d11 d (List.mem_of_mem_take hd)
          · rw [List.mem_singleton] at hd; subst hd; exact dpair
        omega
      have fP : (D.tup P).fit 100 = true := fit_tup.mpr ⟨by omega, fun d hd => by
        rw [← hP] at hd
        rcases List.mem_append.mp hd with hd | hd
        · exact fR d (List.mem_of_mem_take hd)
        · rw [List.mem_singleton] at hd; subst hd; exact frow⟩
      have dP : (D.tup P).dep ≤ 5 := by
        rw [D.dep]
        have : D.depAll P ≤ 4 := depAll_le.mpr fun d hd => by
          rw [← hP] at hd
          rcases List.mem_append.mp hd with hd | hd
          · exact dR d (List.mem_of_mem_take hd)
          · rw [List.mem_singleton] at hd; subst hd; exact drow
        omega
      constructor
      · refine fit_tup.mpr ⟨by simp, fun d hd => ?_⟩
        simp only [List.mem_cons, List.not_mem_nil, or_false] at hd
        rcases hd with rfl | rfl | rfl | rfl
        · exact fA _ (by simp)
        · exact fI
        · exact fO
        · exact fP
      · rw [D.dep]
        have : D.depAll [.str "machine", .tup I, .tup O, .tup P] ≤ 5 := depAll_le.mpr fun d hd => by
          simp only [List.mem_cons, List.not_mem_nil, or_false] at hd
          rcases hd with rfl | rfl | rfl | rfl
          · simp [D.dep]
          · exact dA _ (by simp)
          · exact dA _ (by simp)
          · exact dP
        omega
    have tOff : isM (.tup [.str "machine", .tup I, .tup O, .tup P]) = false := by
      have hr' : ∀ w os, rowB w os 12 (.tup ((r11.map prD).take 3 ++ [.tup [.str w1, far]])) = false := fun w os => by
        have hp : pairB os 12 (.tup [.str w1, far]) = false := by
          show (_ && isIn 0 (12 - 1) far) = false
          rw [show ((12 : Int) - 1) = 11 from rfl, hf2, Bool.and_false]
        show (_ && ((r11.map prD).take 3 ++ [D.tup [D.str w1, far]]).all (pairB os 12)) = false
        rw [List.all_append, List.all_cons, hp, Bool.false_and, Bool.and_false, Bool.and_false]
      show (_ && (_ && P.all (rowB (lenD (.tup I)) (strsD (.tup O)) (P.length : Nat)))) = false
      rw [lP, ← hP, List.all_append, List.all_cons, show ((12 : Nat) : Int) = 12 from rfl, hr', Bool.false_and, Bool.and_false, Bool.and_false, Bool.and_false]
    have iOff : (D.tup [.str "machine", .tup I, .tup O, .tup P]).imm = true := by
      show D.immAll [D.str "machine", D.tup I, D.tup O, D.tup P] = true
      exact immAll_append ihd (show D.immAll [D.tup P] = true by rw [D.immAll, irows]; rfl)
    have iA := imm_mch (ws.take 4) (ws.drop 1) rows
    have iW := imm_mch (ws.take 4) (ws.drop 1) (rows ++ rows.take 1)
    have iLo := imm_mch (ws.take 4) (ws.drop 1) (rows.take 11)
    rw [eW] at iW
    rw [eLo] at iLo
    clear f3 x3 f1 f11 x11 fr3 xw f3' f3'' x3' x3'' hmM eW eLo
    generalize (D.tup [.str "machine", .tup I, .tup O, .tup P]) = dOff at jOff tOff iOff
    generalize (D.tup [.str "machine", .tup I, .tup O, .tup (R ++ R.take 1)]) = dW at jW tW iW
    generalize (D.tup [.str "machine", .tup I, .tup O, .tup (R.take 11)]) = dLo at jLo iLo
    generalize mchD (ws.take 4) (ws.drop 1) rows = dA at jA tA iA
    walk_at "ws"
    simp only [List.map_cons, List.map_nil]
    walk_at "nenv"
    have run : ∀ (d : D), Jd d → ∀ (Q : Nat → D → List KD → Prop), Q 9 (.bl (isM d)) [] → WR Q (R_k00_9 [kz d]) := fun d j Q q => is_machine_ok 100 (by omega) d j.1 Q q
    refine WE.lcC rfl ?_
    walk_at "nenv"
    refine WE.ret ⟨rfl, ?_⟩
    walk_at "ws"
    refine WE.callZ rfl (fun _ => rfl) (run dA jA _ ⟨rfl, by decide, 8, rfl, ?_⟩)
    walk_at "nenv"
    refine WE.lcC rfl ?_
    walk_at "nenv"
    refine WE.ret ⟨rfl, ?_⟩
    walk_at "ws"
    refine WE.callZ rfl (fun _ => rfl) (run dW jW _ ⟨rfl, by decide, 8, rfl, ?_⟩)
    walk_at "nenv"
    refine WE.lcC rfl ?_
    walk_at "nenv"
    refine WE.ret ⟨rfl, ?_⟩
    walk_at "ws"
    refine WE.callZ rfl (fun _ => rfl) (run dOff jOff _ ⟨rfl, by decide, 8, rfl, ?_⟩)
    walk_at "nenv"
    refine WE.lcC rfl ?_
    walk_at "nenv"
    refine WE.ret ⟨rfl, ?_⟩
    walk_at "ws"
    refine WE.callZ rfl (fun _ => rfl) (run dLo jLo _ ⟨rfl, by decide, 8, rfl, ?_⟩)
    walk_at "nenv"
    rw [tA, tW, tOff]
    refine WE.ok ?_
    walk_at "nenv"
    walk_at "ws"
    have lrun := lmachine_ok 100 (by omega) dLo jLo.1 (by have := jLo.2; omega)
    rw [kz_imm iLo] at lrun
    refine lrun _ ?_
    walk_at "nenv"
    walk_at "ws"
    refine same_4 (isM dLo) _ _ _ ?_
    walk_at "nenv"
    walk_at "ws"
    exact q s3 (h3.mono (by omega))
end DN

set_option Elab.async false
set_option linter.all false
set_option maxRecDepth 100000
set_option maxHeartbeats 4000000
/-! The plain law of k00: helpers of the law. -/
namespace DN
open PySem PySem.Spec PyProof.Rows L2
variable [KSeq]
theorem WE.lcMapB {Q : KD → En → Prop} {i : Nat} {el : M KD} {ρ : En} (hi : i < ρ.length) (hn : ρ.set i none = ρ) (f : D → D) (hf : ∀ d, (f d).imm = true) : ∀ (ds acc : List D), acc.length + ds.length < lineN →
    (∀ d ∈ ds, WE (fun x ρ1 => x = (9, f d) ∧ ρ1 = ρ.set i (some (kz d))) (el (ρ.set i (some (kz d))))) → Q (9, .lst (acc ++ ds.map f)) ρ → WE Q (DN.lcL (.n i) (M.ret true) el [i] (ds.map kz) 8 acc ρ)
  | [], acc, _, _, q => by
    rw [List.map_nil, List.append_nil] at q
    exact q
  | d :: ds, acc, l, hc, q => by
    obtain ⟨x, ρ1, e1, rfl, rfl⟩ := (hc d List.mem_cons_self).to
    simp only [List.length_cons] at l
    have ew : wipeE (ρ.set i (some (kz d))) [i] = ρ := by
      show (ρ.set i (some (kz d))).set i none = ρ
      rw [List.set_set, hn]
    rw [List.map_cons]
    unfold DN.lcL
    have ea : asgT (.n i) (kz d).1 (kz d).2 ρ = some (ρ.set i (some (kz d))) := asgN_to hi
    rw [ea]
    dsimp only [M.ret]
    rw [e1]
    dsimp only
    have ej : joinLv 8 (D.immAll acc) 9 (f d) = some 8 := by unfold joinLv; rw [if_pos (hf d)]
    rw [if_pos (by omega), ej]
    dsimp only
    rw [ew]
    refine WE.lcMapB hi hn f hf ds (acc ++ [f d]) (by rw [List.length_append]; simp only [List.length_singleton]; omega) (fun x hx => hc x (List.mem_cons_of_mem _ hx)) ?_
    rw [List.map_cons] at q
    rw [List.append_assoc]
    exact q
theorem join_kz {k : Nat} {acc : List D} (x : D) (hk : (D.immAll acc = true ∧ k = 8) ∨ k = 0) : ∃ k', joinLv k (D.immAll acc) (kz x).1 x = some k' ∧ ((D.immAll (acc ++ [x]) = true ∧ k' = 8) ∨ k' = 0) := by
  unfold joinLv kz
  dsimp only
  cases hd : x.imm with
  | true =>
    refine ⟨k, rfl, ?_⟩
    rcases hk with ⟨h1, h2⟩ | h2
    · exact .inl ⟨immAll_append h1 (by rw [D.immAll, hd]; rfl), h2⟩
    · exact .inr h2
  | false =>
    refine ⟨0, ?_, .inr rfl⟩
    rw [if_neg Bool.false_ne_true, if_neg Bool.false_ne_true]
    cases ha : D.immAll acc with
    | true => rfl
    | false =>
      rw [if_neg Bool.false_ne_true]
      rcases hk with ⟨h1, h2⟩ | h2
      · rw [ha] at h1; cases h1
      · rw [h2]; rfl
theorem uni_kz : ∀ (ds : List D), ∃ q, uni (ds.map fun d => Opv.v (kz d).1 d) = some (q, ds) ∧ ((q = none ∧ D.immAll ds = true) ∨ q = some 0)
  | [] => ⟨none, rfl, .inl ⟨rfl, rfl⟩⟩
  | d :: ds => by
    obtain ⟨q, h, hq⟩ := uni_kz ds
    rw [List.map_cons]
    unfold uni
    rw [h]
    dsimp only
    cases hd : d.imm with
    | true =>
      refine ⟨q, rfl, ?_⟩
      rcases hq with ⟨rfl, ha⟩ | rfl
      · exact .inl ⟨rfl, by rw [D.immAll, hd, ha]; rfl⟩
      · exact .inr rfl
    | false =>
      have : (kz d).1 = 0 := by unfold kz; rw [hd]; rfl
      rw [this, if_neg Bool.false_ne_true]
      rcases hq with ⟨rfl, ha⟩ | rfl
      · exact ⟨some 0, rfl, .inr rfl⟩
      · exact ⟨some 0, rfl, .inr rfl⟩
theorem WE.dispKz {Q : KD → En → Prop} {ρ : En} (ds : List D) (l : ds.length ≤ lineN) (q : ∀ k, kidsOk k ds = true → Q (k, .lst ds) ρ) : WE Q (dispL (ds.map fun d => Opv.v (kz d).1 d) ρ) := by
  obtain ⟨r, h, hq⟩ := uni_kz ds
  refine WE.uniL h l (q _ ?_)
  unfold kidsOk
  rcases hq with ⟨rfl, ha⟩ | rfl
  · rw [ha]; rfl
  · show (_ || decide (uniK (some 0) + 1 ≤ 1)) = true
    simp [uniK]
def SOME : List D := [.str "", .non, .int 5, .bl true, .tup [.str "a"], .lst [.str "a"], .str "A", .str "a ", .str "a\n", .str "a.", .str "-", .str "a/0", .str "abcdefgh", .str "abcdefghi", .str "01234567", .str "012345678", .str "_"]
theorem pyAll_bls : ∀ bs : List Bool, D.pyAll (bs.map .bl) = some (bs.map .bool)
  | [] => rfl
  | a :: r => by rw [List.map_cons, D.pyAll, pyAll_bls r]; rfl
theorem some_same (k j : Nat) (Q : Nat → D → List KD → Prop) (q : Q 9 (.bl true) []) : WR Q (R_k00_16 [(k, .lst ((SOME.map isNm).map .bl)), (j, .lst ((SOME.map isNm).map .bl))]) :=
  same_of _ (.list ((SOME.map isNm).map .bool)) (by rw [D.py, pyAll_bls]) (by decide +kernel) k j Q q
theorem some_fit : ∀ d ∈ SOME, d.fit 100 = true := fun d hd => by
  have : (SOME.all fun d => d.fit 100) = true := by decide +kernel
  exact List.all_eq_true.mp this d hd
end DN

set_option Elab.async false
set_option linter.all false
set_option maxRecDepth 100000
set_option maxHeartbeats 1000000
/-! The plain law of k00: the law, piece by piece. -/
namespace DN
open PySem PySem.Spec PyProof.Rows L2
variable [KSeq]
noncomputable def P2 : S := asgS (.n 2) (opE [.v (cst (.str "")), .v (cst .non), .v (cst (.int 5)), .v (cst (.bl true)), .v (opE [.v (cst (.str "a"))] dispT), .v (opE [.v (cst (.str "a"))] dispL), .v (cst (.str "A")), .v (cst (.str "a ")), .v (cst (.str "a\n")), .v (cst (.str "a.")), .v (cst (.str "-")), .v (cst (.str "a/0")), .v (cst (.str "abcdefgh")), .v (cst (.str "abcdefghi")), .v (cst (.str "01234567")), .v (cst (.str "012345678")), .v (cst (.str "_"))] dispL)
noncomputable def P3 : S := ifS (notM (boolM (opE [.v (lcS (itsV (nameS 2)) (.n 6) (M.ret true) (opE [.b 6] (callG [false] R_k00_4)) [6]), .v (lcS (itsV (nameS 2)) (.n 6) (M.ret true) (opE [.b 6] (callG [false] R_k00_23)) [6])] (callG [false, false] R_k00_16)))) (seqS (retS (cst (.bl false))) (skipS)) (skipS)
noncomputable def C1 : S := asgS (.t [(.n 6), (.n 7)]) (opE [.v (opE [.b 1] (callG [true] R_k00_26)), .v (opE [.b 1, .v (cst (.int 12))] (callG [true, false] R_k00_21))] dispT)
noncomputable def C2 : S := ifS (notM (boolM (opE [.v (opE [.v (opE [.b 6] (callG [false] R_k00_4)), .v (opE [.b 6] (callG [false] R_k00_4))] dispL), .v (opE [.v (opE [.v (opE [.b 6] (callG [false] R_k00_23))] dispL), .v (cst (.int 2))] (frzOps (nop mulK)))] (callG [false, false] R_k00_16)))) (seqS (retS (cst (.bl false))) (skipS)) (skipS)
noncomputable def C3 : S := ifS (notM (boolM (opE [.v (opE [.v (opE [.b 7] (callG [false] R_k00_9)), .v (opE [.b 7] (callG [false] R_k00_9))] dispL), .v (opE [.v (cst (.bl true)), .v (cst (.bl true))] dispL)] (callG [false, false] R_k00_16)))) (seqS (retS (cst (.bl false))) (skipS)) (skipS)
noncomputable def C4 : S := asgS (.n 4) (lcS (itsR1 (cst (.int 6))) (.n 8) (M.ret true) (opE [.b 1, .b 7] (callG [true, false] (R_k00_28 8))) [8])
noncomputable def E5 : S := (seqS (ifS (notM (boolM (opE [.v (opE [.b 5] (callG [false] R_k00_9)), .v (opE [.b 5] (callG [false] R_k00_25))] (callG [false, false] R_k00_16)))) (seqS (retS (cst (.bl false))) (skipS)) (skipS)) (skipS))
noncomputable def C5 : S := forS (itsV (opE [.b 4, .v (opE [.v (opE [.b 1, .v (opE [.b 4, .v (cst (.int 0))] (frzOps idxOp))] (callG [true, false] (R_k00_28 8))), .v (opE [.b 1, .b 7] (callG [true, false] R_k00_22)), .v (opE [.b 1] (callG [true] R_k00_29))] dispL)] (frzOps (nop addK)))) (.n 5) E5
noncomputable def B4 : S := seqS C1 (seqS C2 (seqS C3 (seqS C4 (seqS C5 skipS))))
noncomputable def P4 : S := forS (itsR1 (opE [.v (cst (.int 6)), .v (opE [.v (opE [.b 0] (sop lenS)), .v (cst (.int 12))] (sop min2S))] (frzOps (nop addK)))) (.n 3) B4
noncomputable def P5 : S := retS (opE [.b 1] (callG [true] R_k00_30))
theorem F31_is : F_k00_31 8 = seqS (asgS (.n 1) (opE [.b 0] (callG [false] R_k00_11))) (seqS P2 (seqS P3 (seqS P4 (seqS P5 skipS)))) := rfl
local macro_rules | `(tactic| walk_at "immt") => `(tactic| first | assumption | (with_unfolding_all exact rfl) | with_reducible exact imm_ints _ | with_reducible exact imm_strs _ | with_reducible exact imm_tupS _)
local macro_rules | `(tactic| walk_at "opd") => `(tactic| first
  | with_reducible assumption
  | with_reducible exact lenS_lst _ | with_reducible exact lenS_tup _ | with_reducible exact lenS_seq _ | with_reducible exact lenS_str (by with_unfolding_all first | assumption | omega)
  | with_reducible exact eqS_int _ _ _ | with_reducible exact eqS_ints_nil _ _ | with_reducible exact listK2_lst (by walk_at "immt") | with_reducible exact inS_lst _ (by assumption) (by assumption) | with_reducible exact inS_tup _ (by assumption) (by assumption) | with_reducible exact ordS_int _ _ _ | with_reducible exact addK_int _ _ _ _ | with_reducible exact subD_int _ _
  | with_reducible exact modD_int (by with_unfolding_all first | assumption | omega | decide)
  | with_reducible exact fdivD_int (by with_unfolding_all first | assumption | omega | decide) (by with_unfolding_all first | assumption | omega | decide)
  | with_reducible exact mulK_intR (by with_unfolding_all first | decide | omega) | with_reducible exact mulK_intL (by with_unfolding_all first | decide | omega)
  | with_reducible exact powD_int (by with_unfolding_all first | decide | omega) (by with_unfolding_all first | decide | omega) (by with_unfolding_all first | decide | omega)
  | with_reducible exact inS_intG _ (by with_unfolding_all exact rfl)
  | with_reducible exact listK2_tup (by assumption) | with_reducible exact revK_tup (by assumption) | with_reducible exact slHi_tup (by assumption) | with_reducible exact slLo_tup (by assumption)
  | with_reducible exact slHi_str (by assumption) | with_reducible exact slLo_str (by assumption)
  | with_reducible exact slHi_lst (by walk_at "immt") | with_reducible exact slLo_lst (by walk_at "immt") | with_reducible exact tupK_lst (by walk_at "immt") | with_reducible exact max2S_int _ _ | with_reducible exact min2S_int _ _
  | with_unfolding_all exact rfl)
local macro_rules | `(tactic| walk_at "uni") => `(tactic| with_reducible first | exact uni_nil | exact uni_I (by walk_at "immt") (by walk_at "uni") | exact uni_1 (by walk_at "immt") (by walk_at "uni") | exact uni_j (by walk_at "immt") (by walk_at "uni"))
local macro_rules | `(tactic| walk_at "prep") => `(tactic| first
  | with_reducible exact prep_nil
  | (with_reducible apply prep_vF; walk_at "prep") | (with_reducible apply prep_vT; walk_at "prep")
  | (with_reducible apply prep_m; (with_unfolding_all exact rfl); walk_at "prep")
  | (with_reducible apply prep_i; (with_unfolding_all exact rfl); walk_at "immt"; walk_at "prep")
  | (with_reducible apply prep_f; (with_unfolding_all exact rfl); (with_unfolding_all exact rfl); walk_at "prep"))
local macro_rules | `(tactic| walk_at "w1") => `(tactic| with_reducible first
  | refine WS.seq ?_ | refine SqP.nx ?_ | refine SqP.rt ?_ | refine WS.skip ?_ | refine WS.ifS ?_ | refine WS.retv ?_ | refine WS.expr ?_ | refine WS.asgN ?_ | refine WS.asg ?_ | refine WS.par ?_ | refine WS.forS ?_
  | refine WE.opE ?_ | refine WE.ev ?_ | refine WE.eb (by with_unfolding_all exact rfl) ?_ | refine WE.e0 ?_ | refine WE.cst ?_ | refine WE.ret ?_ | refine WE.boolM ?_
  | refine WE.frz (WE.idx (by with_unfolding_all exact rfl) (by walk_at "opd") ?_) | refine WE.sop (by with_unfolding_all exact rfl) (by walk_at "opd") ?_ | refine WE.nop (by with_unfolding_all exact rfl) (by walk_at "opd") ?_ | refine WE.frz (WE.nop (by with_unfolding_all exact rfl) (by walk_at "opd") ?_)
  | refine WE.nameI (by with_unfolding_all exact rfl) (by walk_at "immt") ?_ | refine WE.movI (by with_unfolding_all exact rfl) (by walk_at "immt") ?_
  | refine WE.notM ?_ | refine WE.andM ?_ | refine WE.orM ?_ | refine WE.andV ?_ | refine WE.orV ?_ | refine WE.notV ?_ | refine WE.ifV ?_ | refine WE.chainV ?_ | refine WE.bind ?_ | refine WE.valM ?_ | refine WE.intS ?_ | refine WE.lcS ?_ | refine WE.itsR1 ?_ | refine WE.itsV ?_
  | refine WE.setRest (by with_unfolding_all exact rfl) ?_ | refine WE.setTurn (by with_unfolding_all exact rfl) ?_
  | refine WE.uniL (by walk_at "uni") (by with_unfolding_all exact of_decide_eq_true rfl) ?_ | refine WE.uniT (by walk_at "uni") (by with_unfolding_all exact of_decide_eq_true rfl) ?_
  | refine WE.pth (by with_unfolding_all exact rfl) (by with_unfolding_all exact rfl) (by with_unfolding_all exact rfl) (by with_unfolding_all exact rfl) (by with_unfolding_all exact rfl) (by with_unfolding_all exact rfl) ?_
  | refine WE.popAt (by with_unfolding_all exact rfl) (by first | with_reducible exact ixN_zero _ | with_unfolding_all exact rfl) (by with_unfolding_all exact rfl) (by with_unfolding_all exact rfl) ?_
  | refine WS.forH0 (by with_unfolding_all exact rfl) (by with_unfolding_all first | exact .inr rfl | exact .inl rfl) ?_
  | refine WE.fvL (by with_unfolding_all exact rfl) (by with_unfolding_all exact of_decide_eq_true rfl) (fun _ => ?_)
  | refine WE.call (by first | with_unfolding_all exact rfl | walk_at "prep") ?_
  | refine WE.callC (by first | with_unfolding_all exact rfl | walk_at "prep") ?_
  | refine WE.mth ?_)
local macro_rules | `(tactic| walk_at "nenv") => `(tactic| try simp only [kz_str, kz_int, Bool.false_eq_true, if_false, if_true, List.take_succ_cons, List.take_zero, List.take_nil, List.length_cons, List.length_nil, Nat.zero_add, Nat.reduceAdd, List.set_cons_zero, List.set_cons_succ, List.set_nil, zipO, puts, List.append_nil, List.cons_append, List.nil_append, wipeE, unwipe, slotE, List.getElem?_cons_zero, List.getElem?_cons_succ])
local macro_rules | `(tactic| walk_at "w2") => `(tactic| first
  | walk_at "w1"
  | (with_reducible refine ⟨ltN (by with_unfolding_all exact rfl), ?_⟩; try walk_at "nenv")
  | with_reducible refine ⟨small62_of (by omega) (by omega), ?_⟩
  | (with_reducible refine ⟨tyT (by with_unfolding_all exact rfl), ?_⟩; try walk_at "nenv")
  | (with_reducible refine ⟨_, by with_unfolding_all exact rfl, ?_⟩; try walk_at "nenv")
  | with_reducible refine Or.inl ⟨_, .inl rfl, ?_⟩
  | with_reducible refine Or.inl ⟨_, .inr (.inl rfl), ?_⟩
  | with_reducible refine Or.inr ⟨_, rfl, ?_⟩
  | (with_reducible refine WE.nameF (by with_unfolding_all exact rfl) (by first | assumption | with_unfolding_all exact rfl) ?_; try walk_at "nenv")
  | (with_reducible refine WE.movF (by with_unfolding_all exact rfl) (by first | assumption | with_unfolding_all exact rfl) ?_; try walk_at "nenv")
  | with_reducible refine ⟨fun _ => ?_, fun h => by with_unfolding_all exact Bool.noConfusion (show true = false from h)⟩
  | with_reducible refine ⟨fun h => by with_unfolding_all exact Bool.noConfusion (show false = true from h), fun _ => ?_⟩)
local macro_rules | `(tactic| walk_at "ws") => `(tactic| repeat walk_at "w2")
local macro_rules | `(tactic| walk_at "bag") => `(tactic| refine ⟨Bag.cln1 _ _ _ (by walk_at "immt"), ?_⟩)
section
variable {Q : SO → Prop} {a0 a2 a3 a4 a5 a6 a7 a8 : Sl}
theorem p2_ok {a1 : Sl} (q : ∀ k, Q (.nx [a0, a1, some (k, .lst SOME), a3, a4, a5, a6, a7, a8])) : WS Q (P2 [a0, a1, a2, a3, a4, a5, a6, a7, a8]) := by
  unfold P2
  walk_at "ws"
  exact q _
theorem p3_ok {a1 : Sl} {k : Nat} (q : ∀ k, Q (.nx [a0, a1, some (k, .lst SOME), a3, a4, a5, none, a7, a8])) : WS Q (P3 [a0, a1, some (k, .lst SOME), a3, a4, a5, none, a7, a8]) := by
  unfold P3
  have fs := some_fit
  generalize hS : SOME = S at *
  have im : (D.lst S).imm = false := rfl
  have sl : S.length = 17 := by rw [← hS]; rfl
  walk_at "ws"
  refine WE.lcMapB (i := 6) (ltN rfl) rfl (fun d => .bl (isNm d)) (fun _ => rfl) S [] (by rw [sl]; decide) (fun d hd => WE.opE (WE.eb rfl (WE.e0 (WE.callZ rfl (fun _ => rfl) (is_name_ok 100 (by omega) d _ (fs d hd) _ ⟨rfl, rfl, rfl⟩))))) ?_
  walk_at "nenv"
  walk_at "ws"
  refine WE.lcMapB (i := 6) (ltN rfl) rfl (fun d => .bl (isNm d)) (fun _ => rfl) S [] (by rw [sl]; decide) (fun d hd => WE.opE (WE.eb rfl (WE.e0 (WE.callZ rfl (fun _ => rfl) (lnm_ok 100 (by omega) d _ (fs d hd) _ ⟨rfl, rfl, rfl⟩))))) ?_
  walk_at "nenv"
  walk_at "ws"
  subst hS
  refine some_same _ _ _ ?_
  walk_at "nenv"
  walk_at "ws"
  exact q _
theorem c1_ok {s : Bag} {B : Nat} (h : s.Ok (B + 420)) (q : ∀ x ins outs rows n, Wd x → 1 ≤ ins.length → ins.length ≤ 4 → 2 ≤ outs.length → outs.length ≤ 4 → ins.Nodup → outs.Nodup → (∀ x ∈ ins, nm x = true) → (∀ x ∈ outs, nm x = true) → 1 ≤ n → n ≤ 12 → rows.length = n.toNat → (∀ row ∈ rows, RowOk outs ins.length n row) → ∀ s' : Bag, s'.Ok B → Q (.nx [a0, some (10, s'.d), a2, a3, a4, a5, some (8, .str x), some (8, mchD ins outs rows), a8])) : WS Q (C1 [a0, some (10, s.d), a2, a3, a4, a5, a6, a7, a8]) := by
  unfold C1
  walk_at "ws"
  refine near_word_ok s (B + 400) (h.mono (by omega)) _ fun x hx s1 h1 => ?_
  walk_at "nenv"
  walk_at "ws"
  refine a_machine_ok s1 B _ (by omega) (by omega) _ h1 _ fun ins outs rows n i0 i1 o0 o1 ind ond inm onm n0 n1 hr hrow s2 h2 => ?_
  walk_at "nenv"
  have im := imm_mch ins outs rows
  walk_at "ws"
  exact q x ins outs rows n hx i0 i1 o0 o1 ind ond inm onm n0 n1 hr hrow s2 h2
theorem c2_ok {a1 : Sl} {x : Str} (hx : Wd x) (q : Q (.nx [a0, a1, a2, a3, a4, a5, some (8, .str x), a7, a8])) : WS Q (C2 [a0, a1, a2, a3, a4, a5, some (8, .str x), a7, a8]) := by
  unfold C2
  have fx : (D.str x).fit 100 = true := fit_str.mpr hx
  walk_at "ws"
  refine is_name_ok 100 (by omega) (.str x) _ fx _ ?_
  walk_at "nenv"
  walk_at "ws"
  refine is_name_ok 100 (by omega) (.str x) _ fx _ ?_
  walk_at "nenv"
  walk_at "ws"
  refine lnm_ok 100 (by omega) (.str x) _ fx _ ?_
  walk_at "nenv"
  generalize isNm (.str x) = b
  have hm : mulK [(9, .lst [.bl b]), (9, .int 2)] = some (9, .lst [.bl b, .bl b]) := rfl
  walk_at "ws"
  refine same_2 b b _ _ _ ?_
  walk_at "nenv"
  walk_at "ws"
  exact q
theorem c3_ok {a1 : Sl} {m : D} (hm : m.fit 100 = true) (im : m.imm = true) (ht : isM m = true) (q : Q (.nx [a0, a1, a2, a3, a4, a5, a6, some (8, m), a8])) : WS Q (C3 [a0, a1, a2, a3, a4, a5, a6, some (8, m), a8]) := by
  unfold C3
  have ok := fun Q q => is_machine_ok 100 (by omega) m hm Q q
  rw [kz_imm im, ht] at ok
  walk_at "ws"
  refine ok _ ?_
  walk_at "nenv"
  walk_at "ws"
  refine ok _ ?_
  walk_at "nenv"
  walk_at "ws"
  refine same_2 true true _ _ _ ?_
  walk_at "nenv"
  walk_at "ws"
  exact q
theorem c4_ok {s : Bag} {B : Nat} {m : D} (hm : m.fit 100 = true) (im : m.imm = true) (dm : m.dep ≤ 6) (h : s.Ok (B + 96)) (q : ∀ s' : Bag, s'.Ok B → ∀ k ds, ds.length = 6 → (∀ x ∈ ds, Near 100 m x) → ((D.immAll ds = true ∧ k = 8) ∨ k = 0) → Q (.nx [a0, some (10, s'.d), a2, a3, some (k + 1, .lst ds), a5, a6, some (8, m), a8])) : WS Q (C4 [a0, some (10, s.d), a2, a3, a4, a5, a6, some (8, m), a8]) := by
  unfold C4
  walk_at "ws"
  refine WE.lcL (fun r k acc ρ => ∃ s : Bag, s.Ok (B + 16 * r.length) ∧ acc.length + r.length = 6 ∧ (∀ x ∈ acc, Near 100 m x) ∧ ((D.immAll acc = true ∧ k = 8) ∨ k = 0) ∧ ρ = [a0, some (10, s.d), a2, a3, a4, a5, a6, some (8, m), none]) _ ⟨s, h, rfl, fun _ hx => (List.not_mem_nil hx).elim, .inl ⟨rfl, rfl⟩, rfl⟩ ?_ ?_
  · rintro kd r k acc _ ⟨s1, h1, l1, ha, hk, rfl⟩
    simp only [List.length_cons] at h1 l1
    refine ⟨_, asgN_to (ltN rfl), ?_⟩
    walk_at "ws"
    have ok := bent_ok 7 100 (by omega) m hm (by omega) (by omega) s1 (B + 16 * r.length) (h1.mono (by omega))
    rw [kz_imm im] at ok
    refine ok _ fun x hx s2 h2 => ?_
    walk_at "nenv"
    refine ⟨by unfold lineN; omega, ?_⟩
    obtain ⟨k', e, hk'⟩ := join_kz x hk
    refine ⟨k', e, s2, h2, ?_, ?_, hk', rfl⟩
    · rw [List.length_append]; simp only [List.length_singleton]; omega
    · intro y hy
      rcases List.mem_append.mp hy with h | h
      · exact ha y h
      · rw [List.mem_singleton.mp h]; exact hx
  · rintro k acc _ ⟨s1, h1, l1, ha, hk, rfl⟩
    walk_at "nenv"
    walk_at "ws"
    exact q s1 (h1.mono (by omega)) k acc (by simpa using l1) ha hk
theorem e5_ok {a1 : Sl} {x : D} (fx : x.fit 1000 = true) (dx : x.dep ≤ 60) (q : Q (.nx [a0, a1, a2, a3, a4, some (kz x), a6, a7, a8])) : WS Q (E5 [a0, a1, a2, a3, a4, some (kz x), a6, a7, a8]) := by
  unfold E5
  walk_at "ws"
  refine WE.callZ rfl (fun _ => rfl) (is_machine_ok 1000 (by omega) x fx _ ⟨rfl, ?_⟩)
  walk_at "nenv"
  walk_at "ws"
  refine WE.callZ rfl (fun _ => rfl) (lmachine_ok 1000 (by omega) x fx dx _ ⟨rfl, ?_⟩)
  walk_at "nenv"
  walk_at "ws"
  refine same_b (isM x) _ _ _ ?_
  walk_at "nenv"
  walk_at "ws"
  exact q
end
end DN

set_option Elab.async false
set_option linter.all false
set_option maxRecDepth 100000
set_option maxHeartbeats 400000
/-! The plain law of k00: the law. -/
namespace DN
open PySem PySem.Spec PyProof.Rows L2
variable [KSeq]
local macro_rules | `(tactic| walk_at "immt") => `(tactic| first | assumption | (with_unfolding_all exact rfl) | with_reducible exact imm_ints _ | with_reducible exact imm_strs _ | with_reducible exact imm_tupS _)
local macro_rules | `(tactic| walk_at "opd") => `(tactic| first
  | with_reducible assumption
  | with_reducible exact lenS_lst _ | with_reducible exact lenS_tup _ | with_reducible exact lenS_seq _ | with_reducible exact lenS_str (by with_unfolding_all first | assumption | omega)
  | with_reducible exact eqS_int _ _ _ | with_reducible exact eqS_ints_nil _ _ | with_reducible exact listK2_lst (by walk_at "immt") | with_reducible exact inS_lst _ (by assumption) (by assumption) | with_reducible exact inS_tup _ (by assumption) (by assumption) | with_reducible exact ordS_int _ _ _ | with_reducible exact addK_int _ _ _ _ | with_reducible exact subD_int _ _
  | with_reducible exact modD_int (by with_unfolding_all first | assumption | omega | decide)
  | with_reducible exact fdivD_int (by with_unfolding_all first | assumption | omega | decide) (by with_unfolding_all first | assumption | omega | decide)
  | with_reducible exact mulK_intR (by with_unfolding_all first | decide | omega) | with_reducible exact mulK_intL (by with_unfolding_all first | decide | omega)
  | with_reducible exact powD_int (by with_unfolding_all first | decide | omega) (by with_unfolding_all first | decide | omega) (by with_unfolding_all first | decide | omega)
  | with_reducible exact inS_intG _ (by with_unfolding_all exact rfl)
  | with_reducible exact listK2_tup (by assumption) | with_reducible exact revK_tup (by assumption) | with_reducible exact slHi_tup (by assumption) | with_reducible exact slLo_tup (by assumption)
  | with_reducible exact slHi_str (by assumption) | with_reducible exact slLo_str (by assumption)
  | with_reducible exact slHi_lst (by walk_at "immt") | with_reducible exact slLo_lst (by walk_at "immt") | with_reducible exact tupK_lst (by walk_at "immt") | with_reducible exact max2S_int _ _ | with_reducible exact min2S_int _ _
  | with_unfolding_all exact rfl)
local macro_rules | `(tactic| walk_at "uni") => `(tactic| with_reducible first | exact uni_nil | exact uni_I (by walk_at "immt") (by walk_at "uni") | exact uni_1 (by walk_at "immt") (by walk_at "uni") | exact uni_j (by walk_at "immt") (by walk_at "uni"))
local macro_rules | `(tactic| walk_at "prep") => `(tactic| first
  | with_reducible exact prep_nil
  | (with_reducible apply prep_vF; walk_at "prep") | (with_reducible apply prep_vT; walk_at "prep")
  | (with_reducible apply prep_m; (with_unfolding_all exact rfl); walk_at "prep")
  | (with_reducible apply prep_i; (with_unfolding_all exact rfl); walk_at "immt"; walk_at "prep")
  | (with_reducible apply prep_f; (with_unfolding_all exact rfl); (with_unfolding_all exact rfl); walk_at "prep"))
local macro_rules | `(tactic| walk_at "w1") => `(tactic| with_reducible first
  | refine WS.seq ?_ | refine SqP.nx ?_ | refine SqP.rt ?_ | refine WS.skip ?_ | refine WS.ifS ?_ | refine WS.retv ?_ | refine WS.expr ?_ | refine WS.asgN ?_ | refine WS.asg ?_ | refine WS.par ?_ | refine WS.forS ?_
  | refine WE.opE ?_ | refine WE.ev ?_ | refine WE.eb (by with_unfolding_all exact rfl) ?_ | refine WE.e0 ?_ | refine WE.cst ?_ | refine WE.ret ?_ | refine WE.boolM ?_
  | refine WE.frz (WE.idx (by with_unfolding_all exact rfl) (by walk_at "opd") ?_) | refine WE.sop (by with_unfolding_all exact rfl) (by walk_at "opd") ?_ | refine WE.nop (by with_unfolding_all exact rfl) (by walk_at "opd") ?_ | refine WE.frz (WE.nop (by with_unfolding_all exact rfl) (by walk_at "opd") ?_)
  | refine WE.nameI (by with_unfolding_all exact rfl) (by walk_at "immt") ?_ | refine WE.movI (by with_unfolding_all exact rfl) (by walk_at "immt") ?_
  | refine WE.notM ?_ | refine WE.andM ?_ | refine WE.orM ?_ | refine WE.andV ?_ | refine WE.orV ?_ | refine WE.notV ?_ | refine WE.ifV ?_ | refine WE.chainV ?_ | refine WE.bind ?_ | refine WE.valM ?_ | refine WE.intS ?_ | refine WE.lcS ?_ | refine WE.itsR1 ?_ | refine WE.itsV ?_
  | refine WE.setRest (by with_unfolding_all exact rfl) ?_ | refine WE.setTurn (by with_unfolding_all exact rfl) ?_
  | refine WE.uniL (by walk_at "uni") (by with_unfolding_all exact of_decide_eq_true rfl) ?_ | refine WE.uniT (by walk_at "uni") (by with_unfolding_all exact of_decide_eq_true rfl) ?_
  | refine WE.pth (by with_unfolding_all exact rfl) (by with_unfolding_all exact rfl) (by with_unfolding_all exact rfl) (by with_unfolding_all exact rfl) (by with_unfolding_all exact rfl) (by with_unfolding_all exact rfl) ?_
  | refine WE.popAt (by with_unfolding_all exact rfl) (by first | with_reducible exact ixN_zero _ | with_unfolding_all exact rfl) (by with_unfolding_all exact rfl) (by with_unfolding_all exact rfl) ?_
  | refine WS.forH0 (by with_unfolding_all exact rfl) (by with_unfolding_all first | exact .inr rfl | exact .inl rfl) ?_
  | refine WE.fvL (by with_unfolding_all exact rfl) (by with_unfolding_all exact of_decide_eq_true rfl) (fun _ => ?_)
  | refine WE.call (by first | with_unfolding_all exact rfl | walk_at "prep") ?_
  | refine WE.callC (by first | with_unfolding_all exact rfl | walk_at "prep") ?_
  | refine WE.mth ?_)
local macro_rules | `(tactic| walk_at "nenv") => `(tactic| try simp only [kz_str, kz_int, Bool.false_eq_true, if_false, if_true, List.take_succ_cons, List.take_zero, List.take_nil, List.length_cons, List.length_nil, Nat.zero_add, Nat.reduceAdd, List.set_cons_zero, List.set_cons_succ, List.set_nil, zipO, puts, List.append_nil, List.cons_append, List.nil_append, wipeE, unwipe, slotE, List.getElem?_cons_zero, List.getElem?_cons_succ])
local macro_rules | `(tactic| walk_at "w2") => `(tactic| first
  | walk_at "w1"
  | (with_reducible refine ⟨ltN (by with_unfolding_all exact rfl), ?_⟩; try walk_at "nenv")
  | with_reducible refine ⟨small62_of (by omega) (by omega), ?_⟩
  | (with_reducible refine ⟨tyT (by with_unfolding_all exact rfl), ?_⟩; try walk_at "nenv")
  | (with_reducible refine ⟨_, by with_unfolding_all exact rfl, ?_⟩; try walk_at "nenv")
  | with_reducible refine Or.inl ⟨_, .inl rfl, ?_⟩
  | with_reducible refine Or.inl ⟨_, .inr (.inl rfl), ?_⟩
  | with_reducible refine Or.inr ⟨_, rfl, ?_⟩
  | (with_reducible refine WE.nameF (by with_unfolding_all exact rfl) (by first | assumption | with_unfolding_all exact rfl) ?_; try walk_at "nenv")
  | (with_reducible refine WE.movF (by with_unfolding_all exact rfl) (by first | assumption | with_unfolding_all exact rfl) ?_; try walk_at "nenv")
  | with_reducible refine ⟨fun _ => ?_, fun h => by with_unfolding_all exact Bool.noConfusion (show true = false from h)⟩
  | with_reducible refine ⟨fun h => by with_unfolding_all exact Bool.noConfusion (show false = true from h), fun _ => ?_⟩)
local macro_rules | `(tactic| walk_at "ws") => `(tactic| repeat walk_at "w2")
local macro_rules | `(tactic| walk_at "bag") => `(tactic| refine ⟨Bag.cln1 _ _ _ (by walk_at "immt"), ?_⟩)
theorem atI_zero (d : D) (r : List D) : atI (d :: r) 0 = some d := by simp [atI, ixN]
section
variable {Q : SO → Prop} {a0 a2 a3 a4 a5 a6 a7 a8 : Sl}
theorem c5_ok {s : Bag} {B : Nat} (ins outs : List Str) (rows : List (List (Str × Int))) (i0 : 1 ≤ ins.length) (i1 : ins.length ≤ 4) (o0 : 1 ≤ outs.length) (o1 : outs.length ≤ 5) (inm : ∀ x ∈ ins, nm x = true) (onm : ∀ x ∈ outs, nm x = true) (r0 : 1 ≤ rows.length) (hr : rows.length ≤ 20) (n : Int) (hrow : ∀ row ∈ rows, RowOk outs ins.length n row) (jm : Jd (mchD ins outs rows)) {k : Nat} {ds : List D} (ld : ds.length = 6) (hn : ∀ x ∈ ds, Near 100 (mchD ins outs rows) x) (hk : (D.immAll ds = true ∧ k = 8) ∨ k = 0) (h : s.Ok (B + 22)) (q : ∀ s' : Bag, s'.Ok B → ∀ a4 a5, Q (.nx [a0, some (10, s'.d), a2, a3, a4, a5, a6, some (8, mchD ins outs rows), a8])) : WS Q (C5 [a0, some (10, s.d), a2, a3, some (k + 1, .lst ds), a5, a6, some (8, mchD ins outs rows), a8]) := by
  unfold C5
  have im := imm_mch ins outs rows
  obtain ⟨jf, jd⟩ := jm
  cases ds with
  | nil => simp at ld
  | cons d0 r =>
    have hd0 := hn d0 List.mem_cons_self
    have fd0 := hd0.1
    have dd0 := hd0.2
    have hi : idxK [(k + 1, .lst (d0 :: r)), (9, .int 0)] = some (kz d0) := idxK_lst (atI_zero d0 r) (by
      rcases hk with ⟨ha, rfl⟩ | rfl
      · exact .inl (mem_imm ha d0 List.mem_cons_self)
      · exact .inr (by omega))
    generalize hN : d0 :: r = ds at *
    walk_at "ws"
    refine bent_ok 7 208 (by omega) d0 fd0 (by omega) (by omega) s (B + 6) h _ fun x1 hx1 s1 h1 => ?_
    walk_at "nenv"
    walk_at "ws"
    refine near_ok s1 (B + 1) ins outs rows i0 i1 o0 o1 inm onm r0 hr n hrow h1 0 _ fun x2 hx2 s2 h2 => ?_
    walk_at "nenv"
    walk_at "ws"
    refine bad_ok s2 B h2 _ fun x3 hx3 s3 h3 => ?_
    walk_at "nenv"
    walk_at "ws"
    refine WE.dispKz [x1, x2, x3] (show 3 ≤ lineN from by decide) fun k3 hk3 => ?_
    walk_at "ws"
    refine WE.addLst rfl hk3 (by rw [ld]; show 9 ≤ lineN; decide) fun k4 => ?_
    walk_at "nenv"
    walk_at "ws"
    refine WS.loop (fun r ρ => ∃ y, (∀ kd ∈ r, ∃ x, kd = kz x ∧ x.fit 1000 = true ∧ x.dep ≤ 60) ∧ ρ = [a0, some (10, s3.d), a2, a3, some (k4, .lst ds), y, a6, some (8, mchD ins outs rows), a8]) ⟨_, fun kd hkd => ?_, rfl⟩ ?_ ?_
    · obtain ⟨x, hx, rfl⟩ := List.mem_map.mp hkd
      refine ⟨x, rfl, ?_⟩
      rcases List.mem_append.mp hx with hx | hx
      · have := hn x hx
        exact ⟨D.fit_mono (by omega) _ this.1, by have := this.2; omega⟩
      · simp only [List.mem_cons, List.not_mem_nil, or_false] at hx
        rcases hx with rfl | rfl | rfl
        · exact ⟨D.fit_mono (by omega) _ hx1.1, by have := hx1.2; omega⟩
        · exact ⟨D.fit_mono (by omega) _ hx2.1, by have := hx2.2; omega⟩
        · exact ⟨D.fit_mono (by omega) _ hx3.1, by have := hx3.2; omega⟩
    · rintro kd r _ ⟨y, hy, rfl⟩
      obtain ⟨x, rfl, fx, dx⟩ := hy kd List.mem_cons_self
      refine ⟨_, asgN_to (ltN rfl), ?_⟩
      walk_at "nenv"
      exact e5_ok fx dx (LpP.nx ⟨_, fun kd h => hy kd (List.mem_cons_of_mem _ h), rfl⟩)
    · rintro _ ⟨y, _, rfl⟩
      exact q s3 h3 _ _
theorem p4_ok {s : Bag} {B : Nat} (ns : List Int) (hn : ns.length ≤ 63) {a2 : Sl} (h : s.Ok (B + 18000)) (q : ∀ s' : Bag, s'.Ok B → ∀ a3 a4 a5 a6 a7 a8, Q (.nx [some (0, .seq (ns.map .int)), some (10, s'.d), a2, a3, a4, a5, a6, a7, a8])) : WS Q (P4 [some (0, .seq (ns.map .int)), some (10, s.d), a2, none, none, none, none, none, none]) := by
  unfold P4
  have ln : (ns.map D.int).length = ns.length := List.length_map _
  walk_at "ws"
  refine WS.loop (fun r ρ => ∃ s : Bag, s.Ok (B + 1000 * r.length) ∧ (∀ kd ∈ r, ∃ i : Int, kd = (9, .int i)) ∧ ∃ a3 a4 a5 a6 a7 a8, ρ = [some (0, .seq (ns.map .int)), some (10, s.d), a2, a3, a4, a5, a6, a7, a8]) ⟨s, ?_, fun kd hkd => ?_, _, _, _, _, _, _, rfl⟩ ?_ ?_
  · rw [rng_len]
    exact h.mono (by split <;> omega)
  · obtain ⟨i, e, _⟩ := rng_mem hkd
    exact ⟨i, e⟩
  · rintro kd r _ ⟨s1, h1, hr, a3, a4, a5, a6, a7, a8, rfl⟩
    obtain ⟨i, rfl⟩ := hr kd List.mem_cons_self
    refine ⟨_, asgN_to (ltN rfl), ?_⟩
    walk_at "nenv"
    simp only [List.length_cons] at h1
    unfold B4
    refine WS.seq (c1_ok (B := B + 1000 * r.length + 118) (h1.mono (by omega)) fun x ins outs rows n hx i0 i1 o0 o1 ind ond inm onm n0 n1 hrl hrow s2 h2 => ?_)
    have im := imm_mch ins outs rows
    have jm : Jd (mchD ins outs rows) := jd_mch (n := 0) (by omega) (by omega) inm onm (by omega) fun row hw => ⟨by have := (hrow row hw).1; omega, fun p hp => onm _ ((hrow row hw).2 p hp).1⟩
    have ht := isM_true i0 i1 o0 o1 ind ond inm onm (by omega) (by omega) (by omega) hrow
    refine SqP.nx (WS.seq ?_)
    refine c2_ok hx (SqP.nx (WS.seq ?_))
    refine c3_ok jm.1 im ht (SqP.nx (WS.seq ?_))
    refine c4_ok (B := B + 1000 * r.length + 22) jm.1 im jm.2 (h2.mono (by omega)) fun s3 h3 k ds ld hnr hk => SqP.nx (WS.seq ?_)
    refine c5_ok (B := B + 1000 * r.length) ins outs rows i0 i1 (by omega) (by omega) inm onm (by omega) (by omega) n hrow jm ld hnr hk h3 fun s4 h4 a4 a5 => SqP.nx (WS.skip (LpP.nx ?_))
    exact ⟨s4, h4, fun kd h => hr kd (List.mem_cons_of_mem _ h), _, _, _, _, _, _, rfl⟩
  · rintro _ ⟨s1, h1, hr, a3, a4, a5, a6, a7, a8, rfl⟩
    exact q s1 (h1.mono (by omega)) _ _ _ _ _ _
end
end DN

set_option Elab.async false
set_option linter.all false
set_option maxRecDepth 100000
set_option maxHeartbeats 200000
/-! The plain law of k00: the law. -/
namespace DN
open PySem PySem.Spec PyProof.Rows L2
variable [KSeq]
local macro_rules | `(tactic| walk_at "immt") => `(tactic| first | assumption | (with_unfolding_all exact rfl) | with_reducible exact imm_ints _ | with_reducible exact imm_strs _ | with_reducible exact imm_tupS _)
local macro_rules | `(tactic| walk_at "opd") => `(tactic| first
  | with_reducible assumption
  | with_reducible exact lenS_lst _ | with_reducible exact lenS_tup _ | with_reducible exact lenS_seq _ | with_reducible exact lenS_str (by with_unfolding_all first | assumption | omega)
  | with_reducible exact eqS_int _ _ _ | with_reducible exact eqS_ints_nil _ _ | with_reducible exact listK2_lst (by walk_at "immt") | with_reducible exact inS_lst _ (by assumption) (by assumption) | with_reducible exact inS_tup _ (by assumption) (by assumption) | with_reducible exact ordS_int _ _ _ | with_reducible exact addK_int _ _ _ _ | with_reducible exact subD_int _ _
  | with_reducible exact modD_int (by with_unfolding_all first | assumption | omega | decide)
  | with_reducible exact fdivD_int (by with_unfolding_all first | assumption | omega | decide) (by with_unfolding_all first | assumption | omega | decide)
  | with_reducible exact mulK_intR (by with_unfolding_all first | decide | omega) | with_reducible exact mulK_intL (by with_unfolding_all first | decide | omega)
  | with_reducible exact powD_int (by with_unfolding_all first | decide | omega) (by with_unfolding_all first | decide | omega) (by with_unfolding_all first | decide | omega)
  | with_reducible exact inS_intG _ (by with_unfolding_all exact rfl)
  | with_reducible exact listK2_tup (by assumption) | with_reducible exact revK_tup (by assumption) | with_reducible exact slHi_tup (by assumption) | with_reducible exact slLo_tup (by assumption)
  | with_reducible exact slHi_str (by assumption) | with_reducible exact slLo_str (by assumption)
  | with_reducible exact slHi_lst (by walk_at "immt") | with_reducible exact slLo_lst (by walk_at "immt") | with_reducible exact tupK_lst (by walk_at "immt") | with_reducible exact max2S_int _ _ | with_reducible exact min2S_int _ _
  | with_unfolding_all exact rfl)
local macro_rules | `(tactic| walk_at "uni") => `(tactic| with_reducible first | exact uni_nil | exact uni_I (by walk_at "immt") (by walk_at "uni") | exact uni_1 (by walk_at "immt") (by walk_at "uni") | exact uni_j (by walk_at "immt") (by walk_at "uni"))
local macro_rules | `(tactic| walk_at "prep") => `(tactic| first
  | with_reducible exact prep_nil
  | (with_reducible apply prep_vF; walk_at "prep") | (with_reducible apply prep_vT; walk_at "prep")
  | (with_reducible apply prep_m; (with_unfolding_all exact rfl); walk_at "prep")
  | (with_reducible apply prep_i; (with_unfolding_all exact rfl); walk_at "immt"; walk_at "prep")
  | (with_reducible apply prep_f; (with_unfolding_all exact rfl); (with_unfolding_all exact rfl); walk_at "prep"))
local macro_rules | `(tactic| walk_at "w1") => `(tactic| with_reducible first
  | refine WS.seq ?_ | refine SqP.nx ?_ | refine SqP.rt ?_ | refine WS.skip ?_ | refine WS.ifS ?_ | refine WS.retv ?_ | refine WS.expr ?_ | refine WS.asgN ?_ | refine WS.asg ?_ | refine WS.par ?_ | refine WS.forS ?_
  | refine WE.opE ?_ | refine WE.ev ?_ | refine WE.eb (by with_unfolding_all exact rfl) ?_ | refine WE.e0 ?_ | refine WE.cst ?_ | refine WE.ret ?_ | refine WE.boolM ?_
  | refine WE.frz (WE.idx (by with_unfolding_all exact rfl) (by walk_at "opd") ?_) | refine WE.sop (by with_unfolding_all exact rfl) (by walk_at "opd") ?_ | refine WE.nop (by with_unfolding_all exact rfl) (by walk_at "opd") ?_ | refine WE.frz (WE.nop (by with_unfolding_all exact rfl) (by walk_at "opd") ?_)
  | refine WE.nameI (by with_unfolding_all exact rfl) (by walk_at "immt") ?_ | refine WE.movI (by with_unfolding_all exact rfl) (by walk_at "immt") ?_
  | refine WE.notM ?_ | refine WE.andM ?_ | refine WE.orM ?_ | refine WE.andV ?_ | refine WE.orV ?_ | refine WE.notV ?_ | refine WE.ifV ?_ | refine WE.chainV ?_ | refine WE.bind ?_ | refine WE.valM ?_ | refine WE.intS ?_ | refine WE.lcS ?_ | refine WE.itsR1 ?_ | refine WE.itsV ?_
  | refine WE.setRest (by with_unfolding_all exact rfl) ?_ | refine WE.setTurn (by with_unfolding_all exact rfl) ?_
  | refine WE.uniL (by walk_at "uni") (by with_unfolding_all exact of_decide_eq_true rfl) ?_ | refine WE.uniT (by walk_at "uni") (by with_unfolding_all exact of_decide_eq_true rfl) ?_
  | refine WE.pth (by with_unfolding_all exact rfl) (by with_unfolding_all exact rfl) (by with_unfolding_all exact rfl) (by with_unfolding_all exact rfl) (by with_unfolding_all exact rfl) (by with_unfolding_all exact rfl) ?_
  | refine WE.popAt (by with_unfolding_all exact rfl) (by first | with_reducible exact ixN_zero _ | with_unfolding_all exact rfl) (by with_unfolding_all exact rfl) (by with_unfolding_all exact rfl) ?_
  | refine WS.forH0 (by with_unfolding_all exact rfl) (by with_unfolding_all first | exact .inr rfl | exact .inl rfl) ?_
  | refine WE.fvL (by with_unfolding_all exact rfl) (by with_unfolding_all exact of_decide_eq_true rfl) (fun _ => ?_)
  | refine WE.call (by first | with_unfolding_all exact rfl | walk_at "prep") ?_
  | refine WE.callC (by first | with_unfolding_all exact rfl | walk_at "prep") ?_
  | refine WE.mth ?_)
local macro_rules | `(tactic| walk_at "nenv") => `(tactic| try simp only [kz_str, kz_int, Bool.false_eq_true, if_false, if_true, List.take_succ_cons, List.take_zero, List.take_nil, List.length_cons, List.length_nil, Nat.zero_add, Nat.reduceAdd, List.set_cons_zero, List.set_cons_succ, List.set_nil, zipO, puts, List.append_nil, List.cons_append, List.nil_append, wipeE, unwipe, slotE, List.getElem?_cons_zero, List.getElem?_cons_succ])
local macro_rules | `(tactic| walk_at "w2") => `(tactic| first
  | walk_at "w1"
  | (with_reducible refine ⟨ltN (by with_unfolding_all exact rfl), ?_⟩; try walk_at "nenv")
  | with_reducible refine ⟨small62_of (by omega) (by omega), ?_⟩
  | (with_reducible refine ⟨tyT (by with_unfolding_all exact rfl), ?_⟩; try walk_at "nenv")
  | (with_reducible refine ⟨_, by with_unfolding_all exact rfl, ?_⟩; try walk_at "nenv")
  | with_reducible refine Or.inl ⟨_, .inl rfl, ?_⟩
  | with_reducible refine Or.inl ⟨_, .inr (.inl rfl), ?_⟩
  | with_reducible refine Or.inr ⟨_, rfl, ?_⟩
  | (with_reducible refine WE.nameF (by with_unfolding_all exact rfl) (by first | assumption | with_unfolding_all exact rfl) ?_; try walk_at "nenv")
  | (with_reducible refine WE.movF (by with_unfolding_all exact rfl) (by first | assumption | with_unfolding_all exact rfl) ?_; try walk_at "nenv")
  | with_reducible refine ⟨fun _ => ?_, fun h => by with_unfolding_all exact Bool.noConfusion (show true = false from h)⟩
  | with_reducible refine ⟨fun h => by with_unfolding_all exact Bool.noConfusion (show false = true from h), fun _ => ?_⟩)
local macro_rules | `(tactic| walk_at "ws") => `(tactic| repeat walk_at "w2")
local macro_rules | `(tactic| walk_at "bag") => `(tactic| refine ⟨Bag.cln1 _ _ _ (by walk_at "immt"), ?_⟩)
theorem law_ok (ns : List Int) (hn : ns.length ≤ 63) (Q : Nat → D → List KD → Prop) (q : Q 9 (.bl true) []) : WR Q (runS 9 [false] (F_k00_31 8) [(0, .seq (ns.map .int))]) := by
  have im : (D.seq (ns.map .int)).imm = true := imm_ints ns
  refine WR.fn (ρ := [some (0, .seq (ns.map .int)), none, none, none, none, none, none, none, none]) rfl ?_
  rw [F31_is]
  walk_at "ws"
  refine begun_ok ns hn _ _ fun s h => ?_
  walk_at "nenv"
  with_reducible refine ⟨ltN rfl, ?_⟩
  with_reducible refine SqP.nx ?_
  with_reducible refine WS.seq ?_
  with_reducible refine p2_ok ?_
  intro k
  with_reducible refine SqP.nx ?_
  with_reducible refine WS.seq ?_
  with_reducible refine p3_ok ?_
  intro k
  with_reducible refine SqP.nx ?_
  with_reducible refine WS.seq ?_
  refine p4_ok (B := 400) ns hn (h.mono (by omega)) fun s1 h1 a3 a4 a5 a6 a7 a8 => SqP.nx (WS.seq ?_)
  unfold P5
  walk_at "ws"
  refine limits_ok s1 0 h1 _ fun s2 h2 => ?_
  walk_at "nenv"
  walk_at "ws"
  exact RnP.rt rfl q
theorem plain_k00 : ∀ ns : List Int, ns.length ≤ 63 → ∃ k, runS N_k00_31.length [false] (F_k00_31 8) [(0, .seq (ns.map D.int))] = some (.rt k (.bl true) []) := fun ns hn => by
  obtain ⟨k, d, o, e, rfl, rfl⟩ := (law_ok ns hn (fun k d o => d = .bl true ∧ o = []) ⟨rfl, rfl⟩).to
  exact ⟨k, e⟩
end DN

set_option Elab.async false
set_option linter.all false
set_option maxRecDepth 100000
set_option maxHeartbeats 4000000
open DN PySem PySem.W PyProof.Rows
set_option maxHeartbeats 0 in
theorem PySem.Challenge.cw_everywrong_k00_whole_names_and_machines_holds : PySem.Challenge.rw_everywrong_k00_whole_names_and_machines.Holds := by
  w_on; o_law; k_head; (case hw => w_witness2)
  k_fill
  refine DN.walkG (l := PySem.Challenge.rw_everywrong_k00_whole_names_and_machines) (n := 63) (k := 14) (x := "script") (CX := fun w => L2.CX PySem.Challenge.pw_everywrong_k00_whole_names_and_machines w) (sp := fun w => DN.spLaw _ 63) rfl (by decide) rfl ⟨⟨rfl, by decide, by decide⟩, rfl⟩ (fun w h Y => PySem.W.kIn_of Y) ?F (fun w H a ns hl hO hS => ⟨a, ns, rfl, hS, hl, hO, fun _ => rfl⟩) (fun w H s e s2 h => DN.no_cx h)
  case F =>
    intro w mg fa h KX G hmg
    letI : DN.KSeq := ⟨L2.KOf KX⟩
    have d2 : DN.Df (L2.KOf KX) mg "is_number" (DN.topS 2) ["value"] := by
      refine' DN.df_mk KX G (fun _ _ _ _ _ _ us hl => match us, hl with | [_], _ => rfl) ?a ?l ?c ?k
      (case a => delta L2.KOf; k_is); (case l => delta L2.KOf; k_is); (case c => delta L2.KOf; k_is); (case k => delta L2.KOf; k_is)
    have d3 : DN.Df (L2.KOf KX) mg "is_in" (DN.topS 3) ["value", "least", "most"] := by
      refine' DN.df_mk KX G (fun _ _ _ _ _ _ us hl => match us, hl with | [_, _, _], _ => rfl) ?a ?l ?c ?k
      (case a => delta L2.KOf; k_is); (case l => delta L2.KOf; k_is); (case c => delta L2.KOf; k_is); (case k => delta L2.KOf; k_is)
    have d4 : DN.Df (L2.KOf KX) mg "is_name" (DN.topS 4) ["thing"] := by
      refine' DN.df_mk KX G (fun _ _ _ _ _ _ us hl => match us, hl with | [_], _ => rfl) ?a ?l ?c ?k
      (case a => delta L2.KOf; k_is); (case l => delta L2.KOf; k_is); (case c => delta L2.KOf; k_is); (case k => delta L2.KOf; k_is)
    have d5 : DN.Df (L2.KOf KX) mg "are_names" (DN.topS 5) ["value", "least", "most"] := by
      refine' DN.df_mk KX G (fun _ _ _ _ _ _ us hl => match us, hl with | [_, _, _], _ => rfl) ?a ?l ?c ?k
      (case a => delta L2.KOf; k_is); (case l => delta L2.KOf; k_is); (case c => delta L2.KOf; k_is); (case k => delta L2.KOf; k_is)
    have d8 : DN.Df (L2.KOf KX) mg "is_row" (DN.topS 8) ["value", "inputs", "outputs", "many"] := by
      refine' DN.df_mk KX G (fun _ _ _ _ _ _ us hl => match us, hl with | [_, _, _, _], _ => rfl) ?a ?l ?c ?k
      (case a => delta L2.KOf; k_is); (case l => delta L2.KOf; k_is); (case c => delta L2.KOf; k_is); (case k => delta L2.KOf; k_is)
    have d9 : DN.Df (L2.KOf KX) mg "is_machine" (DN.topS 9) ["thing"] := by
      refine' DN.df_mk KX G (fun _ _ _ _ _ _ us hl => match us, hl with | [_], _ => rfl) ?a ?l ?c ?k
      (case a => delta L2.KOf; k_is); (case l => delta L2.KOf; k_is); (case c => delta L2.KOf; k_is); (case k => delta L2.KOf; k_is)
    have d11 : DN.Df (L2.KOf KX) mg "_law_begun" (DN.topS 11) ["script"] := by
      refine' DN.df_mk KX G (fun _ _ _ _ _ _ us hl => match us, hl with | [_], _ => rfl) ?a ?l ?c ?k
      (case a => delta L2.KOf; k_is); (case l => delta L2.KOf; k_is); (case c => delta L2.KOf; k_is); (case k => delta L2.KOf; k_is)
    have d12 : DN.Df (L2.KOf KX) mg "_law_mixed" (DN.topS 12) ["draw"] := by
      refine' DN.df_mk KX G (fun _ _ _ _ _ _ us hl => match us, hl with | [_], _ => rfl) ?a ?l ?c ?k
      (case a => delta L2.KOf; k_is); (case l => delta L2.KOf; k_is); (case c => delta L2.KOf; k_is); (case k => delta L2.KOf; k_is)
    have d13 : DN.Df (L2.KOf KX) mg "_law_take" (DN.topS 13) ["draw", "many"] := by
      refine' DN.df_mk KX G (fun _ _ _ _ _ _ us hl => match us, hl with | [_, _], _ => rfl) ?a ?l ?c ?k
      (case a => delta L2.KOf; k_is); (case l => delta L2.KOf; k_is); (case c => delta L2.KOf; k_is); (case k => delta L2.KOf; k_is)
    have d14 : DN.Df (L2.KOf KX) mg "_law_pick" (DN.topS 14) ["draw", "some"] := by
      refine' DN.df_mk KX G (fun _ _ _ _ _ _ us hl => match us, hl with | [_, _], _ => rfl) ?a ?l ?c ?k
      (case a => delta L2.KOf; k_is); (case l => delta L2.KOf; k_is); (case c => delta L2.KOf; k_is); (case k => delta L2.KOf; k_is)
    have d15 : DN.Df (L2.KOf KX) mg "_law_shuffled" (DN.topS 15) ["draw", "some"] := by
      refine' DN.df_mk KX G (fun _ _ _ _ _ _ us hl => match us, hl with | [_, _], _ => rfl) ?a ?l ?c ?k
      (case a => delta L2.KOf; k_is); (case l => delta L2.KOf; k_is); (case c => delta L2.KOf; k_is); (case k => delta L2.KOf; k_is)
    have d16 : DN.Df (L2.KOf KX) mg "_law_same" (DN.topS 16) ["told", "due"] := by
      refine' DN.df_mk KX G (fun _ _ _ _ _ _ us hl => match us, hl with | [_, _], _ => rfl) ?a ?l ?c ?k
      (case a => delta L2.KOf; k_is); (case l => delta L2.KOf; k_is); (case c => delta L2.KOf; k_is); (case k => delta L2.KOf; k_is)
    have d17 : DN.Df (L2.KOf KX) mg "_law_is_int" (DN.topS 17) ["thing"] := by
      refine' DN.df_mk KX G (fun _ _ _ _ _ _ us hl => match us, hl with | [_], _ => rfl) ?a ?l ?c ?k
      (case a => delta L2.KOf; k_is); (case l => delta L2.KOf; k_is); (case c => delta L2.KOf; k_is); (case k => delta L2.KOf; k_is)
    have d18 : DN.Df (L2.KOf KX) mg "_law_names" (DN.topS 18) ["draw", "many"] := by
      refine' DN.df_mk KX G (fun _ _ _ _ _ _ us hl => match us, hl with | [_, _], _ => rfl) ?a ?l ?c ?k
      (case a => delta L2.KOf; k_is); (case l => delta L2.KOf; k_is); (case c => delta L2.KOf; k_is); (case k => delta L2.KOf; k_is)
    have d19 : DN.Df (L2.KOf KX) mg "_law_letters" (DN.topS 19) ["draw"] := by
      refine' DN.df_mk KX G (fun _ _ _ _ _ _ us hl => match us, hl with | [_], _ => rfl) ?a ?l ?c ?k
      (case a => delta L2.KOf; k_is); (case l => delta L2.KOf; k_is); (case c => delta L2.KOf; k_is); (case k => delta L2.KOf; k_is)
    have d20 : DN.Df (L2.KOf KX) mg "_law_machine" (DN.topS 20) ["draw", "inputs", "outputs", "many"] := by
      refine' DN.df_mk KX G (fun _ _ _ _ _ _ us hl => match us, hl with | [_, _, _, _], _ => rfl) ?a ?l ?c ?k
      (case a => delta L2.KOf; k_is); (case l => delta L2.KOf; k_is); (case c => delta L2.KOf; k_is); (case k => delta L2.KOf; k_is)
    have d21 : DN.Df (L2.KOf KX) mg "_law_a_machine" (DN.topS 21) ["draw", "most"] := by
      refine' DN.df_mk KX G (fun _ _ _ _ _ _ us hl => match us, hl with | [_, _], _ => rfl) ?a ?l ?c ?k
      (case a => delta L2.KOf; k_is); (case l => delta L2.KOf; k_is); (case c => delta L2.KOf; k_is); (case k => delta L2.KOf; k_is)
    have d22 : DN.Df (L2.KOf KX) mg "_law_near" (DN.topS 22) ["draw", "machine"] := by
      refine' DN.df_mk KX G (fun _ _ _ _ _ _ us hl => match us, hl with | [_, _], _ => rfl) ?a ?l ?c ?k
      (case a => delta L2.KOf; k_is); (case l => delta L2.KOf; k_is); (case c => delta L2.KOf; k_is); (case k => delta L2.KOf; k_is)
    have d23 : DN.Df (L2.KOf KX) mg "_law_is_name" (DN.topS 23) ["thing"] := by
      refine' DN.df_mk KX G (fun _ _ _ _ _ _ us hl => match us, hl with | [_], _ => rfl) ?a ?l ?c ?k
      (case a => delta L2.KOf; k_is); (case l => delta L2.KOf; k_is); (case c => delta L2.KOf; k_is); (case k => delta L2.KOf; k_is)
    have d24 : DN.Df (L2.KOf KX) mg "_law_are_names" (DN.topS 24) ["thing", "least", "most"] := by
      refine' DN.df_mk KX G (fun _ _ _ _ _ _ us hl => match us, hl with | [_, _, _], _ => rfl) ?a ?l ?c ?k
      (case a => delta L2.KOf; k_is); (case l => delta L2.KOf; k_is); (case c => delta L2.KOf; k_is); (case k => delta L2.KOf; k_is)
    have d25 : DN.Df (L2.KOf KX) mg "_law_is_machine" (DN.topS 25) ["thing"] := by
      refine' DN.df_mk KX G (fun _ _ _ _ _ _ us hl => match us, hl with | [_], _ => rfl) ?a ?l ?c ?k
      (case a => delta L2.KOf; k_is); (case l => delta L2.KOf; k_is); (case c => delta L2.KOf; k_is); (case k => delta L2.KOf; k_is)
    have d26 : DN.Df (L2.KOf KX) mg "_law_near_word" (DN.topS 26) ["draw"] := by
      refine' DN.df_mk KX G (fun _ _ _ _ _ _ us hl => match us, hl with | [_], _ => rfl) ?a ?l ?c ?k
      (case a => delta L2.KOf; k_is); (case l => delta L2.KOf; k_is); (case c => delta L2.KOf; k_is); (case k => delta L2.KOf; k_is)
    have d27 : DN.Df (L2.KOf KX) mg "_law_bent_part" (DN.topS 27) ["draw", "thing"] := by
      refine' DN.df_mk KX G (fun _ _ _ _ _ _ us hl => match us, hl with | [_, _], _ => rfl) ?a ?l ?c ?k
      (case a => delta L2.KOf; k_is); (case l => delta L2.KOf; k_is); (case c => delta L2.KOf; k_is); (case k => delta L2.KOf; k_is)
    have d28 : DN.Df (L2.KOf KX) mg "_law_bent" (DN.topS 28) ["draw", "thing"] := by
      refine' DN.df_mk KX G (fun _ _ _ _ _ _ us hl => match us, hl with | [_, _], _ => rfl) ?a ?l ?c ?k
      (case a => delta L2.KOf; k_is); (case l => delta L2.KOf; k_is); (case c => delta L2.KOf; k_is); (case k => delta L2.KOf; k_is)
    have d29 : DN.Df (L2.KOf KX) mg "_law_bad_machine" (DN.topS 29) ["draw"] := by
      refine' DN.df_mk KX G (fun _ _ _ _ _ _ us hl => match us, hl with | [_], _ => rfl) ?a ?l ?c ?k
      (case a => delta L2.KOf; k_is); (case l => delta L2.KOf; k_is); (case c => delta L2.KOf; k_is); (case k => delta L2.KOf; k_is)
    have d30 : DN.Df (L2.KOf KX) mg "_law_are_limits" (DN.topS 30) ["draw"] := by
      refine' DN.df_mk KX G (fun _ _ _ _ _ _ us hl => match us, hl with | [_], _ => rfl) ?a ?l ?c ?k
      (case a => delta L2.KOf; k_is); (case l => delta L2.KOf; k_is); (case c => delta L2.KOf; k_is); (case k => delta L2.KOf; k_is)
    have d31 : DN.Df (L2.KOf KX) mg "law" (DN.topS 31) ["script"] := by
      refine' DN.df_mk KX G (fun _ _ _ _ _ _ us hl => match us, hl with | [_], _ => rfl) ?a ?l ?c ?k
      (case a => delta L2.KOf; k_is); (case l => delta L2.KOf; k_is); (case c => delta L2.KOf; k_is); (case k => delta L2.KOf; k_is)
    have m_abs : mg "abs" = none := PySem.W.mg_none_of KX G (by k_is)
    have m_bool : mg "bool" = none := PySem.W.mg_none_of KX G (by k_is)
    have m_int : mg "int" = none := PySem.W.mg_none_of KX G (by k_is)
    have m_isinstance : mg "isinstance" = none := PySem.W.mg_none_of KX G (by k_is)
    have m_len : mg "len" = none := PySem.W.mg_none_of KX G (by k_is)
    have m_list : mg "list" = none := PySem.W.mg_none_of KX G (by k_is)
    have m_max : mg "max" = none := PySem.W.mg_none_of KX G (by k_is)
    have m_min : mg "min" = none := PySem.W.mg_none_of KX G (by k_is)
    have m_range : mg "range" = none := PySem.W.mg_none_of KX G (by k_is)
    have m_repr : mg "repr" = none := PySem.W.mg_none_of KX G (by k_is)
    have m_set : mg "set" = none := PySem.W.mg_none_of KX G (by k_is)
    have m_str : mg "str" = none := PySem.W.mg_none_of KX G (by k_is)
    have m_tuple : mg "tuple" = none := PySem.W.mg_none_of KX G (by k_is)
    have q_SIGNS : DN.KonD (L2.KOf KX) mg "SIGNS" (.str "abcdefghijklmnopqrstuvwxyz0123456789") := by
      refine' DN.kon_str KX G ?a ?r
      (case a => delta L2.KOf; k_is); (case r => exact ⟨_, rfl⟩)
    have q_STATES : DN.KonD (L2.KOf KX) mg "STATES" (.int (12)) := by
      refine' DN.kon_int KX G ?a ?r
      (case a => delta L2.KOf; k_is); (case r => exact ⟨_, rfl⟩)
    have T : DN.Top_k00 (L2.KOf KX) mg := ⟨d2, d3, d4, d5, d8, d9, d11, d12, d13, d14, d15, d16, d17, d18, d19, d20, d21, d22, d23, d24, d25, d26, d27, d28, d29, d30, d31, m_abs, m_bool, m_int, m_isinstance, m_len, m_list, m_max, m_min, m_range, m_repr, m_set, m_str, m_tuple, q_SIGNS, q_STATES⟩
    obtain ⟨fd, h1, h2⟩ := DN.Df.law (n := 63) rfl T.d31 hmg DN.s_k00_31 (fun bs => DN.y_k00_31 (bs := bs) rfl T) DN.plain_k00
    exact ⟨fd, h1, fun bs _ _ => h2 bs⟩
