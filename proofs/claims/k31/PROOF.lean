import PyProof.Rows.All
import Wide.All
import OpenK.AllK
import Wide.FinOn
import HandS.ForMost
import HandS.Exc
import HandS.TryOnly
import HandS.ExcOwn
import HandS.WordsExc
import HandS.Lambda
import HandS.Wide
import HandS.IsInst
import Lean
import KE.KStateDown
import HandS.More
import HandS.Defaults
import HandS.Head0
import HandS.Head1
import HandS.Head2
import HandS.HeadEnd
import HandS.HeadHook1
import HandS.HeadHook2
import HandS.HeadHook3
import HandS.HeadHook4
import HandS.ReplaceLit
import HandS.ReplaceList
import KE.DatumOrd
import HandS.StrMore
import HandS.NoneIn
import HandS.Flow
import KE.KExcIs
import HandS.ExcInit
import HandS.ExcField
import HandS.Strs
import HandS.Replace
import KE.GoesEnum
import KE.KIntText
import KE.KStrBytes
import HandS.TupAny
import HandS.Style
import PyProof.ReprRoads
import PyProof.ReprLen
import PyProof.FitsInt
import HandS.EndTab
import KE.KNestM
import HandS.Sort
import PyProof.ListRange
import HandS.RepeatKit
import PySem.Challenge.RW_foldletter_k31_kinds_shown
set_option Elab.async false
set_option linter.all false
set_option maxRecDepth 100000
set_option autoImplicit false
set_option maxHeartbeats 0
/-! VS, part a: data without addresses (D), with addresses (T), who owns what (oc, sh). -/
namespace VS
open PySem PySem.Spec PyProof.Rows L2

/-- who holds a made thing: the one place alone; several; the caller's script; the text -/
inductive Ow where
  | own | shr | frz | stc
  deriving DecidableEq, Repr
inductive Sc where
  | non | bl (b : Bool) | int (i : Int) | str (s : List Nat)
  deriving DecidableEq, Repr
def Sc.v : Sc → V
  | .non => .non
  | .bl b => .bl b
  | .int i => .int i
  | .str s => .str ⟨s.toArray⟩
inductive D where
  | sc (s : Sc)
  | lst (o : Ow) (xs : List D)
  | tup (xs : List D)
  | obj (o : Ow) (C : String) (ns : List String) (xs : List D)
  | exn (C : String) (ns : List String) (xs : List Sc)
  deriving Repr
abbrev D.non : D := .sc .non
abbrev D.bl (b : Bool) : D := .sc (.bl b)
abbrev D.int (i : Int) : D := .sc (.int i)
abbrev D.str (s : List Nat) : D := .sc (.str s)
inductive T where
  | sc (s : Sc)
  | lst (a : Addr) (o : Ow) (xs : List T)
  | tup (a : Addr) (st : Bool) (xs : List T)
  | obj (a dx : Addr) (o : Ow) (C : String) (ns : List String) (xs : List T)
  | exn (a : Addr) (dx : Option Addr) (C : String) (ns : List String) (xs : List Sc)
def T.v : T → V
  | .sc s => s.v
  | .lst a _ _ => .ref a
  | .tup a _ _ => .ref a
  | .obj a _ _ _ _ _ => .ref a
  | .exn a _ _ _ _ => .ref a

mutual
def T.d : T → D
  | .sc s => .sc s
  | .lst _ o xs => .lst o (Ts.d xs)
  | .tup _ _ xs => .tup (Ts.d xs)
  | .obj _ _ o C ns xs => .obj o C ns (Ts.d xs)
  | .exn _ _ C ns xs => .exn C ns xs
def Ts.d : List T → List D
  | [] => []
  | t :: ts => t.d :: Ts.d ts
end
theorem Ts.d_map : ∀ ts : List T, Ts.d ts = ts.map T.d
  | [] => by simp [Ts.d]
  | t :: ts => by simp [Ts.d, Ts.d_map ts]

def b2 (p : Prop) [Decidable p] : Nat := if p then 1 else 0
mutual
/-- how often a is owned -/
def T.oc (a : Addr) : T → Nat
  | .sc _ => 0
  | .lst b o xs => b2 (o = .own ∧ b = a) + Ts.oc a xs
  | .tup _ _ xs => Ts.oc a xs
  | .obj b dx o _ _ xs => b2 (o = .own ∧ b = a) + b2 (o = .own ∧ dx = a) + Ts.oc a xs
  | .exn _ _ _ _ _ => 0
def Ts.oc (a : Addr) : List T → Nat
  | [] => 0
  | t :: ts => t.oc a + Ts.oc a ts
end
mutual
/-- how often a is held, not owned -/
def T.sh (a : Addr) : T → Nat
  | .sc _ => 0
  | .lst b o xs => b2 ((o = .shr ∨ o = .frz) ∧ b = a) + Ts.sh a xs
  | .tup b st xs => b2 (st = false ∧ b = a) + Ts.sh a xs
  | .obj b dx o _ _ xs => b2 (o = .shr ∧ b = a) + b2 (o = .shr ∧ dx = a) + Ts.sh a xs
  | .exn _ dx _ _ _ => b2 (dx = some a)
def Ts.sh (a : Addr) : List T → Nat
  | [] => 0
  | t :: ts => t.sh a + Ts.sh a ts
end

mutual
def T.fz : T → T
  | .sc s => .sc s
  | .lst a o xs => .lst a (if o = .own then .shr else o) (Ts.fz xs)
  | .tup a st xs => .tup a st (Ts.fz xs)
  | .obj a dx o C ns xs => .obj a dx (if o = .own then .shr else o) C ns (Ts.fz xs)
  | .exn a dx C ns xs => .exn a dx C ns xs
def Ts.fz : List T → List T
  | [] => []
  | t :: ts => t.fz :: Ts.fz ts
end
mutual
def D.fz : D → D
  | .sc s => .sc s
  | .lst o xs => .lst (if o = .own then .shr else o) (Ds.fz xs)
  | .tup xs => .tup (Ds.fz xs)
  | .obj o C ns xs => .obj (if o = .own then .shr else o) C ns (Ds.fz xs)
  | .exn C ns xs => .exn C ns xs
def Ds.fz : List D → List D
  | [] => []
  | t :: ts => t.fz :: Ds.fz ts
end

/-- what the layer is told of the text: the written part, where the classes stand -/
structure Cfg where
  K : PySem.W.Frag
  cls : String → Addr
  /-- the tables of code objects that may grow, and the name of what they tell -/
  tb : List (Addr × Str) := []

def StcL (K : PySem.W.Frag) (a : Addr) (vs : List V) : Prop := SqL K (fun _ => none) a vs
def StcT (K : PySem.W.Frag) (a : Addr) (vs : List V) : Prop := SqT K (fun _ => none) a vs
def fieldsV (ns : List String) (vs : List V) : List (Str × V) := (ns.map Str.ofString).zip vs

/-- what stands at an exception's dict; a thing of C "dict" is an empty dict -/
def exnO (C : String) (ns : List String) (xs : List Sc) : HO := if C = "dict" then .dK [] else .xd (fieldsV ns (xs.map Sc.v))
/-- what may stand in a heap: texts not too long, of signs there are -/
def Sc.good : Sc → Prop
  | .str l => l.length ≤ 16777216 ∧ ∀ c ∈ l, c < 1114112
  | _ => True
mutual
def T.ok (c : Cfg) (H : Hp) : T → Prop
  | .sc s => s.good
  | .lst a .own xs => H a = some (.lst (xs.map T.v)) ∧ xs.length ≤ 16777216 ∧ Ts.ok c H xs
  | .lst a .shr xs => H a = some (.lst (xs.map T.v)) ∧ xs.length ≤ 16777216 ∧ Ts.ok c H xs
  | .lst a .frz xs => (∃ o, H a = some (.frz o (.lst (xs.map T.v)))) ∧ xs.length ≤ 16777216 ∧ Ts.ok c H xs
  | .lst a .stc xs => StcL c.K a (xs.map T.v) ∧ xs.length ≤ 16777216 ∧ Ts.ok c H xs
  | .tup a false xs => H a = some (.tup (xs.map T.v)) ∧ xs.length ≤ 16777216 ∧ Ts.ok c H xs
  | .tup a true xs => StcT c.K a (xs.map T.v) ∧ xs.length ≤ 16777216 ∧ Ts.ok c H xs
  | .obj a dx .own C ns xs => H a = some (.ins (c.cls C) dx (fieldsV ns (xs.map T.v))) ∧ H dx = some (.own a) ∧ dx ≠ a ∧ ns.length = xs.length ∧ Ts.ok c H xs
  | .obj a dx .shr C ns xs => H a = some (.ins (c.cls C) dx (fieldsV ns (xs.map T.v))) ∧ H dx = some (.own a) ∧ dx ≠ a ∧ ns.length = xs.length ∧ Ts.ok c H xs
  | .obj _ _ _ _ _ _ => False
  | .exn a dx C ns xs => (∀ s ∈ xs, s.good) ∧ match dx with
    | none => ns = [] ∧ xs = [] ∧ C ≠ "dict"
    | some d => H d = some (exnO C ns xs) ∧ (C = "dict" → d = a)
def Ts.ok (c : Cfg) (H : Hp) : List T → Prop
  | [] => True
  | t :: ts => t.ok c H ∧ Ts.ok c H ts
end

/-! ### lemmas over lists -/
theorem Ts.ok_iff {c : Cfg} {H : Hp} : ∀ {ts : List T}, Ts.ok c H ts ↔ ∀ t ∈ ts, t.ok c H
  | [] => by simp [Ts.ok]
  | t :: ts => by simp [Ts.ok, Ts.ok_iff (ts := ts)]
theorem Ts.oc_append (a : Addr) : ∀ (xs ys : List T), Ts.oc a (xs ++ ys) = Ts.oc a xs + Ts.oc a ys
  | [], ys => by simp [Ts.oc]
  | t :: xs, ys => by simp [Ts.oc, Ts.oc_append a xs ys]; omega
theorem Ts.sh_append (a : Addr) : ∀ (xs ys : List T), Ts.sh a (xs ++ ys) = Ts.sh a xs + Ts.sh a ys
  | [], ys => by simp [Ts.sh]
  | t :: xs, ys => by simp [Ts.sh, Ts.sh_append a xs ys]; omega
theorem Ts.oc_mem {a : Addr} {t : T} : ∀ {ts : List T}, t ∈ ts → t.oc a ≤ Ts.oc a ts
  | [], h => by cases h
  | u :: ts, h => by
    rcases List.mem_cons.mp h with rfl | h
    · simp [Ts.oc]
    · have := Ts.oc_mem (a := a) h; simp [Ts.oc]; omega
theorem Ts.sh_mem {a : Addr} {t : T} : ∀ {ts : List T}, t ∈ ts → t.sh a ≤ Ts.sh a ts
  | [], h => by cases h
  | u :: ts, h => by
    rcases List.mem_cons.mp h with rfl | h
    · simp [Ts.sh]
    · have := Ts.sh_mem (a := a) h; simp [Ts.sh]; omega
theorem Ts.pos_sh {a : Addr} : ∀ {ts : List T}, 0 < Ts.sh a ts → ∃ t ∈ ts, 0 < t.sh a
  | [], h => by simp [Ts.sh] at h
  | t :: ts, h => by
    simp only [Ts.sh] at h
    by_cases c : 0 < t.sh a
    · exact ⟨t, by simp, c⟩
    · obtain ⟨u, hu, hp⟩ := Ts.pos_sh (ts := ts) (a := a) (by omega)
      exact ⟨u, by simp [hu], hp⟩
theorem Ts.pos_oc {a : Addr} : ∀ {ts : List T}, 0 < Ts.oc a ts → ∃ t ∈ ts, 0 < t.oc a
  | [], h => by simp [Ts.oc] at h
  | t :: ts, h => by
    simp only [Ts.oc] at h
    by_cases c : 0 < t.oc a
    · exact ⟨t, by simp, c⟩
    · obtain ⟨u, hu, hp⟩ := Ts.pos_oc (ts := ts) (a := a) (by omega)
      exact ⟨u, by simp [hu], hp⟩

/-! ### freezing -/
theorem T.fz_v : ∀ t : T, t.fz.v = t.v
  | .sc _ => by simp [T.fz]
  | .lst _ _ _ => by simp [T.fz, T.v]
  | .tup _ _ _ => by simp [T.fz, T.v]
  | .obj _ _ _ _ _ _ => by simp [T.fz, T.v]
  | .exn _ _ _ _ _ => by simp [T.fz]
theorem Ts.fz_map : ∀ ts : List T, Ts.fz ts = ts.map T.fz
  | [] => by simp [Ts.fz]
  | t :: ts => by simp [Ts.fz, Ts.fz_map ts]
theorem Ds.fz_map : ∀ ts : List D, Ds.fz ts = ts.map D.fz
  | [] => by simp [Ds.fz]
  | t :: ts => by simp [Ds.fz, Ds.fz_map ts]
theorem Ts.fz_v (ts : List T) : (Ts.fz ts).map T.v = ts.map T.v := by
  rw [Ts.fz_map, List.map_map]; exact List.map_congr_left fun t _ => T.fz_v t
mutual
theorem T.fz_d : ∀ t : T, t.fz.d = t.d.fz
  | .sc _ => by simp [T.fz, T.d, D.fz]
  | .lst _ _ xs => by simp [T.fz, T.d, D.fz, Ts.fz_d xs]
  | .tup _ _ xs => by simp [T.fz, T.d, D.fz, Ts.fz_d xs]
  | .obj _ _ _ _ _ xs => by simp [T.fz, T.d, D.fz, Ts.fz_d xs]
  | .exn _ _ _ _ _ => by simp [T.fz, T.d, D.fz]
theorem Ts.fz_d : ∀ ts : List T, Ts.d (Ts.fz ts) = Ds.fz (Ts.d ts)
  | [] => by simp [Ts.fz, Ts.d, Ds.fz]
  | t :: ts => by simp [Ts.fz, Ts.d, Ds.fz, T.fz_d t, Ts.fz_d ts]
end
mutual
theorem T.fz_oc (a : Addr) : ∀ t : T, t.fz.oc a = 0
  | .sc _ => by simp [T.fz, T.oc]
  | .lst b o xs => by cases o <;> simp [T.fz, T.oc, Ts.fz_oc a xs, b2]
  | .tup _ _ xs => by simp [T.fz, T.oc, Ts.fz_oc a xs]
  | .obj _ _ o _ _ xs => by cases o <;> simp [T.fz, T.oc, Ts.fz_oc a xs, b2]
  | .exn _ _ _ _ _ => by simp [T.fz, T.oc]
theorem Ts.fz_oc (a : Addr) : ∀ ts : List T, Ts.oc a (Ts.fz ts) = 0
  | [] => by simp [Ts.fz, Ts.oc]
  | t :: ts => by simp [Ts.fz, Ts.oc, T.fz_oc a t, Ts.fz_oc a ts]
end
mutual
theorem T.fz_sh (a : Addr) : ∀ t : T, t.fz.sh a = t.oc a + t.sh a
  | .sc _ => by simp [T.fz, T.oc, T.sh]
  | .lst b o xs => by cases o <;> simp [T.fz, T.oc, T.sh, Ts.fz_sh a xs, b2] <;> omega
  | .tup _ _ xs => by simp [T.fz, T.oc, T.sh, Ts.fz_sh a xs]; omega
  | .obj _ _ o _ _ xs => by cases o <;> simp [T.fz, T.oc, T.sh, Ts.fz_sh a xs, b2] <;> omega
  | .exn _ _ _ _ _ => by simp [T.fz, T.oc]
theorem Ts.fz_sh (a : Addr) : ∀ ts : List T, Ts.sh a (Ts.fz ts) = Ts.oc a ts + Ts.sh a ts
  | [] => by simp [Ts.fz, Ts.oc, Ts.sh]
  | t :: ts => by simp [Ts.fz, Ts.oc, Ts.sh, T.fz_sh a t, Ts.fz_sh a ts]; omega
end
theorem Ts.fz_len (ts : List T) : (Ts.fz ts).length = ts.length := by rw [Ts.fz_map, List.length_map]
mutual
theorem T.fz_ok {c : Cfg} {H : Hp} : ∀ t : T, t.ok c H → t.fz.ok c H
  | .sc _, h => by simpa [T.fz] using h
  | .lst b o xs, h => by
    have ih := Ts.fz_ok (c := c) (H := H) xs
    cases o <;> simp only [T.ok] at h <;> simp [T.fz, T.ok, Ts.fz_v, h.1, h.2.1, Ts.fz_len, ih h.2.2]
  | .tup _ st xs, h => by
    have ih := Ts.fz_ok (c := c) (H := H) xs
    cases st <;> simp only [T.ok] at h <;> simp [T.fz, T.ok, Ts.fz_v, h.1, h.2.1, Ts.fz_len, ih h.2.2]
  | .obj _ _ o _ _ xs, h => by
    have ih := Ts.fz_ok (c := c) (H := H) xs
    cases o <;> simp only [T.ok] at h <;> simp [T.fz, T.ok, Ts.fz_v, h.1, h.2.1, h.2.2.1, h.2.2.2.1, ih h.2.2.2.2, Ts.fz_len]
  | .exn _ _ _ _ _, h => by simpa [T.fz] using h
theorem Ts.fz_ok {c : Cfg} {H : Hp} : ∀ ts : List T, Ts.ok c H ts → Ts.ok c H (Ts.fz ts)
  | [], h => by simp [Ts.fz, Ts.ok]
  | t :: ts, h => by
    simp only [Ts.ok] at h
    simp [Ts.fz, Ts.ok, T.fz_ok t h.1, Ts.fz_ok ts h.2]
end

/-! ### what stands stays -/
theorem b2_true {p : Prop} [Decidable p] (h : p) : b2 p = 1 := by simp [b2, h]
theorem b2_false {p : Prop} [Decidable p] (h : ¬ p) : b2 p = 0 := by simp [b2, h]
mutual
/-- what is held stands in the heap -/
theorem T.pos {c : Cfg} {H : Hp} {a : Addr} : ∀ t : T, t.ok c H → 0 < t.oc a + t.sh a → H a ≠ none
  | .sc _, _, h => by simp [T.oc, T.sh] at h
  | .lst b o xs, k, h => by
    simp only [T.oc, T.sh] at h
    by_cases e : 0 < Ts.oc a xs + Ts.sh a xs
    · cases o <;> simp only [T.ok] at k <;> exact Ts.pos xs k.2.2 e
    · have hb : b = a := by
        by_cases q : b = a
        · exact q
        · simp [b2, q] at h; omega
      subst hb
      cases o <;> simp only [T.ok] at k
      · simp [k.1]
      · simp [k.1]
      · obtain ⟨⟨_, q⟩, _⟩ := k; simp [q]
      · simp [b2] at h; omega
  | .tup b st xs, k, h => by
    simp only [T.oc, T.sh] at h
    by_cases e : 0 < Ts.oc a xs + Ts.sh a xs
    · cases st <;> simp only [T.ok] at k <;> exact Ts.pos xs k.2.2 e
    · cases st
      · have hb : b = a := by
          by_cases q : b = a
          · exact q
          · simp [b2, q] at h; omega
        subst hb
        simp only [T.ok] at k
        simp [k.1]
      · simp [b2] at h; omega
  | .obj b dx o C ns xs, k, h => by
    simp only [T.oc, T.sh] at h
    by_cases e : 0 < Ts.oc a xs + Ts.sh a xs
    · cases o <;> simp only [T.ok] at k <;> exact Ts.pos xs k.2.2.2.2 e
    · have hb : b = a ∨ dx = a := by
        by_cases q : b = a
        · exact .inl q
        · by_cases q2 : dx = a
          · exact .inr q2
          · simp [b2, q, q2] at h; omega
      cases o <;> simp only [T.ok] at k
      · rcases hb with rfl | rfl
        · simp [k.1]
        · simp [k.2.1]
      · rcases hb with rfl | rfl
        · simp [k.1]
        · simp [k.2.1]
  | .exn _ dx _ _ _, k, h => by
    simp only [T.oc, T.sh] at h
    by_cases q : dx = some a
    · subst q
      simp only [T.ok] at k
      simp [k]
    · simp [b2, q] at h
theorem Ts.pos {c : Cfg} {H : Hp} {a : Addr} : ∀ ts : List T, Ts.ok c H ts → 0 < Ts.oc a ts + Ts.sh a ts → H a ≠ none
  | [], _, h => by simp [Ts.oc, Ts.sh] at h
  | t :: ts, k, h => by
    simp only [Ts.ok] at k
    simp only [Ts.oc, Ts.sh] at h
    by_cases e : 0 < t.oc a + t.sh a
    · exact T.pos t k.1 e
    · exact Ts.pos ts k.2 (by omega)
end
mutual
theorem T.stay {c : Cfg} {H H' : Hp} : ∀ t : T, t.ok c H → (∀ a, 0 < t.oc a + t.sh a → H' a = H a) → t.ok c H'
  | .sc _, k, _ => by simpa [T.ok] using k
  | .lst b o xs, k, h => by
    have h2 : ∀ a, 0 < Ts.oc a xs + Ts.sh a xs → H' a = H a := fun a q => h a (by simp only [T.oc, T.sh]; omega)
    cases o <;> simp only [T.ok] at k ⊢
    · exact ⟨(h b (by simp [T.oc, T.sh, b2]; omega)).trans k.1, k.2.1, Ts.stay xs k.2.2 h2⟩
    · exact ⟨(h b (by simp [T.oc, T.sh, b2]; omega)).trans k.1, k.2.1, Ts.stay xs k.2.2 h2⟩
    · obtain ⟨⟨o, q⟩, k2⟩ := k
      exact ⟨⟨o, (h b (by simp [T.oc, T.sh, b2]; omega)).trans q⟩, k2.1, Ts.stay xs k2.2 h2⟩
    · exact ⟨k.1, k.2.1, Ts.stay xs k.2.2 h2⟩
  | .tup b st xs, k, h => by
    have h2 : ∀ a, 0 < Ts.oc a xs + Ts.sh a xs → H' a = H a := fun a q => h a (by simp only [T.oc, T.sh]; omega)
    cases st <;> simp only [T.ok] at k ⊢
    · exact ⟨(h b (by simp [T.oc, T.sh, b2]; omega)).trans k.1, k.2.1, Ts.stay xs k.2.2 h2⟩
    · exact ⟨k.1, k.2.1, Ts.stay xs k.2.2 h2⟩
  | .obj b dx o C ns xs, k, h => by
    have h2 : ∀ a, 0 < Ts.oc a xs + Ts.sh a xs → H' a = H a := fun a q => h a (by simp only [T.oc, T.sh]; omega)
    cases o <;> simp only [T.ok] at k ⊢
    · exact ⟨(h b (by simp [T.oc, T.sh, b2]; omega)).trans k.1, (h dx (by simp [T.oc, T.sh, b2]; omega)).trans k.2.1, k.2.2.1, k.2.2.2.1, Ts.stay xs k.2.2.2.2 h2⟩
    · exact ⟨(h b (by simp [T.oc, T.sh, b2]; omega)).trans k.1, (h dx (by simp [T.oc, T.sh, b2]; omega)).trans k.2.1, k.2.2.1, k.2.2.2.1, Ts.stay xs k.2.2.2.2 h2⟩
  | .exn _ dx _ ns xs, k, h => by
    cases dx with
    | none => simpa [T.ok] using k
    | some d =>
      simp only [T.ok] at k ⊢
      exact ⟨k.1, (h d (by simp [T.oc, T.sh, b2])).trans k.2.1, k.2.2⟩
theorem Ts.stay {c : Cfg} {H H' : Hp} : ∀ ts : List T, Ts.ok c H ts → (∀ a, 0 < Ts.oc a ts + Ts.sh a ts → H' a = H a) → Ts.ok c H' ts
  | [], _, _ => by simp [Ts.ok]
  | t :: ts, k, h => by
    simp only [Ts.ok] at k ⊢
    exact ⟨T.stay t k.1 fun a q => h a (by simp only [Ts.oc, Ts.sh]; omega), Ts.stay ts k.2 fun a q => h a (by simp only [Ts.oc, Ts.sh]; omega)⟩
end
/-! ### what is held is no table of code objects, nor one of these -/
def plainO : HO → Bool
  | .lst _ => true
  | .tup _ => true
  | .frz _ _ => true
  | .ins _ _ _ => true
  | .own _ => true
  | .dK _ => true
  | .xd _ => true
  | _ => false
mutual
theorem T.plain {c : Cfg} {H : Hp} {a : Addr} : ∀ t : T, t.ok c H → 0 < t.oc a + t.sh a → ∃ o, H a = some o ∧ plainO o = true
  | .sc _, _, h => by simp [T.oc, T.sh] at h
  | .lst b o xs, k, h => by
    simp only [T.oc, T.sh] at h
    by_cases e : 0 < Ts.oc a xs + Ts.sh a xs
    · cases o <;> simp only [T.ok] at k <;> exact Ts.plain xs k.2.2 e
    · have hb : b = a := by
        by_cases q : b = a
        · exact q
        · simp [b2, q] at h; omega
      subst hb
      cases o <;> simp only [T.ok] at k
      · exact ⟨_, k.1, rfl⟩
      · exact ⟨_, k.1, rfl⟩
      · obtain ⟨⟨_, q⟩, _⟩ := k; exact ⟨_, q, rfl⟩
      · simp [b2] at h; omega
  | .tup b st xs, k, h => by
    simp only [T.oc, T.sh] at h
    by_cases e : 0 < Ts.oc a xs + Ts.sh a xs
    · cases st <;> simp only [T.ok] at k <;> exact Ts.plain xs k.2.2 e
    · cases st
      · have hb : b = a := by
          by_cases q : b = a
          · exact q
          · simp [b2, q] at h; omega
        subst hb
        simp only [T.ok] at k
        exact ⟨_, k.1, rfl⟩
      · simp [b2] at h; omega
  | .obj b dx o C ns xs, k, h => by
    simp only [T.oc, T.sh] at h
    by_cases e : 0 < Ts.oc a xs + Ts.sh a xs
    · cases o <;> simp only [T.ok] at k <;> exact Ts.plain xs k.2.2.2.2 e
    · have hb : b = a ∨ dx = a := by
        by_cases q : b = a
        · exact .inl q
        · by_cases q2 : dx = a
          · exact .inr q2
          · simp [b2, q, q2] at h; omega
      cases o <;> simp only [T.ok] at k
      · rcases hb with rfl | rfl
        · exact ⟨_, k.1, rfl⟩
        · exact ⟨_, k.2.1, rfl⟩
      · rcases hb with rfl | rfl
        · exact ⟨_, k.1, rfl⟩
        · exact ⟨_, k.2.1, rfl⟩
  | .exn _ dx C ns xs, k, h => by
    simp only [T.oc, T.sh] at h
    by_cases q : dx = some a
    · subst q
      simp only [T.ok] at k
      refine ⟨_, k.2.1, ?_⟩
      unfold exnO
      split <;> rfl
    · simp [b2, q] at h
theorem Ts.plain {c : Cfg} {H : Hp} {a : Addr} : ∀ ts : List T, Ts.ok c H ts → 0 < Ts.oc a ts + Ts.sh a ts → ∃ o, H a = some o ∧ plainO o = true
  | [], _, h => by simp [Ts.oc, Ts.sh] at h
  | t :: ts, k, h => by
    simp only [Ts.ok] at k
    simp only [Ts.oc, Ts.sh] at h
    by_cases e : 0 < t.oc a + t.sh a
    · exact T.plain t k.1 e
    · exact Ts.plain ts k.2 (by omega)
end
/-- no table -/
abbrev NT (o : HO) : Prop := ∀ ps, o ≠ .tbl ps
theorem plain_nt {o : HO} (h : plainO o = true) : NT o := fun ps e => by subst e; cases h
/-- what stands at a stays: it is no table, or one that is told of -/
def Sol (c : Cfg) (H : Hp) (a : Addr) : Prop := ∃ o, H a = some o ∧ (NT o ∨ a ∈ c.tb.map Prod.fst)
theorem Sol.ne {c : Cfg} {H : Hp} {a : Addr} (h : Sol c H a) : H a ≠ none := by
  obtain ⟨o, e, _⟩ := h
  rw [e]; simp
theorem Sol.no {c : Cfg} {H : Hp} {a : Addr} (h : H a = none) : ¬ Sol c H a := fun k => k.ne h
/-- tables stay where all that is not plain stays -/
theorem tabs_keep {T : List (Addr × Str)} {H H' : Hp} (t : LamX.Tabs T H) (e : ∀ b o, H b = some o → plainO o = false → H' b = some o) : LamX.Tabs T H' := fun p hp => by
  obtain ⟨ps, h1, h2, h3⟩ := t p hp
  refine ⟨ps, e _ _ h1 rfl, h2, fun pos cv hc => ?_⟩
  obtain ⟨c, e1, e2⟩ := h3 pos cv hc
  exact ⟨c, e1, e _ _ e2 rfl⟩
end VS

/-! VS, part b: the state (slots and what is held beside), and how it goes on. -/
namespace VS
open PySem PySem.Spec PyProof.Rows L2

abbrev DE := List (Option D)
structure Ex where
  cls : String
  ns : List String
  xs : List Sc
  deriving Repr, DecidableEq
inductive R (α : Type) where
  | ok (a : α) (ρ : DE)
  | exc (x : Ex) (ρ : DE)
  | stuck
  deriving Repr
abbrev Cm (α : Type) := DE → R α
@[inline] def R.bind {α β : Type} (r : R α) (f : α → Cm β) : R β := match r with
  | .ok a ρ => f a ρ
  | .exc x ρ => .exc x ρ
  | .stuck => .stuck
@[simp] theorem R.bind_ok {α β : Type} (a : α) (ρ : DE) (f : α → Cm β) : (R.ok a ρ).bind f = f a ρ := rfl
@[simp] theorem R.bind_exc {α β : Type} (x : Ex) (ρ : DE) (f : α → Cm β) : (R.exc x ρ : R α).bind f = .exc x ρ := rfl
@[simp] theorem R.bind_stuck {α β : Type} (f : α → Cm β) : (R.stuck : R α).bind f = .stuck := rfl

/-- what a def's body is told at its entry -/
structure Gh where
  c : Cfg
  H0 : Hp
  A0 : List T
  N : Nat
  io : List (Nat × V)
  /-- what stands still, owned by none -/
  px : List (Addr × HO) := []

def So (f : T → Nat) : List (Option T) → Nat
  | [] => 0
  | none :: r => So f r
  | some t :: r => f t + So f r
def fO (f : T → Nat) : Option T → Nat
  | none => 0
  | some t => f t
theorem So_set {f : T → Nat} {x : Option T} : ∀ {sl : List (Option T)} {i : Nat} {y : Option T}, sl[i]? = some y → So f (sl.set i x) + fO f y = So f sl + fO f x
  | [], _, _, h => by simp at h
  | y :: r, 0, z, h => by
    simp only [List.getElem?_cons_zero, Option.some.injEq] at h
    subst h
    cases x <;> cases y <;> simp [So, fO] <;> omega
  | y :: r, i + 1, z, h => by
    have := So_set (f := f) (x := x) (sl := r) (i := i) (y := z) (by simpa using h)
    cases y <;> simp [So] <;> omega
theorem So_get {f : T → Nat} {t : T} : ∀ {sl : List (Option T)}, some t ∈ sl → f t ≤ So f sl
  | [], h => by cases h
  | y :: r, h => by
    rcases List.mem_cons.mp h with e | h
    · subst e; simp [So]
    · have := So_get (f := f) h
      cases y <;> simp [So] <;> omega
def den (sl : List (Option T)) : DE := sl.map (Option.map T.d)
theorem den_set (sl : List (Option T)) (i : Nat) (x : Option T) : den (sl.set i x) = (den sl).set i (x.map T.d) := by
  unfold den; rw [List.map_set]
theorem den_get {sl : List (Option T)} {i : Nat} {d : D} (h : (den sl)[i]? = some (some d)) : ∃ t, sl[i]? = some (some t) ∧ t.d = d := by
  unfold den at h
  rw [List.getElem?_map] at h
  cases e : sl[i]? with
  | none => rw [e] at h; simp at h
  | some o =>
    cases o with
    | none => rw [e] at h; simp at h
    | some t => rw [e] at h; simp at h; exact ⟨t, rfl, h⟩
theorem den_len (sl : List (Option T)) : (den sl).length = sl.length := by unfold den; simp

structure SR (g : Gh) (H : Hp) (σ : L2.St) (sl : List (Option T)) (tm : List T) : Prop where
  okS : ∀ t, some t ∈ sl → t.ok g.c H
  okT : Ts.ok g.c H tm
  inv : ∀ a, So (T.oc a) sl + Ts.oc a tm = 0 ∨ (So (T.oc a) sl + Ts.oc a tm = 1 ∧ So (T.sh a) sl + Ts.sh a tm = 0)
  prov : ∀ a, Sol g.c g.H0 a → Ts.oc a g.A0 = 0 → So (T.oc a) sl + Ts.oc a tm = 0 ∧ (Ts.sh a g.A0 = 0 → So (T.sh a) sl + Ts.sh a tm = 0)
  frame : ∀ a o, g.H0 a = some o → NT o → Ts.oc a g.A0 = 0 → H a = some o
  len : σ.length = g.N
  slen : sl.length = g.N
  at_ : ∀ (i : Nat) (t : T), sl[i]? = some (some t) → σ[i]? = some (some t.v)
  io : ∀ p ∈ g.io, σ[p.1]? = some (some p.2)
  px : ∀ p ∈ g.px, H p.1 = some p.2 ∧ So (T.oc p.1) sl + Ts.oc p.1 tm = 0 ∧ plainO p.2 = true
  tabs : LamX.Tabs g.c.tb H

theorem So_pos {c : Cfg} {H : Hp} {a : Addr} : ∀ {sl : List (Option T)}, (∀ t, some t ∈ sl → t.ok c H) → 0 < So (T.oc a) sl + So (T.sh a) sl → H a ≠ none
  | [], _, h => by simp [So] at h
  | none :: r, k, h => So_pos (fun t m => k t (List.mem_cons_of_mem _ m)) (by simpa [So] using h)
  | some t :: r, k, h => by
    simp only [So] at h
    by_cases e : 0 < t.oc a + t.sh a
    · exact T.pos t (k t (by simp)) e
    · exact So_pos (fun t m => k t (List.mem_cons_of_mem _ m)) (by omega)
section
variable {g : Gh} {H H' : Hp} {σ σ' : L2.St} {sl sl' : List (Option T)} {tm tm' : List T}
theorem So_plain {c : Cfg} {H : Hp} {a : Addr} : ∀ {sl : List (Option T)}, (∀ t, some t ∈ sl → t.ok c H) → 0 < So (T.oc a) sl + So (T.sh a) sl → ∃ o, H a = some o ∧ plainO o = true
  | [], _, h => by simp [So] at h
  | none :: r, k, h => So_plain (fun t m => k t (List.mem_cons_of_mem _ m)) (by simpa [So] using h)
  | some t :: r, k, h => by
    simp only [So] at h
    by_cases e : 0 < t.oc a + t.sh a
    · exact T.plain t (k t (by simp)) e
    · exact So_plain (fun t m => k t (List.mem_cons_of_mem _ m)) (by omega)
theorem SR.plain (s : SR g H σ sl tm) {a : Addr} (h : 0 < So (T.oc a) sl + Ts.oc a tm + So (T.sh a) sl + Ts.sh a tm) : ∃ o, H a = some o ∧ plainO o = true := by
  by_cases e : 0 < So (T.oc a) sl + So (T.sh a) sl
  · exact So_plain s.okS e
  · exact Ts.plain tm s.okT (by omega)
theorem SR.pos (s : SR g H σ sl tm) {a : Addr} (h : 0 < So (T.oc a) sl + Ts.oc a tm + So (T.sh a) sl + Ts.sh a tm) : H a ≠ none := by
  by_cases e : 0 < So (T.oc a) sl + So (T.sh a) sl
  · exact So_pos s.okS e
  · exact Ts.pos tm s.okT (by omega)
theorem SR.sol (s : SR g H σ sl tm) {a : Addr} (h : Sol g.c g.H0 a) (h1 : Ts.oc a g.A0 = 0) : Sol g.c H a := by
  obtain ⟨o, e, n | m⟩ := h
  · exact ⟨o, s.frame a o e n h1, .inl n⟩
  · obtain ⟨p, hp, rfl⟩ := List.mem_map.mp m
    obtain ⟨ps, hP, _⟩ := s.tabs p hp
    exact ⟨_, hP, .inr m⟩
/-- the state goes on, tables perhaps grown -/
theorem SR.goT (s : SR g H σ sl tm) (okS : ∀ t, some t ∈ sl' → t.ok g.c H') (okT : Ts.ok g.c H' tm')
    (hC : ∀ a, (So (T.oc a) sl' + Ts.oc a tm' ≤ So (T.oc a) sl + Ts.oc a tm ∧ (0 < So (T.sh a) sl' + Ts.sh a tm' → 0 < So (T.sh a) sl + Ts.sh a tm ∨ (0 < So (T.oc a) sl + Ts.oc a tm ∧ So (T.oc a) sl' + Ts.oc a tm' = 0))) ∨
      ((¬ Sol g.c H a ∨ 0 < So (T.oc a) sl + Ts.oc a tm) ∧ (So (T.oc a) sl' + Ts.oc a tm' = 0 ∨ (So (T.oc a) sl' + Ts.oc a tm' = 1 ∧ So (T.sh a) sl' + Ts.sh a tm' = 0))))
    (hH : ∀ a o, H a = some o → NT o → So (T.oc a) sl + Ts.oc a tm = 0 → H' a = some o) (hT : LamX.Tabs g.c.tb H')
    (len : σ'.length = g.N) (slen : sl'.length = g.N) (at_ : ∀ (i : Nat) (t : T), sl'[i]? = some (some t) → σ'[i]? = some (some t.v)) (io : ∀ p ∈ g.io, σ'[p.1]? = some (some p.2)) : SR g H' σ' sl' tm' := by
  refine ⟨okS, okT, fun a => ?_, fun a h0 h1 => ?_, fun a o h0 hn h1 => ?_, len, slen, at_, io, fun p hp => ?_, hT⟩
  · have i := s.inv a
    rcases hC a with ⟨h1, h2⟩ | ⟨_, h⟩
    · by_cases e : So (T.oc a) sl' + Ts.oc a tm' = 0
      · exact .inl e
      · refine .inr ⟨by omega, ?_⟩
        by_cases e2 : 0 < So (T.sh a) sl' + Ts.sh a tm'
        · rcases h2 e2 with h | h <;> omega
        · omega
    · exact h
  · have p := s.prov a h0 h1
    have f := s.sol h0 h1
    rcases hC a with ⟨h2, h3⟩ | ⟨h, _⟩
    · refine ⟨by omega, fun q => ?_⟩
      have := p.2 q
      by_cases e2 : 0 < So (T.sh a) sl' + Ts.sh a tm'
      · rcases h3 e2 with h | h <;> omega
      · omega
    · rcases h with h | h
      · exact absurd f h
      · omega
  · have p := s.prov a ⟨o, h0, .inl hn⟩ h1
    exact hH a o (s.frame a o h0 hn h1) hn (by omega)
  · obtain ⟨h1, h2, h3⟩ := s.px p hp
    refine ⟨hH _ _ h1 (plain_nt h3) h2, ?_, h3⟩
    rcases hC p.1 with ⟨a1, _⟩ | ⟨a1, _⟩
    · omega
    · rcases a1 with h | h
      · exact absurd ⟨_, h1, .inl (plain_nt h3)⟩ h
      · omega
/-- the state goes on -/
theorem SR.go (s : SR g H σ sl tm) (okS : ∀ t, some t ∈ sl' → t.ok g.c H') (okT : Ts.ok g.c H' tm')
    (hC : ∀ a, (So (T.oc a) sl' + Ts.oc a tm' ≤ So (T.oc a) sl + Ts.oc a tm ∧ (0 < So (T.sh a) sl' + Ts.sh a tm' → 0 < So (T.sh a) sl + Ts.sh a tm ∨ (0 < So (T.oc a) sl + Ts.oc a tm ∧ So (T.oc a) sl' + Ts.oc a tm' = 0))) ∨
      ((H a = none ∨ 0 < So (T.oc a) sl + Ts.oc a tm) ∧ (So (T.oc a) sl' + Ts.oc a tm' = 0 ∨ (So (T.oc a) sl' + Ts.oc a tm' = 1 ∧ So (T.sh a) sl' + Ts.sh a tm' = 0))))
    (hH : ∀ a, H' a = H a ∨ H a = none ∨ 0 < So (T.oc a) sl + Ts.oc a tm)
    (len : σ'.length = g.N) (slen : sl'.length = g.N) (at_ : ∀ (i : Nat) (t : T), sl'[i]? = some (some t) → σ'[i]? = some (some t.v)) (io : ∀ p ∈ g.io, σ'[p.1]? = some (some p.2)) : SR g H' σ' sl' tm' := by
  refine s.goT okS okT (fun a => ?_) (fun a o ha hn ho => ?_) (tabs_keep s.tabs fun a o ha hp => ?_) len slen at_ io
  · rcases hC a with h | ⟨h | h, h2⟩
    · exact .inl h
    · exact .inr ⟨.inl (Sol.no h), h2⟩
    · exact .inr ⟨.inr h, h2⟩
  · rcases hH a with h | h | h
    · exact h.trans ha
    · rw [ha] at h; cases h
    · omega
  · rcases hH a with h | h | h
    · exact h.trans ha
    · rw [ha] at h; cases h
    · obtain ⟨u, e, pu⟩ := s.plain (a := a) (by omega)
      rw [ha] at e; cases e
      rw [hp] at pu; cases pu
/-- .. the heap and the frame's values as they are -/
theorem SR.turn (s : SR g H σ sl tm) (okS : ∀ t, some t ∈ sl' → t.ok g.c H) (okT : Ts.ok g.c H tm')
    (hC : ∀ a, So (T.oc a) sl' + Ts.oc a tm' ≤ So (T.oc a) sl + Ts.oc a tm ∧ (0 < So (T.sh a) sl' + Ts.sh a tm' → 0 < So (T.sh a) sl + Ts.sh a tm ∨ (0 < So (T.oc a) sl + Ts.oc a tm ∧ So (T.oc a) sl' + Ts.oc a tm' = 0)))
    (slen : sl'.length = g.N) (at_ : ∀ (i : Nat) (t : T), sl'[i]? = some (some t) → σ[i]? = some (some t.v)) : SR g H σ sl' tm' :=
  s.go okS okT (fun a => .inl (hC a)) (fun _ => .inl rfl) s.len slen at_ s.io
/-- what is held beside is exchanged for what comes of it -/
theorem SR.tmp (s : SR g H σ sl tm) (okT : Ts.ok g.c H tm') (hC : ∀ a, Ts.oc a tm' ≤ Ts.oc a tm ∧ (0 < Ts.sh a tm' → 0 < Ts.sh a tm ∨ (0 < Ts.oc a tm ∧ Ts.oc a tm' = 0) ∨ 0 < So (T.sh a) sl)) : SR g H σ sl tm' :=
  s.turn s.okS okT (fun a => by
    have h := hC a
    have i := s.inv a
    refine ⟨by omega, fun q => ?_⟩
    by_cases e : 0 < So (T.sh a) sl
    · exact .inl (by omega)
    · rcases h.2 (by omega) with r | r | r <;> omega) s.slen s.at_
theorem SR.pop {t : T} (s : SR g H σ sl (t :: tm)) : SR g H σ sl tm :=
  s.tmp (by have := s.okT; simp only [Ts.ok] at this; exact this.2) fun a => by simp only [Ts.oc, Ts.sh]; omega
theorem SR.top {t : T} (s : SR g H σ sl (t :: tm)) : t.ok g.c H := by have := s.okT; simp only [Ts.ok] at this; exact this.1
theorem SR.push (s : SR g H σ sl tm) (x : Sc) (hx : x.good) : SR g H σ sl (.sc x :: tm) :=
  s.tmp (by simp only [Ts.ok, T.ok]; exact ⟨hx, s.okT⟩) fun a => by simp only [Ts.oc, Ts.sh, T.oc, T.sh]; omega
/-- the one on top is exchanged for a part of it -/
theorem SR.part {t u : T} (s : SR g H σ sl (t :: tm)) (ok : u.ok g.c H) (h : ∀ a, u.oc a ≤ t.oc a ∧ u.sh a ≤ t.sh a) : SR g H σ sl (u :: tm) :=
  s.tmp (by have := s.okT; simp only [Ts.ok] at this ⊢; exact ⟨ok, this.2⟩) fun a => by have := h a; simp only [Ts.oc, Ts.sh]; omega
theorem SR.slot {i : Nat} {t : T} (s : SR g H σ sl tm) (h : sl[i]? = some (some t)) : some t ∈ sl := List.mem_of_getElem? h
theorem SR.val {i : Nat} {d : D} (s : SR g H σ sl tm) (h : (den sl)[i]? = some (some d)) : ∃ t, sl[i]? = some (some t) ∧ t.d = d ∧ t.ok g.c H ∧ σ[i]? = some (some t.v) := by
  obtain ⟨t, e, hd⟩ := den_get h
  exact ⟨t, e, hd, s.okS t (List.mem_of_getElem? e), s.at_ i t e⟩
theorem mem_set {α : Type} {x y : α} : ∀ {l : List α} {i : Nat}, x ∈ l.set i y → x = y ∨ x ∈ l := fun {l i} h => by
  rcases List.mem_or_eq_of_mem_set h with h | h
  · exact .inr h
  · exact .inl h
theorem set_get {α : Type} {l : List α} {i j : Nat} {x y : α} (h : (l.set i x)[j]? = some y) : (j = i ∧ y = x) ∨ (j ≠ i ∧ l[j]? = some y) := by
  by_cases e : j = i
  · subst e
    have hl : j < l.length := by
      by_cases q : j < l.length
      · exact q
      · rw [List.getElem?_eq_none (by simp; omega)] at h; cases h
    rw [List.getElem?_set_self hl] at h
    exact .inl ⟨rfl, (Option.some.inj h).symm⟩
  · rw [List.getElem?_set_ne (Ne.symm e)] at h
    exact .inr ⟨e, h⟩
/-- a slot is read: what stands there is held by two from now on -/
theorem SR.read {i : Nat} {t : T} (s : SR g H σ sl tm) (h : sl[i]? = some (some t)) : SR g H σ (sl.set i (some t.fz)) (t.fz :: tm) := by
  have hm := s.slot h
  refine s.turn (fun u hu => ?_) ?_ (fun a => ?_) (by simp [s.slen]) fun j u hu => ?_
  · rcases mem_set hu with e | e
    · cases e; exact T.fz_ok t (s.okS t hm)
    · exact s.okS u e
  · simp only [Ts.ok]; exact ⟨T.fz_ok t (s.okS t hm), s.okT⟩
  · have h1 := So_set (f := T.oc a) (x := some t.fz) h
    have h2 := So_set (f := T.sh a) (x := some t.fz) h
    have z := So_get (f := T.oc a) hm
    have z2 := So_get (f := T.sh a) hm
    have iv := s.inv a
    simp only [fO, T.fz_oc, T.fz_sh, Ts.oc, Ts.sh] at h1 h2 ⊢
    refine ⟨by omega, fun q => ?_⟩
    omega
  · rcases set_get hu with ⟨rfl, e⟩ | ⟨_, e⟩
    · cases e; rw [T.fz_v]; exact s.at_ _ _ h
    · exact s.at_ _ _ e
/-- a slot is emptied into what is held -/
theorem SR.move {i : Nat} {t : T} (s : SR g H σ sl tm) (h : sl[i]? = some (some t)) : SR g H σ (sl.set i none) (t :: tm) := by
  have hm := s.slot h
  refine s.turn (fun u hu => ?_) ?_ (fun a => ?_) (by simp [s.slen]) fun j u hu => ?_
  · rcases mem_set hu with e | e
    · cases e
    · exact s.okS u e
  · simp only [Ts.ok]; exact ⟨s.okS t hm, s.okT⟩
  · have h1 := So_set (f := T.oc a) (x := none) h
    have h2 := So_set (f := T.sh a) (x := none) h
    simp only [fO, Ts.oc, Ts.sh] at h1 h2 ⊢
    omega
  · rcases set_get hu with ⟨rfl, e⟩ | ⟨_, e⟩
    · cases e
    · exact s.at_ _ _ e
/-- the one on top is stored -/
theorem SR.store {i : Nat} {t : T} (s : SR g H σ sl (t :: tm)) (hi : i < g.N) (hio : ∀ p ∈ g.io, p.1 ≠ i) : SR g H (σ.set i (some t.v)) (sl.set i (some t)) tm := by
  have hk := s.okT
  simp only [Ts.ok] at hk
  have hl : i < sl.length := by rw [s.slen]; exact hi
  obtain ⟨y, hy⟩ : ∃ y, sl[i]? = some y := ⟨sl[i], List.getElem?_eq_getElem hl⟩
  refine s.go (fun u hu => ?_) hk.2 (fun a => .inl ?_) (fun _ => .inl rfl) (by simp [s.len]) (by simp [s.slen]) (fun j u hu => ?_) (fun p hp => ?_)
  · rcases mem_set hu with e | e
    · cases e; exact hk.1
    · exact s.okS u e
  · have h1 := So_set (f := T.oc a) (x := some t) hy
    have h2 := So_set (f := T.sh a) (x := some t) hy
    simp only [fO, Ts.oc, Ts.sh] at h1 h2 ⊢
    omega
  · rcases set_get hu with ⟨rfl, e⟩ | ⟨ne, e⟩
    · cases e
      rw [List.getElem?_set_self (by rw [s.len]; exact hi)]
    · rw [List.getElem?_set_ne (Ne.symm ne)]
      exact s.at_ _ _ e
  · rw [List.getElem?_set_ne (Ne.symm (hio p hp))]
    exact s.io p hp

/-- all trees stand where only p is otherwise, p free -/
theorem SR.free {p : Addr} (s : SR g H σ sl tm) (hp : H p = none) : So (T.oc p) sl + Ts.oc p tm = 0 ∧ So (T.sh p) sl + Ts.sh p tm = 0 := by
  by_cases e : 0 < So (T.oc p) sl + Ts.oc p tm + So (T.sh p) sl + Ts.sh p tm
  · exact absurd hp (s.pos e)
  · omega
theorem SR.stayS {H' : Hp} (s : SR g H σ sl tm) (h : ∀ a, 0 < So (T.oc a) sl + So (T.sh a) sl → H' a = H a) : ∀ t, some t ∈ sl → t.ok g.c H' := fun t m =>
  T.stay t (s.okS t m) fun a q => h a (by have h1 := So_get (f := T.oc a) m; have h2 := So_get (f := T.sh a) m; omega)
theorem SR.stayT {H' : Hp} (s : SR g H σ sl tm) (h : ∀ a, 0 < Ts.oc a tm + Ts.sh a tm → H' a = H a) : Ts.ok g.c H' tm := Ts.stay tm s.okT h

/-- a new list of the things held on top -/
theorem SR.newL {p : Addr} {xs ts : List T} (s : SR g H σ sl (xs ++ tm)) (hp : H p = none) (hz : ts.length ≤ 16777216) (okx : Ts.ok g.c H ts)
    (hx : ∀ a, Ts.oc a ts ≤ Ts.oc a xs ∧ (0 < Ts.sh a ts → 0 < Ts.sh a xs)) : SR g (upd H p (.lst (ts.map T.v))) σ sl (.lst p .own ts :: tm) := by
  have fr := s.free hp
  rw [Ts.oc_append, Ts.sh_append] at fr
  have eo := hx p
  have k : Ts.ok g.c H xs ∧ Ts.ok g.c H tm := by
    have := s.okT
    rw [Ts.ok_iff] at this
    exact ⟨Ts.ok_iff.mpr fun t m => this t (List.mem_append_left _ m), Ts.ok_iff.mpr fun t m => this t (List.mem_append_right _ m)⟩
  refine s.go (s.stayS fun a q => upd_ne fun e => ?_) ?_ (fun a => ?_) (fun a => ?_) s.len s.slen s.at_ s.io
  · subst e; omega
  · simp only [Ts.ok, T.ok]
    refine ⟨⟨upd_same, hz, Ts.stay ts okx fun a q => upd_ne fun e => ?_⟩, Ts.stay tm k.2 fun a q => upd_ne fun e => ?_⟩
    · subst e
      have := Ts.pos ts okx q
      exact this hp
    · subst e; omega
  · have hx := hx a
    rw [Ts.oc_append, Ts.sh_append]
    simp only [Ts.oc, Ts.sh, T.oc, T.sh]
    by_cases e : p = a
    · subst e
      refine .inr ⟨.inl hp, .inr ?_⟩
      simp only [true_and, b2_true, b2]
      have z : Ts.sh p ts = 0 := by omega
      simp
      omega
    · simp only [b2, e]
      simp
      refine .inl ⟨by omega, fun q => .inl ?_⟩
      omega
  · by_cases e : a = p
    · exact .inr (.inl (by rw [e]; exact hp))
    · exact .inl (upd_ne e)
/-- a new tuple of the things held on top -/
theorem SR.newT {p : Addr} {xs ts : List T} (s : SR g H σ sl (xs ++ tm)) (hp : H p = none) (hz : ts.length ≤ 16777216) (okx : Ts.ok g.c H ts)
    (hx : ∀ a, Ts.oc a ts ≤ Ts.oc a xs ∧ (0 < Ts.sh a ts → 0 < Ts.sh a xs)) : SR g (upd H p (.tup (ts.map T.v))) σ sl (.tup p false ts :: tm) := by
  have fr := s.free hp
  rw [Ts.oc_append, Ts.sh_append] at fr
  have eo := hx p
  have k : Ts.ok g.c H xs ∧ Ts.ok g.c H tm := by
    have := s.okT
    rw [Ts.ok_iff] at this
    exact ⟨Ts.ok_iff.mpr fun t m => this t (List.mem_append_left _ m), Ts.ok_iff.mpr fun t m => this t (List.mem_append_right _ m)⟩
  refine s.go (s.stayS fun a q => upd_ne fun e => ?_) ?_ (fun a => ?_) (fun a => ?_) s.len s.slen s.at_ s.io
  · subst e; omega
  · simp only [Ts.ok, T.ok]
    refine ⟨⟨upd_same, hz, Ts.stay ts okx fun a q => upd_ne fun e => ?_⟩, Ts.stay tm k.2 fun a q => upd_ne fun e => ?_⟩
    · subst e
      have := Ts.pos ts okx q
      exact this hp
    · subst e; omega
  · have hx := hx a
    rw [Ts.oc_append, Ts.sh_append]
    simp only [Ts.oc, Ts.sh, T.oc, T.sh]
    by_cases e : p = a
    · subst e
      refine .inr ⟨.inl hp, .inl ?_⟩
      omega
    · simp only [b2, e]
      simp
      refine .inl ⟨by omega, fun q => .inl ?_⟩
      omega
  · by_cases e : a = p
    · exact .inr (.inl (by rw [e]; exact hp))
    · exact .inl (upd_ne e)
end
end VS

/-! VS, part c: expressions and tests. -/
namespace VS
open PySem PySem.Spec PyProof.Rows L2

/-! ### what is wanted of an expression, by the data -/
def exP (g : Gh) (W : WX) (tm : List T) (x : Ex) (ρ' : DE) : Prop :=
  ∀ (H' : Hp) (σ' : L2.St) (sl' : List (Option T)) (a : Addr) (dx : Option Addr), SR g H' σ' sl' (T.exn a dx x.cls x.ns x.xs :: tm) → den sl' = ρ' → W (.ref (g.c.cls x.cls)) dx σ' H'
def Lands {α : Type} (g : Gh) (W : WX) (tm : List T) (r : R α) (k : α → DE → Prop) : Prop := match r with
  | .ok a ρ => k a ρ
  | .exc x ρ => exP g W tm x ρ
  | .stuck => False
def tE (g : Gh) (W : WX) (m : Cm D) : TE := fun σ H Q => ∃ sl tm, SR g H σ sl tm ∧ Lands g W tm (m (den sl)) fun d ρ' => ∀ H' sl' t, SR g H' σ sl' (t :: tm) → den sl' = ρ' → t.d = d → Q t.v H'
def tT (g : Gh) (W : WX) (m : Cm Bool) : TT := fun σ H Q => ∃ sl tm, SR g H σ sl tm ∧ Lands g W tm (m (den sl)) fun b ρ' => ∀ H' sl', SR g H' σ sl' tm → den sl' = ρ' → Q b H'
theorem exP.drop {g : Gh} {W : WX} {tm : List T} {x : Ex} {ρ' : DE} {t : T} (h : exP g W tm x ρ') : exP g W (t :: tm) x ρ' := fun H' σ' sl' a dx s e =>
  h H' σ' sl' a dx (s.tmp (by have := s.okT; simp only [Ts.ok] at this ⊢; exact ⟨this.1, this.2.2⟩) fun b => by simp only [Ts.oc, Ts.sh]; omega) e
theorem _root_.L2.PE.imp {X : Cx} {e : Expr} {t t' : TE} (h : PE X e t) (w : ∀ σ H Q, t' σ H Q → t σ H Q) : PE X e t' := ⟨fun pins s σ H Q I q => h.run pins s σ H Q I (w σ H Q q)⟩
theorem _root_.L2.PT.imp {X : Cx} {e : Expr} {t t' : TT} (h : PT X e t) (w : ∀ σ H Q, t' σ H Q → t σ H Q) : PT X e t' := ⟨fun pins s σ H Q I q => h.run pins s σ H Q I (w σ H Q q)⟩
section
variable {g : Gh} {W : WX} {H : Hp} {σ : L2.St} {sl : List (Option T)} {tm : List T} {Q : VK} {α : Type}
theorem tE.of {m : Cm D} {f : D → Cm α} {k : α → DE → Prop} (s : SR g H σ sl tm) (h : Lands g W tm ((m (den sl)).bind f) k)
    (q : ∀ H' sl' t, SR g H' σ sl' (t :: tm) → Lands g W tm (f t.d (den sl')) k → Q t.v H') : tE g W m σ H Q := by
  refine ⟨sl, tm, s, ?_⟩
  cases e : m (den sl) with
  | ok d ρ =>
    rw [e] at h
    intro H' sl' t s' e1 e2
    subst e1; subst e2
    exact q H' sl' t s' h
  | exc x ρ => rw [e] at h; exact h
  | stuck => rw [e] at h; exact h
theorem tT.of {Q : Bool → Hp → Prop} {m : Cm Bool} {f : Bool → Cm α} {k : α → DE → Prop} (s : SR g H σ sl tm) (h : Lands g W tm ((m (den sl)).bind f) k)
    (q : ∀ H' sl' b, SR g H' σ sl' tm → Lands g W tm (f b (den sl')) k → Q b H') : tT g W m σ H Q := by
  refine ⟨sl, tm, s, ?_⟩
  cases e : m (den sl) with
  | ok d ρ =>
    rw [e] at h
    intro H' sl' s' e1
    subst e1
    exact q H' sl' d s' h
  | exc x ρ => rw [e] at h; exact h
  | stuck => rw [e] at h; exact h
theorem Lands.drop {r : R α} {k : α → DE → Prop} {t : T} (h : Lands g W tm r k) : Lands g W (t :: tm) r k := by
  cases r with
  | ok a ρ => exact h
  | exc x ρ => exact exP.drop h
  | stuck => exact h
theorem Lands.imp {r : R α} {k k' : α → DE → Prop} (h : Lands g W tm r k) (w : ∀ a ρ, k a ρ → k' a ρ) : Lands g W tm r k' := by
  cases r with
  | ok a ρ => exact w _ _ h
  | exc x ρ => exact h
  | stuck => exact h
end

/-! ### the mirror's words for expressions -/
def lift {α : Type} (o : Option α) : Cm α := fun ρ => match o with
  | some a => .ok a ρ
  | none => .stuck
@[simp] theorem lift_some {α : Type} (a : α) (ρ : DE) : lift (some a) ρ = .ok a ρ := rfl
@[simp] theorem lift_none {α : Type} (ρ : DE) : lift (none : Option α) ρ = .stuck := rfl
def mC (s : Sc) : Cm D := fun ρ => .ok (.sc s) ρ
def mVar (i : Nat) : Cm D := fun ρ => match ρ[i]? with
  | some (some d) => .ok d.fz (ρ.set i (some d.fz))
  | _ => .stuck
def mMove (i : Nat) : Cm D := fun ρ => match ρ[i]? with
  | some (some d) => .ok d (ρ.set i none)
  | _ => .stuck
def mBin (f : D → D → Option D) (a b : Cm D) : Cm D := fun ρ => (a ρ).bind fun x ρ => (b ρ).bind fun y ρ => lift (f x y) ρ
def mUn (f : D → Option D) (a : Cm D) : Cm D := fun ρ => (a ρ).bind fun x ρ => lift (f x) ρ
/-- an operand that is only looked at: a slot, or an expression -/
inductive Opd where
  | v (i : Nat)
  | e (m : Cm D)
def Opd.run : Opd → Cm (Option D)
  | .v i => fun ρ => match ρ[i]? with
    | some (some _) => .ok none ρ
    | _ => .stuck
  | .e m => fun ρ => (m ρ).bind fun d ρ => .ok (some d) ρ
def Opd.get (o : Opd) (t : Option D) (ρ : DE) : Option D := match o with
  | .v i => (ρ[i]?).join
  | .e _ => t
def mP1 (f : D → Option Sc) (a : Opd) : Cm D := fun ρ => (a.run ρ).bind fun t ρ => match a.get t ρ with
  | some x => (lift (f x) ρ).bind fun s ρ => .ok (.sc s) ρ
  | none => .stuck
def mP2 (f : D → D → Option Sc) (a b : Opd) : Cm D := fun ρ => (a.run ρ).bind fun t ρ => (b.run ρ).bind fun u ρ => match a.get t ρ, b.get u ρ with
  | some x, some y => (lift (f x y) ρ).bind fun s ρ => .ok (.sc s) ρ
  | _, _ => .stuck
def mTest (m : Cm D) : Cm Bool := fun ρ => (m ρ).bind fun d ρ => match d with
  | .sc (.bl b) => .ok b ρ
  | _ => .stuck
def mVal (m : Cm Bool) : Cm D := fun ρ => (m ρ).bind fun b ρ => .ok (.bl b) ρ
def mAnd (a b : Cm Bool) : Cm Bool := fun ρ => (a ρ).bind fun c ρ => if c then b ρ else .ok false ρ
def mOr (a b : Cm Bool) : Cm Bool := fun ρ => (a ρ).bind fun c ρ => if c then .ok true ρ else b ρ
def mNot (a : Cm Bool) : Cm Bool := fun ρ => (a ρ).bind fun c ρ => .ok (!c) ρ
def mIfE {α : Type} (c : Cm Bool) (a b : Cm α) : Cm α := fun ρ => (c ρ).bind fun k ρ => if k then a ρ else b ρ

/-! ### names and constants -/
section
variable {X : Cx} {g : Gh} {W : WX} {x : Str} {pos : Pos}
theorem e_int {i : Int} {j : Nat} : PE X (.Constant (.int i) j pos) (tE g W (mC (.int i))) := pe_int.imp fun σ H Q ⟨sl, tm, s, h⟩ => h H sl (.sc (.int i)) (s.push _ trivial) rfl rfl
theorem e_bl {b : Bool} {j : Nat} : PE X (.Constant (.bool b) j pos) (tE g W (mC (.bl b))) := pe_bl.imp fun σ H Q ⟨sl, tm, s, h⟩ => h H sl (.sc (.bl b)) (s.push _ trivial) rfl rfl
theorem e_non {j : Nat} : PE X (.Constant .none j pos) (tE g W (mC .non)) := pe_non.imp fun σ H Q ⟨sl, tm, s, h⟩ => h H sl (.sc .non) (s.push _ trivial) rfl rfl
theorem e_str {z : Str} {l : List Nat} {j : Nat} (h : z = ⟨l.toArray⟩) (hg : (Sc.str l).good) : PE X (.Constant (.str z) j pos) (tE g W (mC (.str l))) := by
  subst h
  exact pe_str.imp fun σ H Q ⟨sl, tm, s, h⟩ => h H sl (.sc (.str l)) (s.push _ hg) rfl rfl
theorem e_var {i : Nat} (hp : PE X (.Name x pos) (tVar i)) : PE X (.Name x pos) (tE g W (mVar i)) := hp.imp fun σ H Q ⟨sl, tm, s, h⟩ => by
  unfold mVar at h
  split at h
  · rename_i d e
    obtain ⟨t, e1, e2, _, e3⟩ := s.val e
    subst e2
    refine ⟨t.v, e3, ?_⟩
    have := h H (sl.set i (some t.fz)) t.fz (s.read e1) (by rw [den_set]; simp [T.fz_d]) (T.fz_d t)
    rwa [T.fz_v] at this
  · exact h.elim
theorem e_move {i : Nat} (hp : PE X (.Name x pos) (tVar i)) : PE X (.Name x pos) (tE g W (mMove i)) := hp.imp fun σ H Q ⟨sl, tm, s, h⟩ => by
  unfold mMove at h
  split at h
  · rename_i d e
    obtain ⟨t, e1, e2, _, e3⟩ := s.val e
    subst e2
    exact ⟨t.v, e3, h H (sl.set i none) t (s.move e1) (by rw [den_set]; rfl) rfl⟩
  · exact h.elim
/-- a module's constant: an int, a text -/
theorem e_gI {i : Int} {u : Value} (hg : Gl X x) (hm : X.mg x = some u) (r : RelV (.int i) u) (hd : (x == ("__debug__" : Str)) = false := by decide) : PE X (.Name x pos) (tE g W (mC (.int i))) :=
  (pe_glob hg hm r hd).imp fun σ H Q ⟨sl, tm, s, h⟩ => h H sl (.sc (.int i)) (s.push _ trivial) rfl rfl
theorem e_gS {l : List Nat} {u : Value} (hgl : Gl X x) (hg : (Sc.str l).good) (hm : X.mg x = some u) (r : RelV (.str ⟨l.toArray⟩) u) (hd : (x == ("__debug__" : Str)) = false := by decide) : PE X (.Name x pos) (tE g W (mC (.str l))) :=
  (pe_glob hgl hm r hd).imp fun σ H Q ⟨sl, tm, s, h⟩ => h H sl (.sc (.str l)) (s.push _ hg) rfl rfl
end

/-! ### operands -/
def tO (g : Gh) (W : WX) : Opd → TE
  | .v i => tVar i
  | .e m => tE g W m
/-- what an operand left: its value stands in the heap as its data -/
structure Held (g : Gh) (H : Hp) (o : Opd) (σ : L2.St) (sl : List (Option T)) (t : Option T) (v : V) : Prop where
  is : match o, t with
    | .v i, none => σ[i]? = some (some v)
    | .e _, some u => v = u.v
    | _, _ => False
def xs? (t : Option T) (tm : List T) : List T := match t with
  | none => tm
  | some u => u :: tm
section
variable {g : Gh} {W : WX} {H : Hp} {σ : L2.St} {sl : List (Option T)} {tm : List T} {Q : VK} {α : Type}
theorem tO.of {o : Opd} {f : Option D → Cm α} {k : α → DE → Prop} (s : SR g H σ sl tm) (h : Lands g W tm ((o.run (den sl)).bind f) k)
    (q : ∀ H' sl' t v, SR g H' σ sl' (xs? t tm) → Held g H' o σ sl' t v → Lands g W tm (f (t.map T.d) (den sl')) k → Q v H') : tO g W o σ H Q := by
  cases o with
  | v i =>
    simp only [Opd.run] at h
    split at h
    · rename_i d e
      obtain ⟨t, e1, e2, _, e3⟩ := s.val e
      exact ⟨t.v, e3, q H sl none t.v s ⟨e3⟩ h⟩
    · exact h.elim
  | e m =>
    refine tE.of (f := fun d ρ => f (some d) ρ) (k := k) s ?_ fun H' sl' t s' h' => q H' sl' (some t) t.v s' ⟨rfl⟩ h'
    simp only [Opd.run] at h
    revert h
    cases m (den sl) <;> exact id
/-- the data of a held operand, at the end -/
theorem Held.tree {o : Opd} {t : Option T} {v : V} {d : D} {tms : List T} (s : SR g H σ sl tms) (hd : Held g H o σ sl t v) (hm : ∀ u, t = some u → u ∈ tms) (e : o.get (t.map T.d) (den sl) = some d) :
    ∃ u : T, u.ok g.c H ∧ u.d = d ∧ u.v = v ∧ ∀ a, u.sh a ≤ So (T.sh a) sl + Ts.sh a tms := by
  obtain ⟨is⟩ := hd
  cases o with
  | v i =>
    cases t with
    | none =>
      simp only [Opd.get] at e
      have e' : (den sl)[i]? = some (some d) := by
        cases q : (den sl)[i]? with
        | none => rw [q] at e; simp at e
        | some o => rw [q] at e; simp at e; rw [e]
      obtain ⟨t, e1, e2, e4, e3⟩ := s.val e'
      simp only [] at is
      rw [e3] at is
      exact ⟨t, e4, e2, Option.some.inj (Option.some.inj is), fun a => by have := So_get (f := T.sh a) (s.slot e1); omega⟩
    | some u => exact is.elim
  | e m =>
    cases t with
    | none => exact is.elim
    | some u =>
      simp only [Opd.get, Option.map_some, Option.some.injEq] at e
      exact ⟨u, Ts.ok_iff.mp s.okT u (hm u rfl), e, is.symm, fun a => by have := Ts.sh_mem (a := a) (hm u rfl); omega⟩
theorem Lands.drops {r : R α} {k : α → DE → Prop} {t : Option T} (h : Lands g W tm r k) : Lands g W (xs? t tm) r k := by
  cases t with
  | none => exact h
  | some u => exact h.drop
theorem SR.xs {t : Option T} (s : SR g H σ sl (xs? t tm)) : SR g H σ sl tm := by
  cases t with
  | none => exact s
  | some u => exact s.pop
end
section
variable {X : Cx} {g : Gh} {W : WX} {pos : Pos} {a b : Expr}
theorem o_var {i : Nat} {x : Str} (hp : PE X (.Name x pos) (tVar i)) : PE X (.Name x pos) (tO g W (.v i)) := hp
theorem o_e {m : Cm D} (h : PE X a (tE g W m)) : PE X a (tO g W (.e m)) := h
/-- two operands, an answer that is no made thing -/
theorem p2_imp {f : D → D → Option Sc} {r : R2} {oa ob : Opd} (hr : ∀ H (u1 u2 : T) c Q, u1.ok g.c H → u2.ok g.c H → f u1.d u2.d = some c → (c.good → Q (c.v) H) → r u1.v u2.v H Q) :
    ∀ σ H Q, tE g W (mP2 f oa ob) σ H Q → tOp r (tO g W oa) (tO g W ob) σ H Q := fun σ H Q ⟨sl, tm, s, h⟩ => by
  refine tO.of s h fun H1 sl1 t1 v1 s1 d1 h1 => ?_
  refine tO.of s1 (Lands.drops h1) fun H2 sl2 t2 v2 s2 d2 h2 => ?_
  split at h2
  · rename_i x y ex ey
    have hm1 : ∀ u, t1 = some u → u ∈ xs? t2 (xs? t1 tm) := fun u e => by subst e; cases t2 <;> simp [xs?]
    have hm2 : ∀ u, t2 = some u → u ∈ xs? t2 (xs? t1 tm) := fun u e => by subst e; simp [xs?]
    have d1' : Held g H2 oa σ sl2 t1 v1 := ⟨d1.is⟩
    obtain ⟨u1, k1, e1, f1, _⟩ := d1'.tree s2 hm1 ex
    obtain ⟨u2, k2, e2, f2, _⟩ := d2.tree s2 hm2 ey
    subst f1 f2 e1 e2
    cases q : f u1.d u2.d with
    | none => rw [q] at h2; exact h2.elim
    | some c =>
      rw [q] at h2
      exact hr H2 u1 u2 c Q k1 k2 q fun gc => (h2 H2 sl2 (.sc c) (s2.xs.xs.push c gc) rfl rfl)
  · exact h2.elim
theorem p1_imp {f : D → Option Sc} {r : V → Hp → VK → Prop} {oa : Opd} (hr : ∀ H (u1 : T) c Q, u1.ok g.c H → f u1.d = some c → (c.good → Q (c.v) H) → r u1.v H Q) :
    ∀ σ H Q, tE g W (mP1 f oa) σ H Q → tO g W oa σ H fun x H1 => r x H1 Q := fun σ H Q ⟨sl, tm, s, h⟩ => by
  refine tO.of s h fun H1 sl1 t1 v1 s1 d1 h1 => ?_

  split at h1
  · rename_i x ex
    have hm1 : ∀ u, t1 = some u → u ∈ xs? t1 tm := fun u e => by subst e; simp [xs?]
    obtain ⟨u1, k1, e1, f1, _⟩ := d1.tree s1 hm1 ex
    subst f1 e1
    cases q : f u1.d with
    | none => rw [q] at h1; exact h1.elim
    | some c =>
      rw [q] at h1
      exact hr H1 u1 c Q k1 q fun gc => (h1 H1 sl1 (.sc c) (s1.xs.push c gc) rfl rfl)
  · exact h1.elim
/-- two expressions, an answer made of them -/
theorem bin_imp {f : D → D → Option D} {r : R2} {ma mb : Cm D}
    (hr : ∀ H σ sl tm (t1 t2 : T) d Q, SR g H σ sl (t2 :: t1 :: tm) → f t1.d t2.d = some d → (∀ H' t, SR g H' σ sl (t :: tm) → t.d = d → Q t.v H') → r t1.v t2.v H Q) :
    ∀ σ H Q, tE g W (mBin f ma mb) σ H Q → tOp r (tE g W ma) (tE g W mb) σ H Q := fun σ H Q ⟨sl, tm, s, h⟩ => by
  refine tE.of s h fun H1 sl1 t1 s1 h1 => ?_
  refine tE.of s1 (Lands.drop h1) fun H2 sl2 t2 s2 h2 => ?_
  cases q : f t1.d t2.d with
  | none => rw [q] at h2; exact h2.elim
  | some d =>
    rw [q] at h2
    exact hr H2 σ sl2 tm t1 t2 d Q s2 q fun H' t s' e => h2 H' sl2 t s' rfl e
theorem un_imp {f : D → Option D} {r : V → Hp → VK → Prop} {ma : Cm D}
    (hr : ∀ H σ sl tm (t1 : T) d Q, SR g H σ sl (t1 :: tm) → f t1.d = some d → (∀ H' t, SR g H' σ sl (t :: tm) → t.d = d → Q t.v H') → r t1.v H Q) :
    ∀ σ H Q, tE g W (mUn f ma) σ H Q → tE g W ma σ H fun x H1 => r x H1 Q := fun σ H Q ⟨sl, tm, s, h⟩ => by
  refine tE.of s h fun H1 sl1 t1 s1 h1 => ?_
  cases q : f t1.d with
  | none => rw [q] at h1; exact h1.elim
  | some d =>
    rw [q] at h1
    exact hr H1 σ sl1 tm t1 d Q s1 q fun H' t s' e => h1 H' sl1 t s' rfl e
end
end VS

/-! VS, part d: operators, comparisons, subscripts, displays. -/
namespace VS
open PySem PySem.Spec PyProof.Rows L2

theorem SZ_eq : sizeLine = 16777216 := sizeLine_eq
theorem Ts.d_append : ∀ xs ys : List T, Ts.d (xs ++ ys) = Ts.d xs ++ Ts.d ys := fun xs ys => by simp [Ts.d_map]
theorem Ts.d_len (xs : List T) : (Ts.d xs).length = xs.length := by simp [Ts.d_map]

/-! ### == -/
def Sc.eqB : Sc → Sc → Bool
  | .non, .non => true
  | .bl a, .bl b => a == b
  | .bl a, .int b => (if a then 1 else 0) == b
  | .int a, .bl b => a == (if b then 1 else 0)
  | .int a, .int b => a == b
  | .str a, .str b => a == b
  | _, _ => false
mutual
def D.eqB : D → D → Bool
  | .sc a, .sc b => a.eqB b
  | .lst _ xs, .lst _ ys => Ds.eqB xs ys
  | .tup xs, .tup ys => Ds.eqB xs ys
  | _, _ => false
def Ds.eqB : List D → List D → Bool
  | [], [] => true
  | x :: xs, y :: ys => x.eqB y && Ds.eqB xs ys
  | _, _ => false
end
def D.flatN : Nat → D → Bool
  | _, .sc _ => true
  | n + 1, .lst _ xs => xs.all (D.flatN n)
  | n + 1, .tup xs => xs.all (D.flatN n)
  | _, _ => false
def Sc.pd : Sc → PyData
  | .non => .none
  | .bl b => .bool b
  | .int i => .int i
  | .str s => .str ⟨s.toArray⟩
mutual
def T.pd : T → PyData
  | .sc s => s.pd
  | .lst _ _ xs => .list (Ts.pd xs)
  | .tup _ _ xs => .tuple (Ts.pd xs)
  | _ => .none
def Ts.pd : List T → List PyData
  | [] => []
  | t :: ts => t.pd :: Ts.pd ts
end
theorem Sc.eqv (a b : Sc) : PyData.eqv a.pd b.pd = a.eqB b := by
  cases a <;> cases b <;> simp [Sc.pd, Sc.eqB, PyData.eqv, Bool.beq_eq_decide_eq]
theorem flatN_lst {n : Nat} {o : Ow} {xs : List D} (h : D.flatN n (.lst o xs) = true) : ∃ m, n = m + 1 ∧ xs.all (D.flatN m) = true := by
  cases n with
  | zero => simp [D.flatN] at h
  | succ m => exact ⟨m, rfl, by simpa [D.flatN] using h⟩
theorem flatN_tup {n : Nat} {xs : List D} (h : D.flatN n (.tup xs) = true) : ∃ m, n = m + 1 ∧ xs.all (D.flatN m) = true := by
  cases n with
  | zero => simp [D.flatN] at h
  | succ m => exact ⟨m, rfl, by simpa [D.flatN] using h⟩
mutual
theorem T.eqv : ∀ (n m : Nat) (a b : T), D.flatN n a.d = true → D.flatN m b.d = true → PyData.eqv a.pd b.pd = a.d.eqB b.d
  | n, m, .sc a, b, _, h => by
    cases b with
    | sc b => simp [T.pd, T.d, D.eqB, Sc.eqv]
    | lst _ _ xs => cases a <;> simp [T.pd, T.d, D.eqB, Sc.pd, PyData.eqv]
    | tup _ _ xs => cases a <;> simp [T.pd, T.d, D.eqB, Sc.pd, PyData.eqv]
    | obj _ _ _ _ _ _ => simp [T.d] at h; cases m <;> simp [D.flatN] at h
    | exn _ _ _ _ _ => simp [T.d] at h; cases m <;> simp [D.flatN] at h
  | n, m, .lst _ _ xs, b, k, h => by
    cases b with
    | sc b => cases b <;> simp [T.pd, T.d, D.eqB, Sc.pd, PyData.eqv]
    | lst _ _ ys =>
      simp only [T.d] at k h
      obtain ⟨n, rfl, k⟩ := flatN_lst k
      obtain ⟨m, rfl, h⟩ := flatN_lst h
      simp [T.pd, T.d, D.eqB, PyData.eqv, Ts.eqv n m xs ys k h]
    | tup _ _ xs => simp [T.pd, T.d, D.eqB, PyData.eqv]
    | obj _ _ _ _ _ _ => simp [T.d] at h; cases m <;> simp [D.flatN] at h
    | exn _ _ _ _ _ => simp [T.d] at h; cases m <;> simp [D.flatN] at h
  | n, m, .tup _ _ xs, b, k, h => by
    cases b with
    | sc b => cases b <;> simp [T.pd, T.d, D.eqB, Sc.pd, PyData.eqv]
    | lst _ _ ys => simp [T.pd, T.d, D.eqB, PyData.eqv]
    | tup _ _ ys =>
      simp only [T.d] at k h
      obtain ⟨n, rfl, k⟩ := flatN_tup k
      obtain ⟨m, rfl, h⟩ := flatN_tup h
      simp [T.pd, T.d, D.eqB, PyData.eqv, Ts.eqv n m xs ys k h]
    | obj _ _ _ _ _ _ => simp [T.d] at h; cases m <;> simp [D.flatN] at h
    | exn _ _ _ _ _ => simp [T.d] at h; cases m <;> simp [D.flatN] at h
  | n, m, .obj _ _ _ _ _ _, b, k, h => by simp [T.d] at k; cases n <;> simp [D.flatN] at k
  | n, m, .exn _ _ _ _ _, b, k, h => by simp [T.d] at k; cases n <;> simp [D.flatN] at k
theorem Ts.eqv : ∀ (n m : Nat) (a b : List T), (Ts.d a).all (D.flatN n) = true → (Ts.d b).all (D.flatN m) = true → PyData.eqvAll (Ts.pd a) (Ts.pd b) = Ds.eqB (Ts.d a) (Ts.d b)
  | n, m, [], b, _, _ => by cases b <;> simp [Ts.pd, Ts.d, Ds.eqB, PyData.eqvAll]
  | n, m, x :: xs, [], _, _ => by simp [Ts.pd, Ts.d, Ds.eqB, PyData.eqvAll]
  | n, m, x :: xs, y :: ys, k, h => by
    simp only [Ts.d, List.all_cons, Bool.and_eq_true] at k h
    simp [Ts.pd, Ts.d, Ds.eqB, PyData.eqvAll, T.eqv n m x y k.1 h.1, Ts.eqv n m xs ys k.2 h.2]
end
theorem strOk_good {l : List Nat} (h : (Sc.str l).good) : PyData.strOk ⟨l.toArray⟩ = true := by
  unfold PyData.strOk
  simp only [List.all_toArray, List.all_eq_true, decide_eq_true_eq]
  exact fun c hc => h.2 c hc
mutual
theorem T.lay {c : Cfg} {H : Hp} : ∀ (n : Nat) (t : T), t.ok c H → D.flatN n t.d = true → t.pd.canLay0 = true ∧ t.pd.depth ≤ n
  | n, .sc s, k, _ => by
    cases s <;> simp [T.pd, Sc.pd, PyData.canLay0, PyData.depth]
    simp only [T.ok] at k
    exact strOk_good k
  | n, .lst a o xs, k, h => by
    simp only [T.d] at h
    obtain ⟨m, rfl, h⟩ := flatN_lst h
    have k' : Ts.ok c H xs := by cases o <;> simp only [T.ok] at k <;> exact k.2.2
    have := Ts.lay m xs k' h
    simp [T.pd, PyData.canLay0, PyData.depth, this]
  | n, .tup a st xs, k, h => by
    simp only [T.d] at h
    obtain ⟨m, rfl, h⟩ := flatN_tup h
    have k' : Ts.ok c H xs := by cases st <;> simp only [T.ok] at k <;> exact k.2.2
    have := Ts.lay m xs k' h
    simp [T.pd, PyData.canLay0, PyData.depth, this]
  | n, .obj _ _ _ _ _ _, k, h => by simp [T.d] at h; cases n <;> simp [D.flatN] at h
  | n, .exn _ _ _ _ _, k, h => by simp [T.d] at h; cases n <;> simp [D.flatN] at h
theorem Ts.lay {c : Cfg} {H : Hp} : ∀ (n : Nat) (ts : List T), Ts.ok c H ts → (Ts.d ts).all (D.flatN n) = true → PyData.canLayAll0 (Ts.pd ts) = true ∧ PyData.depthAll (Ts.pd ts) ≤ n
  | n, [], _, _ => by simp [Ts.pd, PyData.canLayAll0, PyData.depthAll]
  | n, t :: ts, k, h => by
    simp only [Ts.ok] at k
    simp only [Ts.d, List.all_cons, Bool.and_eq_true] at h
    have h1 := T.lay n t k.1 h.1
    have h2 := Ts.lay n ts k.2 h.2
    simp [Ts.pd, PyData.canLayAll0, PyData.depthAll, h1, h2]
    omega
end
theorem sqL_stc {K : PySem.W.Frag} {H : Hp} {a : Addr} {vs : List V} (h : StcL K a vs) : SqL K H a vs := by
  rcases h with (h | ⟨_, h⟩) | h
  · cases h
  · cases h
  · exact .inr h
theorem sqT_stc {K : PySem.W.Frag} {H : Hp} {a : Addr} {vs : List V} (h : StcT K a vs) : SqT K H a vs := by
  rcases h with (h | ⟨_, h⟩) | h
  · cases h
  · cases h
  · exact .inr h
theorem lst_sq {c : Cfg} {H : Hp} {a : Addr} {o : Ow} {xs : List T} (h : (T.lst a o xs).ok c H) : SqL c.K H a (xs.map T.v) ∧ xs.length ≤ 16777216 ∧ Ts.ok c H xs := by
  cases o <;> simp only [T.ok] at h
  · exact ⟨.of h.1, h.2⟩
  · exact ⟨.of h.1, h.2⟩
  · obtain ⟨⟨ob, h1⟩, h2⟩ := h; exact ⟨.inl (.inr ⟨ob, h1⟩), h2⟩
  · exact ⟨sqL_stc h.1, h.2⟩
theorem tup_sq {c : Cfg} {H : Hp} {a : Addr} {o : Bool} {xs : List T} (h : (T.tup a o xs).ok c H) : SqT c.K H a (xs.map T.v) ∧ xs.length ≤ 16777216 ∧ Ts.ok c H xs := by
  cases o <;> simp only [T.ok] at h
  · exact ⟨.of h.1, h.2⟩
  · exact ⟨sqT_stc h.1, h.2⟩
mutual
theorem T.dp {c : Cfg} {H : Hp} : ∀ (n : Nat) (t : T), t.ok c H → D.flatN n t.d = true → Dp c.K H t.v t.pd
  | n, .sc s, k, _ => by
    cases s <;> simp only [T.v, T.pd, Sc.v, Sc.pd]
    · exact .non
    · exact .bl _
    · exact .int _
    · exact .str _
  | n, .lst a o xs, k, h => by
    simp only [T.d] at h
    obtain ⟨m, rfl, h⟩ := flatN_lst h
    have q := lst_sq k
    simp only [T.v, T.pd]
    exact .lst q.1 (Ts.dp m xs q.2.2 h)
  | n, .tup a st xs, k, h => by
    simp only [T.d] at h
    obtain ⟨m, rfl, h⟩ := flatN_tup h
    have q := tup_sq k
    simp only [T.v, T.pd]
    exact .tup q.1 (Ts.dp m xs q.2.2 h)
  | n, .obj _ _ _ _ _ _, k, h => by simp [T.d] at h; cases n <;> simp [D.flatN] at h
  | n, .exn _ _ _ _ _, k, h => by simp [T.d] at h; cases n <;> simp [D.flatN] at h
theorem Ts.dp {c : Cfg} {H : Hp} : ∀ (n : Nat) (ts : List T), Ts.ok c H ts → (Ts.d ts).all (D.flatN n) = true → DpAll c.K H (ts.map T.v) (Ts.pd ts)
  | n, [], _, _ => by simp only [Ts.pd, List.map_nil]; exact .nil
  | n, t :: ts, k, h => by
    simp only [Ts.ok] at k
    simp only [Ts.d, List.all_cons, Bool.and_eq_true] at h
    simp only [Ts.pd, List.map_cons]
    exact .cons (T.dp n t k.1 h.1) (Ts.dp n ts k.2 h.2)
end
def eqD (x y : D) : Option Sc := if D.flatN 8 x && D.flatN 8 y then some (.bl (x.eqB y)) else none
def neD (x y : D) : Option Sc := if D.flatN 8 x && D.flatN 8 y then some (.bl (!x.eqB y)) else none
theorem shaped_of {c : Cfg} {H : Hp} {t : T} (k : t.ok c H) (h : D.flatN 8 t.d = true) : SeqAt.shaped t.pd = true := by
  have := T.lay 8 t k h
  unfold SeqAt.shaped
  rw [this.1, decide_eq_true (by omega)]
  rfl

/-! ### the operators' functions -/
def addD : D → D → Option D
  | .sc (.int i), .sc (.int j) => some (.int (i + j))
  | .sc (.str a), .sc (.str b) => if a.length + b.length ≤ 16777216 then some (.str (a ++ b)) else none
  | .lst o xs, .lst p ys => if (o = .own ∨ o = .shr) ∧ (p = .own ∨ p = .shr) ∧ xs.length + ys.length ≤ 16777216 then some (.lst .own (xs ++ ys)) else none
  | _, _ => none
def subD : D → D → Option D
  | .sc (.int i), .sc (.int j) => some (.int (i - j))
  | _, _ => none
mutual
def D.pur : D → Bool
  | .sc _ => true
  | .lst o xs => o != .own && Ds.pur xs
  | .tup xs => Ds.pur xs
  | .obj o _ _ xs => o != .own && Ds.pur xs
  | .exn _ _ _ => true
def Ds.pur : List D → Bool
  | [] => true
  | x :: xs => x.pur && Ds.pur xs
end
def mulD : D → D → Option D
  | .sc (.int i), .sc (.int j) => if i.natAbs < 18446744073709551616 ∨ j.natAbs < 18446744073709551616 then some (.int (i * j)) else none
  | .sc (.str a), .sc (.int n) => if a.length * n.toNat ≤ 16777216 ∧ n.natAbs < 4611686018427387904 then some (.str (List.replicate n.toNat a).flatten) else none
  | .lst o xs, .sc (.int n) => if (o = .own ∨ o = .shr) ∧ Ds.pur xs = true ∧ xs.length * n.toNat ≤ 16777216 ∧ n.natAbs < 4611686018427387904 then some (.lst .own (List.replicate n.toNat xs).flatten) else none
  | _, _ => none
def fdivD : D → D → Option D
  | .sc (.int i), .sc (.int j) => if 0 < j ∧ j < 4611686018427387904 then some (.int (i / j)) else none
  | _, _ => none
def modD : D → D → Option D
  | .sc (.int i), .sc (.int j) => if 0 < j then some (.int (i % j)) else none
  | _, _ => none
def powD : D → D → Option D
  | .sc (.int i), .sc (.int j) => if 0 ≤ j ∧ j ≤ 1000000 ∧ i.natAbs < 18446744073709551616 then some (.int (i ^ j.toNat)) else none
  | _, _ => none
def negD : D → Option D
  | .sc (.int i) => some (.int (-i))
  | _ => none
def cmpI (p : Int → Int → Bool) : D → D → Option Sc
  | .sc (.int i), .sc (.int j) => some (.bl (p i j))
  | _, _ => none
def ltD := cmpI fun i j => decide (i < j)
def leD := cmpI fun i j => decide (i ≤ j)
def gtD := cmpI fun i j => decide (j < i)
def geD := cmpI fun i j => decide (j ≤ i)
def isNon : D → D → Option Sc
  | x, .sc .non => some (.bl (match x with | .sc .non => true | _ => false))
  | _, _ => none
def isntNon : D → D → Option Sc
  | x, .sc .non => some (.bl (match x with | .sc .non => false | _ => true))
  | _, _ => none
def scs : List D → Option (List Sc)
  | [] => some []
  | .sc s :: r => (scs r).map (s :: ·)
  | _ => none
def inStr (a b : List Nat) : Bool := !(Builtin.Str.occurrences ⟨b.toArray⟩ ⟨a.toArray⟩ 0 b.length 1).isEmpty
def inD (neg : Bool) : D → D → Option Sc
  | .sc (.str a), .sc (.str b) => some (.bl (neg ^^ inStr a b))
  | .sc x, .lst _ ys => (scs ys).map fun l => .bl (neg ^^ l.any (·.eqB x))
  | .sc x, .tup ys => (scs ys).map fun l => .bl (neg ^^ l.any (·.eqB x))
  | _, _ => none

section
variable {X : Cx} {g : Gh} {W : WX} {pos : Pos} {a b : Expr} {ma mb : Cm D} {oa ob : Opd}
theorem good_append {x y : List Nat} (h1 : (Sc.str x).good) (h2 : (Sc.str y).good) (h : x.length + y.length ≤ 16777216) : (Sc.str (x ++ y)).good := by
  refine ⟨by simpa using h, fun c hc => ?_⟩
  rcases List.mem_append.mp hc with q | q
  · exact h1.2 c q
  · exact h2.2 c q
theorem Str.app (x y : List Nat) : ((⟨x.toArray⟩ : Str) ++ (⟨y.toArray⟩ : Str)) = ⟨(x ++ y).toArray⟩ := by
  show (⟨x.toArray ++ y.toArray⟩ : Str) = _
  simp
theorem e_addW (hx : ∀ {r : R2}, OpR X (binaryOp .Add) r → PE X (.BinOp a .Add b pos) (tOp r (tE g W ma) (tE g W mb))) : PE X (.BinOp a .Add b pos) (tE g W (mBin addD ma mb)) := by
  refine (hx (OpR.or op_add (OpR.or op_add_str op_cat))).imp (bin_imp fun H σ sl tm t1 t2 d Q s h k => ?_)
  have k1 : t1.ok g.c H := by have := s.okT; simp only [Ts.ok] at this; exact this.2.1
  have k2 := s.top
  cases t1 with
  | sc x =>
    cases t2 with
    | sc y =>
      cases x <;> cases y <;> simp [T.d, addD] at h
      · subst h
        exact .inl ⟨_, _, rfl, rfl, k H _ (s.pop.pop.push (.int _) trivial) rfl⟩
      · rename_i x y
        obtain ⟨h1, rfl⟩ := h
        simp only [T.ok] at k1 k2
        refine .inr (.inl ⟨_, _, rfl, rfl, by rw [SZ_eq]; simpa [Str.length] using h1, ?_⟩)
        rw [Str.app]
        exact k H (.sc (.str (x ++ y))) (s.pop.pop.push _ (good_append k1 k2 h1)) rfl
    | _ => cases x <;> simp [T.d, addD] at h
  | lst a o xs =>
    cases t2 with
    | lst b p ys =>
      simp only [T.d, addD, Ts.d_len] at h
      split at h
      · rename_i hc
        obtain ⟨h1, h2, h3⟩ := hc
        cases h
        refine .inr (.inr ⟨a, b, xs.map T.v, ys.map T.v, rfl, rfl, ?_, ?_, by rw [SZ_eq]; simpa using h3, fun q nq => ?_⟩)
        · rcases h1 with rfl | rfl <;> (simp only [T.ok] at k1; exact k1.1)
        · rcases h2 with rfl | rfl <;> (simp only [T.ok] at k2; exact k2.1)
        · have s' := s.newL (xs := [.lst b p ys, .lst a o xs]) (tm := tm) (ts := xs ++ ys) nq (by simpa using h3)
            (Ts.ok_iff.mpr fun t m => by
              rcases List.mem_append.mp m with m | m
              · exact Ts.ok_iff.mp (lst_sq k1).2.2 t m
              · exact Ts.ok_iff.mp (lst_sq k2).2.2 t m) (fun z => by
              simp only [Ts.oc_append, Ts.sh_append, Ts.oc, Ts.sh, T.oc, T.sh]; omega)
          rw [List.map_append] at s'
          exact k _ _ s' (by simp [T.d, Ts.d_append])
      · cases h
    | sc y => cases y <;> simp [T.d, addD] at h
    | _ => simp [T.d, addD] at h
  | tup _ _ _ => simp [T.d, addD] at h
  | obj _ _ _ _ _ _ => simp [T.d, addD] at h
  | exn _ _ _ _ _ => simp [T.d, addD] at h
theorem e_add (ha : PE X a (tE g W ma)) (hb : PE X b (tE g W mb)) : PE X (.BinOp a .Add b pos) (tE g W (mBin addD ma mb)) := e_addW fun ho => pe_op ho ha hb
/-- an operator of two ints -/
theorem bin_int {op : Operator} {r : R2} {f : D → D → Option D} (ho : OpR X (binaryOp op) r) (ha : PE X a (tE g W ma)) (hb : PE X b (tE g W mb))
    (hf : ∀ x y d, f x y = some d → ∃ i j k, x = .int i ∧ y = .int j ∧ d = .int k ∧ ∀ H Q, Q (.int k) H → r (.int i) (.int j) H Q) : PE X (.BinOp a op b pos) (tE g W (mBin f ma mb)) := by
  refine (pe_op ho ha hb).imp (bin_imp fun H σ sl tm t1 t2 d Q s h k => ?_)
  obtain ⟨i, j, n, e1, e2, rfl, hr⟩ := hf _ _ _ h
  cases t1 with
  | sc x =>
    cases t2 with
    | sc y =>
      simp only [T.d, D.int, D.sc.injEq] at e1 e2
      subst e1 e2
      exact hr H Q (k H (.sc (.int n)) (s.pop.pop.push _ trivial) rfl)
    | _ => simp [T.d] at e2
  | _ => simp [T.d] at e1
theorem e_sub (ha : PE X a (tE g W ma)) (hb : PE X b (tE g W mb)) : PE X (.BinOp a .Sub b pos) (tE g W (mBin subD ma mb)) :=
  bin_int op_sub ha hb fun x y d h => by
    unfold subD at h; split at h
    · cases h; exact ⟨_, _, _, rfl, rfl, rfl, fun H Q q => ⟨_, _, rfl, rfl, q⟩⟩
    · cases h
theorem e_fdiv (ha : PE X a (tE g W ma)) (hb : PE X b (tE g W mb)) : PE X (.BinOp a .FloorDiv b pos) (tE g W (mBin fdivD ma mb)) :=
  bin_int op_fdivW ha hb fun x y d h => by
    unfold fdivD at h; split at h
    · split at h
      · rename_i i j c
        cases h
        refine ⟨_, _, _, rfl, rfl, rfl, fun H Q q => ⟨_, _, rfl, rfl, wide_div (b := 62) c.1 ?_ (by decide) (by decide), q⟩⟩
        have : (2 : Nat) ^ 62 = 4611686018427387904 := by decide
        omega
      · cases h
    · cases h
theorem e_mod (ha : PE X a (tE g W ma)) (hb : PE X b (tE g W mb)) : PE X (.BinOp a .Mod b pos) (tE g W (mBin modD ma mb)) :=
  bin_int op_mod ha hb fun x y d h => by
    unfold modD at h; split at h
    · split at h
      · rename_i i j c
        cases h
        exact ⟨_, _, _, rfl, rfl, rfl, fun H Q q => ⟨_, _, rfl, rfl, c, q⟩⟩
      · cases h
    · cases h
theorem e_pow (ha : PE X a (tE g W ma)) (hb : PE X b (tE g W mb)) : PE X (.BinOp a .Pow b pos) (tE g W (mBin powD ma mb)) :=
  bin_int op_pow ha hb fun x y d h => by
    unfold powD at h; split at h
    · split at h
      · rename_i i j c
        cases h
        refine ⟨_, _, _, rfl, rfl, rfl, fun H Q q => ⟨_, _, rfl, rfl, ⟨c.1, c.2.1, ?_⟩, q⟩⟩
        have : (2 : Nat) ^ 64 = 18446744073709551616 := by decide
        omega
      · cases h
    · cases h
/-- a text some times over -/
theorem op_mul_str : OpR X (binaryOp .Mult) (fun x y H Q => ∃ (z : List Nat) (n : Int), x = .str ⟨z.toArray⟩ ∧ y = .int n ∧ z.length * n.toNat ≤ 16777216 ∧ n.natAbs < 4611686018427387904 ∧ Q (.str ⟨((List.replicate n.toNat z).flatten).toArray⟩) H) := by
  intro pins s σ H x y v u Q I rx ry h
  obtain ⟨z, n, rfl, rfl, hz, hn, q⟩ := h
  obtain ⟨t, rfl⟩ := rx
  obtain ⟨t', rfl⟩ := ry
  have e63 : (2 : Int) ^ 63 = 9223372036854775808 := by decide
  have fin : ∀ w : Str, w = ⟨((List.replicate n.toNat z).flatten).toArray⟩ → ∀ s', Inv X pins σ H s' → ∀ u, RelV (.str w) u → EP X pins σ Q u s' := fun w e s' I' u r => ⟨_, H, I', r, by rw [e]; exact q⟩
  refine PySem.P.mul_str ?_ ?_ ?_ ?_
  · have h1 : ¬ n < -(2 ^ 63 : Int) := by rw [e63]; omega
    have h2 : ¬ n ≥ 2 ^ 63 := by rw [e63]; omega
    rw [decide_eq_false h1, decide_eq_false h2]; rfl
  · intro h1 _
    have hl : z.length ≤ 16777216 := by
      have : 1 ≤ n.toNat := by omega
      exact Nat.le_trans (Nat.le_mul_of_pos_right _ this) hz
    rw [e63]
    have hs : (⟨z.toArray⟩ : Str).length = z.length := by simp [Str.length]
    rw [hs]
    intro hgt
    have hgt : (9223372036854775808 - 1) / n < (z.length : Int) := hgt
    have h3 := (Int.ediv_lt_iff_lt_mul (by omega : (0 : Int) < n)).mp hgt
    have h4 : ((z.length * n.toNat : Nat) : Int) = (z.length : Int) * n := by
      rw [Int.natCast_mul, Int.toNat_of_nonneg (by omega)]
    have h5 : ((z.length * n.toNat : Nat) : Int) ≤ 16777216 := by omega
    rw [h4] at h5
    omega
  · intro _ _
    have hs : (⟨z.toArray⟩ : Str).length = z.length := by simp [Str.length]
    rw [hs]
    unfold Builtin.Str.tooLong
    rw [SZ_eq]
    exact decide_eq_false (by omega)
  · have fl : ∀ (k : Nat) (a0 : Array Nat), (List.replicate k z.toArray).foldl (· ++ ·) a0 = a0 ++ ((List.replicate k z).flatten).toArray := by
      intro k
      induction k with
      | zero => intro a0; simp
      | succ k ih =>
        intro a0
        rw [List.replicate_succ, List.foldl_cons, ih, List.replicate_succ, List.flatten_cons]
        simp [Array.append_assoc]
    by_cases c1 : n < 1
    · rw [if_pos c1]
      have e0 : n.toNat = 0 := by omega
      exact ⟨by decide, fin _ (by rw [e0]; rfl) _ (I.tok _) _ ⟨_, rfl⟩⟩
    · rw [if_neg c1]
      by_cases c2 : (n == 1 || (⟨z.toArray⟩ : Str).length == 0) = true
      · rw [if_pos c2]
        refine fin _ ?_ _ I _ ⟨t, rfl⟩
        rcases Bool.or_eq_true_iff.mp c2 with e | e
        · have e1 : n = 1 := by simpa using e
          subst e1
          simp
        · have e1 : z = [] := by simpa [Str.length] using e
          subst e1
          simp
      · rw [if_neg c2]
        refine ⟨?_, fin _ ?_ _ (I.tok _) _ ⟨_, rfl⟩⟩
        · rw [fl]
          show (((#[] : Array Nat) ++ ((List.replicate n.toNat z).flatten).toArray).size) ≤ sizeLine
          rw [SZ_eq]
          simp [Nat.mul_comm]
          simpa [Nat.mul_comm] using hz
        · rw [fl]; simp
mutual
theorem T.pur_oc (a : Addr) : ∀ t : T, t.d.pur = true → t.oc a = 0
  | .sc _, _ => by simp [T.oc]
  | .lst b o xs, h => by
    simp only [T.d, D.pur, Bool.and_eq_true] at h
    have := Ts.pur_oc a xs h.2
    cases o <;> simp_all [T.oc, b2]
  | .tup _ _ xs, h => by
    simp only [T.d, D.pur] at h
    simp [T.oc, Ts.pur_oc a xs h]
  | .obj _ _ o _ _ xs, h => by
    simp only [T.d, D.pur, Bool.and_eq_true] at h
    have := Ts.pur_oc a xs h.2
    cases o <;> simp_all [T.oc, b2]
  | .exn _ _ _ _ _, _ => by simp [T.oc]
theorem Ts.pur_oc (a : Addr) : ∀ ts : List T, Ds.pur (Ts.d ts) = true → Ts.oc a ts = 0
  | [], _ => by simp [Ts.oc]
  | t :: ts, h => by
    simp only [Ts.d, Ds.pur, Bool.and_eq_true] at h
    simp [Ts.oc, T.pur_oc a t h.1, Ts.pur_oc a ts h.2]
end
theorem Ts.rep_sh (a : Addr) (xs : List T) : ∀ n : Nat, 0 < Ts.sh a (List.replicate n xs).flatten → 0 < Ts.sh a xs
  | 0, h => by simp [Ts.sh] at h
  | n + 1, h => by
    rw [List.replicate_succ, List.flatten_cons, Ts.sh_append] at h
    by_cases e : 0 < Ts.sh a xs
    · exact e
    · exact Ts.rep_sh a xs n (by omega)
theorem Ts.rep_oc (a : Addr) (xs : List T) (h : Ts.oc a xs = 0) : ∀ n : Nat, Ts.oc a (List.replicate n xs).flatten = 0
  | 0 => by simp [Ts.oc]
  | n + 1 => by rw [List.replicate_succ, List.flatten_cons, Ts.oc_append, h, Ts.rep_oc a xs h n]
theorem Ts.rep_d (xs : List T) (n : Nat) : Ts.d (List.replicate n xs).flatten = (List.replicate n (Ts.d xs)).flatten := by
  simp [Ts.d_map, List.map_flatten]
theorem good_rep {x : List Nat} {n : Nat} (h1 : (Sc.str x).good) (h : x.length * n ≤ 16777216) : (Sc.str (List.replicate n x).flatten).good := by
  refine ⟨by simpa [Nat.mul_comm] using h, fun c hc => ?_⟩
  obtain ⟨l, hl, hc⟩ := List.mem_flatten.mp hc
  rw [(List.mem_replicate.mp hl).2] at hc
  exact h1.2 c hc
theorem e_mul (ha : PE X a (tE g W ma)) (hb : PE X b (tE g W mb)) : PE X (.BinOp a .Mult b pos) (tE g W (mBin mulD ma mb)) := by
  refine (pe_op (OpR.or op_mul (OpR.or op_mul_str op_rep)) ha hb).imp (bin_imp fun H σ sl tm t1 t2 d Q s h k => ?_)
  have k1 : t1.ok g.c H := by have := s.okT; simp only [Ts.ok] at this; exact this.2.1
  have e64 : (2 : Int) ^ 64 = 18446744073709551616 := by decide
  have e63 : (2 : Int) ^ 63 = 9223372036854775808 := by decide
  cases t1 with
  | sc x =>
    cases t2 with
    | sc y =>
      cases x <;> cases y <;> simp [T.d, mulD] at h
      · obtain ⟨h1, rfl⟩ := h
        refine .inl ⟨_, _, rfl, rfl, ?_, k H _ (s.pop.pop.push (.int _) trivial) rfl⟩
        unfold CMul
        rw [e64]
        omega
      · rename_i x n
        obtain ⟨⟨h1, h2⟩, rfl⟩ := h
        simp only [T.ok] at k1
        exact .inr (.inl ⟨x, n, rfl, rfl, h1, h2, k H (.sc (.str _)) (s.pop.pop.push _ (good_rep k1 h1)) rfl⟩)
    | _ => cases x <;> simp [T.d, mulD] at h
  | lst a o xs =>
    cases t2 with
    | sc y =>
      cases y <;> simp only [T.d, mulD] at h <;> try cases h
      rename_i n
      split at h
      · rename_i hc
        obtain ⟨h1, h2, h3, h4⟩ := hc
        rw [Ts.d_len] at h3
        cases h
        refine .inr (.inr ⟨a, n, xs.map T.v, rfl, rfl, ?_, by rw [e63]; omega, by rw [e63]; omega, by rw [SZ_eq]; simpa using h3, fun q nq => ?_⟩)
        · rcases h1 with rfl | rfl <;> (simp only [T.ok] at k1; exact k1.1)
        · have s' := s.newL (xs := [.sc (.int n), .lst a o xs]) (tm := tm) (ts := (List.replicate n.toNat xs).flatten) nq (by simpa [Nat.mul_comm] using h3)
            (Ts.ok_iff.mpr fun t m => by
              obtain ⟨l, hl, hc⟩ := List.mem_flatten.mp m
              rw [(List.mem_replicate.mp hl).2] at hc
              exact Ts.ok_iff.mp (lst_sq k1).2.2 t hc) (fun z => by
              have z1 := Ts.pur_oc z xs h2
              have z2 := Ts.rep_oc z xs z1 n.toNat
              have z3 := Ts.rep_sh z xs n.toNat
              simp only [Ts.oc, Ts.sh, T.oc, T.sh]; omega)
          have em : List.map T.v (List.replicate n.toNat xs).flatten = (List.replicate n.toNat (xs.map T.v)).flatten := by simp [List.map_flatten]
          rw [em] at s'
          exact k _ _ s' (by simp [T.d, Ts.rep_d])
      · cases h
    | _ => simp [T.d, mulD] at h
  | tup _ _ _ => cases t2 <;> simp [T.d, mulD] at h
  | obj _ _ _ _ _ _ => cases t2 <;> simp [T.d, mulD] at h
  | exn _ _ _ _ _ => cases t2 <;> simp [T.d, mulD] at h
theorem e_neg (ha : PE X a (tE g W ma)) : PE X (.UnaryOp .USub a pos) (tE g W (mUn negD ma)) := by
  refine (pe_un un_neg ha).imp (un_imp fun H σ sl tm t1 d Q s h k => ?_)
  cases t1 with
  | sc x =>
    cases x <;> simp [T.d, negD] at h
    subst h
    exact ⟨_, rfl, k H (.sc (.int _)) (s.pop.push _ trivial) rfl⟩
  | _ => simp [T.d, negD] at h
end
end VS

/-! VS, part e: comparisons, tests, subscripts, slices, displays. -/
namespace VS
open PySem PySem.Spec PyProof.Rows L2

theorem _root_.L2.PW.imp {X : Cx} {e : Expr} {t t' : TT} (h : PW X e t) (w : ∀ σ H Q, t' σ H Q → t σ H Q) : PW X e t' := ⟨fun wh pins s σ H Q I q => h.run wh pins s σ H Q I (w σ H Q q)⟩

section
variable {X : Cx} {g : Gh} {W : WX} {pos : Pos} {a b c : Expr} {ma mb mc : Cm D} {oa ob oc : Opd}
/-- the forms of a comparison's rule -/
def HR2 (g : Gh) (f : D → D → Option Sc) (r : R2) : Prop := ∀ H (u1 u2 : T) c Q, u1.ok g.c H → u2.ok g.c H → f u1.d u2.d = some c → (c.good → Q (c.v) H) → r u1.v u2.v H Q
theorem test_imp {m : Cm D} {σ : L2.St} {H : Hp} {Q : Bool → Hp → Prop} (h : tT g W (mTest m) σ H Q) : tE g W m σ H fun x H' => ∃ k, x = .bl k ∧ Q k H' := by
  obtain ⟨sl, tm, s, h⟩ := h
  refine ⟨sl, tm, s, ?_⟩
  unfold mTest at h
  cases e : m (den sl) with
  | ok d ρ =>
    rw [e] at h
    intro H' sl' t s' e1 e2
    subst e1 e2
    cases t with
    | sc x =>
      cases x with
      | bl k => exact ⟨k, rfl, h H' sl' s'.pop rfl⟩
      | _ => exact h.elim
    | _ => exact h.elim
  | exc x ρ => rw [e] at h; exact h
  | stuck => rw [e] at h; exact h
theorem t_val (h : PE X a (tE g W ma)) (he : ∀ whole, isTrue a X.env whole = (do let v ← whole; standAt a.pos; holding [v] (truthy v)) := by intro _; rfl) : PT X a (tT g W (mTest ma)) :=
  (pt_val h he).imp fun σ H Q q => test_imp q
theorem e_cmp {op : CmpOp} {r : R2} {f : D → D → Option Sc} (ho : OpR X (compareOp op) r) (hr : HR2 g f r) (ha : PE X a (tO g W oa)) (hb : PE X b (tO g W ob)) (hm : behindInMarks op b = false) :
    PE X (.Compare a [op] [b] pos) (tE g W (mP2 f oa ob)) := (pe_cmpR ho ha hb hm).imp (p2_imp hr)
theorem t_cmp {op : CmpOp} {r : R2} {f : D → D → Option Sc} (ho : OpR X (compareOp op) r) (hr : HR2 g f r) (ha : PE X a (tO g W oa)) (hb : PE X b (tO g W ob)) (hm : behindInMarks op b = false) :
    PT X (.Compare a [op] [b] pos) (tT g W (mTest (mP2 f oa ob))) := (pt_cmpR ho ha hb hm).imp fun σ H Q q => p2_imp hr σ H _ (test_imp q)
theorem hr_int {p : Int → Int → Bool} : HR2 g (cmpI p) (rI0 fun i j => .bl (p i j)) := fun H u1 u2 c Q k1 k2 h q => by
  cases u1 with
  | sc x =>
    cases u2 with
    | sc y =>
      cases x <;> cases y <;> simp [T.d, cmpI] at h
      subst h
      exact ⟨_, _, rfl, rfl, q trivial⟩
    | _ => cases x <;> simp [T.d, cmpI] at h
  | _ => simp [T.d, cmpI] at h
theorem hr_eq : HR2 g eqD (rEqD g.c.K) := fun H u1 u2 c Q k1 k2 h q => by
  unfold eqD at h
  split at h
  · rename_i hc
    obtain ⟨h1, h2⟩ := Bool.and_eq_true_iff.mp hc
    cases h
    refine ⟨_, _, T.dp 8 u1 k1 h1, T.dp 8 u2 k2 h2, shaped_of k1 h1, shaped_of k2 h2, ?_⟩
    rw [T.eqv 8 8 u1 u2 h1 h2]
    exact q trivial
  · cases h
theorem hr_ne : HR2 g neD (rNeD g.c.K) := fun H u1 u2 c Q k1 k2 h q => by
  unfold neD at h
  split at h
  · rename_i hc
    obtain ⟨h1, h2⟩ := Bool.and_eq_true_iff.mp hc
    cases h
    refine ⟨_, _, T.dp 8 u1 k1 h1, T.dp 8 u2 k2 h2, shaped_of k1 h1, shaped_of k2 h2, ?_⟩
    rw [T.eqv 8 8 u1 u2 h1 h2]
    exact q trivial
  · cases h
theorem v_non {t : T} : (t.v = .non) ↔ t.d = .non := by
  cases t with
  | sc x => cases x <;> simp [T.v, T.d, Sc.v]
  | _ => simp [T.v, T.d]
theorem hr_isN : HR2 g isNon (fun x y H Q => y = .non ∧ Q (.bl (decide (x = .non))) H) := fun H u1 u2 c Q k1 k2 h q => by
  unfold isNon at h
  split at h
  · rename_i d hd
    have e : u2.v = .non := v_non.mpr hd
    cases h
    refine ⟨e, ?_⟩
    have z : decide (u1.v = .non) = (match u1.d with | .sc .non => true | _ => false) := by
      by_cases hh : u1.d = .non
      · rw [decide_eq_true (v_non.mpr hh), hh]
      · rw [decide_eq_false (fun w => hh (v_non.mp w))]
        split <;> simp_all
    rw [z]
    exact q trivial
  · cases h
theorem hr_notN : HR2 g isntNon (fun x y H Q => y = .non ∧ Q (.bl (!decide (x = .non))) H) := fun H u1 u2 c Q k1 k2 h q => by
  unfold isntNon at h
  split at h
  · rename_i d hd
    have e : u2.v = .non := v_non.mpr hd
    cases h
    refine ⟨e, ?_⟩
    have z : (!decide (u1.v = .non)) = (match u1.d with | .sc .non => false | _ => true) := by
      by_cases hh : u1.d = .non
      · rw [decide_eq_true (v_non.mpr hh), hh]; rfl
      · rw [decide_eq_false (fun w => hh (v_non.mp w))]
        split <;> simp_all
    rw [z]
    exact q trivial
  · cases h
theorem scs_ok : ∀ {ts : List T} {l : List Sc}, scs (Ts.d ts) = some l → ts.map T.v = l.map Sc.v ∧ (ts.map T.v).all flatV = true
  | [], l, h => by simp [Ts.d, scs] at h; subst h; simp
  | t :: ts, l, h => by
    cases t with
    | sc x =>
      simp only [Ts.d, T.d, scs, Option.map_eq_some_iff] at h
      obtain ⟨r, hr, rfl⟩ := h
      have ih := scs_ok hr
      have fx : flatV (T.sc x).v = true := by cases x <;> rfl
      simp only [List.map_cons, List.all_cons, ih.1, fx, Bool.true_and]
      refine ⟨rfl, ?_⟩
      rw [← ih.1]; exact ih.2
    | _ => simp [Ts.d, T.d, scs] at h
theorem eqV_sc (x y : Sc) : eqV x.v y.v = x.eqB y := by
  cases x <;> cases y <;> simp [Sc.v, eqV, Sc.eqB, Bool.beq_eq_decide_eq]
theorem inV_sc (x : Sc) (l : List Sc) : inV x.v (l.map Sc.v) = l.any (·.eqB x) := by
  unfold inV
  rw [List.any_map]
  congr 1
  funext y
  exact eqV_sc y x
theorem hr_in : HR2 g (inD false) (fun x y H Q => (∃ i j, x = .str i ∧ y = .str j ∧ Q (.bl (!(Builtin.Str.occurrences j i 0 j.length 1).isEmpty)) H) ∨ rIn g.c.K false x y H Q) := fun H u1 u2 c Q k1 k2 h q => by
  cases u1 with
  | sc x =>
    have fx : flatV x.v = true := by cases x <;> rfl
    cases u2 with
    | sc y =>
      cases x <;> cases y <;> simp [T.d, inD] at h
      subst h
      refine .inl ⟨_, _, rfl, rfl, ?_⟩
      have := q trivial
      simpa [inStr, Str.length, Sc.v] using this
    | lst p o ys =>
      have hh : (scs (Ts.d ys)).map (fun l => Sc.bl (false ^^ l.any (·.eqB x))) = some c := by cases x <;> simpa [T.d, inD] using h
      obtain ⟨l, hl, rfl⟩ := Option.map_eq_some_iff.mp hh
      have e := scs_ok hl
      refine .inr ⟨p, _, rfl, .inl (lst_sq k2).1, fx, e.2, ?_⟩
      have := q trivial
      rw [e.1, show (T.sc x).v = x.v from rfl, inV_sc]
      simpa [Sc.v] using this
    | tup p o ys =>
      have hh : (scs (Ts.d ys)).map (fun l => Sc.bl (false ^^ l.any (·.eqB x))) = some c := by cases x <;> simpa [T.d, inD] using h
      obtain ⟨l, hl, rfl⟩ := Option.map_eq_some_iff.mp hh
      have e := scs_ok hl
      refine .inr ⟨p, _, rfl, .inr (tup_sq k2).1, fx, e.2, ?_⟩
      have := q trivial
      rw [e.1, show (T.sc x).v = x.v from rfl, inV_sc]
      simpa [Sc.v] using this
    | _ => cases x <;> simp [T.d, inD] at h
  | _ => cases u2 <;> simp [T.d, inD] at h
theorem hr_notin : HR2 g (inD true) (fun x y H Q => (∃ i j, x = .str i ∧ y = .str j ∧ Q (.bl (!(!(Builtin.Str.occurrences j i 0 j.length 1).isEmpty))) H) ∨ rIn g.c.K true x y H Q) := fun H u1 u2 c Q k1 k2 h q => by
  cases u1 with
  | sc x =>
    have fx : flatV x.v = true := by cases x <;> rfl
    cases u2 with
    | sc y =>
      cases x <;> cases y <;> simp [T.d, inD] at h
      subst h
      refine .inl ⟨_, _, rfl, rfl, ?_⟩
      have := q trivial
      simpa [inStr, Str.length, Sc.v] using this
    | lst p o ys =>
      have hh : (scs (Ts.d ys)).map (fun l => Sc.bl (true ^^ l.any (·.eqB x))) = some c := by cases x <;> simpa [T.d, inD] using h
      obtain ⟨l, hl, rfl⟩ := Option.map_eq_some_iff.mp hh
      have e := scs_ok hl
      refine .inr ⟨p, _, rfl, .inl (lst_sq k2).1, fx, e.2, ?_⟩
      have := q trivial
      rw [e.1, show (T.sc x).v = x.v from rfl, inV_sc]
      simpa [Sc.v] using this
    | tup p o ys =>
      have hh : (scs (Ts.d ys)).map (fun l => Sc.bl (true ^^ l.any (·.eqB x))) = some c := by cases x <;> simpa [T.d, inD] using h
      obtain ⟨l, hl, rfl⟩ := Option.map_eq_some_iff.mp hh
      have e := scs_ok hl
      refine .inr ⟨p, _, rfl, .inr (tup_sq k2).1, fx, e.2, ?_⟩
      have := q trivial
      rw [e.1, show (T.sc x).v = x.v from rfl, inV_sc]
      simpa [Sc.v] using this
    | _ => cases x <;> simp [T.d, inD] at h
  | _ => cases u2 <;> simp [T.d, inD] at h

/-! ### and, or, not -/
variable {ta tb : Cm Bool} {rest : List Expr}
theorem and_imp (σ : L2.St) (H : Hp) (Q : Bool → Hp → Prop) (h : tT g W (mAnd ta tb) σ H Q) : tAnd (tT g W ta) (tT g W tb) σ H Q := by
  obtain ⟨sl, tm, s, h⟩ := h
  refine tT.of s h fun H' sl' k s' h' => ?_
  cases k with
  | true => rw [if_pos rfl]; exact ⟨sl', tm, s', h'⟩
  | false => rw [if_neg Bool.false_ne_true]; exact h' H' sl' s' rfl
theorem or_imp (σ : L2.St) (H : Hp) (Q : Bool → Hp → Prop) (h : tT g W (mOr ta tb) σ H Q) : tOr (tT g W ta) (tT g W tb) σ H Q := by
  obtain ⟨sl, tm, s, h⟩ := h
  refine tT.of s h fun H' sl' k s' h' => ?_
  cases k with
  | false => rw [if_neg Bool.false_ne_true]; exact ⟨sl', tm, s', h'⟩
  | true => rw [if_pos rfl]; exact h' H' sl' s' rfl
theorem w_and (ha : PT X a (tT g W ta)) (hb : PW X (.BoolOp .And (b :: rest) pos) (tT g W tb)) : PW X (.BoolOp .And (a :: b :: rest) pos) (tT g W (mAnd ta tb)) := (pw_and ha hb).imp and_imp
theorem w_or (ha : PT X a (tT g W ta)) (hb : PW X (.BoolOp .Or (b :: rest) pos) (tT g W tb)) : PW X (.BoolOp .Or (a :: b :: rest) pos) (tT g W (mOr ta tb)) := (pw_or ha hb).imp or_imp
theorem t_not (ha : PT X a (tT g W ta)) : PT X (.UnaryOp .Not a pos) (tT g W (mNot ta)) := (pt_not ha).imp fun σ H Q ⟨sl, tm, s, h⟩ =>
  tT.of s h fun H' sl' k s' h' => h' H' sl' s' rfl
/-- a test as a value -/
def mAndV (a b : Cm D) : Cm D := fun ρ => (a ρ).bind fun d ρ => match d with
  | .sc (.bl c) => if c then b ρ else .ok (.bl false) ρ
  | _ => .stuck
def mOrV (a b : Cm D) : Cm D := fun ρ => (a ρ).bind fun d ρ => match d with
  | .sc (.bl c) => if c then .ok (.bl true) ρ else b ρ
  | _ => .stuck
def notD : D → Option D
  | .sc (.bl b) => some (.bl (!b))
  | _ => none
theorem e_and (ha : PE X a (tE g W ma)) (hb : PE X (.BoolOp .And (b :: rest) pos) (tE g W mb)) : PE X (.BoolOp .And (a :: b :: rest) pos) (tE g W (mAndV ma mb)) := (pe_and ha hb).imp fun σ H Q ⟨sl, tm, s, h⟩ => by
  refine tE.of s h fun H' sl' t s' h' => ?_
  cases t with
  | sc x =>
    cases x with
    | bl k =>
      refine ⟨k, rfl, ?_⟩
      cases k with
      | true => rw [if_pos rfl]; exact ⟨sl', tm, s'.pop, h'⟩
      | false => rw [if_neg Bool.false_ne_true]; exact h' H' sl' (.sc (.bl false)) s' rfl rfl
    | _ => exact h'.elim
  | _ => exact h'.elim
theorem e_or (ha : PE X a (tE g W ma)) (hb : PE X (.BoolOp .Or (b :: rest) pos) (tE g W mb)) : PE X (.BoolOp .Or (a :: b :: rest) pos) (tE g W (mOrV ma mb)) := (pe_or ha hb).imp fun σ H Q ⟨sl, tm, s, h⟩ => by
  refine tE.of s h fun H' sl' t s' h' => ?_
  cases t with
  | sc x =>
    cases x with
    | bl k =>
      refine ⟨k, rfl, ?_⟩
      cases k with
      | false => rw [if_neg Bool.false_ne_true]; exact ⟨sl', tm, s'.pop, h'⟩
      | true => rw [if_pos rfl]; exact h' H' sl' (.sc (.bl true)) s' rfl rfl
    | _ => exact h'.elim
  | _ => exact h'.elim
theorem e_not (ha : PE X a (tE g W ma)) : PE X (.UnaryOp .Not a pos) (tE g W (mUn notD ma)) := (pe_not ha).imp fun σ H Q ⟨sl, tm, s, h⟩ => by
  refine tE.of s h fun H' sl' t s' h' => ?_
  cases t with
  | sc x =>
    cases x with
    | bl k => exact ⟨k, rfl, h' H' sl' (.sc (.bl (!k))) (s'.pop.push _ trivial) rfl rfl⟩
    | _ => exact h'.elim
  | _ => exact h'.elim
theorem e_if (hc : PT X c (tT g W ta)) (ha : PE X a (tE g W ma)) (hb : PE X b (tE g W mb)) : PE X (.IfExp c a b pos) (tE g W (mIfE ta ma mb)) := (pe_ifExp hc ha hb).imp fun σ H Q ⟨sl, tm, s, h⟩ => by
  refine tT.of s h fun H' sl' k s' h' => ?_
  cases k with
  | true => rw [if_pos rfl]; exact ⟨sl', tm, s', h'⟩
  | false => rw [if_neg Bool.false_ne_true]; exact ⟨sl', tm, s', h'⟩
/-- a <= b <= c -/
def mChain (f f' : D → D → Option Sc) (a b c : Cm D) : Cm D := fun ρ => (a ρ).bind fun x ρ => (b ρ).bind fun y ρ => (lift (f x y) ρ).bind fun k ρ => match k with
  | .bl true => (c ρ).bind fun z ρ => (lift (f' y z) ρ).bind fun s ρ => .ok (.sc s) ρ
  | .bl false => .ok (.bl false) ρ
  | _ => .stuck
end
end VS

/-! VS, part f: arguments, displays, subscripts, slices, chains, calls of built-ins. -/
namespace VS
open PySem PySem.Spec PyProof.Rows L2

def mArgs : List (Cm D) → Cm (List D)
  | [] => fun ρ => .ok [] ρ
  | m :: ms => fun ρ => (m ρ).bind fun d ρ => (mArgs ms ρ).bind fun ds ρ => .ok (d :: ds) ρ
def tA (g : Gh) (W : WX) (ms : List (Cm D)) : TA := fun σ H Q => ∃ sl tm, SR g H σ sl tm ∧ Lands g W tm (mArgs ms (den sl)) fun ds ρ' => ∀ H' sl' ts, SR g H' σ sl' (ts.reverse ++ tm) → den sl' = ρ' → Ts.d ts = ds → Q (ts.map T.v) H'
theorem _root_.L2.PA.imp {X : Cx} {e : List Expr} {t t' : TA} (h : PA X e t) (w : ∀ σ H Q, t' σ H Q → t σ H Q) : PA X e t' := ⟨fun pos pins s σ H Q I q => h.run pos pins s σ H Q I (w σ H Q q)⟩
theorem Ts.oc_rev (a : Addr) : ∀ ts : List T, Ts.oc a ts.reverse = Ts.oc a ts
  | [] => rfl
  | t :: ts => by simp [Ts.oc_append, Ts.oc, Ts.oc_rev a ts]; omega
theorem Ts.sh_rev (a : Addr) : ∀ ts : List T, Ts.sh a ts.reverse = Ts.sh a ts
  | [] => rfl
  | t :: ts => by simp [Ts.sh_append, Ts.sh, Ts.sh_rev a ts]; omega
def mLst (ms : List (Cm D)) : Cm D := fun ρ => (mArgs ms ρ).bind fun ds ρ => if ds.length ≤ 16777216 then .ok (.lst .own ds) ρ else .stuck
def mTup (ms : List (Cm D)) : Cm D := fun ρ => (mArgs ms ρ).bind fun ds ρ => if ds.length ≤ 16777216 then .ok (.tup ds) ρ else .stuck

section
variable {X : Cx} {g : Gh} {W : WX} {pos : Pos} {a b c e : Expr} {es : List Expr} {ma mb mc : Cm D} {ms : List (Cm D)} {oa ob oc : Opd} {α : Type}
theorem tA.of {σ : L2.St} {H : Hp} {sl : List (Option T)} {tm : List T} {Q : List V → Hp → Prop} {f : List D → Cm α} {k : α → DE → Prop} (s : SR g H σ sl tm) (h : Lands g W tm ((mArgs ms (den sl)).bind f) k)
    (q : ∀ H' sl' ts, SR g H' σ sl' (ts.reverse ++ tm) → Lands g W tm (f (Ts.d ts) (den sl')) k → Q (ts.map T.v) H') : tA g W ms σ H Q := by
  refine ⟨sl, tm, s, ?_⟩
  cases e : mArgs ms (den sl) with
  | ok d ρ =>
    rw [e] at h
    intro H' sl' ts s' e1 e2
    subst e1; subst e2
    exact q H' sl' ts s' h
  | exc x ρ => rw [e] at h; exact h
  | stuck => rw [e] at h; exact h
theorem a_nil : PA X [] (tA g W []) := pa_nil.imp fun σ H Q ⟨sl, tm, s, h⟩ => h H sl [] s rfl rfl
theorem a_cons (ha : PE X e (tE g W ma)) (hr : PA X es (tA g W ms)) (hs : starEach (e :: es) X.env = (false, eval e X.env) :: starEach es X.env := by rfl) : PA X (e :: es) (tA g W (ma :: ms)) :=
  (pa_cons ha hr hs).imp fun σ H Q ⟨sl, tm, s, h⟩ => by
    refine tE.of s h fun H1 sl1 t1 s1 h1 => ?_
    refine tA.of s1 (Lands.drop h1) fun H2 sl2 ts s2 h2 => ?_
    exact h2 H2 sl2 (t1 :: ts) (by simpa using s2) rfl (by simp [Ts.d])
theorem SR.okx {H : Hp} {σ : L2.St} {sl : List (Option T)} {tm ts : List T} (s : SR g H σ sl (ts.reverse ++ tm)) : Ts.ok g.c H ts := by
  have := s.okT
  rw [Ts.ok_iff] at this ⊢
  exact fun t m => this t (List.mem_append_left _ (List.mem_reverse.mpr m))
theorem e_lst (h : PA X es (tA g W ms)) : PE X (.List es pos) (tE g W (mLst ms)) := (pe_lst h).imp fun σ H Q ⟨sl, tm, s, h⟩ => by
  refine tA.of s h fun H1 sl1 ts s1 h1 => ?_
  by_cases hz : (Ts.d ts).length ≤ 16777216
  · rw [if_pos hz] at h1
    rw [Ts.d_len] at hz
    refine ⟨by rw [SZ_eq]; simpa using hz, fun p hp => ?_⟩
    exact h1 _ _ _ (s1.newL hp hz s1.okx fun z => by rw [Ts.oc_rev, Ts.sh_rev]; omega) rfl (by simp [T.d])
  · rw [if_neg hz] at h1; exact h1.elim
theorem e_tup {k : Nat} (h : PA X es (tA g W ms)) : PE X (.Tuple es k pos) (tE g W (mTup ms)) := (pe_tup h).imp fun σ H Q ⟨sl, tm, s, h⟩ => by
  refine tA.of s h fun H1 sl1 ts s1 h1 => ?_
  by_cases hz : (Ts.d ts).length ≤ 16777216
  · rw [if_pos hz] at h1
    rw [Ts.d_len] at hz
    refine ⟨by rw [SZ_eq]; simpa using hz, fun p hp => ?_⟩
    exact h1 _ _ _ (s1.newT hp hz s1.okx fun z => by rw [Ts.oc_rev, Ts.sh_rev]; omega) rfl (by simp [T.d])
  · rw [if_neg hz] at h1; exact h1.elim

/-! ### a <= b <= c -/
theorem chain_imp {f f' : D → D → Option Sc} {r r' : R2} (hr : HR2 g f r) (hr' : HR2 g f' r') (σ : L2.St) (H : Hp) (Q : VK) (h : tE g W (mChain f f' ma mb mc) σ H Q) : tChain r r' (tE g W ma) (tE g W mb) (tE g W mc) σ H Q := by
  obtain ⟨sl, tm, s, h⟩ := h
  refine tE.of s h fun H1 sl1 t1 s1 h1 => ?_
  refine tE.of s1 (Lands.drop h1) fun H2 sl2 t2 s2 h2 => ?_
  have k1 : t1.ok g.c H2 := by have := s2.okT; simp only [Ts.ok] at this; exact this.2.1
  cases q : f t1.d t2.d with
  | none => rw [q] at h2; exact h2.elim
  | some x =>
    rw [q] at h2
    refine hr H2 t1 t2 x _ k1 s2.top q fun gx => ?_
    cases x with
    | bl k =>
      refine ⟨k, rfl, ?_⟩
      cases k with
      | true =>
        refine ite2 (fun _ => ?_) (fun n => absurd rfl n)
        refine tE.of s2 (Lands.drop h2) fun H3 sl3 t3 s3 h3 => ?_
        have k2 : t2.ok g.c H3 := by have := s3.okT; simp only [Ts.ok] at this; exact this.2.1
        cases q2 : f' t2.d t3.d with
        | none => rw [q2] at h3; exact h3.elim
        | some y =>
          rw [q2] at h3
          exact hr' H3 t2 t3 y _ k2 s3.top q2 fun gy => h3 H3 sl3 (.sc y) (s3.pop.pop.pop.push y gy) rfl rfl
      | false =>
        refine ite2 (fun n => absurd n Bool.false_ne_true) (fun _ => ?_)
        exact h2 H2 sl2 (.sc (.bl false)) (s2.pop.pop.push _ trivial) rfl rfl
    | _ => exact h2.elim
theorem e_chain {op op' : CmpOp} {f f' : D → D → Option Sc} {r r' : R2} (ho : OpR X (compareOp op) r) (ho' : OpR X (compareOp op') r') (hr : HR2 g f r) (hr' : HR2 g f' r') (ha : PE X a (tE g W ma)) (hb : PE X b (tE g W mb)) (hc : PE X c (tE g W mc))
    (hm : lastMarks [op, op'] [b, c] = false := by with_unfolding_all rfl) : PE X (.Compare a [op, op'] [b, c] pos) (tE g W (mChain f f' ma mb mc)) := (pe_chain ho ho' ha hb hc hm).imp (chain_imp hr hr')
theorem t_chain {op op' : CmpOp} {f f' : D → D → Option Sc} {r r' : R2} (ho : OpR X (compareOp op) r) (ho' : OpR X (compareOp op') r') (hr : HR2 g f r) (hr' : HR2 g f' r') (ha : PE X a (tE g W ma)) (hb : PE X b (tE g W mb)) (hc : PE X c (tE g W mc))
    (hm : lastMarks [op, op'] [b, c] = false := by with_unfolding_all rfl) : PT X (.Compare a [op, op'] [b, c] pos) (tT g W (mTest (mChain f f' ma mb mc))) := (pt_chain ho ho' ha hb hc hm).imp fun σ H Q q => chain_imp hr hr' σ H _ (test_imp q)

/-! ### subscripts -/
def idxD : D → Int → Option D
  | .sc (.str l), i => (atI l i).map fun c => .str [c]
  | .lst _ xs, i => atI xs i
  | .tup xs, i => atI xs i
  | _, _ => none
def mIdx (oa : Opd) (mb : Cm D) : Cm D := fun ρ => (oa.run ρ).bind fun t ρ => (mb ρ).bind fun j ρ => match oa.get t ρ, j with
  | some x, .sc (.int i) => match idxD x i with
    | some d => match oa with
      | .e _ => .ok d ρ
      | .v k => if d.pur then .ok d ρ else .ok d.fz (ρ.set k (some x.fz))
    | none => .stuck
  | _, _ => .stuck
theorem atI_map {α β : Type} (f : α → β) (xs : List α) (i : Int) : atI (xs.map f) i = (atI xs i).map f := by
  unfold atI
  rw [List.length_map]
  cases ixN xs.length i with
  | none => rfl
  | some j => simp
theorem atI_mem {α : Type} {xs : List α} {i : Int} {x : α} (h : atI xs i = some x) : x ∈ xs := by
  unfold atI at h
  cases e : ixN xs.length i with
  | none => rw [e] at h; cases h
  | some j => rw [e] at h; exact List.mem_of_getElem? h
theorem SR.dup {H : Hp} {σ : L2.St} {sl : List (Option T)} {tm : List T} {i : Nat} {t u : T} (s : SR g H σ sl tm) (h : sl[i]? = some (some t)) (ok : u.ok g.c H) (ho : ∀ a, u.oc a = 0) (hs : ∀ a, u.sh a ≤ t.sh a) : SR g H σ sl (u :: tm) := by
  refine s.tmp (by simp only [Ts.ok]; exact ⟨ok, s.okT⟩) fun a => ?_
  have := ho a; have := hs a
  have z := So_get (f := T.sh a) (s.slot h)
  simp only [Ts.oc, Ts.sh]
  omega
/-- what an index finds, as a tree -/
theorem idx_tree {H : Hp} {u : T} {i : Int} {d : D} (k : u.ok g.c H) (h : idxD u.d i = some d) : ∃ x : T, x.d = d ∧ x.ok g.c H ∧ (∀ a, x.oc a ≤ u.oc a ∧ x.sh a ≤ u.sh a) ∧ (x.fz.ok g.c H) ∧ (∀ a, x.fz.sh a ≤ u.fz.sh a) ∧
    ∀ Q : VK, Q x.v H → rIx g.c.K u.v (.int i) H Q := by
  cases u with
  | sc s =>
    cases s with
    | str l =>
      simp only [T.d, idxD, Option.map_eq_some_iff] at h
      obtain ⟨c, hc, rfl⟩ := h
      simp only [T.ok] at k
      have gk : (Sc.str [c]).good := ⟨by simp, fun z hz => by simp at hz; subst hz; exact k.2 _ (atI_mem hc)⟩
      refine ⟨.sc (.str [c]), rfl, by simpa [T.ok] using gk, fun a => by simp [T.oc, T.sh], by simpa [T.ok, T.fz] using gk, fun a => by simp [T.fz, T.sh], fun Q q => ?_⟩
      exact .inr (.inr ⟨_, i, c, rfl, rfl, by rw [SZ_eq]; simpa [Str.length] using k.1, hc, q⟩)
    | _ => simp [T.d, idxD] at h
  | lst p o xs =>
    simp only [T.d, idxD, Ts.d_map, atI_map, Option.map_eq_some_iff] at h
    obtain ⟨x, hx, rfl⟩ := h
    have q := lst_sq k
    have m := atI_mem hx
    have kx := Ts.ok_iff.mp q.2.2 x m
    refine ⟨x, rfl, kx, fun a => ?_, T.fz_ok x kx, fun a => ?_, fun Q hq => ?_⟩
    · have h1 := Ts.oc_mem (a := a) m; have h2 := Ts.sh_mem (a := a) m
      simp only [T.oc, T.sh]; omega
    · have h1 := Ts.oc_mem (a := a) m; have h2 := Ts.sh_mem (a := a) m
      simp only [T.fz_sh, T.oc, T.sh]; omega
    · exact .inl ⟨p, _, i, _, rfl, rfl, q.1, by rw [atI_map, hx]; rfl, hq⟩
  | tup p o xs =>
    simp only [T.d, idxD, Ts.d_map, atI_map, Option.map_eq_some_iff] at h
    obtain ⟨x, hx, rfl⟩ := h
    have q := tup_sq k
    have m := atI_mem hx
    have kx := Ts.ok_iff.mp q.2.2 x m
    refine ⟨x, rfl, kx, fun a => ?_, T.fz_ok x kx, fun a => ?_, fun Q hq => ?_⟩
    · have h1 := Ts.oc_mem (a := a) m; have h2 := Ts.sh_mem (a := a) m
      simp only [T.oc, T.sh]; omega
    · have h1 := Ts.oc_mem (a := a) m; have h2 := Ts.sh_mem (a := a) m
      simp only [T.fz_sh, T.oc, T.sh]; omega
    · exact .inr (.inl ⟨p, _, i, _, rfl, rfl, q.1, by rw [atI_map, hx]; rfl, hq⟩)
  | _ => simp [T.d, idxD] at h
theorem e_idx (ha : PE X a (tO g W oa)) (hb : PE X b (tE g W mb)) (hK : X.K = g.c.K) (hs : PlainIx b := by exact fun _ _ => rfl) : PE X (.Subscript a b pos) (tE g W (mIdx oa mb)) := (pe_ix (hK ▸ ix_seq) ha hb hs).imp fun σ H Q ⟨sl, tm, s, h⟩ => by
  refine tO.of s h fun H1 sl1 t1 v1 s1 d1 h1 => ?_
  refine tE.of s1 (Lands.drops h1) fun H2 sl2 t2 s2 h2 => ?_
  have d1' : Held g H2 oa σ sl2 t1 v1 := ⟨d1.is⟩
  have hm1 : ∀ u, t1 = some u → u ∈ t2 :: xs? t1 tm := fun u e => by subst e; simp [xs?]
  split at h2
  · rename_i x i ex ei
    split at h2
    · rename_i d hd
      cases t2 with
      | sc y =>
        simp only [T.d, D.int, D.sc.injEq] at ei
        subst ei
        cases oa with
        | e m =>
          cases t1 with
          | none => exact d1.is.elim
          | some u =>
            obtain rfl : v1 = u.v := d1.is
            simp only [Opd.get, Option.map_some, Option.some.injEq] at ex
            subst ex
            have ku : u.ok g.c H2 := by have := s2.okT; simp only [xs?, Ts.ok] at this; exact this.2.1
            obtain ⟨x, rfl, kx, hc, _, _, q⟩ := idx_tree ku hd
            exact q Q (h2 H2 sl2 x (SR.part s2.pop kx hc) rfl rfl)
        | v k =>
          cases t1 with
          | some u => exact d1.is.elim
          | none =>
            have e' : (den sl2)[k]? = some (some x) := by
              simp only [Opd.get] at ex
              cases q : (den sl2)[k]? with
              | none => rw [q] at ex; simp at ex
              | some o => rw [q] at ex; simp at ex; rw [ex]
            obtain ⟨u, e1, e2, e4, e3⟩ := s2.val e'
            have ev : v1 = u.v := by
              have z : σ[k]? = some (some v1) := d1.is
              rw [e3] at z
              exact (Option.some.inj (Option.some.inj z)).symm
            subst ev
            subst e2
            obtain ⟨x, rfl, kx, hc, kf, hf, q⟩ := idx_tree e4 hd
            by_cases hp : x.d.pur = true
            · simp only [hp, if_true] at h2
              exact q Q (h2 H2 sl2 x (SR.dup s2.pop e1 kx (fun a => T.pur_oc a x hp) fun a => (hc a).2) rfl rfl)
            · simp only [hp] at h2
              have s3 := SR.part (u := x.fz) (s2.pop.read e1) kf fun a => ⟨by rw [T.fz_oc]; omega, hf a⟩
              have := h2 H2 (sl2.set k (some u.fz)) x.fz s3 (by rw [den_set]; simp [T.fz_d]) (T.fz_d x)
              rw [T.fz_v] at this
              exact q Q this
      | _ => simp [T.d] at ei
    · exact h2.elim
  · exact h2.elim

/-! ### slices -/
def cutL {α : Type} (xs : List α) (lo hi : Option Int) : List α := (xs.drop (HT.sIx xs.length 0 lo)).take (HT.sIx xs.length xs.length hi - HT.sIx xs.length 0 lo)
theorem cutL_map {α β : Type} (f : α → β) (xs : List α) (lo hi : Option Int) : cutL (xs.map f) lo hi = (cutL xs lo hi).map f := by
  unfold cutL; simp
theorem cutL_mem {α : Type} {xs : List α} {lo hi : Option Int} {x : α} (h : x ∈ cutL xs lo hi) : x ∈ xs := List.mem_of_mem_drop (List.mem_of_mem_take h)
theorem cutL_len {α : Type} (xs : List α) (lo hi : Option Int) : (cutL xs lo hi).length ≤ xs.length := by
  unfold cutL; simp; omega
def mPart : Option (Cm D) → Cm (Option Int)
  | none => fun ρ => .ok none ρ
  | some m => fun ρ => (m ρ).bind fun d ρ => match d with
    | .sc (.int i) => .ok (some i) ρ
    | _ => .stuck
def tPt (g : Gh) (W : WX) (m : Cm (Option Int)) : TO := fun σ H Q => ∃ sl tm, SR g H σ sl tm ∧ Lands g W tm (m (den sl)) fun o ρ' => ∀ H' sl', SR g H' σ sl' tm → den sl' = ρ' → Q o H'
theorem _root_.L2.PO.imp {X : Cx} {e : Option Expr} {t t' : TO} (h : PO X e t) (w : ∀ σ H Q, t' σ H Q → t σ H Q) : PO X e t' := ⟨fun pins s σ H Q I q => h.run pins s σ H Q I (w σ H Q q)⟩
theorem p_none : PO X none (tPt g W (mPart none)) := po_none.imp fun σ H Q ⟨sl, tm, s, h⟩ => h H sl s rfl
theorem p_some (h : PE X a (tE g W ma)) : PO X (some a) (tPt g W (mPart (some ma))) := (po_some h).imp fun σ H Q ⟨sl, tm, s, h⟩ => by
  refine tE.of s h fun H1 sl1 t1 s1 h1 => ?_
  cases t1 with
  | sc x =>
    cases x with
    | int i => exact ⟨i, rfl, h1 H1 sl1 s1.pop rfl⟩
    | _ => exact h1.elim
  | _ => exact h1.elim
theorem tPt.of {σ : L2.St} {H : Hp} {sl : List (Option T)} {tm : List T} {Q : Option Int → Hp → Prop} {m : Cm (Option Int)} {f : Option Int → Cm α} {k : α → DE → Prop} (s : SR g H σ sl tm) (h : Lands g W tm ((m (den sl)).bind f) k)
    (q : ∀ H' sl' o, SR g H' σ sl' tm → Lands g W tm (f o (den sl')) k → Q o H') : tPt g W m σ H Q := by
  refine ⟨sl, tm, s, ?_⟩
  cases e : m (den sl) with
  | ok d ρ =>
    rw [e] at h
    intro H' sl' s' e1
    subst e1
    exact q H' sl' d s' h
  | exc x ρ => rw [e] at h; exact h
  | stuck => rw [e] at h; exact h
def sliceD (lo hi : Option Int) : D → Option D
  | .sc (.str l) => some (.str (cutL l lo hi))
  | .lst _ xs => if Ds.pur xs then some (.lst .own (cutL xs lo hi)) else none
  | _ => none
def mSlc (oa : Opd) (lo hi : Option (Cm D)) : Cm D := fun ρ => (oa.run ρ).bind fun t ρ => (mPart lo ρ).bind fun l ρ => (mPart hi ρ).bind fun u ρ => match oa.get t ρ with
  | some x => lift (sliceD l u x) ρ
  | none => .stuck
theorem Ds.pur_mem {t : T} : ∀ {ts : List T}, Ds.pur (Ts.d ts) = true → t ∈ ts → t.d.pur = true
  | [], _, h => by cases h
  | u :: ts, h, m => by
    simp only [Ts.d, Ds.pur, Bool.and_eq_true] at h
    rcases List.mem_cons.mp m with rfl | m
    · exact h.1
    · exact Ds.pur_mem h.2 m
theorem e_slc {lo hi : Option Expr} {ml mh : Option (Cm D)} {p2 : Pos} (ha : PE X a (tO g W oa)) (hl : PO X lo (tPt g W (mPart ml))) (hh : PO X hi (tPt g W (mPart mh))) (hK : X.K = g.c.K) : PE X (.Subscript a (.Slice lo hi none p2) pos) (tE g W (mSlc oa ml mh)) :=
  (pe_slice (SlR.or sl_list sl_str) ha hl hh).imp fun σ H Q ⟨sl, tm, s, h⟩ => by
  refine tO.of s h fun H1 sl1 t1 v1 s1 d1 h1 => ?_
  refine tPt.of s1 (Lands.drops h1) fun H2 sl2 l s2 h2 => ?_
  refine tPt.of s2 h2 fun H3 sl3 u s3 h3 => ?_
  have d1' : Held g H3 oa σ sl3 t1 v1 := ⟨d1.is⟩
  have hm1 : ∀ u, t1 = some u → u ∈ xs? t1 tm := fun u e => by subst e; simp [xs?]
  split at h3
  · rename_i x ex
    obtain ⟨w, kw, ew, fw, hw⟩ := d1'.tree s3 hm1 ex
    subst fw ew
    cases w with
    | sc y =>
      cases y with
      | str z =>
        simp only [T.d, sliceD, lift_some] at h3
        simp only [T.ok] at kw
        refine .inr ⟨_, rfl, by rw [SZ_eq]; simpa [Str.length] using kw.1, ?_⟩
        have gk : (Sc.str (cutL z l u)).good := ⟨Nat.le_trans (cutL_len _ _ _) kw.1, fun c hc => kw.2 c (cutL_mem hc)⟩
        exact h3 H3 sl3 (.sc (.str (cutL z l u))) (s3.xs.push _ gk) rfl rfl
      | _ => exact h3.elim
    | lst p o xs =>
      simp only [T.d, sliceD] at h3
      split at h3
      · rename_i hp
        have q := lst_sq kw
        refine .inl ⟨p, _, rfl, by rw [hK]; exact q.1, fun n hn => ?_⟩
        have ec : cutV (xs.map T.v) l u = (cutL xs l u).map T.v := cutL_map T.v xs l u
        rw [ec]
        -- the new list's items are held by the old one too
        have hnew : SR g H3 σ sl3 ((cutL xs l u).reverse ++ tm) := by
          have hO : ∀ a, Ts.oc a (cutL xs l u) = 0 := fun a => Nat.eq_zero_of_not_pos fun hpos => by
            obtain ⟨t, m, ht⟩ := Ts.pos_oc hpos
            have := T.pur_oc a t (Ds.pur_mem hp (cutL_mem m))
            omega
          have hS : ∀ a, 0 < Ts.sh a (cutL xs l u) → 0 < Ts.sh a xs := fun a hpos => by
            obtain ⟨t, m, ht⟩ := Ts.pos_sh hpos
            have := Ts.sh_mem (a := a) (cutL_mem m)
            omega
          have okc : Ts.ok g.c H3 ((cutL xs l u).reverse ++ tm) := by
            rw [Ts.ok_iff]
            intro t m
            rcases List.mem_append.mp m with m | m
            · exact Ts.ok_iff.mp q.2.2 t (cutL_mem (List.mem_reverse.mp m))
            · exact Ts.ok_iff.mp s3.xs.okT t m
          refine s3.tmp okc fun a => ?_
          have z1 := hO a
          have z2 := hS a
          have z3 := hw a
          have z4 : Ts.sh a xs ≤ (T.lst p o xs).sh a := by simp only [T.sh]; omega
          rw [Ts.oc_append, Ts.sh_append, Ts.oc_rev, Ts.sh_rev]
          cases t1 with
          | none => simp only [xs?] at z3 ⊢; omega
          | some w => simp only [xs?, Ts.oc, Ts.sh] at z3 ⊢; omega
        exact h3 _ _ _ (hnew.newL hn (Nat.le_trans (cutL_len _ _ _) q.2.1) (by
          rw [Ts.ok_iff]; exact fun t m => Ts.ok_iff.mp q.2.2 t (cutL_mem m)) fun z => by rw [Ts.oc_rev, Ts.sh_rev]; omega) rfl (by simp [T.d, Ts.d_map, cutL_map])
      · exact h3.elim
    | _ => exact h3.elim
  · exact h3.elim
end
end VS

/-! VS, part g: statements. -/
namespace VS
open PySem PySem.Spec PyProof.Rows L2

inductive Out where
  | nx | brk | ct
  | ret (d : D)
  deriving Repr
/-- what is wanted behind a statement, by the data -/
def Post (g : Gh) (tm : List T) (De : Ends) (o : Out) (ρ' : DE) : Prop := match o with
  | .nx => ∀ H' σ' sl', SR g H' σ' sl' tm → den sl' = ρ' → De.nx σ' H'
  | .brk => ∀ H' σ' sl', SR g H' σ' sl' tm → den sl' = ρ' → De.bk σ' H'
  | .ct => ∀ H' σ' sl', SR g H' σ' sl' tm → den sl' = ρ' → De.ct σ' H'
  | .ret d => ∀ H' σ' sl' t, SR g H' σ' sl' (t :: tm) → den sl' = ρ' → t.d = d → De.rt t.v H'
def tS (g : Gh) (W : WX) (m : Cm Out) : TS := fun De σ H => ∃ sl tm, SR g H σ sl tm ∧ Lands g W tm (m (den sl)) (Post g tm De)
theorem _root_.L2.PS.imp {X : Cx} {e : Stmt} {t t' : TS} (h : PS X e t) (w : ∀ De σ H, t' De σ H → t De σ H) : PS X e t' := ⟨fun pins s σ H De I q => h.run pins s σ H De I (w De σ H q)⟩
theorem _root_.L2.PSs.imp {X : Cx} {e : List Stmt} {t t' : TS} (h : PSs X e t) (w : ∀ De σ H, t' De σ H → t De σ H) : PSs X e t' := ⟨fun pins s σ H De I q => h.run pins s σ H De I (w De σ H q)⟩

def mSeq (a b : Cm Out) : Cm Out := fun ρ => (a ρ).bind fun o ρ => match o with
  | .nx => b ρ
  | o => .ok o ρ
def mNext : Cm Out := fun ρ => .ok .nx ρ
def mBreak : Cm Out := fun ρ => .ok .brk ρ
def mCont : Cm Out := fun ρ => .ok .ct ρ
def mSet (i : Nat) (m : Cm D) : Cm Out := fun ρ => (m ρ).bind fun d ρ => .ok .nx (ρ.set i (some d))
def mAug (f : D → D → Option D) (i : Nat) (m : Cm D) : Cm Out := fun ρ => match ρ[i]? with
  | some (some _) => (m ρ).bind fun y ρ => match ρ[i]? with
    | some (some x) => (lift (f x y) ρ).bind fun d ρ => .ok .nx (ρ.set i (some d))
    | _ => .stuck
  | _ => .stuck
def mRet (m : Cm D) : Cm Out := fun ρ => (m ρ).bind fun d ρ => .ok (.ret d) ρ
def mDrop (m : Cm D) : Cm Out := fun ρ => (m ρ).bind fun _ ρ => .ok .nx ρ
def mIf (c : Cm Bool) (a b : Cm Out) : Cm Out := mIfE c a b
/-- the items of what is walked, one by one -/
def forL (g : D → Cm Unit) (b : Cm Out) : List D → Cm Out
  | [] => fun ρ => .ok .nx ρ
  | d :: ds => fun ρ => (g d ρ).bind fun _ ρ => (b ρ).bind fun o ρ => match o with
    | .nx => forL g b ds ρ
    | .ct => forL g b ds ρ
    | .brk => .ok .nx ρ
    | .ret x => .ok (.ret x) ρ
def mFor (m : Cm (List D)) (g : D → Cm Unit) (b : Cm Out) : Cm Out := fun ρ => (m ρ).bind fun ds ρ => forL g b ds ρ
def whileL (c : Cm Bool) (b : Cm Out) : Nat → Cm Out
  | 0 => fun _ => .stuck
  | n + 1 => fun ρ => (c ρ).bind fun k ρ => if k then (b ρ).bind fun o ρ => match o with
      | .nx => whileL c b n ρ
      | .ct => whileL c b n ρ
      | .brk => .ok .nx ρ
      | .ret x => .ok (.ret x) ρ
    else .ok .nx ρ
def mPut (i : Nat) : D → Cm Unit := fun d ρ => .ok () (ρ.set i (some d))

section
variable {X : Cx} {g : Gh} {W : WX} {pos : Pos} {a b c e tg iter : Expr} {st : Stmt} {sts sa sb body : List Stmt} {ma mb : Cm D} {mc : Cm Bool} {m m' : Cm Out} {α : Type}
theorem tS.of {De De' : Ends} {σ : L2.St} {H : Hp} {sl : List (Option T)} {tm : List T} {f : Out → Cm α} {k : α → DE → Prop} (s : SR g H σ sl tm) (h : Lands g W tm ((m (den sl)).bind f) k)
    (q : ∀ o sl', Lands g W tm (f o (den sl')) k → Post g tm De' o (den sl')) (hp : ∀ o sl', Post g tm De' o (den sl') → Post g tm De o (den sl')) (hd : ∀ ρ, ∃ sl', ρ = den sl') : tS g W m De σ H := by
  refine ⟨sl, tm, s, ?_⟩
  cases e : m (den sl) with
  | ok o ρ =>
    rw [e] at h
    obtain ⟨sl', rfl⟩ := hd ρ
    exact hp o sl' (q o sl' h)
  | exc x ρ => rw [e] at h; exact h
  | stuck => rw [e] at h; exact h
theorem ss_nil : PSs X [] (tS g W mNext) := pss_nil.imp fun De σ H ⟨sl, tm, s, h⟩ => h H σ sl s rfl
theorem seq_imp (De : Ends) (σ : L2.St) (H : Hp) (q : tS g W (mSeq m m') De σ H) : tSeq (tS g W m) (tS g W m') De σ H := by
  obtain ⟨sl, tm, s, h⟩ := q
  refine ⟨sl, tm, s, ?_⟩
  unfold mSeq at h
  cases e : m (den sl) with
  | ok o ρ =>
    rw [e] at h
    cases o with
    | nx => exact fun H' σ' sl' s' e' => ⟨sl', tm, s', by subst e'; exact h⟩
    | brk => exact h
    | ct => exact h
    | ret d => exact h
  | exc x ρ => rw [e] at h; exact h
  | stuck => rw [e] at h; exact h
theorem ss_cons (h1 : PS X st (tS g W m)) (h2 : PSs X sts (tS g W m')) : PSs X (st :: sts) (tS g W (mSeq m m')) := (pss_cons h1 h2).imp seq_imp
theorem ss_one (h1 : PS X st (tS g W m)) : PSs X [st] (tS g W m) := pss_one h1
theorem s_pass : PS X (.Pass pos) (tS g W mNext) := ps_pass.imp fun De σ H ⟨sl, tm, s, h⟩ => h H σ sl s rfl
theorem s_break : PS X (.Break pos) (tS g W mBreak) := ps_break.imp fun De σ H ⟨sl, tm, s, h⟩ => h H σ sl s rfl
theorem s_cont : PS X (.Continue pos) (tS g W mCont) := ps_continue.imp fun De σ H ⟨sl, tm, s, h⟩ => h H σ sl s rfl
theorem not_io {i : Nat} {l : List Nat} (h : g.io.map (·.1) = l) (hi : l.contains i = false) : ∀ p ∈ g.io, p.1 ≠ i := fun p hp e => by
  have : i ∈ l := by rw [← h, ← e]; exact List.mem_map_of_mem hp
  simp at hi
  exact hi this
theorem set_imp {i : Nat} (hi : i < g.N) (hio : ∀ p ∈ g.io, p.1 ≠ i) (De : Ends) (σ : L2.St) (H : Hp) (q : tS g W (mSet i ma) De σ H) : tAsg (tE g W ma) (gName i) De σ H := by
  obtain ⟨sl, tm, s, h⟩ := q
  refine tE.of s h fun H' sl' t s' h' => ?_
  exact h' H' _ _ (s'.store hi hio) (by rw [den_set]; rfl)
theorem s_set {i : Nat} {x : Str} {pos' : Pos} (hp : PS X (.Assign [.Name x pos'] e pos) (tAsg (tE g W ma) (gName i))) (hi : i < g.N) (hio : ∀ p ∈ g.io, p.1 ≠ i) : PS X (.Assign [.Name x pos'] e pos) (tS g W (mSet i ma)) :=
  hp.imp (set_imp hi hio)
theorem s_ret (h : PE X e (tE g W ma)) : PS X (.Return (some e) pos) (tS g W (mRet ma)) := (ps_ret h).imp fun De σ H ⟨sl, tm, s, h⟩ => by
  refine tE.of s h fun H' sl' t s' h' => ?_
  exact h' H' σ sl' t s' rfl rfl
theorem s_retN : PS X (.Return none pos) (tS g W (mRet (mC .non))) := ps_retN.imp fun De σ H ⟨sl, tm, s, h⟩ => h H σ sl (.sc .non) (s.push _ trivial) rfl rfl
theorem s_expr (h : PE X e (tE g W ma)) (hs : swapsWith e none pos.line X.env = pure false := by rfl) : PS X (.Expr e pos) (tS g W (mDrop ma)) := (ps_expr h hs).imp fun De σ H ⟨sl, tm, s, h⟩ => by
  refine tE.of s h fun H' sl' t s' h' => ?_
  exact h' H' σ sl' s'.pop rfl
theorem s_if (hc : PT X c (tT g W mc)) (ha : PSs X sa (tS g W m)) (hb : PSs X sb (tS g W m')) : PS X (.If c sa sb pos) (tS g W (mIf mc m m')) := (ps_if hc ha hb).imp fun De σ H ⟨sl, tm, s, h⟩ => by
  refine tT.of s h fun H' sl' k s' h' => ?_
  cases k with
  | true => rw [if_pos rfl]; exact ⟨sl', tm, s', h'⟩
  | false => rw [if_neg Bool.false_ne_true]; exact ⟨sl', tm, s', h'⟩

/-! ### targets -/
def tG (g : Gh) (W : WX) (f : D → Cm Unit) : TG := fun v σ H Q => ∃ sl tm t, SR g H σ sl (t :: tm) ∧ t.v = v ∧ Lands g W tm (f t.d (den sl)) fun _ ρ' => ∀ H' σ' sl', SR g H' σ' sl' tm → den sl' = ρ' → Q σ' H'
theorem _root_.L2.PG.imp {X : Cx} {e : Expr} {t t' : TG} (h : PG X e t) (w : ∀ v σ H Q, t' v σ H Q → t v σ H Q) : PG X e t' := ⟨fun pins s σ H v u Q I r q => h.run pins s σ H v u Q I r (w v σ H Q q)⟩
theorem g_name {i : Nat} (hp : PG X tg (gName i)) (hi : i < g.N) (hio : ∀ p ∈ g.io, p.1 ≠ i) : PG X tg (tG g W (mPut i)) := hp.imp fun v σ H Q ⟨sl, tm, t, s, e, h⟩ => by
  subst e
  exact h H _ _ (s.store hi hio) (by rw [den_set]; rfl)
/-- the targets of a tuple's items, from the left -/
def putAll : List (D → Cm Unit) → List D → Cm Unit
  | [], [] => fun ρ => .ok () ρ
  | f :: fs, d :: ds => fun ρ => (f d ρ).bind fun _ ρ => putAll fs ds ρ
  | _, _ => fun _ => .stuck
def mUnp (fs : List (D → Cm Unit)) : D → Cm Unit
  | .tup ds => putAll fs ds
  | _ => fun _ => .stuck
def tGs (g : Gh) (W : WX) (fs : List (D → Cm Unit)) : TGs := fun vs σ H Q => ∃ sl tm ts, SR g H σ sl (ts ++ tm) ∧ ts.map T.v = vs ∧ Lands g W tm (putAll fs (Ts.d ts) (den sl)) fun _ ρ' => ∀ H' σ' sl', SR g H' σ' sl' tm → den sl' = ρ' → Q σ' H'
theorem _root_.L2.PGs.imp {X : Cx} {e : List Expr} {t t' : TGs} (h : PGs X e t) (w : ∀ v σ H Q, t' v σ H Q → t v σ H Q) : PGs X e t' := ⟨fun pins s σ H v u Q I r q => h.run pins s σ H v u Q I r (w v σ H Q q)⟩
theorem Lands.dropsL {tm : List T} {r : R α} {k : α → DE → Prop} : ∀ {ts : List T}, Lands g W tm r k → Lands g W (ts ++ tm) r k
  | [], h => h
  | t :: ts, h => Lands.drop (Lands.dropsL (ts := ts) h)
theorem gs_nil : PGs X [] (tGs g W []) := pgs_nil.imp fun vs σ H Q ⟨sl, tm, ts, s, e, h⟩ => by
  cases ts with
  | nil => exact ⟨e.symm, h H σ sl s rfl⟩
  | cons t ts => exact h.elim
theorem gs_cons {es : List Expr} {f : D → Cm Unit} {fs : List (D → Cm Unit)} (h1 : PG X e (tG g W f)) (h2 : PGs X es (tGs g W fs)) (hs : (assignEach (e :: es) X.env).map (·.2) = assign e X.env :: (assignEach es X.env).map (·.2) := by rfl) :
    PGs X (e :: es) (tGs g W (f :: fs)) := (pgs_cons h1 h2 hs).imp fun vs σ H Q ⟨sl, tm, ts, s, e, h⟩ => by
  cases ts with
  | nil => exact h.elim
  | cons t ts =>
    refine ⟨t.v, ts.map T.v, e.symm, sl, ts ++ tm, t, s, rfl, ?_⟩
    simp only [Ts.d, putAll] at h
    cases q : f t.d (den sl) with
    | ok u ρ =>
      rw [q] at h
      intro H' σ' sl' s' e'
      exact ⟨sl', tm, ts, s', rfl, by subst e'; exact h⟩
    | exc x ρ => rw [q] at h; exact Lands.dropsL (r := (R.exc x ρ : R Unit)) (k := fun _ _ => False) (ts := ts) h
    | stuck => rw [q] at h; exact h
theorem SR.open_ {H : Hp} {σ : L2.St} {sl : List (Option T)} {tm : List T} {p : Addr} {st : Bool} {xs : List T} (s : SR g H σ sl (T.tup p st xs :: tm)) : SR g H σ sl (xs ++ tm) := by
  have k := s.okT
  simp only [Ts.ok] at k
  have q := tup_sq k.1
  refine s.tmp ?_ fun a => ?_
  · rw [Ts.ok_iff]
    intro t m
    rcases List.mem_append.mp m with m | m
    · exact Ts.ok_iff.mp q.2.2 t m
    · exact Ts.ok_iff.mp k.2 t m
  · rw [Ts.oc_append, Ts.sh_append]
    simp only [Ts.oc, Ts.sh, T.oc, T.sh]
    omega
theorem putAll_len {fs : List (D → Cm Unit)} {ds : List D} {ρ : DE} (h : fs.length ≠ ds.length) (hc : fs = [] ∨ True) : True := trivial
theorem g_tup {es : List Expr} {k n : Nat} {fs : List (D → Cm Unit)} (hc : X.calm = true) (h : PGs X es (tGs g W fs)) (hK : X.K = g.c.K)
    (hn : (assignEach es X.env).length = n := by rfl) (hst : (assignEach es X.env).findIdx? (·.1) = none := by rfl) (hfn : fs.length = n := by rfl) : PG X (.Tuple es k pos) (tG g W (fun d ρ => match d with
      | .tup ds => if ds.length = fs.length then putAll fs ds ρ else .stuck
      | _ => .stuck)) := (pg_tup hc h hn hst).imp fun v σ H Q ⟨sl, tm, t, s, e, h⟩ => by
  subst e
  cases t with
  | tup p st xs =>
    simp only [T.d] at h
    split at h
    · rename_i hl
      rw [Ts.d_len] at hl
      have q := tup_sq s.top
      refine ⟨p, _, rfl, by rw [hK]; exact q.1, by simp; omega, sl, tm, xs, s.open_, rfl, h⟩
    · exact h.elim
  | _ => exact h.elim
/-- target = value -/
def mAsg (ma : Cm D) (f : D → Cm Unit) : Cm Out := fun ρ => (ma ρ).bind fun d ρ => (f d ρ).bind fun _ ρ => .ok .nx ρ
theorem s_asg {f : D → Cm Unit} (he : PE X e (tE g W ma)) (hg : PG X tg (tG g W f)) (hs : swapsWithSole [tg] e pos.line X.env = pure false := by rfl) (hw : swappedStores [tg] e X.env = pure none := by rfl)
    (h1 : (assignEach [tg] X.env).map (·.2) = [assign tg X.env] := by rfl) : PS X (.Assign [tg] e pos) (tS g W (mAsg ma f)) := (ps_asg he hg hs hw h1).imp fun De σ H ⟨sl, tm, s, h⟩ => by
  refine tE.of s h fun H' sl' t s' h' => ?_
  refine ⟨sl', tm, t, s', rfl, ?_⟩
  cases q : f t.d (den sl') with
  | ok u ρ => rw [q] at h'; exact h'
  | exc x ρ => rw [q] at h'; exact h'
  | stuck => rw [q] at h'; exact h'
/-- a, b = x, y -/
def mPar (i j : Nat) (ma mb : Cm D) : Cm Out := fun ρ => (ma ρ).bind fun x ρ => (mb ρ).bind fun y ρ => .ok .nx ((ρ.set i (some x)).set j (some y))
theorem s_par {i j : Nat} {hp : PS X st (tPar i j (tA g W [ma, mb]))} (hi : i < g.N) (hj : j < g.N) (hio : ∀ p ∈ g.io, p.1 ≠ i) (hjo : ∀ p ∈ g.io, p.1 ≠ j) : PS X st (tS g W (mPar i j ma mb)) := hp.imp fun De σ H ⟨sl, tm, s, h⟩ => by
  refine tA.of (f := fun ds ρ => match ds with
    | [x, y] => .ok Out.nx ((ρ.set i (some x)).set j (some y))
    | _ => .stuck) (k := Post g tm De) s ?_ fun H1 sl1 ts s1 h1 => ?_
  · revert h
    unfold mPar mArgs mArgs mArgs
    cases ma (den sl) with
    | ok x ρ => cases e : mb ρ <;> simp [e, R.bind, Lands]
    | exc x ρ => simp [R.bind, Lands]
    | stuck => simp [R.bind, Lands]
  · match ts, s1, h1 with
    | [], _, h1 => exact h1.elim
    | [_], _, h1 => exact h1.elim
    | _ :: _ :: _ :: _, _, h1 => exact h1.elim
    | [t, u], s1, h1 =>
      refine ⟨t.v, u.v, rfl, ?_⟩
      have s2 : SR g H1 σ sl1 (t :: u :: tm) := s1.tmp (by have := s1.okT; simp [Ts.ok] at this ⊢; exact ⟨this.2.1, this.1, this.2.2⟩) fun a => by simp [Ts.oc, Ts.sh]; omega
      exact h1 H1 _ _ ((s2.store hi hio).store hj hjo) (by rw [den_set, den_set]; rfl)
end
end VS

/-! VS, part h: x += e, for, while, what is walked. -/
namespace VS
open PySem PySem.Spec PyProof.Rows L2

section
variable {X : Cx} {g : Gh} {W : WX} {pos : Pos} {a b c e tg iter : Expr} {st : Stmt} {sts sa sb body : List Stmt} {ma mb : Cm D} {mc : Cm Bool} {m m' : Cm Out} {α : Type}
/-! ### x += e of ints and texts -/
def augA : D → D → Option D
  | .sc (.int i), .sc (.int j) => some (.int (i + j))
  | .sc (.str a), .sc (.str b) => if a.length + b.length ≤ 16777216 then some (.str (a ++ b)) else none
  | _, _ => none
theorem aug_sc {f : D → D → Option D} {ti : TIp} {i : Nat} (hi : i < g.N) (hio : ∀ p ∈ g.io, p.1 ≠ i)
    (hf : ∀ x y d, f x y = some d → ∃ a b c : Sc, x = .sc a ∧ y = .sc b ∧ d = .sc c ∧ (a.good → b.good → c.good) ∧ ∀ H Q, Q c.v H → ti a.v b.v H Q) (De : Ends) (σ : L2.St) (H : Hp) (q : tS g W (mAug f i ma) De σ H) : tAug i (tE g W ma) ti De σ H := by
  obtain ⟨sl, tm, s, h⟩ := q
  unfold mAug at h
  split at h
  · rename_i d0 e0
    obtain ⟨t0, e1, _, _, e3⟩ := s.val e0
    refine ⟨t0.v, e3, ?_⟩
    refine tE.of s h fun H' sl' t s' h' => ?_
    split at h'
    · rename_i x ex
      obtain ⟨t1, g1, g2, g4, g3⟩ := s'.val ex
      rw [e3] at g3
      have ev : t0.v = t1.v := Option.some.inj (Option.some.inj g3)
      subst g2
      cases qf : f t1.d t.d with
      | none => rw [qf] at h'; exact h'.elim
      | some d =>
        rw [qf] at h'
        obtain ⟨x, y, z, k1, k2, rfl, kg, kt⟩ := hf _ _ _ qf
        cases t1 with
        | sc x' =>
          cases t with
          | sc y' =>
            simp only [T.d, D.sc.injEq] at k1 k2
            subst k1 k2
            rw [ev]
            have gx : x'.good := by simpa [T.ok] using g4
            have gy : y'.good := by simpa [T.ok] using s'.top
            refine kt H' _ ?_
            exact h' H' _ _ ((s'.pop.push z (kg gx gy)).store hi hio) (by rw [den_set]; rfl)
          | _ => simp [T.d] at k2
        | _ => simp [T.d] at k1
    · exact h'.elim
  · exact h.elim
theorem ip_of {op : Operator} {r : R2} (h : OpR X (inplaceOp op) r) : PIp X op r := fun pins s σ H x y v u Q I r1 r2 q => h pins s σ H x y v u Q I r1 r2 q
theorem ip_addA : PIp X .Add (fun x y H Q => (∃ i j, x = .int i ∧ y = .int j ∧ Q (.int (i + j)) H) ∨ ∃ i j, x = .str i ∧ y = .str j ∧ i.length + j.length ≤ sizeLine ∧ Q (.str (i ++ j)) H) := ip_of (OpR.or iop_add iop_add_str)
theorem s_augA {i : Nat} {x : Str} {pos' : Pos} (hp : PS X (.AugAssign (.Name x pos') .Add e pos) (tAug i (tE g W ma) (fun x y H Q => (∃ i j, x = .int i ∧ y = .int j ∧ Q (.int (i + j)) H) ∨ ∃ i j, x = .str i ∧ y = .str j ∧ i.length + j.length ≤ sizeLine ∧ Q (.str (i ++ j)) H)))
    (hi : i < g.N) (hio : ∀ p ∈ g.io, p.1 ≠ i) : PS X (.AugAssign (.Name x pos') .Add e pos) (tS g W (mAug augA i ma)) := hp.imp (aug_sc hi hio fun x y d h => by
  unfold augA at h
  split at h
  · cases h
    exact ⟨_, _, _, rfl, rfl, rfl, fun _ _ => trivial, fun H Q q => .inl ⟨_, _, rfl, rfl, q⟩⟩
  · split at h
    · rename_i x y hz
      cases h
      exact ⟨_, _, _, rfl, rfl, rfl, fun gx gy => good_append gx gy hz, fun H Q q => .inr ⟨_, _, rfl, rfl, by rw [SZ_eq]; simpa [Str.length] using hz, by rw [Str.app]; exact q⟩⟩
    · cases h
  · cases h)
theorem s_augS {i : Nat} {x : Str} {pos' : Pos} (hp : PS X (.AugAssign (.Name x pos') .Sub e pos) (tAug i (tE g W ma) (ipI fun i j => i - j)))
    (hi : i < g.N) (hio : ∀ p ∈ g.io, p.1 ≠ i) : PS X (.AugAssign (.Name x pos') .Sub e pos) (tS g W (mAug subD i ma)) := hp.imp (aug_sc hi hio fun x y d h => by
  unfold subD at h
  split at h
  · cases h
    exact ⟨_, _, _, rfl, rfl, rfl, fun _ _ => trivial, fun H Q q => ⟨_, _, rfl, rfl, q⟩⟩
  · cases h)

/-! ### what is walked -/
/-- an iterator that gives these data, one by one, while hd is held -/
structure ItOk (g : Gh) (J : It) (hd : List T) (ds : List D) : Prop where
  stop : ∀ H σ sl tm, SR g H σ sl (hd ++ tm) → J.stop ds.length H
  go : ∀ i d H σ sl tm, SR g H σ sl (hd ++ tm) → ds[i]? = some d → J.go i H ∧ ∀ x H', J.yld i H x H' → ∃ t : T, SR g H' σ sl (t :: (hd ++ tm)) ∧ t.d = d ∧ t.v = x
def tI (g : Gh) (W : WX) (m : Cm (List D)) : TI := fun σ H R => ∃ sl tm, SR g H σ sl tm ∧ Lands g W tm (m (den sl)) fun ds ρ' => ∀ H' sl' hd J, SR g H' σ sl' (hd ++ tm) → den sl' = ρ' → ItOk g J hd ds → R J H'
theorem _root_.L2.PI.imp {X : Cx} {tg e : Expr} {t t' : TI} (h : PI X tg e t) (w : ∀ σ H Q, t' σ H Q → t σ H Q) : PI X tg e t' := ⟨fun pins s σ H Q I q => h.run pins s σ H Q I (w σ H Q q)⟩
theorem exP.dropsL {tm : List T} {x : Ex} {ρ : DE} : ∀ {ts : List T}, exP g W tm x ρ → exP g W (ts ++ tm) x ρ
  | [], h => h
  | t :: ts, h => exP.drop (exP.dropsL (ts := ts) h)
theorem SR.popL {H : Hp} {σ : L2.St} {sl : List (Option T)} {tm : List T} : ∀ {ts : List T}, SR g H σ sl (ts ++ tm) → SR g H σ sl tm
  | [], h => h
  | t :: ts, h => SR.popL (ts := ts) h.pop
theorem SR.popL1 {H : Hp} {σ : L2.St} {sl : List (Option T)} {tm : List T} {u : T} : ∀ {ts : List T}, SR g H σ sl (u :: (ts ++ tm)) → SR g H σ sl (u :: tm)
  | [], h => h
  | t :: ts, h => SR.popL1 (ts := ts) (h.tmp (by have := h.okT; simp only [List.cons_append, Ts.ok] at this ⊢; exact ⟨this.1, this.2.2⟩) fun a => by simp only [List.cons_append, Ts.oc, Ts.sh]; omega)
theorem for_imp {mi : Cm (List D)} {f : D → Cm Unit} (De : Ends) (σ : L2.St) (H : Hp) (q : tS g W (mFor mi f m) De σ H) : tFor (tI g W mi) (tG g W f) (tS g W m) De σ H := by
  obtain ⟨sl, tm, s, h⟩ := q
  unfold mFor at h
  refine ⟨sl, tm, s, ?_⟩
  cases e : mi (den sl) with
  | exc x ρ => rw [e] at h; exact h
  | stuck => rw [e] at h; exact h
  | ok ds ρ =>
    rw [e] at h
    intro H1 sl1 hd J s1 e1 hJ
    subst e1
    refine ⟨fun i n σ H => ∃ sl, SR g H σ sl (hd ++ tm) ∧ n = ds.length - i ∧ i ≤ ds.length ∧ Lands g W tm (forL f m (ds.drop i) (den sl)) (Post g tm De), ⟨ds.length, sl1, s1, by omega, by omega, by simpa using h⟩, ?_⟩
    rintro i n σ H ⟨sl, s, rfl, hi, hl⟩
    by_cases hlt : i < ds.length
    · obtain ⟨d, hd'⟩ : ∃ d, ds[i]? = some d := ⟨ds[i], List.getElem?_eq_getElem hlt⟩
      have hdrop : ds.drop i = d :: ds.drop (i + 1) := by
        rw [List.drop_eq_getElem_cons hlt]
        rw [List.getElem?_eq_getElem hlt] at hd'
        rw [Option.some.inj hd']
      rw [hdrop] at hl
      obtain ⟨go, yl⟩ := hJ.go i d H σ sl tm s hd'
      refine .inr ⟨go, fun σ' H' => ∃ sl, SR g H' σ' sl (hd ++ tm) ∧ Lands g W tm (forL f m (ds.drop (i + 1)) (den sl)) (Post g tm De), fun σ' H' ⟨sl', s', h'⟩ => ⟨ds.length - (i + 1), by omega, sl', s', rfl, by omega, h'⟩, fun x H' hy => ?_⟩
      obtain ⟨t, s2, rfl, rfl⟩ := yl x H' hy
      refine ⟨sl, hd ++ tm, t, s2, rfl, ?_⟩
      simp only [forL] at hl
      cases q1 : f t.d (den sl) with
      | exc x ρ => rw [q1] at hl; exact exP.dropsL hl
      | stuck => rw [q1] at hl; exact hl
      | ok u ρ =>
        rw [q1] at hl
        intro H3 σ3 sl3 s3 e3
        subst e3
        refine ⟨sl3, hd ++ tm, s3, ?_⟩
        simp only [R.bind_ok] at hl
        cases q2 : m (den sl3) with
        | exc x ρ => rw [q2] at hl; exact exP.dropsL hl
        | stuck => rw [q2] at hl; exact hl
        | ok o ρ =>
          rw [q2] at hl
          cases o with
          | nx => exact fun H' σ' sl' s' e' => ⟨sl', s', by subst e'; exact hl⟩
          | ct => exact fun H' σ' sl' s' e' => ⟨sl', s', by subst e'; exact hl⟩
          | brk => exact fun H' σ' sl' s' e' => hl H' σ' sl' s'.popL e'
          | ret d => exact fun H' σ' sl' t s' e1 e2 => hl H' σ' sl' t s'.popL1 e1 e2
    · have e : i = ds.length := by omega
      subst e
      rw [List.drop_length] at hl
      exact .inl ⟨hJ.stop H σ sl tm s, hl H σ sl s.popL rfl⟩
theorem s_for {mi : Cm (List D)} {f : D → Cm Unit} (hp : PassesOwn (model X.prog X.w) X.A X.env X.xe) (hc : X.calm = true) (hi : PI X tg iter (tI g W mi)) (hg : PG X tg (tG g W f)) (hb : PSs X body (tS g W m))
    (hs : ∀ x, foldedSetIterable iter X.env x = pure x := by intro _; rfl) : PS X (.For tg iter body [] pos) (tS g W (mFor mi f m)) := (ps_for hp hc hi hg hb hs).imp for_imp
def FUEL : Nat := 1000000000
def mWhile (c : Cm Bool) (b : Cm Out) : Cm Out := whileL c b FUEL
theorem while_imp (n : Nat) (De : Ends) (σ : L2.St) (H : Hp) (q : tS g W (whileL mc m n) De σ H) : tWhile (tT g W mc) (tS g W m) De σ H := by
  obtain ⟨sl, tm, s, h⟩ := q
  refine ⟨fun n σ H => ∃ sl, SR g H σ sl tm ∧ Lands g W tm (whileL mc m n (den sl)) (Post g tm De), ⟨n, sl, s, h⟩, ?_⟩
  rintro n σ H ⟨sl, s, h⟩
  cases n with
  | zero => exact h.elim
  | succ n =>
    simp only [whileL] at h
    refine tT.of s h fun H' sl' k s' h' => ?_
    cases k with
    | false => rw [if_neg Bool.false_ne_true]; exact h' H' σ sl' s' rfl
    | true =>
      rw [if_pos rfl]
      refine ⟨fun σ' H' => ∃ sl, SR g H' σ' sl tm ∧ Lands g W tm (whileL mc m n (den sl)) (Post g tm De), fun σ' H' ⟨sl, s, h⟩ => ⟨n, by omega, sl, s, h⟩, sl', tm, s', ?_⟩
      simp only [if_true] at h'
      cases q2 : m (den sl') with
      | exc x ρ => rw [q2] at h'; exact h'
      | stuck => rw [q2] at h'; exact h'
      | ok o ρ =>
        rw [q2] at h'
        cases o with
        | nx => exact fun H' σ' sl' s' e' => ⟨sl', s', by subst e'; exact h'⟩
        | ct => exact fun H' σ' sl' s' e' => ⟨sl', s', by subst e'; exact h'⟩
        | brk => exact h'
        | ret d => exact h'
theorem s_while (hp : PassesOwn (model X.prog X.w) X.A X.env X.xe) (hc : PT X c (tT g W mc)) (hb : PSs X body (tS g W m)) : PS X (.While c body [] pos) (tS g W (mWhile mc m)) := (ps_while hp hc hb).imp (while_imp FUEL)

/-- a list (or a tuple) that is walked: held by two from now on -/
def mItems (ma : Cm D) : Cm (List D) := fun ρ => (ma ρ).bind fun d ρ => match d.fz with
  | .lst _ ds => .ok ds ρ
  | .tup ds => .ok ds ρ
  | _ => .stuck
def mItemsL (ma : Cm D) : Cm (List D) := fun ρ => (ma ρ).bind fun d ρ => match d.fz with
  | .lst _ ds => .ok ds ρ
  | _ => .stuck
def mItemsT (ma : Cm D) : Cm (List D) := fun ρ => (ma ρ).bind fun d ρ => match d.fz with
  | .tup ds => .ok ds ρ
  | _ => .stuck
theorem SR.fz1 {H : Hp} {σ : L2.St} {sl : List (Option T)} {tm : List T} {t : T} (s : SR g H σ sl (t :: tm)) : SR g H σ sl (t.fz :: tm) :=
  s.tmp (by have := s.okT; simp only [Ts.ok] at this ⊢; exact ⟨T.fz_ok t this.1, this.2⟩) fun a => by
    have i := s.inv a
    simp only [Ts.oc, Ts.sh, T.fz_oc, T.fz_sh] at i ⊢
    omega
theorem SR.dupK {H : Hp} {σ : L2.St} {sl : List (Option T)} {tm tms : List T} {u : T} (s : SR g H σ sl tm) (ok : u.ok g.c H) (ho : ∀ a, u.oc a = 0) (hs : ∀ a, u.sh a ≤ Ts.sh a tm) : SR g H σ sl (u :: tm) :=
  s.tmp (by simp only [Ts.ok]; exact ⟨ok, s.okT⟩) fun a => by have := ho a; have := hs a; simp only [Ts.oc, Ts.sh]; omega
theorem it_list {K : PySem.W.Frag} (hK : K = g.c.K) {p : Addr} {o : Ow} {xs : List T} (hx : ∀ a, Ts.oc a xs = 0) : ItOk g (Itl K p) [T.lst p o xs] (Ts.d xs) where
  stop := fun H σ sl tm s => by
    have q := lst_sq s.top
    exact ⟨_, by rw [hK]; exact q.1, by simp [Ts.d_len]⟩
  go := fun i d H σ sl tm s h => by
    have q := lst_sq s.top
    rw [Ts.d_map, List.getElem?_map, Option.map_eq_some_iff] at h
    obtain ⟨t, ht, rfl⟩ := h
    have m := List.mem_of_getElem? ht
    refine ⟨⟨_, t.v, by rw [hK]; exact q.1, by rw [List.getElem?_map, ht]; rfl⟩, fun x H' hy => ?_⟩
    obtain ⟨rfl, hy⟩ := hy
    have e := hy _ (by rw [hK]; exact q.1)
    rw [List.getElem?_map, ht] at e
    refine ⟨t, s.dupK (tms := []) (Ts.ok_iff.mp q.2.2 t m) (fun a => ?_) (fun a => ?_), rfl, Option.some.inj e⟩
    · have h1 := Ts.oc_mem (a := a) m; have := hx a; omega
    · have h1 := Ts.sh_mem (a := a) m
      simp only [List.singleton_append, Ts.sh, T.sh]; omega
theorem it_tup {K : PySem.W.Frag} (hK : K = g.c.K) {p : Addr} {o : Bool} {xs : List T} (hx : ∀ a, Ts.oc a xs = 0) : ItOk g (Itt K p) [T.tup p o xs] (Ts.d xs) where
  stop := fun H σ sl tm s => by
    have q := tup_sq s.top
    exact ⟨_, by rw [hK]; exact q.1, by simp [Ts.d_len]⟩
  go := fun i d H σ sl tm s h => by
    have q := tup_sq s.top
    rw [Ts.d_map, List.getElem?_map, Option.map_eq_some_iff] at h
    obtain ⟨t, ht, rfl⟩ := h
    have m := List.mem_of_getElem? ht
    refine ⟨⟨_, t.v, by rw [hK]; exact q.1, by rw [List.getElem?_map, ht]; rfl⟩, fun x H' hy => ?_⟩
    obtain ⟨rfl, hy⟩ := hy
    have e := hy _ (by rw [hK]; exact q.1)
    rw [List.getElem?_map, ht] at e
    refine ⟨t, s.dupK (tms := []) (Ts.ok_iff.mp q.2.2 t m) (fun a => ?_) (fun a => ?_), rfl, Option.some.inj e⟩
    · have h1 := Ts.oc_mem (a := a) m; have := hx a; omega
    · have h1 := Ts.sh_mem (a := a) m
      simp only [List.singleton_append, Ts.sh, T.sh]; omega
theorem i_list (hK : X.K = g.c.K) (h : PE X iter (tE g W ma)) : PI X tg iter (tI g W (mItemsL ma)) := (pi_list h).imp fun σ H R ⟨sl, tm, s, q⟩ => by
  refine tE.of s q fun H' sl' t s' h' => ?_
  rw [← T.fz_d] at h'
  have s2 := s'.fz1
  rw [← T.fz_v]
  cases e : t.fz with
  | lst p o xs =>
    rw [e] at h' s2
    refine ⟨p, rfl, ⟨_, by rw [hK]; exact (lst_sq s2.top).1⟩, h' H' sl' [_] _ s2 rfl (it_list hK fun a => ?_)⟩
    have := T.fz_oc a t
    rw [e] at this
    simp only [T.oc] at this
    omega
  | _ => rw [e] at h'; exact h'.elim
theorem i_tup (hK : X.K = g.c.K) (h : PE X iter (tE g W ma)) : PI X tg iter (tI g W (mItemsT ma)) := (pi_tup h).imp fun σ H R ⟨sl, tm, s, q⟩ => by
  refine tE.of s q fun H' sl' t s' h' => ?_
  rw [← T.fz_d] at h'
  have s2 := s'.fz1
  rw [← T.fz_v]
  cases e : t.fz with
  | tup p o xs =>
    rw [e] at h' s2
    refine ⟨p, rfl, ⟨_, by rw [hK]; exact (tup_sq s2.top).1⟩, h' H' sl' [_] _ s2 rfl (it_tup hK fun a => ?_)⟩
    have := T.fz_oc a t
    rw [e] at this
    simp only [T.oc] at this
    omega
  | _ => rw [e] at h'; exact h'.elim
/-- range -/
def rangeD (lo : Int) (n : Nat) : List D := (List.range n).map fun k : Nat => D.int (lo + (k : Int))
def smallR (i : Int) : Prop := i.natAbs < 4611686018427387904
instance (i : Int) : Decidable (smallR i) := by unfold smallR; infer_instance
def mRange1 (ma : Cm D) : Cm (List D) := fun ρ => (ma ρ).bind fun d ρ => match d with
  | .sc (.int j) => if smallR j then .ok (rangeD 0 j.toNat) ρ else .stuck
  | _ => .stuck
def mRange2 (ma mb : Cm D) : Cm (List D) := fun ρ => (ma ρ).bind fun d ρ => (mb ρ).bind fun d' ρ => match d, d' with
  | .sc (.int i), .sc (.int j) => if smallR i ∧ smallR j then .ok (rangeD i (j - i).toNat) ρ else .stuck
  | _, _ => .stuck
theorem it_range {lo : Int} {n : Nat} : ItOk g (Itr lo n) [] (rangeD lo n) where
  stop := fun H σ sl tm s => by simp [rangeD, Itr]
  go := fun i d H σ sl tm s h => by
    unfold rangeD at h
    rw [List.getElem?_map, Option.map_eq_some_iff] at h
    obtain ⟨k, hk, rfl⟩ := h
    have hlt : i < n := by
      by_cases q : i < n
      · exact q
      · rw [List.getElem?_eq_none (by simp; omega)] at hk; cases hk
    rw [List.getElem?_range hlt] at hk
    cases hk
    refine ⟨hlt, fun x H' hy => ?_⟩
    obtain ⟨rfl, rfl⟩ := hy
    exact ⟨.sc (.int (lo + (i : Int))), s.push _ trivial, rfl, rfl⟩
theorem small62 {i : Int} (h : smallR i) : -(2 ^ 62) ≤ i ∧ i < 2 ^ 62 := by
  have : (2 : Int) ^ 62 = 4611686018427387904 := by decide
  unfold smallR at h
  omega
theorem tA1 {σ : L2.St} {H : Hp} {sl : List (Option T)} {tm : List T} {Q : List V → Hp → Prop} {f : D → Cm α} {k : α → DE → Prop} (s : SR g H σ sl tm) (h : Lands g W tm ((ma (den sl)).bind f) k)
    (q : ∀ H' sl' t, SR g H' σ sl' (t :: tm) → Lands g W tm (f t.d (den sl')) k → Q [t.v] H') : tA g W [ma] σ H Q := by
  refine tA.of (f := fun ds ρ => match ds with | [d] => f d ρ | _ => .stuck) (k := k) s ?_ fun H' sl' ts s' h' => ?_
  · revert h
    simp only [mArgs]
    cases ma (den sl) <;> simp [R.bind, Lands]
  · match ts, s', h' with
    | [], _, h' => exact h'.elim
    | _ :: _ :: _, _, h' => exact h'.elim
    | [t], s', h' => exact q H' sl' t s' h'
theorem tA2 {σ : L2.St} {H : Hp} {sl : List (Option T)} {tm : List T} {Q : List V → Hp → Prop} {f : D → D → Cm α} {k : α → DE → Prop} (s : SR g H σ sl tm) (h : Lands g W tm ((ma (den sl)).bind fun x ρ => (mb ρ).bind fun y ρ => f x y ρ) k)
    (q : ∀ H' sl' t u, SR g H' σ sl' (u :: t :: tm) → Lands g W tm (f t.d u.d (den sl')) k → Q [t.v, u.v] H') : tA g W [ma, mb] σ H Q := by
  refine tA.of (f := fun ds ρ => match ds with | [x, y] => f x y ρ | _ => .stuck) (k := k) s ?_ fun H' sl' ts s' h' => ?_
  · revert h
    simp only [mArgs]
    cases ma (den sl) with
    | ok x ρ => cases e : mb ρ <;> simp [e, R.bind, Lands]
    | exc x ρ => simp [R.bind, Lands]
    | stuck => simp [R.bind, Lands]
  · match ts, s', h' with
    | [], _, h' => exact h'.elim
    | [_], _, h' => exact h'.elim
    | _ :: _ :: _ :: _, _, h' => exact h'.elim
    | [t, u], s', h' => exact q H' sl' t u s' h'
theorem i_range1 {p : Pos} (hg : Gl X "range") (hm : X.mg "range" = none) (ha : PA X [a] (tA g W [ma])) (hs : starEach [a] X.env = [(false, eval a X.env)] := by rfl) : PI X tg (.Call (.Name "range" p) [a] [] pos) (tI g W (mRange1 ma)) := (pi_range1 hg hm ha hs).imp fun σ H R ⟨sl, tm, s, q⟩ => by
  refine tA1 s q fun H' sl' t s' h' => ?_
  cases t with
  | sc x =>
    cases x with
    | int j =>
      simp only [T.d] at h'
      split at h'
      · rename_i hj
        exact ⟨j, rfl, (small62 hj).1, (small62 hj).2, h' H' sl' [] _ s'.pop rfl it_range⟩
      · exact h'.elim
    | _ => exact h'.elim
  | _ => exact h'.elim
theorem i_range2 {p : Pos} (hg : Gl X "range") (hm : X.mg "range" = none) (ha : PA X [a, b] (tA g W [ma, mb])) (hs : starEach [a, b] X.env = [(false, eval a X.env), (false, eval b X.env)] := by rfl) (hs2 : starEach [b] X.env = [(false, eval b X.env)] := by rfl) :
    PI X tg (.Call (.Name "range" p) [a, b] [] pos) (tI g W (mRange2 ma mb)) := (pi_range2 hg hm ha hs hs2).imp fun σ H R ⟨sl, tm, s, q⟩ => by
  refine tA2 s q fun H' sl' t u s' h' => ?_
  cases t with
  | sc x =>
    cases u with
    | sc y =>
      cases x with
      | int i =>
        cases y with
        | int j =>
          simp only [T.d] at h'
          split at h'
          · rename_i hj
            exact ⟨i, j, rfl, ⟨(small62 hj.1).1, (small62 hj.1).2, (small62 hj.2).1, (small62 hj.2).2⟩, h' H' sl' [] _ s'.pop.pop rfl it_range⟩
          · exact h'.elim
        | _ => exact h'.elim
      | _ => exact h'.elim
    | _ => exact absurd h' (by cases x <;> exact id)
  | _ => exact h'.elim
end
end VS

/-! VS, part i: comprehensions. -/
namespace VS
open PySem PySem.Spec PyProof.Rows L2

def wipeD (ρ : DE) : List Nat → DE
  | [] => ρ
  | v :: vs => (wipeD ρ vs).set v none
def wipeS (sl : List (Option T)) : List Nat → List (Option T)
  | [] => sl
  | v :: vs => (wipeS sl vs).set v none
/-- what stood in the block's own slots: nothing, or no made thing -/
def saved (ρ : DE) : List Nat → Option (List (Option Sc))
  | [] => some []
  | v :: vs => match ρ[v]? with
    | some none => (saved ρ vs).map (none :: ·)
    | some (some (.sc s)) => (saved ρ vs).map (some s :: ·)
    | _ => none
def restD (ρ : DE) : List Nat → List (Option Sc) → DE
  | v :: vs, s :: ss => (restD ρ vs ss).set v (s.map D.sc)
  | _, _ => ρ
def lcL (g : D → Cm Unit) (t : Cm Bool) (e : Cm D) (vs : List Nat) : List D → Cm (List D)
  | [] => fun ρ => .ok [] ρ
  | d :: ds => fun ρ => (g d ρ).bind fun _ ρ => (t ρ).bind fun b ρ => if b then (e ρ).bind fun y ρ => (lcL g t e vs ds (wipeD ρ vs)).bind fun r ρ => .ok (y :: r) ρ else lcL g t e vs ds (wipeD ρ vs)
/-- nothing is raised within -/
def unexc {α : Type} : R α → R α
  | .ok a ρ => .ok a ρ
  | _ => .stuck
@[simp] theorem unexc_ok {α : Type} (a : α) (ρ : DE) : unexc (.ok a ρ) = .ok a ρ := rfl
def mYes : Cm Bool := fun ρ => .ok true ρ
def mLc (mi : Cm (List D)) (g : D → Cm Unit) (t : Cm Bool) (e : Cm D) (vs : List Nat) : Cm D := fun ρ => (mi ρ).bind fun ds ρ => match saved ρ vs with
  | some ss => if ds.length ≤ 16777216 then (unexc (lcL g t e vs ds (wipeD ρ vs))).bind fun r ρ => .ok (.lst .own r) (restD ρ vs ss) else .stuck
  | none => .stuck

section
variable {X : Cx} {g : Gh} {W : WX} {pos : Pos} {ma mb : Cm D} {mc : Cm Bool} {α : Type}
theorem den_wipe (sl : List (Option T)) : ∀ vs : List Nat, den (wipeS sl vs) = wipeD (den sl) vs
  | [] => rfl
  | v :: vs => by unfold wipeS wipeD; rw [den_set, den_wipe sl vs]; rfl
theorem wipeS_get {sl : List (Option T)} {i : Nat} {t : T} : ∀ {vs : List Nat}, (wipeS sl vs)[i]? = some (some t) → sl[i]? = some (some t) ∧ i ∉ vs
  | [], h => ⟨h, by simp⟩
  | v :: vs, h => by
    unfold wipeS at h
    rcases set_get h with ⟨_, e⟩ | ⟨ne, e⟩
    · cases e
    · obtain ⟨h1, h2⟩ := wipeS_get e
      exact ⟨h1, by simp only [List.mem_cons, not_or]; exact ⟨ne, h2⟩⟩
theorem wipeS_len (sl : List (Option T)) : ∀ vs : List Nat, (wipeS sl vs).length = sl.length
  | [] => rfl
  | v :: vs => by unfold wipeS; rw [List.length_set, wipeS_len sl vs]
theorem So_wipe {f : T → Nat} (sl : List (Option T)) : ∀ vs : List Nat, So f (wipeS sl vs) ≤ So f sl
  | [] => by simp [wipeS]
  | v :: vs => by
    unfold wipeS
    have ih := So_wipe (f := f) sl vs
    by_cases h : v < (wipeS sl vs).length
    · have := So_set (f := f) (x := none) (List.getElem?_eq_getElem h)
      simp only [fO] at this
      omega
    · rw [List.set_eq_of_length_le (by omega)]; exact ih
theorem wipe_get {σ : L2.St} {i : Nat} : ∀ {vs : List Nat}, i ∉ vs → (wipe σ vs)[i]? = σ[i]?
  | [], _ => rfl
  | v :: vs, h => by
    simp only [List.mem_cons, not_or] at h
    unfold wipe
    rw [List.getElem?_set_ne (fun e => h.1 e.symm)]
    exact wipe_get h.2
theorem lookup_zip {α : Type} {i : Nat} {x : α} : ∀ {vs : List Nat} {ss : List α}, (vs.zip ss).lookup i = some x → i ∈ vs
  | [], _, h => by simp at h
  | v :: vs, [], h => by simp at h
  | v :: vs, s :: ss, h => by
    rw [List.zip_cons_cons, List.lookup_cons] at h
    split at h
    · rename_i e
      have e : i = v := by simpa using e
      simp [e]
    · exact List.mem_cons_of_mem _ (lookup_zip h)
theorem mem_get {α : Type} {x : α} {l : List α} (h : x ∈ l) : ∃ i : Nat, l[i]? = some x := by
  obtain ⟨i, hi, e⟩ := List.getElem_of_mem h
  exact ⟨i, by rw [List.getElem?_eq_getElem hi, e]⟩
/-- into a block -/
theorem SR.wipe {H : Hp} {σ : L2.St} {sl : List (Option T)} {tm : List T} {vs : List Nat} (s : SR g H σ sl tm) (hio : ∀ p ∈ g.io, p.1 ∉ vs) : SR g H (L2.wipe σ vs) (wipeS sl vs) tm := by
  refine s.go (fun t m => ?_) s.okT (fun a => .inl ?_) (fun _ => .inl rfl) (by rw [wipe_length]; exact s.len) (by rw [wipeS_len]; exact s.slen) (fun i t h => ?_) (fun p hp => ?_)
  · obtain ⟨i, hi⟩ := mem_get m
    exact s.okS t (List.mem_of_getElem? (wipeS_get hi).1)
  · have h1 := So_wipe (f := T.oc a) sl vs
    have h2 := So_wipe (f := T.sh a) sl vs
    omega
  · obtain ⟨h1, h2⟩ := wipeS_get h
    rw [wipe_get h2]
    exact s.at_ i t h1
  · rw [wipe_get (hio p hp)]
    exact s.io p hp
/-- .. and on, the slots wiped again -/
theorem SR.rewipe {H : Hp} {σ σ2 : L2.St} {sl : List (Option T)} {tm : List T} {vs : List Nat} (s : SR g H σ2 sl tm) (hw : L2.wipe σ2 vs = L2.wipe σ vs) (hio : ∀ p ∈ g.io, p.1 ∉ vs) : SR g H (L2.wipe σ vs) (wipeS sl vs) tm := by
  rw [← hw]; exact s.wipe hio
/-- out of a block -/
theorem SR.unwipe {H : Hp} {σ : L2.St} {tm : List T} {ws : List Nat} (hσ : σ.length = g.N) : ∀ {vs : List Nat} {ss : List (Option Sc)} {sl : List (Option T)}, vs.Nodup → (∀ v ∈ vs, v ∈ ws) → (∀ p ∈ g.io, p.1 ∉ ws) →
    (∀ (i : Nat) (s : Sc), (vs.zip ss).lookup i = some (some s) → σ[i]? = some (some s.v) ∧ s.good) → vs.length = ss.length → SR g H (L2.wipe σ ws) (wipeS sl ws) tm →
    ∃ sl', den sl' = restD (den (wipeS sl ws)) vs ss ∧ (∀ t, some t ∈ sl' → t.ok g.c H) ∧ (∀ a, So (T.oc a) sl' = So (T.oc a) (wipeS sl ws) ∧ So (T.sh a) sl' = So (T.sh a) (wipeS sl ws)) ∧ sl'.length = g.N ∧ ∀ (i : Nat) (t : T), sl'[i]? = some (some t) → σ[i]? = some (some t.v)
  | [], [], sl, _, _, _, _, _, s => ⟨wipeS sl ws, rfl, s.okS, fun a => ⟨rfl, rfl⟩, s.slen, fun i t h => by
      have := s.at_ i t h
      exact (wipe_some this).1⟩
  | v :: vs, x :: ss, sl, nd, hv, hio, hs, hl, s => by
    obtain ⟨nv, nd⟩ := List.nodup_cons.mp nd
    obtain ⟨sl', e1, e2, e3, e4, e5⟩ := SR.unwipe (vs := vs) (ss := ss) hσ nd (fun u hu => hv u (List.mem_cons_of_mem _ hu)) hio (fun i s h => hs i s (by
      rw [List.zip_cons_cons, List.lookup_cons]
      have : (i == v) = false := by
        rw [beq_eq_false_iff_ne]
        rintro rfl
        exact nv (lookup_zip h)
      rw [this]; exact h)) (by simpa using hl) s
    have hx : ∀ s, x = some s → σ[v]? = some (some s.v) ∧ s.good := fun s e => hs v s (by rw [List.zip_cons_cons, List.lookup_cons, beq_self_eq_true, e])
    by_cases hlt : v < sl'.length
    · refine ⟨sl'.set v (x.map T.sc), ?_, fun t m => ?_, fun a => ?_, by simp [e4], fun i t h => ?_⟩
      · rw [den_set, e1]
        simp only [restD]
        cases x <;> rfl
      · rcases mem_set m with e | e
        · cases x with
          | none => cases e
          | some s => cases e; simpa [T.ok] using (hx s rfl).2
        · exact e2 t e
      · have g0 : sl'[v]? = some none ∨ ∃ s : Sc, sl'[v]? = some (some (T.sc s)) ∨ True := .inr ⟨.non, .inr trivial⟩
        obtain ⟨y, hy⟩ : ∃ y, sl'[v]? = some y := ⟨sl'[v], List.getElem?_eq_getElem hlt⟩
        have h1 := So_set (f := T.oc a) (x := x.map T.sc) hy
        have h2 := So_set (f := T.sh a) (x := x.map T.sc) hy
        have ny : y = none := by
          have z : (den sl')[v]? = (den (wipeS sl ws))[v]? := by
            rw [e1]
            clear e1 e2 e3 e4 e5 hx hs hl s hv hy h1 h2
            revert nv
            induction vs generalizing ss with
            | nil => intro _; rfl
            | cons u us ih =>
              intro nv
              cases ss with
              | nil => rfl
              | cons z zs =>
                simp only [restD]
                simp only [List.mem_cons, not_or] at nv
                rw [List.getElem?_set_ne (fun e => nv.1 e.symm)]
                exact ih zs (List.nodup_cons.mpr ⟨nv.2, (List.nodup_cons.mp nd).2⟩) (List.nodup_cons.mp nd).2 nv.2
          have w : ∀ t, (wipeS sl ws)[v]? ≠ some (some t) := fun t e => (wipeS_get e).2 (hv v (by simp))
          cases y with
          | none => rfl
          | some t =>
            exfalso
            have z1 : (den sl')[v]? = some (some t.d) := by unfold den; rw [List.getElem?_map, hy]; rfl
            rw [z] at z1
            obtain ⟨t', z2, _⟩ := den_get z1
            exact w t' z2
        subst ny
        have h3 := e3 a
        cases x <;> simp [fO, T.oc, T.sh] at h1 h2 ⊢ <;> omega
      · rcases set_get h with ⟨rfl, e⟩ | ⟨_, e⟩
        · cases x with
          | none => cases e
          | some s => cases e; exact (hx s rfl).1
        · exact e5 i t e
    · refine ⟨sl', ?_, e2, e3, e4, e5⟩
      rw [e1]
      simp only [restD]
      rw [List.set_eq_of_length_le]
      rw [← e1, den_len]
      omega
theorem saved_ok {H : Hp} {σ : L2.St} {sl : List (Option T)} {tm : List T} (s : SR g H σ sl tm) : ∀ {vs : List Nat} {ss : List (Option Sc)}, saved (den sl) vs = some ss → vs.length = ss.length ∧ ∀ (i : Nat) (x : Sc), (vs.zip ss).lookup i = some (some x) → σ[i]? = some (some x.v) ∧ x.good
  | [], ss, h => by simp [saved] at h; subst h; simp
  | v :: vs, ss, h => by
    unfold saved at h
    split at h
    · obtain ⟨r, hr, rfl⟩ := Option.map_eq_some_iff.mp h
      obtain ⟨h1, h2⟩ := saved_ok s hr
      refine ⟨by simp [h1], fun i x hx => ?_⟩
      rw [List.zip_cons_cons, List.lookup_cons] at hx
      split at hx
      · cases hx
      · exact h2 i x hx
    · rename_i y e
      obtain ⟨r, hr, rfl⟩ := Option.map_eq_some_iff.mp h
      obtain ⟨h1, h2⟩ := saved_ok s hr
      refine ⟨by simp [h1], fun i x hx => ?_⟩
      rw [List.zip_cons_cons, List.lookup_cons] at hx
      split at hx
      · rename_i hb
        have hb : i = v := by simpa using hb
        subst hb
        cases hx
        obtain ⟨t, e1, e2, e4, e3⟩ := s.val e
        cases t with
        | sc z =>
          simp only [T.d, D.sc.injEq] at e2
          subst e2
          exact ⟨e3, by simpa [T.ok] using e4⟩
        | _ => simp [T.d] at e2
      · exact h2 i x hx
    · cases h
abbrev W0 : WX := fun _ _ _ _ => False
/-- a list held on top grows by what is held above it -/
theorem SR.grow {H : Hp} {σ : L2.St} {sl : List (Option T)} {tm : List T} {p : Addr} {xs : List T} {t : T} (s : SR g H σ sl (t :: T.lst p .own xs :: tm)) (hz : xs.length < 16777216) :
    SR g (upd H p (.lst ((xs ++ [t]).map T.v))) σ sl (T.lst p .own (xs ++ [t]) :: tm) := by
  have k := s.okT
  simp only [Ts.ok, T.ok] at k
  obtain ⟨kt, ⟨kp, kz, kx⟩, ktm⟩ := k
  have iv := s.inv p
  simp only [Ts.oc, Ts.sh, T.oc, T.sh] at iv
  have b1 : b2 (True ∧ True) = 1 := by simp [b2]
  rw [b1] at iv
  refine s.go (s.stayS fun a q => upd_ne fun e => ?_) ?_ (fun a => .inl ?_) (fun a => ?_) s.len s.slen s.at_ s.io
  · subst e; omega
  · simp only [Ts.ok, T.ok]
    refine ⟨⟨upd_same, by simp; omega, ?_⟩, Ts.stay tm ktm fun a q => upd_ne fun e => ?_⟩
    · rw [Ts.ok_iff]
      intro u m
      rcases List.mem_append.mp m with m | m
      · refine T.stay u (Ts.ok_iff.mp kx u m) fun a q => upd_ne fun e => ?_
        subst e
        have h1 := Ts.oc_mem (a := a) m; have h2 := Ts.sh_mem (a := a) m
        omega
      · have e := List.mem_singleton.mp m
        subst e
        refine T.stay u kt fun a q => upd_ne fun e => ?_
        subst e; omega
    · subst e; omega
  · simp only [Ts.oc, Ts.sh, T.oc, T.sh, Ts.oc_append, Ts.sh_append]
    omega
  · by_cases e : a = p
    · subst e
      refine .inr (.inr ?_)
      simp only [Ts.oc, T.oc]
      rw [b1]
      omega
    · exact .inl (upd_ne e)
theorem lc_imp {mi : Cm (List D)} {f : D → Cm Unit} {t : Cm Bool} {e : Cm D} {vs : List Nat} (hnd : vs.Nodup) (hio : ∀ p ∈ g.io, p.1 ∉ vs) (hw : ∀ (d : D) (ρ : DE) (u : Unit) (ρ' : DE), f d ρ = .ok u ρ' → True)
    {gt : TG} (hg : ∀ (v : V) (σ : L2.St) (H : Hp) (Q : L2.St → Hp → Prop), tG g W0 f v (L2.wipe σ vs) H (fun σ2 H2 => L2.wipe σ2 vs = L2.wipe σ vs → Q σ2 H2) → gt v (L2.wipe σ vs) H fun σ2 H2 => L2.wipe σ2 vs = L2.wipe σ vs ∧ Q σ2 H2) (σ : L2.St) (H : Hp) (Q : VK) (q : tE g W (mLc mi f t e vs) σ H Q) :
    tLc (tI g W mi) gt (tT g W0 t) (tE g W0 e) vs σ H Q := by
  obtain ⟨sl, tm, s, h⟩ := q
  unfold mLc at h
  refine ⟨sl, tm, s, ?_⟩
  cases ei : mi (den sl) with
  | exc x ρ => rw [ei] at h; exact h
  | stuck => rw [ei] at h; exact h
  | ok ds ρ =>
    rw [ei] at h
    intro H1 sl1 hd J s1 e1 hJ Dd hD
    subst e1
    simp only [R.bind_ok] at h
    split at h
    · rename_i ss hss
      obtain ⟨hl, hsv⟩ := saved_ok s1 hss
      by_cases hz : ds.length ≤ 16777216
      · rw [if_pos hz] at h
        -- the new list, held
        have s2 : SR g (upd H1 Dd (.lst [])) σ sl1 (T.lst Dd .own [] :: (hd ++ tm)) := by
          have := s1.newL (xs := []) (tm := hd ++ tm) (ts := []) hD (by simp) (by simp [Ts.ok]) (fun a => by simp [Ts.oc, Ts.sh])
          simpa using this
        have reorder : ∀ {H σ sl} {acc : List T}, SR g H σ sl (T.lst Dd .own acc :: (hd ++ tm)) → SR g H σ sl (hd ++ (T.lst Dd .own acc :: tm)) := fun {H σ sl acc} s => s.tmp (by
          have := s.okT
          rw [Ts.ok_iff] at this ⊢
          intro u m
          exact this u (by simp at m ⊢; rcases m with m | m | m <;> simp [m])) fun a => by simp only [Ts.oc, Ts.sh, Ts.oc_append, Ts.sh_append]; omega
        have reorder' : ∀ {H σ sl} {acc : List T} {u : T}, SR g H σ sl (u :: (hd ++ (T.lst Dd .own acc :: tm))) → SR g H σ sl (u :: T.lst Dd .own acc :: (hd ++ tm)) := fun {H σ sl acc u} s => s.tmp (by
          have := s.okT
          rw [Ts.ok_iff] at this ⊢
          intro u m
          exact this u (by simp at m ⊢; rcases m with m | m | m | m <;> simp [m])) fun a => by simp only [Ts.oc, Ts.sh, Ts.oc_append, Ts.sh_append]; omega
        have reorder1 : ∀ {H σ sl} {acc : List T}, SR g H σ sl (hd ++ (T.lst Dd .own acc :: tm)) → SR g H σ sl (T.lst Dd .own acc :: (hd ++ tm)) := fun {H σ sl acc} s => s.tmp (by
          have := s.okT
          rw [Ts.ok_iff] at this ⊢
          intro u m
          exact this u (by simp at m ⊢; rcases m with m | m | m <;> simp [m])) fun a => by simp only [Ts.oc, Ts.sh, Ts.oc_append, Ts.sh_append]; omega
        -- what the rest of the walk makes
        have Rest : ∀ (i : Nat) (acc : List T) (ρ : DE), Prop := fun i acc ρ => True
        refine ⟨fun i n H => ∃ sl acc, SR g H (L2.wipe σ vs) (wipeS sl vs) (T.lst Dd .own acc :: (hd ++ tm)) ∧ n = ds.length - i ∧ i ≤ ds.length ∧ acc.length ≤ i ∧
          Lands g W tm ((unexc (lcL f t e vs (ds.drop i) (den (wipeS sl vs)))).bind fun r ρ => R.ok (D.lst .own (Ts.d acc ++ r)) (restD ρ vs ss)) (fun d ρ' => ∀ H' sl' t, SR g H' σ sl' (t :: tm) → den sl' = ρ' → t.d = d → Q t.v H'),
          ⟨ds.length, sl1, [], s2.wipe hio, by omega, by omega, by simp, by simpa [den_wipe, Ts.d] using h⟩, ?_⟩
        rintro i n H ⟨sl, acc, s, rfl, hi, hacc, hl'⟩
        by_cases hlt : i < ds.length
        · obtain ⟨d, hd'⟩ : ∃ d, ds[i]? = some d := ⟨ds[i], List.getElem?_eq_getElem hlt⟩
          have hdrop : ds.drop i = d :: ds.drop (i + 1) := by
            rw [List.drop_eq_getElem_cons hlt]
            rw [List.getElem?_eq_getElem hlt] at hd'
            rw [Option.some.inj hd']
          rw [hdrop] at hl'
          obtain ⟨go, yl⟩ := hJ.go i d H _ _ (T.lst Dd .own acc :: tm) (reorder s) hd'
          refine .inr ⟨go, fun H' => ∃ sl acc, SR g H' (L2.wipe σ vs) (wipeS sl vs) (T.lst Dd .own acc :: (hd ++ tm)) ∧ acc.length ≤ i + 1 ∧
            Lands g W tm ((unexc (lcL f t e vs (ds.drop (i + 1)) (den (wipeS sl vs)))).bind fun r ρ => R.ok (D.lst .own (Ts.d acc ++ r)) (restD ρ vs ss)) (fun d ρ' => ∀ H' sl' t, SR g H' σ sl' (t :: tm) → den sl' = ρ' → t.d = d → Q t.v H'),
            fun H' ⟨sl', acc', s', ha, h'⟩ => ⟨ds.length - (i + 1), by omega, sl', acc', s', rfl, by omega, ha, h'⟩, fun x H' hy => ?_⟩
          obtain ⟨tt, s2, rfl, rfl⟩ := yl x H' hy
          refine hg _ _ _ _ ⟨wipeS sl vs, hd ++ (T.lst Dd .own acc :: tm), tt, s2, rfl, ?_⟩
          simp only [lcL] at hl'
          cases q1 : f tt.d (den (wipeS sl vs)) with
          | exc x ρ => rw [q1] at hl'; exact hl'.elim
          | stuck => rw [q1] at hl'; exact hl'.elim
          | ok u ρ =>
            rw [q1] at hl'
            simp only [R.bind_ok] at hl'
            intro H3 σ3 sl3 s3 e3 hwp
            subst e3
            refine ⟨sl3, hd ++ (T.lst Dd .own acc :: tm), s3, ?_⟩
            cases q2 : t (den sl3) with
            | exc x ρ => rw [q2] at hl'; exact hl'.elim
            | stuck => rw [q2] at hl'; exact hl'.elim
            | ok b ρ =>
              rw [q2] at hl'
              simp only [R.bind_ok] at hl'
              intro H4 sl4 s4 e4
              subst e4
              cases b with
              | false =>
                rw [if_neg Bool.false_ne_true]
                simp only [Bool.false_eq_true, if_false] at hl'
                have hσ : L2.wipe σ3 vs = L2.wipe σ vs := hwp
                refine ⟨sl4, acc, (reorder1 s4).rewipe hσ hio, by omega, ?_⟩
                rw [den_wipe]
                exact hl'
              | true =>
                rw [if_pos rfl]
                simp only [if_true] at hl'
                refine ⟨sl4, hd ++ (T.lst Dd .own acc :: tm), s4, ?_⟩
                cases q3 : e (den sl4) with
                | exc x ρ => rw [q3] at hl'; exact hl'.elim
                | stuck => rw [q3] at hl'; exact hl'.elim
                | ok y ρ =>
                  rw [q3] at hl'
                  simp only [R.bind_ok] at hl'
                  intro H5 sl5 u s5 e5 ey
                  subst e5 ey
                  have s6 := reorder' s5
                  have ko := s6.okT
                  simp only [Ts.ok, T.ok] at ko
                  refine ⟨acc.map T.v, ko.2.1.1, by rw [SZ_eq, List.length_map]; omega, ?_⟩
                  have s7 := s6.grow (by omega)
                  rw [List.map_append] at s7
                  have hσ : L2.wipe σ3 vs = L2.wipe σ vs := hwp
                  refine ⟨sl5, acc ++ [u], s7.rewipe hσ hio, by simp; omega, ?_⟩
                  rw [den_wipe]
                  cases q4 : lcL f t e vs (ds.drop (i + 1)) (wipeD (den sl5) vs) with
                  | exc x ρ => rw [q4] at hl'; exact hl'.elim
                  | stuck => rw [q4] at hl'; exact hl'.elim
                  | ok r ρ =>
                    rw [q4] at hl'
                    simpa [Ts.d_append, Ts.d] using hl'
        · have e : i = ds.length := by omega
          subst e
          rw [List.drop_length] at hl'
          refine .inl ⟨hJ.stop H _ _ (T.lst Dd .own acc :: tm) (reorder s), ?_⟩
          simp only [lcL, unexc_ok, R.bind_ok, List.append_nil] at hl'
          obtain ⟨sl', e1, e2, e3, e4, e5⟩ := SR.unwipe (sl := sl) s1.len hnd (fun v h => h) hio hsv hl s
          have s3 : SR g H σ sl' (T.lst Dd .own acc :: tm) := by
            refine (s.tmp (tm' := T.lst Dd .own acc :: tm) (by
              have := s.okT
              rw [Ts.ok_iff] at this ⊢
              intro u m
              exact this u (by simp at m ⊢; rcases m with m | m <;> simp [m])) fun a => by simp only [Ts.oc, Ts.sh, Ts.oc_append, Ts.sh_append]; omega).go e2 ?_ (fun a => .inl ?_) (fun _ => .inl rfl) s1.len e4 e5 s1.io
            · have := s.okT
              rw [Ts.ok_iff] at this ⊢
              intro u m
              exact this u (by simp at m ⊢; rcases m with m | m <;> simp [m])
            · have := e3 a; omega
          exact hl' H sl' _ s3 e1 (by simp [T.d])
      · rw [if_neg hz] at h; exact h.elim
    · exact h.elim
end
end VS
namespace VS
open PySem PySem.Spec PyProof.Rows L2
section
variable {X : Cx} {g : Gh} {W : WX} {pos : Pos} {ma mb : Cm D} {mc : Cm Bool} {elt tg iter : Expr} {ifs : List Expr} {scope : Scope} {own : List (Str × Nat)} {mi : Cm (List D)} {t : Cm Bool} {e : Cm D}
theorem hg_name {i : Nat} (hi : i < g.N) (hio : ∀ p ∈ g.io, p.1 ≠ i) (v : V) (σ : L2.St) (H : Hp) (Q : L2.St → Hp → Prop) (h : tG g W0 (mPut i) v (L2.wipe σ [i]) H (fun σ2 H2 => L2.wipe σ2 [i] = L2.wipe σ [i] → Q σ2 H2)) :
    gName i v (L2.wipe σ [i]) H fun σ2 H2 => L2.wipe σ2 [i] = L2.wipe σ [i] ∧ Q σ2 H2 := by
  obtain ⟨sl, tm, t, s, rfl, h⟩ := h
  have e : L2.wipe ((L2.wipe σ [i]).set i (some t.v)) [i] = L2.wipe σ [i] := by simp [L2.wipe]
  exact ⟨e, h H _ _ (s.store hi hio) (by rw [den_set]; rfl) e⟩
theorem hg_pair {i j : Nat} (hij : i ≠ j) (hi : i < g.N) (hio : ∀ p ∈ g.io, p.1 ≠ i) (hj : j < g.N) (hjo : ∀ p ∈ g.io, p.1 ≠ j) {K : PySem.W.Frag} (hK : K = g.c.K) (v : V) (σ : L2.St) (H : Hp) (Q : L2.St → Hp → Prop)
    (h : tG g W0 (mUnp [mPut i, mPut j]) v (L2.wipe σ [i, j]) H (fun σ2 H2 => L2.wipe σ2 [i, j] = L2.wipe σ [i, j] → Q σ2 H2)) :
    gTup K 2 (gCons (gName i) (gCons (gName j) gNil)) v (L2.wipe σ [i, j]) H fun σ2 H2 => L2.wipe σ2 [i, j] = L2.wipe σ [i, j] ∧ Q σ2 H2 := by
  obtain ⟨sl, tm, t, s, rfl, h⟩ := h
  cases t with
  | tup p st xs =>
    simp only [T.d, mUnp] at h
    match xs, s, h with
    | [], _, h => exact h.elim
    | [_], _, h => exact absurd h (by simp [putAll, Ts.d, mPut, R.bind, Lands])
    | _ :: _ :: _ :: _, _, h => exact absurd h (by simp [putAll, Ts.d, mPut, R.bind, Lands])
    | [x, y], s, h =>
      have q := tup_sq s.top
      refine ⟨p, _, rfl, by rw [hK]; exact q.1, rfl, x.v, [y.v], rfl, y.v, [], rfl, rfl, ?_⟩
      have e : L2.wipe (((L2.wipe σ [i, j]).set i (some x.v)).set j (some y.v)) [i, j] = L2.wipe σ [i, j] := by
        simp only [L2.wipe]
        rw [List.set_set, List.set_comm _ _ hij, List.set_set, List.set_comm _ _ hij]
        simp [List.set_set]
      exact ⟨e, h H _ _ ((s.open_.store hi hio).store hj hjo) (by rw [den_set, den_set]; rfl) e⟩
  | _ => exact h.elim
theorem ts_nil : PTs X [] (tT g W mYes) := ⟨fun pins s σ H Q I ⟨sl, tm, st, h⟩ => pts_nil.run pins s σ H Q I (h H sl st rfl)⟩
theorem ts_one {c : Expr} (h : PT X c (tT g W t)) : PTs X [c] (tT g W t) := pts_one h
theorem e_lc {gt : TG} {f : D → Cm Unit} (hc : X.calm = true) (hN : X.N.Nodup) (hi : PI X tg iter (tI g W mi)) (ok : BlkOk X.N X.env.scope scope own)
    (hg : ∀ (s : Shared) (H : Hp) (C : Addr) (cl : List (Str × Addr)) (fp : List Addr), PG (X.blk s H scope (compEnvC scope cl C X.env) fp) tg gt)
    (ht : ∀ (s : Shared) (H : Hp) (C : Addr) (cl : List (Str × Addr)) (fp : List Addr), PTs (X.blk s H scope (compEnvC scope cl C X.env) fp) ifs (tT g W0 t))
    (he : ∀ (s : Shared) (H : Hp) (C : Addr) (cl : List (Str × Addr)) (fp : List Addr), PE (X.blk s H scope (compEnvC scope cl C X.env) fp) elt (tE g W0 e))
    (hnd : (own.map (·.2)).Nodup) (hio : ∀ p ∈ g.io, p.1 ∉ own.map (·.2))
    (hgt : ∀ (v : V) (σ : L2.St) (H : Hp) (Q : L2.St → Hp → Prop), tG g W0 f v (L2.wipe σ (own.map (·.2))) H (fun σ2 H2 => L2.wipe σ2 (own.map (·.2)) = L2.wipe σ (own.map (·.2)) → Q σ2 H2) → gt v (L2.wipe σ (own.map (·.2))) H fun σ2 H2 => L2.wipe σ2 (own.map (·.2)) = L2.wipe σ (own.map (·.2)) ∧ Q σ2 H2)
    (hs : ∀ x, foldedSetIterable iter X.env x = pure x := by intro _; rfl) :
    PE X (.ListComp elt [⟨tg, iter, ifs, 0⟩] scope pos) (tE g W (mLc mi f t e (own.map (·.2)))) := (pe_lc hc hN hi ok hg ht he hs).imp (lc_imp hnd hio (fun _ _ _ _ _ => trivial) hgt)
theorem s_setLc {i : Nat} {y : Str} {py spos : Pos} {gt : TG} {f : D → Cm Unit} (hi' : i < g.N) (hio' : ∀ p ∈ g.io, p.1 ≠ i) (hc : X.calm = true) (hN : X.N.Nodup) (hy : X.N[i]? = some y) (hyl : X.env.scope.names.lookup y = some .local)
    (hsw : swapsWith (.ListComp elt [⟨tg, iter, ifs, 0⟩] scope pos) (some (.Name y py)) spos.line X.env = pure true) (hi : PI X tg iter (tI g W mi)) (ok : BlkOk X.N X.env.scope scope own)
    (hg : ∀ (s : Shared) (H : Hp) (C : Addr) (cl : List (Str × Addr)) (fp : List Addr), PG (X.blk s H scope (compEnvC scope cl C X.env) fp) tg gt)
    (ht : ∀ (s : Shared) (H : Hp) (C : Addr) (cl : List (Str × Addr)) (fp : List Addr), PTs (X.blk s H scope (compEnvC scope cl C X.env) fp) ifs (tT g W0 t))
    (he : ∀ (s : Shared) (H : Hp) (C : Addr) (cl : List (Str × Addr)) (fp : List Addr), PE (X.blk s H scope (compEnvC scope cl C X.env) fp) elt (tE g W0 e))
    (hnd : (own.map (·.2)).Nodup) (hio : ∀ p ∈ g.io, p.1 ∉ own.map (·.2))
    (hgt : ∀ (v : V) (σ : L2.St) (H : Hp) (Q : L2.St → Hp → Prop), tG g W0 f v (L2.wipe σ (own.map (·.2))) H (fun σ2 H2 => L2.wipe σ2 (own.map (·.2)) = L2.wipe σ (own.map (·.2)) → Q σ2 H2) → gt v (L2.wipe σ (own.map (·.2))) H fun σ2 H2 => L2.wipe σ2 (own.map (·.2)) = L2.wipe σ (own.map (·.2)) ∧ Q σ2 H2)
    (hs : ∀ x, foldedSetIterable iter X.env x = pure x := by intro _; rfl) :
    PS X (.Assign [.Name y py] (.ListComp elt [⟨tg, iter, ifs, 0⟩] scope pos) spos) (tS g W (mSet i (mLc mi f t e (own.map (·.2))))) :=
  (ps_setLc hc hN hy hyl hsw hi ok hg ht he hs).imp fun De σ H q => lc_imp hnd hio (fun _ _ _ _ _ => trivial) hgt σ H _ (set_imp hi' hio' De σ H q)
end
end VS

/-! VS, part j: what a def is worth, and its calls. -/
namespace VS
open PySem PySem.Spec PyProof.Rows L2

inductive RF where
  | ok (d : D) (ds : List D)
  | exc (x : Ex) (ds : List D)
  | stuck
  deriving Repr
def ioGet (ρ : DE) : List Nat → Option (List D)
  | [] => some []
  | i :: is => match ρ[i]? with
    | some (some d) => (ioGet ρ is).map (d :: ·)
    | _ => none
def endF (io : List Nat) : R Out → RF
  | .ok .nx ρ => match ioGet ρ io with
    | some ds => .ok .non ds
    | none => .stuck
  | .ok (.ret d) ρ => match ioGet ρ io with
    | some ds => .ok d ds
    | none => .stuck
  | .exc x ρ => match ioGet ρ io with
    | some ds => .exc x ds
    | none => .stuck
  | _ => .stuck
def startD (n : Nat) (args : List D) : DE := args.map some ++ List.replicate (n - args.length) none
def runF (n : Nat) (io : List Nat) (m : Cm Out) (args : List D) : RF := endF io (m (startD n args))

/-- what comes of a call: the trees behind it, from those ahead -/
structure Aft (c : Cfg) (H : Hp) (ts : List T) (H' : Hp) (us : List T) : Prop where
  ok : Ts.ok c H' us
  inv : ∀ a, Ts.oc a us = 0 ∨ (Ts.oc a us = 1 ∧ Ts.sh a us = 0)
  prov : ∀ a, Sol c H a → Ts.oc a ts = 0 → Ts.oc a us = 0 ∧ (Ts.sh a ts = 0 → Ts.sh a us = 0)
  frame : ∀ a o, H a = some o → NT o → Ts.oc a ts = 0 → H' a = some o
  tabs : LamX.Tabs c.tb H'
def ioV (vs : List V) : List Nat → Option (List V)
  | [] => some []
  | i :: is => match vs[i]? with
    | some v => (ioV vs is).map (v :: ·)
    | none => none
/-- the promise of a def by its mirror: np parameters, those at io are handed in to be changed -/
def spM (c : Cfg) (np : Nat) (io : List Nat) (M : List D → RF) : Sp := fun vs H Q E => ∃ ts : List T, vs = ts.map T.v ∧ Ts.ok c H ts ∧ LamX.Tabs c.tb H ∧ (∀ a, Ts.oc a ts = 0 ∨ (Ts.oc a ts = 1 ∧ Ts.sh a ts = 0)) ∧ ts.length = np ∧
  match M (Ts.d ts) with
  | .ok d ds => ∀ H' t us, Aft c H ts H' (t :: us) → t.d = d → Ts.d us = ds → ioV vs io = some (us.map T.v) → Q t.v H'
  | .exc x ds => ∀ H' a dx us, Aft c H ts H' (T.exn a dx x.cls x.ns x.xs :: us) → Ts.d us = ds → ioV vs io = some (us.map T.v) → E (.ref (c.cls x.cls)) dx H'
  | .stuck => False
theorem spM_len {c : Cfg} {np : Nat} {io : List Nat} {M : List D → RF} {ps : List Str} (h : ps.length = np) : ∀ vs H Q E, spM c np io M vs H Q E → vs.length = ps.length := fun vs H Q E ⟨ts, e, _, _, _, hl, _⟩ => by
  rw [e, h]; simpa using hl

section
variable {P : Program} {w : World} {K : PySem.W.Frag} {mg : Str → Option Value} {base : Heap} {c : Cfg}
theorem So_somes (f : T → Nat) (hf : Nat → Nat) : ∀ (ts : List T) (n : Nat), So f (ts.map some ++ List.replicate n none) = So f (ts.map some)
  | [], n => by
    induction n with
    | zero => simp
    | succ n ih => simp [List.replicate_succ, So] at ih ⊢; exact ih
  | t :: ts, n => by simp [So, So_somes f hf ts n]
theorem So_oc (a : Addr) : ∀ ts : List T, So (T.oc a) (ts.map some) = Ts.oc a ts
  | [] => rfl
  | t :: ts => by simp [So, Ts.oc, So_oc a ts]
theorem So_sh (a : Addr) : ∀ ts : List T, So (T.sh a) (ts.map some) = Ts.sh a ts
  | [] => rfl
  | t :: ts => by simp [So, Ts.sh, So_sh a ts]
theorem ioGet_set {ρ : DE} {i : Nat} (x : Option D) : ∀ {io : List Nat}, i ∉ io → ioGet (ρ.set i x) io = ioGet ρ io
  | [], _ => rfl
  | j :: js, h => by
    simp only [List.mem_cons, not_or] at h
    unfold ioGet
    rw [List.getElem?_set_ne h.1, ioGet_set x h.2]
/-- the io slots' trees at the end, gathered -/
theorem io_end {g : Gh} {H : Hp} {σ : L2.St} {sl : List (Option T)} {vs : List V} : ∀ {io : List Nat} {ds : List D} {pre : List T}, ioGet (den sl) io = some ds → io.Nodup → (∀ i ∈ io, ∃ v, vs[i]? = some v ∧ σ[i]? = some (some v)) → SR g H σ sl pre →
    ∃ us sl', Ts.d us = ds ∧ ioV vs io = some (us.map T.v) ∧ SR g H σ sl' (us ++ pre)
  | [], ds, pre, h, _, _, s => by
    simp [ioGet] at h; subst h
    exact ⟨[], sl, rfl, rfl, s⟩
  | i :: io, ds, pre, h, nd, hv, s => by
    obtain ⟨ni, nd⟩ := List.nodup_cons.mp nd
    unfold ioGet at h
    split at h
    · rename_i d e
      obtain ⟨r, hr, rfl⟩ := Option.map_eq_some_iff.mp h
      obtain ⟨t, e1, e2, e4, e3⟩ := s.val e
      subst e2
      obtain ⟨v, v1, v2⟩ := hv i (by simp)
      have s1 := s.move e1
      have hr' : ioGet (den (sl.set i none)) io = some r := by rw [den_set, ioGet_set _ ni]; exact hr
      obtain ⟨us, sl', h1, h2, h3⟩ := io_end hr' nd (fun k hk => hv k (List.mem_cons_of_mem _ hk)) s1
      refine ⟨t :: us, sl', by simp [Ts.d, h1], ?_, h3.tmp ?_ fun a => ?_⟩
      · unfold ioV
        rw [v1, h2]
        rw [v2] at e3
        simp [Option.some.inj (Option.some.inj e3)]
      · have := h3.okT
        rw [Ts.ok_iff] at this ⊢
        intro u m
        exact this u (by simp at m ⊢; rcases m with m | m | m <;> simp [m])
      · simp only [List.cons_append, Ts.oc, Ts.sh, Ts.oc_append, Ts.sh_append]; omega
    · cases h
theorem Aft.of {g : Gh} {H : Hp} {σ : L2.St} {sl : List (Option T)} {us : List T} (s : SR g H σ sl us) : Aft g.c g.H0 g.A0 H us where
  ok := s.okT
  inv := fun a => by have := s.inv a; omega
  prov := fun a h0 h1 => by
    have p := s.prov a h0 h1
    exact ⟨by omega, fun h => by have := p.2 h; omega⟩
  frame := s.frame
  tabs := s.tabs
/-- THE RULE: a def keeps the promise of its mirror (its body's reading, at the entry) -/
theorem body_ok {X : Cx} {sbody : List Stmt} {N ps : List Str} {np : Nat} {io : List Nat} {m : Cm Out} {scope : Scope} {H : Hp} {vs : List V} {Q : VK} {E : XK} (body : ∀ (g : Gh), g.c = c → g.N = N.length → g.io.map (·.1) = io → PSs X sbody (tS g (fun cls d _ H => E cls d H) m))
    (S : FnScope N ps scope) (hps : ps.length = np) (hN : np ≤ N.length) (hio : ∀ i ∈ io, i < np) (hnd : io.Nodup) (h : spM c np io (runF N.length io m) vs H Q E) :
    ∃ t, PSs X sbody t ∧ t { nx := fun _ H' => Q .non H', rt := Q } (L2.start N vs) H := by
  obtain ⟨ts, rfl, okt, tbs, inv, hl, q⟩ := h
  obtain ⟨vio, hvio⟩ : ∃ vio : List (Nat × V), vio.map (·.1) = io ∧ ∀ p ∈ vio, (ts.map T.v)[p.1]? = some p.2 := by
    clear q hnd body
    induction io with
    | nil => exact ⟨[], rfl, fun _ h => by cases h⟩
    | cons i io ih =>
      obtain ⟨r, r1, r2⟩ := ih (fun j hj => hio j (List.mem_cons_of_mem _ hj))
      have hi : i < (ts.map T.v).length := by simp; have := hio i (by simp); omega
      refine ⟨(i, (ts.map T.v)[i]) :: r, by simp [r1], fun p hp => ?_⟩
      rcases List.mem_cons.mp hp with rfl | hp
      · exact List.getElem?_eq_getElem hi
      · exact r2 p hp
  let g : Gh := ⟨c, H, ts, N.length, vio, []⟩
  refine ⟨tS g (fun cls d _ H => E cls d H) m, body g rfl rfl hvio.1, ?_⟩
  have hst : L2.start N (ts.map T.v) = ts.map (fun t => some t.v) ++ List.replicate (N.length - ts.length) none := by
    unfold L2.start; simp
  have hsd : den (ts.map some ++ List.replicate (N.length - ts.length) none) = startD N.length (Ts.d ts) := by
    unfold den startD
    rw [List.map_append, List.map_map, Ts.d_len, Ts.d_map, List.map_map, List.map_replicate]
    rfl
  have getS : ∀ (i : Nat) (t : T), (ts.map some ++ List.replicate (N.length - ts.length) none)[i]? = some (some t) → ts[i]? = some t := fun i t h => by
    by_cases hi : i < ts.length
    · rw [List.getElem?_append_left (by simpa using hi), List.getElem?_map] at h
      cases e : ts[i]? with
      | none => rw [e] at h; cases h
      | some u => rw [e] at h; simpa using h
    · rw [List.getElem?_append_right (by simpa using hi), List.getElem?_replicate] at h
      split at h <;> cases h
  have getσ : ∀ (i : Nat) (v : V), (ts.map T.v)[i]? = some v → (L2.start N (ts.map T.v))[i]? = some (some v) := fun i v h => by
    rw [hst]
    have hi : i < ts.length := by
      by_cases q : i < ts.length
      · exact q
      · rw [List.getElem?_eq_none (by simp; omega)] at h; cases h
    rw [List.getElem?_append_left (by simpa using hi), List.getElem?_map]
    rw [List.getElem?_map] at h
    cases e : ts[i]? with
    | none => rw [e] at h; cases h
    | some u => rw [e] at h; simp at h; simp [h]
  have s0 : SR g H (L2.start N (ts.map T.v)) (ts.map some ++ List.replicate (N.length - ts.length) none) [] := by
    refine ⟨fun t m => ?_, by simp [Ts.ok], fun a => ?_, fun a h0 h1 => ?_, fun a o h _ _ => h, ?_, ?_, fun i t h => ?_, fun p hp => ?_, fun p hp => (List.not_mem_nil hp).elim, tbs⟩
    · obtain ⟨i, hi⟩ := mem_get m
      exact Ts.ok_iff.mp okt t (List.mem_of_getElem? (getS i t hi))
    · rw [So_somes _ id, So_somes _ id, So_oc, So_sh]
      simpa [Ts.oc, Ts.sh] using inv a
    · rw [So_somes _ id, So_somes _ id, So_oc, So_sh]
      exact ⟨by simpa [Ts.oc] using h1, fun h => by simpa [Ts.sh] using h⟩
    · rw [hst]; simp [g]; omega
    · simp [g]; omega
    · exact getσ i _ (by rw [List.getElem?_map, getS i t h]; rfl)
    · exact getσ p.1 p.2 (hvio.2 p hp)
  refine ⟨_, [], s0, ?_⟩
  rw [hsd]
  unfold runF at q
  -- the end, whatever it is
  have fin : ∀ {H' σ' sl' pre ds}, SR g H' σ' sl' pre → ioGet (den sl') io = some ds → ∃ us, Ts.d us = ds ∧ ioV (ts.map T.v) io = some (us.map T.v) ∧ Aft c H ts H' (us ++ pre) := fun {H' σ' sl' pre ds} s e => by
    obtain ⟨us, sl2, h1, h2, h3⟩ := io_end (vs := ts.map T.v) e hnd (fun i hi => by
      rw [← hvio.1] at hi
      obtain ⟨p, hp, rfl⟩ := List.mem_map.mp hi
      exact ⟨p.2, hvio.2 p hp, s.io p hp⟩) s
    exact ⟨us, h1, h2, Aft.of h3⟩
  have flip : ∀ {H' : Hp} {t : T} {us : List T}, Aft c H ts H' (us ++ [t]) → Aft c H ts H' (t :: us) := fun {H' t us} h =>
    ⟨by have := h.ok; rw [Ts.ok_iff] at this ⊢; exact fun u m => this u (by simp at m ⊢; rcases m with m | m <;> simp [m]), fun a => by have := h.inv a; simp only [Ts.oc_append, Ts.sh_append, Ts.oc, Ts.sh] at this ⊢; omega,
     fun a h0 h1 => by have := h.prov a h0 h1; simp only [Ts.oc_append, Ts.sh_append, Ts.oc, Ts.sh] at this ⊢; exact ⟨by omega, fun z => by have := this.2 z; omega⟩, h.frame, h.tabs⟩
  cases e : m (startD N.length (Ts.d ts)) with
  | stuck => rw [e] at q; exact q.elim
  | exc x ρ =>
    rw [e] at q
    intro H' σ' sl' a dx s' e'
    subst e'
    simp only [endF] at q
    cases e2 : ioGet (den sl') io with
    | none => rw [e2] at q; exact q.elim
    | some ds =>
      rw [e2] at q
      obtain ⟨us, h1, h2, h3⟩ := fin s' e2
      exact q H' a dx us (flip h3) h1 h2
  | ok o ρ =>
    rw [e] at q
    cases o with
    | nx =>
      intro H' σ' sl' s' e'
      subst e'
      simp only [endF] at q
      cases e2 : ioGet (den sl') io with
      | none => rw [e2] at q; exact q.elim
      | some ds =>
        rw [e2] at q
        obtain ⟨us, h1, h2, h3⟩ := fin (s'.push .non trivial) e2
        exact q H' (.sc .non) us (flip h3) rfl h1 h2
    | ret d =>
      intro H' σ' sl' t s' e' ed
      subst e'
      simp only [endF] at q
      cases e2 : ioGet (den sl') io with
      | none => rw [e2] at q; exact q.elim
      | some ds =>
        rw [e2] at q
        obtain ⟨us, h1, h2, h3⟩ := fin s' e2
        exact q H' t us (flip h3) ed h1 h2
    | brk => exact q.elim
    | ct => exact q.elim
theorem fn_ok {x qual : Str} {st : Stmt} {f : Addr} {fd : FuncData} {N ps : List Str} {k np : Nat} {io : List Nat} {m : Cm Out} (F : Fun K x qual st f fd) (S : FnScope N ps (defScope st)) (hps : ps.length = np) (hN : np ≤ N.length) (hio : ∀ i ∈ io, i < np) (hnd : io.Nodup)
    (body : ∀ (g : Gh) (cdv : Value) (A : Around) (outer : List Env) (s : Shared) (H : Hp) (E : XK), Room k (A.deeper (envOfC qual (defScope st) s.heap.objs.size f cdv)) → g.c = c → g.N = N.length → g.io.map (·.1) = io →
      PSs (cxOf (L2.CX P w) P w K mg base N qual (defScope st) f cdv A outer s H E) (defBody st) (tS g (fun cls d _ H => E cls d H) m)) :
    FnOk P w K mg base (L2.CX P w) (k + 1) f fd ps (spM c np io (runF N.length io m)) :=
  F.okX S (spM_len hps) fun cdv A outer s H vs Q E hr h => body_ok (fun g => body g cdv A outer s H E hr) S hps hN hio hnd h
end
end VS

/-! VS, part k: calls of defs. -/
namespace VS
open PySem PySem.Spec PyProof.Rows L2

/-- an argument: a slot whose made thing may be changed (s), that is looked at (p), an expression, held by several (e) or alone (t) -/
inductive Ag where
  | s (i : Nat)
  | p (i : Nat)
  | e (m : Cm D)
  | t (m : Cm D)
def agRun : List Ag → Cm (List (Option D))
  | [] => fun ρ => .ok [] ρ
  | .s i :: as => fun ρ => match ρ[i]? with
    | some (some _) => (agRun as ρ).bind fun ts ρ => .ok (none :: ts) ρ
    | _ => .stuck
  | .p i :: as => fun ρ => match ρ[i]? with
    | some (some _) => (agRun as ρ).bind fun ts ρ => .ok (none :: ts) ρ
    | _ => .stuck
  | .e m :: as => fun ρ => (m ρ).bind fun d ρ => (agRun as ρ).bind fun ts ρ => .ok (some d :: ts) ρ
  | .t m :: as => fun ρ => (m ρ).bind fun d ρ => (agRun as ρ).bind fun ts ρ => .ok (some d :: ts) ρ
/-- the arguments' data, and the slots behind: emptied, frozen -/
def agGet : List Ag → List (Option D) → DE → Option (List D × DE)
  | [], [], ρ => some ([], ρ)
  | .s i :: as, none :: ts, ρ => match ρ[i]? with
    | some (some d) => (agGet as ts (ρ.set i none)).map fun r => (d :: r.1, r.2)
    | _ => none
  | .p i :: as, none :: ts, ρ => match ρ[i]? with
    | some (some d) => (agGet as ts (ρ.set i (some d.fz))).map fun r => (d.fz :: r.1, r.2)
    | _ => none
  | .e _ :: as, some d :: ts, ρ => (agGet as ts ρ).map fun r => (d.fz :: r.1, r.2)
  | .t _ :: as, some d :: ts, ρ => (agGet as ts ρ).map fun r => (d :: r.1, r.2)
  | _, _, _ => none
/-- where what may be changed comes back to: a slot, or nowhere -/
def agOuts : List Ag → List (Option Nat)
  | [] => []
  | .s i :: as => some i :: agOuts as
  | .p _ :: as => agOuts as
  | .e _ :: as => agOuts as
  | .t _ :: as => none :: agOuts as
/-- the places among the arguments of those that may be changed -/
def agIo : Nat → List Ag → List Nat
  | _, [] => []
  | n, .s _ :: as => n :: agIo (n + 1) as
  | n, .p _ :: as => agIo (n + 1) as
  | n, .e _ :: as => agIo (n + 1) as
  | n, .t _ :: as => n :: agIo (n + 1) as
def putD (ρ : DE) : List (Option Nat) → List D → DE
  | some i :: is, d :: ds => (putD ρ is ds).set i (some d)
  | none :: is, d :: ds => putD ρ is ds
  | _, _ => ρ
def D.isSc : D → Bool
  | .sc _ => true
  | _ => false
/-- what shares nothing with anything -/
def D.isFree : D → Bool
  | .sc _ => true
  | .lst .own xs => xs.all D.isSc
  | _ => false
theorem isSc_cnt {a : Addr} : ∀ {ts : List T}, (Ts.d ts).all D.isSc = true → Ts.oc a ts = 0 ∧ Ts.sh a ts = 0
  | [], _ => by simp [Ts.oc, Ts.sh]
  | t :: ts, h => by
    simp only [Ts.d, List.all_cons, Bool.and_eq_true] at h
    have ih := isSc_cnt (a := a) h.2
    cases t with
    | sc x => simp [Ts.oc, Ts.sh, T.oc, T.sh, ih]
    | _ => simp [T.d, D.isSc] at h
def mCall (M : List D → RF) (as : List Ag) : Cm D := fun ρ => (agRun as ρ).bind fun ts ρ => match agGet as ts ρ with
  | some (ds, ρ') => match M ds with
    | .ok d us => if us.length = (agOuts as).length then (if d.isFree && (agOuts as).isEmpty then .ok d ρ else .ok d (putD ρ' (agOuts as) us)) else .stuck
    | .exc x us => if us.length = (agOuts as).length then .exc x (putD ρ' (agOuts as) us) else .stuck
    | .stuck => .stuck
  | none => .stuck
def AgV (σ : L2.St) : List Ag → List (Option T) → List V → Prop
  | [], [], [] => True
  | .s i :: as, none :: us, v :: vs => σ[i]? = some (some v) ∧ AgV σ as us vs
  | .p i :: as, none :: us, v :: vs => σ[i]? = some (some v) ∧ AgV σ as us vs
  | .e _ :: as, some t :: us, v :: vs => v = t.v ∧ AgV σ as us vs
  | .t _ :: as, some t :: us, v :: vs => v = t.v ∧ AgV σ as us vs
  | _, _, _ => False
def live : List (Option T) → List T
  | [] => []
  | none :: r => live r
  | some t :: r => t :: live r
def agSlots : List Ag → List Nat
  | [] => []
  | .s i :: as => i :: agSlots as
  | .p _ :: as => agSlots as
  | .e _ :: as => agSlots as
  | .t _ :: as => agSlots as
section
variable {X : Cx} {g : Gh} {W : WX} {pos : Pos} {α : Type}
theorem outs_slots : ∀ as : List Ag, (agOuts as).filterMap id = agSlots as
  | [] => rfl
  | .s i :: as => by simp [agOuts, agSlots, outs_slots as]
  | .p _ :: as => by simp [agOuts, agSlots, outs_slots as]
  | .e _ :: as => by simp [agOuts, agSlots, outs_slots as]
  | .t _ :: as => by simp [agOuts, agSlots, outs_slots as]
/-- the arguments' trees side by side, the slots emptied or frozen -/
theorem gather {H : Hp} {σ : L2.St} {tm : List T} : ∀ {as : List Ag} {us : List (Option T)} {vs : List V} {ds : List D} {ρ' : DE} {sl : List (Option T)} {pre : List T}, AgV σ as us vs → agGet as (us.map (Option.map T.d)) (den sl) = some (ds, ρ') →
    SR g H σ sl (pre ++ (live us ++ tm)) → ∃ ts sl', SR g H σ sl' (pre ++ (ts ++ tm)) ∧ den sl' = ρ' ∧ ts.map T.v = vs ∧ Ts.d ts = ds ∧ (agOuts as = [] → ∀ a, Ts.oc a ts = 0) ∧ (∀ i : Nat, sl[i]? = some none → sl'[i]? = some none) ∧ ∀ i : Nat, i ∈ agSlots as → sl'[i]? = some none
  | [], [], [], ds, ρ', sl, pre, _, h, s => by
    simp [agGet] at h
    obtain ⟨rfl, rfl⟩ := h
    exact ⟨[], sl, by simpa [live] using s, rfl, rfl, rfl, fun _ _ => rfl, fun _ h => h, fun i h => by simp [agSlots] at h⟩
  | .s i :: as, none :: us, v :: vs, ds, ρ', sl, pre, hv, h, s => by
    obtain ⟨h1, hv⟩ := hv
    simp only [List.map_cons, Option.map_none, agGet] at h
    split at h
    · rename_i d e
      obtain ⟨⟨r1, r2⟩, hr, er⟩ := Option.map_eq_some_iff.mp h
      cases er
      obtain ⟨t, e1, e2, e4, e3⟩ := s.val e
      subst e2
      have s1 := s.move e1
      have s2 : SR g H σ (sl.set i none) ((pre ++ [t]) ++ (live us ++ tm)) := s1.tmp (by
        have := s1.okT
        rw [Ts.ok_iff] at this ⊢
        intro u m
        exact this u (by simp [live] at m ⊢; rcases m with m | m | m | m <;> simp [m])) fun a => by simp only [live, List.cons_append, Ts.oc, Ts.sh, Ts.oc_append, Ts.sh_append]; omega
      obtain ⟨ts, sl', g1, g2, g3, g4, g5, g6, g7⟩ := gather hv (by rw [den_set]; exact hr) s2
      have hi : i < sl.length := by
        by_cases q : i < sl.length
        · exact q
        · rw [List.getElem?_eq_none (by omega)] at e1; cases e1
      refine ⟨t :: ts, sl', by simpa using g1, g2, ?_, by simp [Ts.d, g4], fun h => by simp [agOuts] at h, fun j hj => g6 j ?_, fun j hj => ?_⟩
      · rw [h1] at e3
        simp [g3, Option.some.inj (Option.some.inj e3)]
      · by_cases q : i = j
        · subst q; rw [List.getElem?_set_self hi]
        · rw [List.getElem?_set_ne q]; exact hj
      · rcases List.mem_cons.mp hj with rfl | hj
        · exact g6 _ (by rw [List.getElem?_set_self hi])
        · exact g7 j hj
    · cases h
  | .p i :: as, none :: us, v :: vs, ds, ρ', sl, pre, hv, h, s => by
    obtain ⟨h1, hv⟩ := hv
    simp only [List.map_cons, Option.map_none, agGet] at h
    split at h
    · rename_i d e
      obtain ⟨⟨r1, r2⟩, hr, er⟩ := Option.map_eq_some_iff.mp h
      cases er
      obtain ⟨t, e1, e2, e4, e3⟩ := s.val e
      subst e2
      have s1 := s.read e1
      have s2 : SR g H σ (sl.set i (some t.fz)) ((pre ++ [t.fz]) ++ (live us ++ tm)) := s1.tmp (by
        have := s1.okT
        rw [Ts.ok_iff] at this ⊢
        intro u m
        exact this u (by simp [live] at m ⊢; rcases m with m | m | m | m <;> simp [m])) fun a => by simp only [live, List.cons_append, Ts.oc, Ts.sh, Ts.oc_append, Ts.sh_append]; omega
      obtain ⟨ts, sl', g1, g2, g3, g4, g5, g6, g7⟩ := gather hv (by rw [den_set]; simpa [T.fz_d] using hr) s2
      refine ⟨t.fz :: ts, sl', by simpa using g1, g2, ?_, by simp [Ts.d, g4, T.fz_d], fun h a => by simp [Ts.oc, T.fz_oc, g5 h a], fun j hj => g6 j ?_, fun j hj => g7 j hj⟩
      · rw [h1] at e3
        simp [g3, T.fz_v, Option.some.inj (Option.some.inj e3)]
      · by_cases q : i = j
        · subst q; rw [e1] at hj; cases hj
        · rw [List.getElem?_set_ne q]; exact hj
    · cases h
  | .e m :: as, some t :: us, v :: vs, ds, ρ', sl, pre, hv, h, s => by
    obtain ⟨h1, hv⟩ := hv
    subst h1
    simp only [List.map_cons, Option.map_some, agGet] at h
    obtain ⟨⟨r1, r2⟩, hr, er⟩ := Option.map_eq_some_iff.mp h
    cases er
    have s2 : SR g H σ sl ((pre ++ [t.fz]) ++ (live us ++ tm)) := s.tmp (by
        have := s.okT
        rw [Ts.ok_iff] at this ⊢
        intro u m
        simp [live] at m this
        rcases m with m | m | m | m
        · exact this u (.inl m)
        · subst m; exact T.fz_ok t (this t (.inr (.inl rfl)))
        · exact this u (.inr (.inr (.inl m)))
        · exact this u (.inr (.inr (.inr m)))) fun a => by
          have iv := s.inv a
          simp only [live, List.cons_append, Ts.oc, Ts.sh, Ts.oc_append, Ts.sh_append, T.fz_oc, T.fz_sh] at iv ⊢; omega
    obtain ⟨ts, sl', g1, g2, g3, g4, g5, g6, g7⟩ := gather hv hr s2
    exact ⟨t.fz :: ts, sl', by simpa using g1, g2, by simp [g3, T.fz_v], by simp [Ts.d, g4, T.fz_d], fun h a => by simp [Ts.oc, T.fz_oc, g5 h a], g6, g7⟩
  | .t m :: as, some t :: us, v :: vs, ds, ρ', sl, pre, hv, h, s => by
    obtain ⟨h1, hv⟩ := hv
    subst h1
    simp only [List.map_cons, Option.map_some, agGet] at h
    obtain ⟨⟨r1, r2⟩, hr, er⟩ := Option.map_eq_some_iff.mp h
    cases er
    have s2 : SR g H σ sl ((pre ++ [t]) ++ (live us ++ tm)) := by simpa [live] using s
    obtain ⟨ts, sl', g1, g2, g3, g4, g5, g6, g7⟩ := gather hv hr s2
    exact ⟨t :: ts, sl', by simpa using g1, g2, by simp [g3], by simp [Ts.d, g4], fun h => by simp [agOuts] at h, g6, g7⟩
  | [], [], _ :: _, _, _, _, _, hv, _, _ => hv.elim
  | [], _ :: _, _, _, _, _, _, hv, _, _ => hv.elim
  | .s _ :: _, [], _, _, _, _, _, hv, _, _ => hv.elim
  | .s _ :: _, none :: _, [], _, _, _, _, hv, _, _ => hv.elim
  | .s _ :: _, some _ :: _, _, _, _, _, _, hv, _, _ => hv.elim
  | .p _ :: _, [], _, _, _, _, _, hv, _, _ => hv.elim
  | .p _ :: _, none :: _, [], _, _, _, _, hv, _, _ => hv.elim
  | .p _ :: _, some _ :: _, _, _, _, _, _, hv, _, _ => hv.elim
  | .e _ :: _, [], _, _, _, _, _, hv, _, _ => hv.elim
  | .e _ :: _, none :: _, _, _, _, _, _, hv, _, _ => hv.elim
  | .e _ :: _, some _ :: _, [], _, _, _, _, hv, _, _ => hv.elim
  | .t _ :: _, [], _, _, _, _, _, hv, _, _ => hv.elim
  | .t _ :: _, none :: _, _, _, _, _, _, hv, _, _ => hv.elim
  | .t _ :: _, some _ :: _, [], _, _, _, _, hv, _, _ => hv.elim
/-- the call itself -/
theorem SR.call {H H' : Hp} {σ : L2.St} {sl : List (Option T)} {tm ts us : List T} (s : SR g H σ sl (ts ++ tm)) (h : Aft g.c H ts H' us) : SR g H' σ sl (us ++ tm) := by
  have iv := s.inv
  have kept : ∀ a, 0 < So (T.oc a) sl + So (T.sh a) sl + Ts.oc a tm + Ts.sh a tm → H' a = H a := fun a q => by
    have i := iv a
    rw [Ts.oc_append, Ts.sh_append] at i
    obtain ⟨u, e2, pu⟩ := s.plain (a := a) (by rw [Ts.oc_append, Ts.sh_append]; omega)
    rw [e2]
    exact h.frame a u e2 (plain_nt pu) (by omega)
  refine s.goT (s.stayS fun a q => kept a (by omega)) ?_ (fun a => ?_) (fun a o ha hn ho => ?_) h.tabs s.len s.slen s.at_ s.io
  · have k := s.okT
    rw [Ts.ok_iff] at k ⊢
    intro t m
    rcases List.mem_append.mp m with m | m
    · exact Ts.ok_iff.mp h.ok t m
    · refine T.stay t (k t (List.mem_append_right _ m)) fun a q => kept a ?_
      have h1 := Ts.oc_mem (a := a) m; have h2 := Ts.sh_mem (a := a) m
      omega
  · have i := iv a
    have j := h.inv a
    have p := h.prov a
    rw [Ts.oc_append, Ts.sh_append] at i ⊢
    rw [Ts.oc_append, Ts.sh_append]
    by_cases hn : Sol g.c H a
    · by_cases ho : Ts.oc a ts = 0
      · have p := p hn ho
        refine .inl ⟨by omega, fun q => .inl ?_⟩
        by_cases z : Ts.sh a ts = 0
        · have := p.2 z; omega
        · omega
      · refine .inr ⟨.inr (by omega), ?_⟩
        omega
    · have fr : So (T.oc a) sl + Ts.oc a (ts ++ tm) + So (T.sh a) sl + Ts.sh a (ts ++ tm) = 0 := Nat.eq_zero_of_not_pos fun q => by
        obtain ⟨u, e2, pu⟩ := s.plain q
        exact hn ⟨u, e2, .inl (plain_nt pu)⟩
      rw [Ts.oc_append, Ts.sh_append] at fr
      refine .inr ⟨.inl hn, ?_⟩
      omega
  · rw [Ts.oc_append] at ho
    exact h.frame a o ha hn (by omega)
/-- a tree goes back to its slot -/
theorem SR.back {H : Hp} {σ : L2.St} {sl : List (Option T)} {tm : List T} {i : Nat} {t : T} (s : SR g H σ sl (t :: tm)) (hv : σ[i]? = some (some t.v)) (hn : sl[i]? = some none) : SR g H σ (sl.set i (some t)) tm := by
  have k := s.okT
  simp only [Ts.ok] at k
  refine s.turn (fun u hu => ?_) k.2 (fun a => ?_) (by simp [s.slen]) fun j u hu => ?_
  · rcases mem_set hu with e | e
    · cases e; exact k.1
    · exact s.okS u e
  · have h1 := So_set (f := T.oc a) (x := some t) hn
    have h2 := So_set (f := T.sh a) (x := some t) hn
    simp only [fO, Ts.oc, Ts.sh] at h1 h2 ⊢
    omega
  · rcases set_get hu with ⟨rfl, e⟩ | ⟨_, e⟩
    · cases e; exact hv
    · exact s.at_ _ _ e
/-- more stands in the heap -/
theorem SR.extK {H H' : Hp} {σ : L2.St} {sl : List (Option T)} {tm : List T} (s : SR g H σ sl tm) (h : ∀ a o, H a = some o → NT o → H' a = some o) (hT : LamX.Tabs g.c.tb H') : SR g H' σ sl tm := by
  have kept : ∀ a, 0 < So (T.oc a) sl + Ts.oc a tm + So (T.sh a) sl + Ts.sh a tm → H' a = H a := fun a q => by
    obtain ⟨o, e, po⟩ := s.plain q
    rw [e]
    exact h a o e (plain_nt po)
  exact s.goT (s.stayS fun a q => kept a (by omega)) (s.stayT fun a q => kept a (by omega)) (fun a => .inl ⟨Nat.le_refl _, fun q => .inl q⟩) (fun a o ha hn _ => h a o ha hn) hT s.len s.slen s.at_ s.io
theorem putD_get {ρ : DE} {i : Nat} : ∀ {is : List (Option Nat)} {ds : List D}, some i ∉ is → (putD ρ is ds)[i]? = ρ[i]?
  | [], _, _ => by simp [putD]
  | some j :: is, [], _ => by simp [putD]
  | none :: is, [], _ => by simp [putD]
  | none :: is, d :: ds, h => by
    simp only [List.mem_cons, not_or] at h
    simp only [putD]
    exact putD_get h.2
  | some j :: is, d :: ds, h => by
    simp only [List.mem_cons, not_or, Option.some.injEq] at h
    simp only [putD]
    rw [List.getElem?_set_ne (fun e => h.1 e.symm)]
    exact putD_get h.2
/-- .. all of them -/
theorem scatter {H : Hp} {σ : L2.St} {tm : List T} : ∀ {is : List (Option Nat)} {us : List T} {sl : List (Option T)}, (is.filterMap id).Nodup → (∀ i ∈ is.filterMap id, sl[i]? = some none) → is.length = us.length → (∀ (j : Nat) (i : Nat) (u : T), is[j]? = some (some i) → us[j]? = some u → σ[i]? = some (some u.v)) →
    SR g H σ sl (us ++ tm) → ∃ sl', SR g H σ sl' tm ∧ den sl' = putD (den sl) is (Ts.d us)
  | [], [], sl, _, _, _, _, s => ⟨sl, s, rfl⟩
  | [], _ :: _, _, _, _, h, _, _ => by cases h
  | _ :: _, [], _, _, _, h, _, _ => by cases h
  | none :: is, u :: us, sl, nd, hn, hl, hv, s => by
    obtain ⟨sl', s2, e2⟩ := scatter (is := is) (us := us) (by simpa using nd) (fun j hj => hn j (by simpa using hj)) (by simpa using hl) (fun j k w h1 h2 => hv (j + 1) k w (by simpa using h1) (by simpa using h2)) s.pop
    exact ⟨sl', s2, by rw [e2]; rfl⟩
  | some i :: is, u :: us, sl, nd, hn, hl, hv, s => by
    simp only [List.filterMap_cons, id] at nd hn
    obtain ⟨ni, nd⟩ := List.nodup_cons.mp nd
    -- the others first, this one held
    have s1 : SR g H σ sl (us ++ (u :: tm)) := s.tmp (by
        have := s.okT
        rw [Ts.ok_iff] at this ⊢
        intro t m
        exact this t (by simp at m ⊢; rcases m with m | m | m <;> simp [m])) fun a => by simp only [List.cons_append, Ts.oc, Ts.sh, Ts.oc_append, Ts.sh_append]; omega
    obtain ⟨sl', s2, e2⟩ := scatter nd (fun j hj => hn j (List.mem_cons_of_mem _ hj)) (by simpa using hl) (fun j k w h1 h2 => hv (j + 1) k w (by simpa using h1) (by simpa using h2)) s1
    have e3 : sl'[i]? = some none := by
      have z : (den sl')[i]? = some none := by
        rw [e2, putD_get (fun m => ni (List.mem_filterMap.mpr ⟨_, m, rfl⟩))]
        unfold den
        rw [List.getElem?_map, hn i (by simp)]
        rfl
      unfold den at z
      rw [List.getElem?_map] at z
      cases q : sl'[i]? with
      | none => rw [q] at z; cases z
      | some o =>
        cases o with
        | none => rfl
        | some t => rw [q] at z; simp at z
    exact ⟨sl'.set i (some u), s2.back (hv 0 i u rfl rfl) e3, by rw [den_set, e2]; rfl⟩
end
end VS
namespace VS
open PySem PySem.Spec PyProof.Rows L2
def tAs (g : Gh) (W : WX) (as : List Ag) : TA := fun σ H Q => ∃ sl tm, SR g H σ sl tm ∧ Lands g W tm (agRun as (den sl)) fun ts ρ' => ∀ H' sl' us vs, SR g H' σ sl' ((live us).reverse ++ tm) → den sl' = ρ' → us.map (Option.map T.d) = ts → AgV σ as us vs → Q vs H'
section
variable {X : Cx} {g : Gh} {W : WX} {pos : Pos} {α : Type} {e : Expr} {es : List Expr} {m : Cm D} {as : List Ag}
theorem as_nil : PA X [] (tAs g W []) := pa_nil.imp fun σ H Q ⟨sl, tm, s, h⟩ => h H sl [] [] s rfl rfl trivial
theorem tAs.go {σ : L2.St} {H : Hp} {sl : List (Option T)} {tm : List T} {Q : List V → Hp → Prop} {f : List (Option D) → Cm α} {k : α → DE → Prop} (s : SR g H σ sl tm) (h : Lands g W tm ((agRun as (den sl)).bind f) k)
    (q : ∀ H' sl' us vs, SR g H' σ sl' ((live us).reverse ++ tm) → AgV σ as us vs → Lands g W tm (f (us.map (Option.map T.d)) (den sl')) k → Q vs H') : tAs g W as σ H Q := by
  refine ⟨sl, tm, s, ?_⟩
  cases e : agRun as (den sl) with
  | ok d ρ =>
    rw [e] at h
    intro H' sl' us vs s' e1 e2 hv
    subst e1; subst e2
    exact q H' sl' us vs s' hv h
  | exc x ρ => rw [e] at h; exact h
  | stuck => rw [e] at h; exact h
theorem as_s {i : Nat} (ha : PE X e (tVar i)) (hr : PA X es (tAs g W as)) (hs : starEach (e :: es) X.env = (false, eval e X.env) :: starEach es X.env := by rfl) : PA X (e :: es) (tAs g W (.s i :: as)) :=
  (pa_cons ha hr hs).imp fun σ H Q ⟨sl, tm, s, h⟩ => by
    simp only [agRun] at h
    split at h
    · rename_i d e
      obtain ⟨t, e1, e2, e4, e3⟩ := s.val e
      refine ⟨t.v, e3, ?_⟩
      refine tAs.go s h fun H1 sl1 us vs s1 hv h1 => ?_
      exact h1 H1 sl1 (none :: us) (t.v :: vs) s1 rfl rfl ⟨e3, hv⟩
    · exact h.elim
theorem as_p {i : Nat} (ha : PE X e (tVar i)) (hr : PA X es (tAs g W as)) (hs : starEach (e :: es) X.env = (false, eval e X.env) :: starEach es X.env := by rfl) : PA X (e :: es) (tAs g W (.p i :: as)) :=
  (pa_cons ha hr hs).imp fun σ H Q ⟨sl, tm, s, h⟩ => by
    simp only [agRun] at h
    split at h
    · rename_i d e
      obtain ⟨t, e1, e2, e4, e3⟩ := s.val e
      refine ⟨t.v, e3, ?_⟩
      refine tAs.go s h fun H1 sl1 us vs s1 hv h1 => ?_
      exact h1 H1 sl1 (none :: us) (t.v :: vs) s1 rfl rfl ⟨e3, hv⟩
    · exact h.elim
theorem as_e (ha : PE X e (tE g W m)) (hr : PA X es (tAs g W as)) (hs : starEach (e :: es) X.env = (false, eval e X.env) :: starEach es X.env := by rfl) : PA X (e :: es) (tAs g W (.e m :: as)) :=
  (pa_cons ha hr hs).imp fun σ H Q ⟨sl, tm, s, h⟩ => by
    simp only [agRun] at h
    refine tE.of s h fun H1 sl1 t1 s1 h1 => ?_
    refine tAs.go s1 (Lands.drop h1) fun H2 sl2 us vs s2 hv h2 => ?_
    exact h2 H2 sl2 (some t1 :: us) (t1.v :: vs) (by simpa [live] using s2) rfl rfl ⟨rfl, hv⟩
theorem as_t (ha : PE X e (tE g W m)) (hr : PA X es (tAs g W as)) (hs : starEach (e :: es) X.env = (false, eval e X.env) :: starEach es X.env := by rfl) : PA X (e :: es) (tAs g W (.t m :: as)) :=
  (pa_cons ha hr hs).imp fun σ H Q ⟨sl, tm, s, h⟩ => by
    simp only [agRun] at h
    refine tE.of s h fun H1 sl1 t1 s1 h1 => ?_
    refine tAs.go s1 (Lands.drop h1) fun H2 sl2 us vs s2 hv h2 => ?_
    exact h2 H2 sl2 (some t1 :: us) (t1.v :: vs) (by simpa [live] using s2) rfl rfl ⟨rfl, hv⟩
theorem ioV_ag {σ : L2.St} : ∀ {as : List Ag} {us : List (Option T)} {vs pre ws : List V}, AgV σ as us vs → ioV (pre ++ vs) (agIo pre.length as) = some ws → ws.length = (agOuts as).length ∧ ∀ (j i : Nat) (w : V), (agOuts as)[j]? = some (some i) → ws[j]? = some w → σ[i]? = some (some w)
  | [], us, vs, pre, ws, hv, h => by
    simp [agIo, ioV] at h; subst h
    simp [agOuts]
  | .s i :: as, none :: us, v :: vs, pre, ws, hv, h => by
    obtain ⟨h1, hv⟩ := hv
    simp only [agIo, ioV] at h
    rw [List.getElem?_append_right (Nat.le_refl _), Nat.sub_self] at h
    simp only [List.getElem?_cons_zero] at h
    obtain ⟨r, hr, rfl⟩ := Option.map_eq_some_iff.mp h
    have ih := ioV_ag (pre := pre ++ [v]) hv (by simpa using hr)
    refine ⟨by simp [agOuts, ih.1], fun j k w hj hw => ?_⟩
    cases j with
    | zero => simp [agOuts] at hj hw; subst hj hw; exact h1
    | succ j => exact ih.2 j k w (by simpa [agOuts] using hj) (by simpa using hw)
  | .e _ :: as, some t :: us, v :: vs, pre, ws, hv, h => by
    obtain ⟨h1, hv⟩ := hv
    simp only [agIo] at h
    have ih := ioV_ag (pre := pre ++ [v]) hv (by simpa using h)
    exact ⟨by simpa [agOuts] using ih.1, fun j k w hj hw => ih.2 j k w (by simpa [agOuts] using hj) hw⟩
  | .t _ :: as, some t :: us, v :: vs, pre, ws, hv, h => by
    obtain ⟨h1, hv⟩ := hv
    simp only [agIo, ioV] at h
    rw [List.getElem?_append_right (Nat.le_refl _), Nat.sub_self] at h
    simp only [List.getElem?_cons_zero] at h
    obtain ⟨r, hr, rfl⟩ := Option.map_eq_some_iff.mp h
    have ih := ioV_ag (pre := pre ++ [v]) hv (by simpa using hr)
    refine ⟨by simp [agOuts, ih.1], fun j k w hj hw => ?_⟩
    cases j with
    | zero => simp [agOuts] at hj
    | succ j => exact ih.2 j k w (by simpa [agOuts] using hj) (by simpa using hw)
  | .p i :: as, none :: us, v :: vs, pre, ws, hv, h => by
    obtain ⟨h1, hv⟩ := hv
    simp only [agIo] at h
    have ih := ioV_ag (pre := pre ++ [v]) hv (by simpa using h)
    exact ⟨by simpa [agOuts] using ih.1, fun j k w hj hw => ih.2 j k w (by simpa [agOuts] using hj) hw⟩
  | .p _ :: _, [], _, _, _, hv, _ => hv.elim
  | .p _ :: _, none :: _, [], _, _, hv, _ => hv.elim
  | .p _ :: _, some _ :: _, _, _, _, hv, _ => hv.elim
  | .s _ :: _, [], _, _, _, hv, _ => hv.elim
  | .s _ :: _, none :: _, [], _, _, hv, _ => hv.elim
  | .s _ :: _, some _ :: _, _, _, _, hv, _ => hv.elim
  | .e _ :: _, [], _, _, _, hv, _ => hv.elim
  | .e _ :: _, none :: _, _, _, _, hv, _ => hv.elim
  | .e _ :: _, some _ :: _, [], _, _, hv, _ => hv.elim
  | .t _ :: _, [], _, _, _, hv, _ => hv.elim
  | .t _ :: _, none :: _, _, _, _, hv, _ => hv.elim
  | .t _ :: _, some _ :: _, [], _, _, hv, _ => hv.elim
theorem AgV.len {σ : L2.St} : ∀ {as : List Ag} {us : List (Option T)} {vs : List V}, AgV σ as us vs → vs.length = as.length
  | [], [], [], _ => rfl
  | [], [], _ :: _, h => h.elim
  | [], _ :: _, _, h => h.elim
  | .s _ :: as, none :: us, v :: vs, h => by simp [AgV.len h.2]
  | .e _ :: as, some t :: us, v :: vs, h => by simp [AgV.len h.2]
  | .p _ :: as, none :: us, v :: vs, h => by simp [AgV.len h.2]
  | .p _ :: _, [], _, h => h.elim
  | .p _ :: _, none :: _, [], h => h.elim
  | .p _ :: _, some _ :: _, _, h => h.elim
  | .t _ :: as, some t :: us, v :: vs, h => by simp [AgV.len h.2]
  | .s _ :: _, [], _, h => h.elim
  | .s _ :: _, none :: _, [], h => h.elim
  | .s _ :: _, some _ :: _, _, h => h.elim
  | .e _ :: _, [], _, h => h.elim
  | .e _ :: _, none :: _, _, h => h.elim
  | .e _ :: _, some _ :: _, [], h => h.elim
  | .t _ :: _, [], _, h => h.elim
  | .t _ :: _, none :: _, _, h => h.elim
  | .t _ :: _, some _ :: _, [], h => h.elim
theorem live_rev {us : List (Option T)} {tm : List T} {H : Hp} {σ : L2.St} {sl : List (Option T)} (s : SR g H σ sl ((live us).reverse ++ tm)) : SR g H σ sl ([] ++ (live us ++ tm)) := s.tmp (by
  have := s.okT
  rw [Ts.ok_iff] at this ⊢
  intro u m
  exact this u (by simpa using m)) fun a => by simp only [List.nil_append, Ts.oc_append, Ts.sh_append, Ts.oc_rev, Ts.sh_rev]; omega
theorem call_imp {c : Cfg} {M : List D → RF} {np : Nat} {io : List Nat} (hc : g.c = c) (hio : agIo 0 as = io) (hl : as.length = np) (hnd : (agSlots as).Nodup) (σ : L2.St) (H : Hp) (Q : VK) (q : tE g W (mCall M as) σ H Q) :
    tAs g W as σ H fun vs H1 => spM c np io M vs H1 Q (WE W σ) := by
  obtain ⟨sl, tm, s, h⟩ := q
  unfold mCall at h
  refine tAs.go s h fun H1 sl1 us vs s1 hv h1 => ?_
  cases eg : agGet as (us.map (Option.map T.d)) (den sl1) with
  | none => rw [eg] at h1; exact h1.elim
  | some r =>
    obtain ⟨ds, ρ'⟩ := r
    rw [eg] at h1
    obtain ⟨ts, sl2, s2, eρ, e1, e2, hfz, _, hno⟩ := gather hv eg (live_rev s1)
    rw [List.nil_append] at s2
    have kts : Ts.ok g.c H1 ts := by
      have := s2.okT
      rw [Ts.ok_iff] at this ⊢
      exact fun u m => this u (List.mem_append_left _ m)
    refine ⟨ts, e1.symm, hc ▸ kts, hc ▸ s2.tabs, fun a => ?_, ?_, ?_⟩
    · have := s2.inv a
      rw [Ts.oc_append, Ts.sh_append] at this
      omega
    · have := hv.len
      rw [← e1] at this
      simpa [hl] using this
    · rw [e2]
      simp only [] at h1
      -- behind the call
      have back : ∀ {H' : Hp} {t : T} {ws : List T}, Aft c H1 ts H' (t :: ws) → ioV vs io = some (ws.map T.v) → ∃ sl', SR g H' σ sl' (t :: tm) ∧ den sl' = putD ρ' (agOuts as) (Ts.d ws) ∧ ws.length = (agOuts as).length := fun {H' t ws} ha hi => by
        have s3 := s2.call (hc ▸ ha)
        have s4 : SR g H' σ sl2 (ws ++ (t :: tm)) := s3.tmp (by
          have := s3.okT
          rw [Ts.ok_iff] at this ⊢
          intro u m
          exact this u (by simp at m ⊢; rcases m with m | m | m <;> simp [m])) fun a => by simp only [List.cons_append, Ts.oc, Ts.sh, Ts.oc_append, Ts.sh_append]; omega
        rw [← hio] at hi
        have w := ioV_ag (pre := []) hv hi
        have wl : ws.length = (agOuts as).length := by simpa using w.1
        obtain ⟨sl', g1, g2⟩ := scatter (is := agOuts as) (by rw [outs_slots]; exact hnd) (fun i hi => by rw [outs_slots] at hi; exact hno i hi) wl.symm (fun j i u h1 h2 => w.2 j i u.v h1 (by rw [List.getElem?_map, h2]; rfl)) s4
        exact ⟨sl', g1, by rw [g2, eρ], wl⟩
      cases em : M ds with
      | stuck => rw [em] at h1; exact h1.elim
      | ok d ws =>
        rw [em] at h1
        intro H' t us' ha ed eu hi
        obtain ⟨sl', g1, g2, g3⟩ := back ha hi
        subst ed eu
        simp only [] at h1
        rw [if_pos (by rw [Ts.d_len]; exact g3)] at h1
        by_cases hsc : (t.d.isFree && (agOuts as).isEmpty) = true
        · rw [if_pos hsc] at h1
          obtain ⟨h2, h3⟩ := Bool.and_eq_true_iff.mp hsc
          have ho : agOuts as = [] := List.isEmpty_iff.mp h3
          have gt : t.ok g.c H' := by have := ha.ok; simp only [Ts.ok] at this; exact hc ▸ this.1
          have s5 : SR g H' σ sl1 tm := (s1.popL).extK (fun a o e n => ha.frame a o e n (hfz ho a)) (hc ▸ ha.tabs)
          cases t with
          | sc x => exact h1 H' sl1 (.sc x) (s5.push x (by simpa [T.ok] using gt)) rfl rfl
          | lst p o xs =>
            cases o <;> simp only [T.d, D.isFree] at h2 <;> try cases h2
            have cx : ∀ a, Ts.oc a xs = 0 ∧ Ts.sh a xs = 0 := fun a => isSc_cnt h2
            have s0 := s1.popL
            have root : ¬ Sol g.c H1 p := fun e => by
              have := (ha.prov p (hc ▸ e) (hfz ho p)).1
              simp [Ts.oc, T.oc, b2] at this
            have fr : So (T.oc p) sl1 + Ts.oc p tm + So (T.sh p) sl1 + Ts.sh p tm = 0 := Nat.eq_zero_of_not_pos fun q => by
              obtain ⟨u, e2, pu⟩ := s0.plain q
              exact root ⟨u, e2, .inl (plain_nt pu)⟩
            refine h1 H' sl1 (T.lst p .own xs) (s0.goT s5.okS (by simp only [Ts.ok]; exact ⟨gt, s5.okT⟩) (fun a => ?_) (fun a o e n _ => ha.frame a o e n (hfz ho a)) (hc ▸ ha.tabs) s0.len s0.slen s0.at_ s0.io) rfl rfl
            · have := cx a
              simp only [Ts.oc, Ts.sh, T.oc, T.sh]
              by_cases e : p = a
              · subst e
                refine .inr ⟨.inl root, .inr ?_⟩
                simp [b2]
                omega
              · simp [b2, e]
                refine .inl ⟨by omega, fun q => .inl (by omega)⟩
          | _ => simp [T.d, D.isFree] at h2
        · rw [if_neg hsc] at h1
          exact h1 H' sl' t g1 g2 rfl
      | exc x ws =>
        rw [em] at h1
        intro H' a dx us' ha eu hi
        obtain ⟨sl', g1, g2, g3⟩ := back ha hi
        subst eu
        simp only [] at h1
        rw [if_pos (by rw [Ts.d_len]; exact g3)] at h1
        have := h1 H' σ sl' a dx g1 g2
        rw [← hc]
        exact this
theorem e_call {f : Addr} {fd : FuncData} {ps : List Str} {x : Str} {p : Pos} {c : Cfg} {M : List D → RF} {k np : Nat} {io : List Nat} (F : FnOk X.prog X.w X.K X.mg X.base (L2.CX X.prog X.w) k f fd ps (spM c np io M)) (hr : Room k X.A) (hg : Gl X x) (hm : X.mg x = some (.ref f)) (hk : PySem.W.keepIn X.K (.ref f) = true) (hb : Binds X.K fd ps []) (tk : Takes X W)
    (ha : PA X (e :: es) (tAs g W as)) (hc : g.c = c) (hio : agIo 0 as = io) (hl : as.length = np) (hnd : (agSlots as).Nodup) (hdb : (x == ("__debug__" : Str)) = false := by decide) (he : starEach (e :: es) X.env = (false, eval e X.env) :: starEach es X.env := by rfl) (hpl : (backTo pos (starEach es X.env)).any (·.1) = false := by rfl) :
    PE X (.Call (.Name x p) (e :: es) [] pos) (tE g W (mCall M as)) := (pe_callS (E := WE W) F hr hg hm hk hb (fun σ => passAt tk σ) ha hdb he hpl).imp (call_imp hc hio hl hnd)
end
end VS

/-! VS, part l: built-ins. -/
namespace VS
open PySem PySem.Spec PyProof.Rows L2

/-! ### isinstance against a built-in class -/
inductive Ty where
  | int | bool | str | list | tuple
  deriving DecidableEq
def Ty.name : Ty → String
  | .int => "int" | .bool => "bool" | .str => "str" | .list => "list" | .tuple => "tuple"
def isTy : Ty → D → Option Sc
  | .int, .sc (.int _) => some (.bl true)
  | .int, .sc (.bl _) => some (.bl true)
  | .bool, .sc (.bl _) => some (.bl true)
  | .str, .sc (.str _) => some (.bl true)
  | .list, .lst _ _ => some (.bl true)
  | .tuple, .tup _ => some (.bl true)
  | _, .sc _ => some (.bl false)
  | _, .lst _ _ => some (.bl false)
  | _, .tup _ => some (.bl false)
  | _, .exn C _ _ => if C = "dict" then some (.bl false) else none
  | _, _ => none
def dTy : D → Option String
  | .sc .non => some "NoneType"
  | .sc (.bl _) => some "bool"
  | .sc (.int _) => some "int"
  | .sc (.str _) => some "str"
  | .lst _ _ => some "list"
  | .tup _ => some "tuple"
  | .exn C _ _ => if C = "dict" then some "dict" else none
  | _ => none
def isTab (a b : String) : Bool := a == b || (a == "bool" && b == "int")
theorem kitB_tab : ∀ a ∈ (["NoneType", "bool", "int", "str", "list", "tuple", "dict"] : List String), ∀ b ∈ (["int", "bool", "str", "list", "tuple"] : List String), kitB a b = some (isTab a b) := by decide +kernel
theorem isTy_tab (y : Ty) (d : D) (c : Sc) (h : isTy y d = some c) : ∃ a, dTy d = some a ∧ c = .bl (isTab a y.name) ∧ a ∈ (["NoneType", "bool", "int", "str", "list", "tuple", "dict"] : List String) := by
  cases d with
  | sc s => cases s <;> cases y <;> (simp only [isTy, Option.some.injEq] at h; subst h; refine ⟨_, rfl, ?_, ?_⟩ <;> decide)
  | lst _ _ => cases y <;> (simp only [isTy, Option.some.injEq] at h; subst h; refine ⟨_, rfl, ?_, ?_⟩ <;> decide)
  | tup _ => cases y <;> (simp only [isTy, Option.some.injEq] at h; subst h; refine ⟨_, rfl, ?_, ?_⟩ <;> decide)
  | exn C ns xs =>
    by_cases e : C = "dict"
    · subst e
      cases y <;> (simp only [isTy, if_true, Option.some.injEq] at h; subst h; refine ⟨"dict", by simp [dTy], ?_, ?_⟩ <;> decide)
    · cases y <;> simp [isTy, e] at h
  | _ => cases y <;> simp [isTy] at h
theorem tyX_of {c : Cfg} {H : Hp} {t : T} {a : String} (k : t.ok c H) (h : dTy t.d = some a) : TyX c.K H t.v (.type a) := by
  cases t with
  | sc s =>
    cases s <;> (simp only [T.d, dTy, Option.some.injEq] at h; subst h)
    · exact .base .non
    · exact .base (.bl _)
    · exact .base (.int _)
    · exact .base (.str _)
  | lst p o xs =>
    simp only [T.d, dTy, Option.some.injEq] at h; subst h
    cases o <;> simp only [T.ok] at k
    · exact .base (.lst k.1)
    · exact .base (.lst k.1)
    · obtain ⟨⟨o, e⟩, _⟩ := k; exact .base (.frz e)
    · rcases k.1 with (h | ⟨_, h⟩) | ⟨o, its, n, hk, hc, _⟩
      · cases h
      · cases h
      · exact .kList hk hc
  | tup p o xs =>
    simp only [T.d, dTy, Option.some.injEq] at h; subst h
    cases o <;> simp only [T.ok] at k
    · exact .base (.tup k.1)
    · rcases k.1 with (h | ⟨_, h⟩) | ⟨o, its, n, hk, hc, _⟩
      · cases h
      · cases h
      · exact .kTuple hk hc
  | exn p dx C ns xs =>
    simp only [T.d, dTy] at h
    split at h
    · rename_i e
      subst e
      cases h
      simp only [T.ok] at k
      cases dx with
      | none => exact absurd rfl k.2.2.2
      | some d =>
        obtain ⟨k1, k2, k3⟩ := k
        have k3 := k3 trivial
        subst k3
        simp only [exnO, if_true] at k2
        exact .base (.dK k2)
    · cases h
  | _ => simp [T.d, dTy] at h

section
variable {X : Cx} {g : Gh} {W : WX} {pos p p2 : Pos} {a b : Expr} {x : Str} {ma mb : Cm D} {oa ob : Opd} {α : Type}
theorem Ty.cls {n : String} : ∀ u, RelV (V.ty n) u → u = Value.type n := fun u h => h
theorem boot_ty (y : Ty) : bootBuiltins (Str.ofString y.name) = some (.type y.name) := by cases y <;> decide +kernel
theorem e_isi {y : Ty} {tn : Str} (ht : tn = Str.ofString y.name) (hK : X.K = g.c.K) (hg : Gl X "isinstance") (hm : X.mg "isinstance" = none) (hg2 : Gl X tn) (hm2 : X.mg tn = none) (ha : PE X a (tO g W oa)) (hn2 : tn ≠ "__name__") (hd2 : (tn == ("__debug__" : Str)) = false)
    (hs1 : starEach (a :: [.Name tn p2]) X.env = (false, eval a X.env) :: starEach [.Name tn p2] X.env := by rfl) (hs2 : starEach [.Name tn p2] X.env = (false, eval (.Name tn p2) X.env) :: starEach [] X.env := by rfl) (hpl : (backTo pos (starEach [.Name tn p2] X.env)).any (·.1) = false := by rfl) :
    PE X (.Call (.Name "isinstance" p) [a, .Name tn p2] [] pos) (tE g W (mP1 (isTy y) oa)) := by
  have hb : PE X (.Name tn p2) (tC (.ty y.name)) := pe_bltn hg2 hm2 (by rw [ht]; exact boot_ty y) rfl hn2 hd2
  refine (pe_callB call_isi hg hm (by decide +kernel) (pa_cons ha (pa_cons hb pa_nil hs2) hs1) (hpl := hpl) (he := hs1)).imp ?_
  refine p1_imp fun H u c Q k h q => ?_
  obtain ⟨t, e1, rfl, hmem⟩ := isTy_tab y u.d c h
  refine ⟨u.v, .ty y.name, .type t, .type y.name, isTab t y.name, rfl, .ty _, ?_, ?_, q trivial⟩
  · rw [hK]; exact tyX_of k e1
  · rw [hK]
    exact kit_ty (kitB_tab t hmem y.name (by cases y <;> decide))

/-! ### a built-in of one operand that is only looked at -/
def HR1 (g : Gh) (f : D → Option Sc) (r : List V → Hp → VK → Prop) : Prop := ∀ H (u : T) c Q, u.ok g.c H → f u.d = some c → (c.good → Q (c.v) H) → r [u.v] H Q
theorem e_b1 {id : String} {f : D → Option Sc} {r : List V → Hp → VK → Prop} (hc : CallR X (.builtin id) r) (hr : HR1 g f r) (hg : Gl X x) (hm : X.mg x = none) (hv : bootBuiltins x = some (.builtin id)) (ha : PE X a (tO g W oa)) (hn : x ≠ "__name__" := by decide) (hdb : (x == ("__debug__" : Str)) = false := by decide)
    (he : starEach (a :: []) X.env = (false, eval a X.env) :: starEach [] X.env := by rfl) : PE X (.Call (.Name x p) [a] [] pos) (tE g W (mP1 f oa)) :=
  (pe_callB hc hg hm hv (pa_cons ha pa_nil he) hn hdb he rfl).imp (p1_imp hr)
theorem e_t1 {id : String} {f : D → Option Sc} {r : List V → Hp → VK → Prop} (hc : CallR X (.type id) r) (hr : HR1 g f r) (hg : Gl X x) (hm : X.mg x = none) (hv : bootBuiltins x = some (.type id)) (ha : PE X a (tO g W oa)) (hn : x ≠ "__name__" := by decide) (hdb : (x == ("__debug__" : Str)) = false := by decide)
    (he : starEach (a :: []) X.env = (false, eval a X.env) :: starEach [] X.env := by rfl) : PE X (.Call (.Name x p) [a] [] pos) (tE g W (mP1 f oa)) :=
  (pe_callTy hc hg hm hv (pa_cons ha pa_nil he) hn hdb he rfl).imp (p1_imp hr)
def lenD : D → Option Sc
  | .sc (.str l) => some (.int l.length)
  | .lst _ xs => some (.int xs.length)
  | .tup xs => some (.int xs.length)
  | _ => none
theorem hr_len {K : PySem.W.Frag} (hK : K = g.c.K) : HR1 g lenD (fun xs H Q => ∃ x n, xs = [x] ∧ LenV K x H n ∧ Q (.int n) H) := fun H u c Q k h q => by
  subst hK
  cases u with
  | sc s =>
    cases s <;> simp [T.d, lenD] at h
    subst h
    simp only [T.ok] at k
    exact ⟨_, _, rfl, ⟨by rw [SZ_eq]; simpa [Str.length] using k.1, by simp [Str.length]⟩, q trivial⟩
  | lst p o xs =>
    simp [T.d, lenD, Ts.d_len] at h
    subst h
    exact ⟨_, _, rfl, .inl ⟨_, (lst_sq k).1, by simp⟩, q trivial⟩
  | tup p o xs =>
    simp [T.d, lenD, Ts.d_len] at h
    subst h
    exact ⟨_, _, rfl, .inr ⟨_, (tup_sq k).1, by simp⟩, q trivial⟩
  | _ => simp [T.d, lenD] at h
def absD : D → Option Sc
  | .sc (.int i) => some (.int i.natAbs)
  | _ => none
theorem hr_abs : HR1 g absD (fun xs H Q => ∃ i, xs = [.int i] ∧ Q (.int (if i < 0 then -i else i)) H) := fun H u c Q k h q => by
  cases u with
  | sc s =>
    cases s <;> simp [T.d, absD] at h
    rename_i i
    subst h
    refine ⟨i, rfl, ?_⟩
    have e : (if i < 0 then -i else i) = (i.natAbs : Int) := by split <;> omega
    rw [e]
    exact q trivial
  | _ => simp [T.d, absD] at h
def bls : List D → Option (List Bool)
  | [] => some []
  | .sc (.bl b) :: r => (bls r).map (b :: ·)
  | _ => none
theorem bls_ok : ∀ {ts : List T} {l : List Bool}, bls (Ts.d ts) = some l → ts.map T.v = l.map V.bl
  | [], l, h => by simp [Ts.d, bls] at h; subst h; rfl
  | t :: ts, l, h => by
    cases t with
    | sc x =>
      cases x <;> simp only [Ts.d, T.d, bls] at h <;> try cases h
      obtain ⟨r, hr, rfl⟩ := Option.map_eq_some_iff.mp h
      simp [bls_ok hr, T.v, Sc.v]
    | _ => simp [Ts.d, T.d, bls] at h
def allD : D → Option Sc
  | .lst _ xs => (bls xs).map fun l => .bl (l.all id)
  | _ => none
def anyD : D → Option Sc
  | .lst _ xs => (bls xs).map fun l => .bl (l.any id)
  | _ => none
theorem hr_all {K : PySem.W.Frag} (hK : K = g.c.K) : HR1 g allD (rAll K) := fun H u c Q k h q => by
  subst hK
  cases u with
  | lst p o xs =>
    simp only [T.d, allD] at h
    obtain ⟨l, hl, rfl⟩ := Option.map_eq_some_iff.mp h
    refine ⟨p, l, rfl, ?_, q trivial⟩
    rw [← bls_ok hl]; exact (lst_sq k).1
  | sc s => cases s <;> simp [T.d, allD] at h
  | _ => simp [T.d, allD] at h
theorem hr_any {K : PySem.W.Frag} (hK : K = g.c.K) : HR1 g anyD (rAny K) := fun H u c Q k h q => by
  subst hK
  cases u with
  | lst p o xs =>
    simp only [T.d, anyD] at h
    obtain ⟨l, hl, rfl⟩ := Option.map_eq_some_iff.mp h
    refine ⟨p, l, rfl, ?_, q trivial⟩
    rw [← bls_ok hl]; exact (lst_sq k).1
  | sc s => cases s <;> simp [T.d, anyD] at h
  | _ => simp [T.d, anyD] at h
def intL : List D → Option (List Int)
  | [] => some []
  | .sc (.int b) :: r => (intL r).map (b :: ·)
  | _ => none
theorem intL_ok : ∀ {ts : List T} {l : List Int}, intL (Ts.d ts) = some l → ts.map T.v = l.map V.int
  | [], l, h => by simp [Ts.d, intL] at h; subst h; rfl
  | t :: ts, l, h => by
    cases t with
    | sc x =>
      cases x <;> simp only [Ts.d, T.d, intL] at h <;> try cases h
      obtain ⟨r, hr, rfl⟩ := Option.map_eq_some_iff.mp h
      simp [intL_ok hr, T.v, Sc.v]
    | _ => simp [Ts.d, T.d, intL] at h
def sumD : D → Option Sc
  | .lst _ xs => (intL xs).map fun l => .int l.sum
  | _ => none
theorem hr_sum {K : PySem.W.Frag} (hK : K = g.c.K) : HR1 g sumD (rSum K) := fun H u c Q k h q => by
  subst hK
  cases u with
  | lst p o xs =>
    simp only [T.d, sumD] at h
    obtain ⟨l, hl, rfl⟩ := Option.map_eq_some_iff.mp h
    refine ⟨p, l, rfl, ?_, q trivial⟩
    rw [← intL_ok hl]; exact (lst_sq k).1
  | sc s => cases s <;> simp [T.d, sumD] at h
  | _ => simp [T.d, sumD] at h
/-- int(flag), int(n), int(text) -/
def intD : D → Option Sc
  | .sc (.int i) => some (.int i)
  | .sc (.bl b) => some (.int (if b then 1 else 0))
  | _ => none
theorem hr_int1 : HR1 g intD (fun xs H Q => (∃ i, xs = [.int i] ∧ Q (.int i) H) ∨ ∃ k, xs = [.bl k] ∧ Q (.int (if k then 1 else 0)) H) := fun H u c Q k h q => by
  cases u with
  | sc s =>
    cases s <;> simp [T.d, intD] at h <;> subst h
    · exact .inr ⟨_, rfl, q trivial⟩
    · exact .inl ⟨_, rfl, q trivial⟩
  | _ => simp [T.d, intD] at h
def ordD : D → Option Sc
  | .sc (.str [c]) => some (.int c)
  | _ => none
theorem hr_ord : HR1 g ordD (fun xs H Q => ∃ x, xs = [.str x] ∧ x.length = 1 ∧ Q (.int (x.cps.getD 0 0 : Nat)) H) := fun H u c Q k h q => by
  cases u with
  | sc s =>
    cases s with
    | str l =>
      match l, h with
      | [], h => simp [T.d, ordD] at h
      | [z], h =>
        simp [T.d, ordD] at h
        subst h
        exact ⟨_, rfl, rfl, q trivial⟩
      | _ :: _ :: _, h => simp [T.d, ordD] at h
    | _ => simp [T.d, ordD] at h
  | _ => simp [T.d, ordD] at h

/-! ### max, min of two -/
theorem e_b2 {id : String} {f : D → D → Option D} {r : List V → Hp → VK → Prop} (hc : CallR X (.builtin id) r) (hg : Gl X x) (hm : X.mg x = none) (hv : bootBuiltins x = some (.builtin id)) (ha : PA X [a, b] (tA g W [ma, mb]))
    (hr : ∀ H σ sl tm (t1 t2 : T) d Q, SR g H σ sl (t2 :: t1 :: tm) → f t1.d t2.d = some d → (∀ H' t, SR g H' σ sl (t :: tm) → t.d = d → Q t.v H') → r [t1.v, t2.v] H Q) (hn : x ≠ "__name__" := by decide) (hdb : (x == ("__debug__" : Str)) = false := by decide)
    (he : starEach [a, b] X.env = (false, eval a X.env) :: starEach [b] X.env := by rfl) (hpl : (backTo pos (starEach [b] X.env)).any (·.1) = false := by rfl) : PE X (.Call (.Name x p) [a, b] [] pos) (tE g W (mBin f ma mb)) :=
  (pe_callB hc hg hm hv ha hn hdb he hpl).imp fun σ H Q ⟨sl, tm, s, h⟩ => by
    refine tA2 (k := fun d ρ' => ∀ H' sl' t, SR g H' σ sl' (t :: tm) → den sl' = ρ' → t.d = d → Q t.v H') (f := fun x y => lift (f x y)) s h fun H' sl' t u s' h' => ?_
    cases q : f t.d u.d with
    | none => rw [q] at h'; exact h'.elim
    | some d =>
      rw [q] at h'
      exact hr H' σ sl' tm t u d Q s' q fun H'' t s'' e => h' H'' sl' t s'' rfl e
def maxD : D → D → Option D
  | .sc (.int i), .sc (.int j) => some (.int (max i j))
  | _, _ => none
def minD : D → D → Option D
  | .sc (.int i), .sc (.int j) => some (.int (min i j))
  | _, _ => none
theorem br_max (H : Hp) (σ : L2.St) (sl : List (Option T)) (tm : List T) (t1 t2 : T) (d : D) (Q : VK) (s : SR g H σ sl (t2 :: t1 :: tm)) (h : maxD t1.d t2.d = some d) (q : ∀ H' t, SR g H' σ sl (t :: tm) → t.d = d → Q t.v H') : (fun (xs : List V) H Q => ∃ i j, xs = [.int i, .int j] ∧ Q (V.int (if j > i then j else i)) H) [t1.v, t2.v] H Q := by
  cases t1 with
  | sc x =>
    cases t2 with
    | sc y =>
      cases x <;> cases y <;> simp [T.d, maxD] at h
      rename_i i j
      refine ⟨i, j, rfl, ?_⟩
      have e : (if j > i then j else i) = max i j := by rw [Int.max_def]; split <;> split <;> omega
      rw [e]
      exact q H (.sc (.int _)) (s.pop.pop.push _ trivial) h
    | _ => cases x <;> simp [T.d, maxD] at h
  | _ => simp [T.d, maxD] at h
theorem br_min (H : Hp) (σ : L2.St) (sl : List (Option T)) (tm : List T) (t1 t2 : T) (d : D) (Q : VK) (s : SR g H σ sl (t2 :: t1 :: tm)) (h : minD t1.d t2.d = some d) (q : ∀ H' t, SR g H' σ sl (t :: tm) → t.d = d → Q t.v H') : (fun (xs : List V) H Q => ∃ i j, xs = [.int i, .int j] ∧ Q (V.int (if j < i then j else i)) H) [t1.v, t2.v] H Q := by
  cases t1 with
  | sc x =>
    cases t2 with
    | sc y =>
      cases x <;> cases y <;> simp [T.d, minD] at h
      rename_i i j
      refine ⟨i, j, rfl, ?_⟩
      have e : (if j < i then j else i) = min i j := by rw [Int.min_def]; split <;> split <;> omega
      rw [e]
      exact q H (.sc (.int _)) (s.pop.pop.push _ trivial) h
    | _ => cases x <;> simp [T.d, minD] at h
  | _ => simp [T.d, minD] at h

/-! ### a new list of a list's items -/
/-- the items of what an operand is, in a new list -/
theorem SR.copy {H : Hp} {σ : L2.St} {sl : List (Option T)} {tm : List T} {t1 : Option T} {n : Addr} {xs ys : List T} (s : SR g H σ sl (xs? t1 tm)) (kx : Ts.ok g.c H xs) (hp : Ds.pur (Ts.d xs) = true)
    (hw : ∀ a, Ts.sh a xs ≤ So (T.sh a) sl + Ts.sh a (xs? t1 tm)) (hy : ∀ t ∈ ys, t ∈ xs) (hz : ys.length ≤ 16777216) (hn : H n = none) : SR g (upd H n (.lst (ys.map T.v))) σ sl (.lst n .own ys :: tm) := by
  have hO : ∀ a, Ts.oc a ys = 0 := fun a => Nat.eq_zero_of_not_pos fun hpos => by
    obtain ⟨t, m, ht⟩ := Ts.pos_oc hpos
    have := T.pur_oc a t (Ds.pur_mem hp (hy t m))
    omega
  have hS : ∀ a, 0 < Ts.sh a ys → 0 < Ts.sh a xs := fun a hpos => by
    obtain ⟨t, m, ht⟩ := Ts.pos_sh hpos
    have := Ts.sh_mem (a := a) (hy t m)
    omega
  have oky : Ts.ok g.c H ys := by rw [Ts.ok_iff]; exact fun t m => Ts.ok_iff.mp kx t (hy t m)
  have hnew : SR g H σ sl (ys.reverse ++ tm) := by
    refine s.tmp ?_ fun a => ?_
    · rw [Ts.ok_iff]
      intro t m
      rcases List.mem_append.mp m with m | m
      · exact Ts.ok_iff.mp oky t (List.mem_reverse.mp m)
      · exact Ts.ok_iff.mp s.xs.okT t m
    · have z1 := hO a
      have z2 := hS a
      have z3 := hw a
      rw [Ts.oc_append, Ts.sh_append, Ts.oc_rev, Ts.sh_rev]
      cases t1 with
      | none => simp only [xs?] at z3 ⊢; omega
      | some w => simp only [xs?, Ts.oc, Ts.sh] at z3 ⊢; omega
  exact hnew.newL hn hz oky fun z => by rw [Ts.oc_rev, Ts.sh_rev]; omega
def mNew (f : D → Option D) (oa : Opd) : Cm D := fun ρ => (oa.run ρ).bind fun t ρ => match oa.get t ρ with
  | some x => lift (f x) ρ
  | none => .stuck
def listD : D → Option D
  | .lst _ xs => if Ds.pur xs then some (.lst .own xs) else none
  | .tup xs => if Ds.pur xs then some (.lst .own xs) else none
  | _ => none
theorem e_list (hK : X.K = g.c.K) (hg : Gl X "list") (hm : X.mg "list" = none) (ha : PE X a (tO g W oa)) (he : starEach (a :: []) X.env = (false, eval a X.env) :: starEach [] X.env := by rfl) : PE X (.Call (.Name "list" p) [a] [] pos) (tE g W (mNew listD oa)) :=
  (pe_callTy call_list_of hg hm (by decide +kernel) (pa_cons ha pa_nil he) (he := he)).imp fun σ H Q ⟨sl, tm, s, h⟩ => by
    refine tO.of s h fun H1 sl1 t1 v1 s1 d1 h1 => ?_
    have hm1 : ∀ u, t1 = some u → u ∈ xs? t1 tm := fun u e => by subst e; simp [xs?]
    split at h1
    · rename_i x ex
      obtain ⟨w, kw, ew, fw, hw⟩ := d1.tree s1 hm1 ex
      subst fw ew
      cases w with
      | lst p o xs =>
        simp only [T.d, listD] at h1
        split at h1
        · rename_i hp
          have q := lst_sq kw
          refine ⟨p, _, rfl, .inl (by rw [hK]; exact q.1), fun n hn => ?_⟩
          exact h1 _ _ _ (s1.copy q.2.2 hp (fun a => by have := hw a; simp only [T.sh] at this; omega) (fun t m => m) q.2.1 hn) rfl rfl
        · exact h1.elim
      | tup p o xs =>
        simp only [T.d, listD] at h1
        split at h1
        · rename_i hp
          have q := tup_sq kw
          refine ⟨p, _, rfl, .inr (by rw [hK]; exact q.1), fun n hn => ?_⟩
          exact h1 _ _ _ (s1.copy q.2.2 hp (fun a => by have := hw a; simp only [T.sh] at this; omega) (fun t m => m) q.2.1 hn) rfl rfl
        · exact h1.elim
      | sc y => cases y <;> exact h1.elim
      | _ => exact h1.elim
    · exact h1.elim

/-! ### a list in a slot is changed -/
/-- x.append(e) -/
def mApp (i : Nat) (ma : Cm D) : Cm D := fun ρ => match ρ[i]? with
  | some (some (.lst _ _)) => (ma ρ).bind fun d ρ => match ρ[i]? with
    | some (some (.lst .own xs)) => if xs.length < 16777216 then .ok .non (ρ.set i (some (.lst .own (xs ++ [d])))) else .stuck
    | _ => .stuck
  | _ => .stuck
def mExt (i : Nat) (ma : Cm D) : Cm D := fun ρ => match ρ[i]? with
  | some (some (.lst _ _)) => (ma ρ).bind fun d ρ => match ρ[i]?, d with
    | some (some (.lst .own xs)), .lst o ys => if (o = .own ∨ o = .shr) ∧ xs.length + ys.length ≤ 16777216 then .ok .non (ρ.set i (some (.lst .own (xs ++ ys)))) else .stuck
    | _, _ => .stuck
  | _ => .stuck
/-- the tree in a slot is written: its list becomes zs, of its own items and of what is held on top -/
theorem SR.write {H : Hp} {σ : L2.St} {sl : List (Option T)} {tm es : List T} {i : Nat} {p : Addr} {xs zs : List T} (s : SR g H σ sl (es ++ tm)) (h : sl[i]? = some (some (T.lst p .own xs))) (hz : zs.length ≤ 16777216)
    (hk : Ts.ok g.c H zs) (ho : ∀ a, Ts.oc a zs ≤ Ts.oc a xs + Ts.oc a es) (hs : ∀ a, 0 < Ts.sh a zs → 0 < Ts.sh a xs + Ts.sh a es) :
    SR g (upd H p (.lst (zs.map T.v))) σ (sl.set i (some (T.lst p .own zs))) tm := by
  have hmem := s.slot h
  have k := s.okS _ hmem
  simp only [T.ok] at k
  have b1 : b2 (True ∧ True) = 1 := by simp [b2]
  have g1 := So_get (f := T.oc p) hmem
  simp only [T.oc] at g1
  rw [b1] at g1
  have iv := s.inv p
  rw [Ts.oc_append, Ts.sh_append] at iv
  have c1 : ∀ a, So (T.oc a) (sl.set i (some (T.lst p .own zs))) + (b2 (Ow.own = Ow.own ∧ p = a) + Ts.oc a xs) = So (T.oc a) sl + (b2 (Ow.own = Ow.own ∧ p = a) + Ts.oc a zs) := fun a => by
    have := So_set (f := T.oc a) (x := some (T.lst p .own zs)) h
    simpa [fO, T.oc] using this
  have c2 : ∀ a, So (T.sh a) (sl.set i (some (T.lst p .own zs))) + Ts.sh a xs = So (T.sh a) sl + Ts.sh a zs := fun a => by
    have := So_set (f := T.sh a) (x := some (T.lst p .own zs)) h
    simp only [fO, T.sh] at this
    omega
  have k0 : Ts.oc p zs = 0 ∧ Ts.sh p zs = 0 := by
    have h1 := ho p
    have h2 := hs p
    have g2 := So_get (f := T.sh p) hmem
    simp only [T.sh] at g2
    omega
  refine s.go (fun t m => ?_) ?_ (fun a => .inl ?_) (fun a => ?_) s.len (by simp [s.slen]) (fun j t hj => ?_) s.io
  · rcases mem_set m with e | e
    · cases e
      simp only [T.ok]
      exact ⟨upd_same, hz, Ts.stay zs hk fun a q => upd_ne fun e => by subst e; omega⟩
    · obtain ⟨j, hj⟩ := mem_get m
      rcases set_get hj with ⟨rfl, e'⟩ | ⟨ne, e'⟩
      · cases e'
        simp only [T.ok]
        exact ⟨upd_same, hz, Ts.stay zs hk fun a q => upd_ne fun e => by subst e; omega⟩
      · refine T.stay t (s.okS t e) fun a q => upd_ne fun ea => ?_
        subst ea
        -- another slot can't hold it
        have d0 := So_set (f := T.oc a) (x := none) h
        have d1 := So_get (f := T.oc a) (sl := sl.set i none) (t := t) (List.mem_of_getElem? (i := j) (by rw [List.getElem?_set_ne (Ne.symm ne)]; exact e'))
        have d2 := So_get (f := T.sh a) e
        simp only [fO, T.oc] at d0
        rw [b1] at d0
        omega
  · have kt := s.okT
    rw [Ts.ok_iff] at kt ⊢
    intro t m
    refine T.stay t (kt t (List.mem_append_right _ m)) fun a q => upd_ne fun ea => ?_
    subst ea
    have h1 := Ts.oc_mem (a := a) m; have h2 := Ts.sh_mem (a := a) m
    omega
  · have d1 := c1 a
    have d2 := c2 a
    have h1 := ho a
    have h2 := hs a
    have g2 := So_get (f := T.sh a) hmem
    have g3 := So_get (f := T.oc a) hmem
    simp only [T.sh, T.oc] at g2 g3
    rw [Ts.oc_append, Ts.sh_append]
    refine ⟨by omega, fun q => .inl ?_⟩
    omega
  · by_cases e : a = p
    · subst e
      refine .inr (.inr ?_)
      omega
    · exact .inl (upd_ne e)
  · rcases set_get hj with ⟨rfl, e⟩ | ⟨_, e⟩
    · cases e; have := s.at_ _ _ h; simpa [T.v] using this
    · exact s.at_ _ _ e
theorem own_list {H : Hp} {σ : L2.St} {sl : List (Option T)} {tm : List T} {i : Nat} {xs : List D} (s : SR g H σ sl tm) (h : (den sl)[i]? = some (some (.lst .own xs))) : ∃ p ts, sl[i]? = some (some (T.lst p .own ts)) ∧ Ts.d ts = xs ∧ H p = some (.lst (ts.map T.v)) ∧ Ts.ok g.c H ts ∧ σ[i]? = some (some (.ref p)) := by
  obtain ⟨t, e1, e2, e4, e3⟩ := s.val h
  cases t with
  | lst p o ts =>
    simp only [T.d, D.lst.injEq] at e2
    obtain ⟨rfl, rfl⟩ := e2
    simp only [T.ok] at e4
    exact ⟨p, ts, e1, rfl, e4.1, e4.2.2, e3⟩
  | _ => simp [T.d] at e2
theorem some_list {H : Hp} {σ : L2.St} {sl : List (Option T)} {tm : List T} {i : Nat} {o : Ow} {xs : List D} (hK : X.K = g.c.K) (s : SR g H σ sl tm) (h : (den sl)[i]? = some (some (.lst o xs))) : ∃ p, σ[i]? = some (some (.ref p)) ∧ tyV X.K "list" (.ref p) H := by
  obtain ⟨t, e1, e2, e4, e3⟩ := s.val h
  cases t with
  | lst p o ts => exact ⟨p, e3, .inl ⟨rfl, _, by rw [hK]; exact (lst_sq e4).1⟩⟩
  | _ => simp [T.d] at e2
theorem e_app {y : Str} {apos : Pos} {i : Nat} (hK : X.K = g.c.K) (hp : PE X (.Call (.Attribute (.Name y p) "append" apos) [a] [] pos) (tBM X.K "list" rAppend (tVar i) (tA g W [ma]))) : PE X (.Call (.Attribute (.Name y p) "append" apos) [a] [] pos) (tE g W (mApp i ma)) :=
  hp.imp fun σ H Q ⟨sl, tm, s, h⟩ => by
    unfold mApp at h
    split at h
    · rename_i o xs e0
      obtain ⟨p, e3, hty⟩ := some_list hK s e0
      refine ⟨_, e3, hty, tA1 s h fun H1 sl1 t s1 h1 => ?_⟩
      split at h1
      · rename_i ys e1
        obtain ⟨p', ts, g1, rfl, g3, g4, g5⟩ := own_list s1 e1
        rw [e3] at g5
        cases g5
        split at h1
        · rename_i hz
          rw [Ts.d_len] at hz
          refine ⟨_, _, t.v, rfl, rfl, g3, by rw [SZ_eq]; simpa using hz, ?_⟩
          have s2 := SR.write (zs := ts ++ [t]) (es := [t]) (tm := tm) s1 g1 (by simp; omega) (by
              rw [Ts.ok_iff]; intro u m
              rcases List.mem_append.mp m with m | m
              · exact Ts.ok_iff.mp g4 u m
              · have e := List.mem_singleton.mp m; subst e; exact s1.top) (fun a => by simp [Ts.oc_append, Ts.oc]) (fun a => by simp [Ts.sh_append, Ts.sh])
          rw [List.map_append] at s2
          exact h1 _ _ (.sc .non) (s2.push _ trivial) (by rw [den_set]; simp [T.d, Ts.d_append, Ts.d]) rfl
        · exact h1.elim
      · exact h1.elim
    · exact h.elim
theorem e_ext {y : Str} {apos : Pos} {i : Nat} (hK : X.K = g.c.K) (hp : PE X (.Call (.Attribute (.Name y p) "extend" apos) [a] [] pos) (tBM X.K "list" rExtend (tVar i) (tA g W [ma]))) : PE X (.Call (.Attribute (.Name y p) "extend" apos) [a] [] pos) (tE g W (mExt i ma)) :=
  hp.imp fun σ H Q ⟨sl, tm, s, h⟩ => by
    unfold mExt at h
    split at h
    · rename_i o xs e0
      obtain ⟨p, e3, hty⟩ := some_list hK s e0
      refine ⟨_, e3, hty, tA1 s h fun H1 sl1 t s1 h1 => ?_⟩
      split at h1
      · rename_i zs o2 ys e1 e2
        obtain ⟨p', ts, g1, rfl, g3, g4, g5⟩ := own_list s1 e1
        rw [e3] at g5
        cases g5
        split at h1
        · rename_i hz
          cases t with
          | lst q o3 us =>
            simp only [T.d, D.lst.injEq] at e2
            obtain ⟨rfl, rfl⟩ := e2
            rw [Ts.d_len, Ts.d_len] at hz
            have kt := s1.top
            have hq : H1 q = some (.lst (us.map T.v)) := by
              rcases hz.1 with rfl | rfl <;> (simp only [T.ok] at kt; exact kt.1)
            have ku := (lst_sq kt).2.2
            refine ⟨_, q, _, _, rfl, rfl, g3, hq, by rw [SZ_eq]; simpa using hz.2, ?_⟩
            have s2 := SR.write (zs := ts ++ us) (es := [T.lst q o3 us]) (tm := tm) s1 g1 (by simpa using hz.2) (by
                rw [Ts.ok_iff]; intro u m
                rcases List.mem_append.mp m with m | m
                · exact Ts.ok_iff.mp g4 u m
                · exact Ts.ok_iff.mp ku u m) (fun a => by simp [Ts.oc_append, Ts.oc, T.oc]) (fun a => by simp [Ts.sh_append, Ts.sh, T.sh]; omega)
            rw [List.map_append] at s2
            exact h1 _ _ (.sc .non) (s2.push _ trivial) (by rw [den_set]; simp [T.d, Ts.d_append]) rfl
          | _ => simp [T.d] at e2
        · exact h1.elim
      · exact h1.elim
    · exact h.elim
/-- x[i] = e -/
def mSetI (i : Nat) (mi : Cm D) : D → Cm Unit := fun d ρ => match ρ[i]? with
  | some (some (.lst _ _)) => (mi ρ).bind fun j ρ => match ρ[i]?, j with
    | some (some (.lst .own xs)), .sc (.int k) => match ixN xs.length k with
      | some n => .ok () (ρ.set i (some (.lst .own (xs.set n d))))
      | none => .stuck
    | _, _ => .stuck
  | _ => .stuck
theorem Ts.d_set (ts : List T) (n : Nat) (t : T) : Ts.d (ts.set n t) = (Ts.d ts).set n t.d := by simp [Ts.d_map, List.map_set]
theorem Ts.oc_set (a : Addr) (t : T) : ∀ (ts : List T) (n : Nat), Ts.oc a (ts.set n t) ≤ Ts.oc a ts + t.oc a
  | [], n => by simp [Ts.oc]
  | u :: ts, 0 => by simp [Ts.oc]; omega
  | u :: ts, n + 1 => by have := Ts.oc_set a t ts n; simp [Ts.oc]; omega
theorem Ts.sh_set (a : Addr) (t : T) : ∀ (ts : List T) (n : Nat), Ts.sh a (ts.set n t) ≤ Ts.sh a ts + t.sh a
  | [], n => by simp [Ts.sh]
  | u :: ts, 0 => by simp [Ts.sh]; omega
  | u :: ts, n + 1 => by have := Ts.sh_set a t ts n; simp [Ts.sh]; omega
theorem g_set {y : Str} {i : Nat} (hp : PG X (.Subscript (.Name y p) a pos) (gSub (tVar i) (tE g W ma) rSetL)) : PG X (.Subscript (.Name y p) a pos) (tG g W (mSetI i ma)) :=
  hp.imp fun v σ H Q ⟨sl, tm, t, s, e, h⟩ => by
    subst e
    unfold mSetI at h
    split at h
    · rename_i o xs e0
      obtain ⟨t0, _, e2, e4, e3⟩ := s.val e0
      refine ⟨t0.v, e3, tE.of s (Lands.drop h) fun H1 sl1 u s1 h1 => ?_⟩
      split at h1
      · rename_i ys k e1 ek
        obtain ⟨p', ts, g1, rfl, g3, g4, g5⟩ := own_list s1 e1
        rw [e3] at g5
        have ev : t0.v = .ref p' := Option.some.inj (Option.some.inj g5)
        cases u with
        | sc z =>
          simp only [T.d, D.int, D.sc.injEq] at ek
          subst ek
          rw [Ts.d_len] at h1
          cases en : ixN ts.length k with
          | none => rw [en] at h1; exact h1.elim
          | some n =>
            rw [en] at h1
            refine ⟨p', ts.map T.v, k, n, ev, rfl, g3, by rw [List.length_map]; exact en, ?_⟩
            have s1' := s1.pop
            have s2 := SR.write (zs := ts.set n t) (es := [t]) (tm := tm) s1' g1 (by simp; have := s1'.okS _ (s1'.slot g1); simp only [T.ok] at this; exact this.2.1) (by
                rw [Ts.ok_iff]; intro w m
                rcases mem_set m with e | m
                · subst e; exact s1'.top
                · exact Ts.ok_iff.mp g4 w m) (fun a => by have := Ts.oc_set a t ts n; simp only [Ts.oc]; omega) (fun a => by have := Ts.sh_set a t ts n; simp only [Ts.sh]; omega)
            rw [List.map_set] at s2
            exact h1 _ _ _ s2 (by rw [den_set]; simp [T.d, Ts.d_set])
        | _ => simp [T.d] at ek
      · exact h1.elim
    · exact h.elim
end
end VS

/-! VS, part m: the def of the text, the end of a law. -/
namespace VS
open PySem PySem.Spec PyProof.Rows L2
theorem fn_okD {P : Program} {w : World} {K : PySem.W.Frag} {mg : Str → Option Value} {base : Heap} {c : Cfg} {x qual : Str} {params : Arguments} {sbody : List Stmt} {scope : Scope} {dvs : List V} {kws : List (Str × V)} {f : Addr} {fd : FuncData} {N ps : List Str} {k np : Nat} {io : List Nat} {m : Cm Out}
    (F : FunD K x qual params sbody scope dvs kws f fd) (S : FnScope N ps scope) (hps : ps.length = np) (hN : np ≤ N.length) (hio : ∀ i ∈ io, i < np) (hnd : io.Nodup)
    (body : ∀ (g : Gh) (cdv : Value) (A : Around) (outer : List Env) (s : Shared) (H : Hp) (E : XK), Room k (A.deeper (envOfC qual scope s.heap.objs.size f cdv)) → g.c = c → g.N = N.length → g.io.map (·.1) = io →
      PSs (cxOf (L2.CX P w) P w K mg base N qual scope f cdv A outer s H E) sbody (tS g (fun cls d _ H => E cls d H) m)) :
    FnOk P w K mg base (L2.CX P w) (k + 1) f fd ps (spM c np io (runF N.length io m)) := by
  obtain ⟨oc, od, dV, kV, doc, pm, an, cdv, ct, osl, rfl, lk, hcd, _, _⟩ := F.ex
  refine fn_of lk hcd S (spM_len hps) fun A outer s H vs Q E hr h => ?_
  exact body_ok (fun g => body g cdv A outer s H E hr) S hps hN hio hnd h
/-- a law's end -/
theorem walk_ofEw {l : PySem.W.OpenLaw} {n k : Nat} {q : Program} {loose : List Str} {XP : (Str → Option Value) → Heap → Prop} {YP : World → Heap → Prop} {d : DefRec} {x : Str}
    (hn : l.most = some n) (hn2 : n ≤ sizeLine) (hdf : d.params.defaults = []) (hr : Room k callerA)
    (F : ∀ (w : World) (mg : Str → Option Value) (fa : Addr) (h : Heap), YP w h → h.Ns mainGlobals mg → mg d.name = some (.ref fa) →
      ∃ (K : PySem.W.Frag) (fd : FuncData) (c : Cfg) (M : List D → RF), K.In h ∧ (c.K = K ∧ c.tb = []) ∧ (∀ (s : Shared) (u : Value), BindsTo s fd ⟨[u], []⟩ [(x, u)]) ∧
        (∀ (o : Ow) (ns : List Int), o = .frz ∨ o = .stc → ns.length ≤ n → M [.lst o (ns.map D.int)] = .ok (.bl true) []) ∧
        ∀ base : Heap, K.In base → base.Ns mainGlobals mg → FnOk l.prog w K mg base (L2.CX l.prog w) k fa fd [x] (spM c 1 [] M)) :
    PySem.W.WalkO q loose XP YP l.row.toRowW d [] (fun f vs => PySem.call f vs) := by
  refine Att.attach_call hn hdf fun w s₀ s₁ mg mb fa o pm cd doc a vs ns G Y ho hd hcd hmg hobj hints hlen hg => ?_
  obtain ⟨K, fd, c, M, KX, ⟨hcK, hct⟩, hb, hM, hF⟩ := F w mg fa _ Y G.T.g hmg
  refine law_call KX G.T.g G.T.b G.T.builtins G.T.nolimit hg hobj hints (Nat.le_trans hlen hn2) hr hF hb (fun H hO hS => ?_) fun H e s' h => ?_
  · have gi : ∀ m : List Int, Ts.ok c H (m.map fun i => T.sc (.int i)) := fun m => by
      rw [Ts.ok_iff]; intro t ht
      obtain ⟨i, _, rfl⟩ := List.mem_map.mp ht
      exact trivial
    have dm : ∀ m : List Int, Ts.d (m.map fun i => T.sc (.int i)) = m.map D.int := fun m => by
      rw [Ts.d_map, List.map_map]; rfl
    have vm : ∀ m : List Int, (m.map fun i => T.sc (.int i)).map T.v = m.map V.int := fun m => by
      rw [List.map_map]; rfl
    have om : ∀ (a : Addr) (m : List Int), Ts.oc a (m.map fun i => T.sc (.int i)) = 0 ∧ Ts.sh a (m.map fun i => T.sc (.int i)) = 0 := fun a m => by
      induction m with
      | nil => simp [Ts.oc, Ts.sh]
      | cons i m ih => simp [Ts.oc, Ts.sh, T.oc, T.sh, ih]
    have hz : (ns.map fun i => T.sc (.int i)).length ≤ 16777216 := by
      rw [List.length_map]; have := Nat.le_trans hlen hn2; rw [SZ_eq] at this; exact this
    have key : ∀ o : Ow, o = .frz ∨ o = .stc → (T.lst a o (ns.map fun i => T.sc (.int i))).ok c H → spM c 1 [] M [.ref a] H (fun v _ => v = .bl true) fun _ _ _ => False := fun o ho k => by
      refine ⟨[T.lst a o (ns.map fun i => T.sc (.int i))], rfl, by simp [Ts.ok, k], (fun p hp => by rw [hct] at hp; cases hp), fun b => .inl ?_, rfl, ?_⟩
      · have := om b ns
        rcases ho with rfl | rfl <;> simp [Ts.oc, T.oc, b2, this]
      · rw [show Ts.d [T.lst a o (ns.map fun i => T.sc (.int i))] = [D.lst o (ns.map D.int)] by simp [Ts.d, T.d, dm], hM o ns ho hlen]
        intro H' t us _ ht _ _
        cases t with
        | sc s => simp [T.d] at ht; subst ht; rfl
        | _ => simp [T.d] at ht
    rcases hS with (h | ⟨o, h⟩) | h
    · rcases hO a with e | ⟨o, xs, e⟩
      · rw [h] at e; cases e
      · rw [h] at e; cases e
    · exact key .frz (.inl rfl) (by simp only [T.ok]; exact ⟨⟨o, by rw [vm]; exact h⟩, hz, gi ns⟩)
    · exact key .stc (.inr rfl) (by simp only [T.ok]; exact ⟨by rw [vm, hcK]; exact .inr h, hz, gi ns⟩)
  · obtain ⟨_, _, _, _, _, _, _, _, _, _, _, _, z⟩ := h
    exact z
end VS

/-! VS, part n: what a text's proof leans on. -/
namespace VS
open PySem PySem.Spec PyProof.Rows L2
def mStuckO : Cm Out := fun _ => .stuck
def mStuckD : Cm D := fun _ => .stuck
section
variable {X : Cx} {g : Gh} {W : WX} {pos : Pos} {K : PySem.W.Frag} {st : Stmt} {e a : Expr} {es : List Expr} {as : List Ag}
theorem s_never : PS X st (tS g W mStuckO) := ps_never.imp fun De σ H ⟨sl, tm, s, h⟩ => h
theorem hq_eq (hK : K = g.c.K) : HR2 g eqD (rEqD K) := by subst hK; exact hr_eq
theorem hq_ne (hK : K = g.c.K) : HR2 g neD (rNeD K) := by subst hK; exact hr_ne
theorem hq_in (hK : K = g.c.K) : HR2 g (inD false) (fun x y H Q => (∃ i j, x = .str i ∧ y = .str j ∧ Q (.bl (!(Builtin.Str.occurrences j i 0 j.length 1).isEmpty)) H) ∨ rIn K false x y H Q) := by subst hK; exact hr_in
theorem hq_notin (hK : K = g.c.K) : HR2 g (inD true) (fun x y H Q => (∃ i j, x = .str i ∧ y = .str j ∧ Q (.bl (!(!(Builtin.Str.occurrences j i 0 j.length 1).isEmpty))) H) ∨ rIn K true x y H Q) := by subst hK; exact hr_notin

/-- a def of the text: where it stands, its name in the module, how its arguments bind -/
structure At (K : PySem.W.Frag) (mg : Str → Option Value) (x : Str) (st : Stmt) (ps : List Str) (f : Addr) (fd : FuncData) : Prop where
  F : FunD K x x (defArgs st) (defBody st) (defScope st) [] [] f fd
  g : mg x = some (.ref f)
  b : Binds K fd ps []

/-! ### calls by keywords alone -/
/-- one keyword -/
theorem e_callK1 {f : Addr} {fd : FuncData} {x k1 : Str} {p kp : Pos} {c : Cfg} {M : List D → RF} {k : Nat} {m : Cm D} (F : FnOk X.prog X.w X.K X.mg X.base (L2.CX X.prog X.w) k f fd [k1] (spM c 1 [] M)) (hr : Room k X.A) (hg : Gl X x) (hm : X.mg x = some (.ref f)) (hk : PySem.W.keepIn X.K (.ref f) = true)
    (hb : ∀ (s : Shared) (u : Value), BindsTo s fd ⟨[], [(k1, u)]⟩ [(k1, u)]) (tk : Takes X W)
    (ha : PE X a (tE g W m)) (hc : g.c = c) (hdb : (x == ("__debug__" : Str)) = false := by decide) : PE X (.Call (.Name x p) [] [⟨some k1, a, kp⟩] pos) (tE g W (mCall M [.e m])) := by
  refine ⟨fun pins s σ H Q I h => ?_⟩
  refine wpAny_Call_Name_kw (ld_glob I hg hm ?_ hdb)
  refine PySem.W.callWith_KW0 (h₀ := X.base) I.ok.mod.kin hk rfl ?_ rfl
  -- the value of the keyword, as an argument alone
  have h2 := call_imp (as := [.e m]) (np := 1) (io := []) hc rfl rfl (by simp [agSlots]) σ H Q h
  obtain ⟨sl, tm, s1, h3⟩ := h2
  have hpk : PK X [⟨some k1, a, kp⟩] (tCons (tE g W m) tNil) := pk_cons ha pk_nil
  refine thn (hpk.run pos pins s σ H (fun vs H1 => spM c 1 [] M vs H1 Q (WE W σ)) I ?_) fun ws s2 ⟨zs, H2, I2, rz, q2⟩ => ⟨I2.kIn, ?_⟩
  · show tE g W m σ H _
    refine tE.of (f := fun d ρ => (agRun [] ρ).bind fun ts ρ => R.ok (some d :: ts) ρ) s1 h3 fun H' sl' t s' h' => ?_
    simp only [agRun, R.bind_ok, Lands] at h'
    have z := h' H' sl' [some t] [t.v] (by simpa [live] using s') rfl (by simp) (by simp [AgV])
    simp only [tNil]

    exact z
  · show wpAny _ _ (call (.ref f) [] ([some k1].filterMap id |>.zip ws)) _ _ _
    have hl : zs.length = 1 := by
      obtain ⟨ts, e, _, _, _, hl, _⟩ := q2
      rw [e]; simpa using hl
    obtain ⟨z, rfl⟩ : ∃ z, zs = [z] := List.length_eq_one_iff.mp hl
    obtain ⟨u, rfl, r⟩ : ∃ u, ws = [u] ∧ RelV z u := by
      cases rz with
      | cons r rr => cases rr; exact ⟨_, rfl, r⟩
    · refine wpAny_call (codeAny_mono (F.run X.A X.stack s2 H2 ⟨[], [(k1, u)]⟩ [u] [z] Q (WE W σ) hr I2.env0 (hb s2 u) (.cons r .nil) q2) fun r s' hq => ?_)
      cases r with
      | error e => exact (passAt tk σ) pins H2 s2 e s' I2 hq
      | ok fl =>
        cases fl with
        | ret u => exact I2.after hq
        | next => exact False.elim hq
        | brk => exact False.elim hq
        | cont => exact False.elim hq

theorem e_gI2 {x : Str} {i : Int} (hg : Gl X x) (h : ∃ t, X.mg x = some (.int i t)) (hd : (x == ("__debug__" : Str)) = false := by decide) : PE X (.Name x pos) (tE g W (mC (.int i))) := by
  obtain ⟨t, h⟩ := h
  exact e_gI hg h ⟨t, rfl⟩ hd
theorem e_gS2 {x : Str} {l : List Nat} (hg : Gl X x) (hl : (Sc.str l).good) (h : ∃ t, X.mg x = some (.str ⟨l.toArray⟩ t)) (hd : (x == ("__debug__" : Str)) = false := by decide) : PE X (.Name x pos) (tE g W (mC (.str l))) := by
  obtain ⟨t, h⟩ := h
  exact e_gS hg hl h ⟨t, rfl⟩ hd
/-- a tuple of the text: of ints and texts -/
def mK (l : List Sc) : Cm D := fun ρ => .ok (.tup (l.map D.sc)) ρ
theorem e_gT {x : Str} {l : List Sc} (hK : X.K = g.c.K) (hl : l.length ≤ 16777216 ∧ ∀ s ∈ l, s.good) (hg : Gl X x) (h : ∃ a, X.mg x = some (.ref a) ∧ StcT X.K a (l.map Sc.v)) (hd : (x == ("__debug__" : Str)) = false := by decide) : PE X (.Name x pos) (tE g W (mK l)) := by
  obtain ⟨a, h, hs⟩ := h
  refine (pe_glob (v := .ref a) hg h rfl hd).imp fun σ H Q ⟨sl, tm, s, q⟩ => ?_
  have vm : (l.map T.sc).map T.v = l.map Sc.v := by rw [List.map_map]; rfl
  have om : ∀ (a : Addr) (m : List Sc), Ts.oc a (m.map T.sc) = 0 ∧ Ts.sh a (m.map T.sc) = 0 := fun a m => by
    induction m with
    | nil => simp [Ts.oc, Ts.sh]
    | cons i m ih => simp [Ts.oc, Ts.sh, T.oc, T.sh, ih]
  exact q H sl (T.tup a true (l.map T.sc)) (s.tmp (by
    simp only [Ts.ok, T.ok]
    refine ⟨⟨by rw [vm, ← hK]; exact hs, by simpa using hl.1, ?_⟩, s.okT⟩
    rw [Ts.ok_iff]; intro t ht
    obtain ⟨i, hi, rfl⟩ := List.mem_map.mp ht
    exact hl.2 i hi) fun b => by have := om b l; simp only [Ts.oc, Ts.sh, T.oc, T.sh]; have := b2_false (p := (true = false ∧ a = b)) (by simp); omega) rfl (by simp [T.d, Ts.d_map])
theorem comp_io {l vs : List Nat} (h : g.io.map (·.1) = l) (hv : l.all (fun i => !vs.contains i) = true) : ∀ p ∈ g.io, p.1 ∉ vs := fun p hp hm => by
  have := List.all_eq_true.mp hv p.1 (by rw [← h]; exact List.mem_map_of_mem hp)
  simp at this
  exact this hm
theorem bindK1 {x qual : Str} {params : Arguments} {body : List Stmt} {scope : Scope} {k1 : Str} {f : Addr} {fd : FuncData} (F : FunD K x qual params body scope [] [] f fd)
    (h : ∀ (kV doc pm : Value) (an : Option Addr) (cdv ct u : Value), bindArgs (PySem.W.fnOf x qual params body scope .none kV doc pm an cdv ct) ⟨[], [(k1, u)]⟩ = pure [(k1, u)]) : ∀ (s : Shared) (u : Value), BindsTo s fd ⟨[], [(k1, u)]⟩ [(k1, u)] := fun s u => by
  obtain ⟨oc, od, dV, kV, doc, pm, an, cdv, ct, osl, rfl, lk, hcd, hD, hK⟩ := F.ex
  rcases hD with ⟨_, rfl⟩ | ⟨e, _⟩
  · exact .of_eq (h kV doc pm an cdv ct u)
  · exact absurd rfl e
/-- a tuple's items to several targets -/
def mTupT (fs : List (D → Cm Unit)) : D → Cm Unit := fun d ρ => match d with
  | .tup ds => if ds.length = fs.length then putAll fs ds ρ else .stuck
  | _ => .stuck
theorem g_tupT {es : List Expr} {k n : Nat} {fs : List (D → Cm Unit)} (hc : X.calm = true) (h : PGs X es (tGs g W fs)) (hK : X.K = g.c.K)
    (hn : (assignEach es X.env).length = n := by rfl) (hst : (assignEach es X.env).findIdx? (·.1) = none := by rfl) (hfn : fs.length = n := by rfl) : PG X (.Tuple es k pos) (tG g W (mTupT fs)) := g_tup hc h hK hn hst hfn
/-- int(flag), int(n), int(text) -/
theorem call_intA : CallR X (.type "int") (fun xs H Q => (∃ i, xs = [.int i] ∧ Q (.int i) H) ∨ ∃ k, xs = [.bl k] ∧ Q (.int (if k then 1 else 0)) H) := call_int1
theorem hr_intA : HR1 g intD (fun xs H Q => (∃ i, xs = [.int i] ∧ Q (.int i) H) ∨ ∃ k, xs = [.bl k] ∧ Q (.int (if k then 1 else 0)) H) := hr_int1
end
end VS

/-! VS, part o: a text's methods, join, replace, a loop over a text. -/
namespace VS
open PySem PySem.Spec PyProof.Rows L2
section
variable {X : Cx} {g : Gh} {W : WX} {pos : Pos} {a b e f : Expr} {ma mb m : Cm D} {oa ob : Opd}
theorem str_eq {x : Str} {l : List Nat} (h : x.cps.toList = l) : x = ⟨l.toArray⟩ := by
  subst h
  cases x
  simp
def mM (f : D → D → Option Sc) (x y : Opd) : Cm D := fun ρ => (x.run ρ).bind fun t ρ => match x.get t ρ with
  | some (.sc (.str _)) => (y.run ρ).bind fun u ρ => match x.get t ρ, y.get u ρ with
    | some v, some w => (lift (f v w) ρ).bind fun s ρ => .ok (.sc s) ρ
    | _, _ => .stuck
  | _ => .stuck
def HM1 (g : Gh) (f : D → D → Option Sc) (r : V → List V → Hp → VK → Prop) : Prop := ∀ H (u1 u2 : T) c Q, u1.ok g.c H → u2.ok g.c H → f u1.d u2.d = some c → (c.good → Q (c.v) H) → r u1.v [u2.v] H Q
theorem m1_imp {f : D → D → Option Sc} {r : V → List V → Hp → VK → Prop} (hr : HM1 g f r) : ∀ σ H Q, tE g W (mM f oa ob) σ H Q → tM1 r (tO g W oa) (tO g W ob) σ H Q := fun σ H Q ⟨sl, tm, s, h⟩ => by
  refine tO.of s h fun H1 sl1 t1 v1 s1 d1 h1 => ?_
  split at h1
  · rename_i x ex
    have hm0 : ∀ u, t1 = some u → u ∈ xs? t1 tm := fun u e => by subst e; simp [xs?]
    obtain ⟨u0, k0, e0, f0, _⟩ := d1.tree s1 hm0 ex
    refine ⟨?_, ?_⟩
    · subst f0
      cases u0 with
      | sc y => simp only [T.d, D.sc.injEq] at e0; subst e0; exact ⟨_, rfl⟩
      | _ => simp [T.d] at e0
    · refine tO.of s1 (Lands.drops h1) fun H2 sl2 t2 v2 s2 d2 h2 => ?_
      split at h2
      · rename_i x y ex ey
        have hm1 : ∀ u, t1 = some u → u ∈ xs? t2 (xs? t1 tm) := fun u e => by subst e; cases t2 <;> simp [xs?]
        have hm2 : ∀ u, t2 = some u → u ∈ xs? t2 (xs? t1 tm) := fun u e => by subst e; simp [xs?]
        have d1' : Held g H2 oa σ sl2 t1 v1 := ⟨d1.is⟩
        obtain ⟨u1, k1, e1, f1, _⟩ := d1'.tree s2 hm1 ex
        obtain ⟨u2, k2, e2, f2, _⟩ := d2.tree s2 hm2 ey
        subst f1 f2 e1 e2
        cases q : f u1.d u2.d with
        | none => rw [q] at h2; exact h2.elim
        | some c =>
          rw [q] at h2
          exact hr H2 u1 u2 c Q k1 k2 q fun gc => (h2 H2 sl2 (.sc c) (s2.xs.xs.push c gc) rfl rfl)
      · exact h2.elim
  · exact h1.elim
theorem e_m {id : String} {name : Str} {apos : Pos} {fm : D → D → Option Sc} {r : V → List V → Hp → VK → Prop} (slot : Slot "str" name id) (ty : typeOf (.builtin id) = pure (.type "method_descriptor")) (rule : MtR X id r) (hr : HM1 g fm r) (ho : PE X a (tO g W oa)) (he : PE X b (tO g W ob))
    (hs : starEach [b] X.env = [(false, eval b X.env)] := by rfl) (hbase : attributeBase a name X.env (eval a X.env) = eval a X.env := by rfl) (hline : (apos.endLine == pos.line) = true := by rfl) :
    PE X (.Call (.Attribute a name apos) [b] [] pos) (tE g W (mM fm oa ob)) := (pe_m1 slot ty rule ho he hs hbase hline).imp (m1_imp hr)
/-! ### join -/
def strL : List D → Option (List (List Nat))
  | [] => some []
  | .sc (.str b) :: r => (strL r).map (b :: ·)
  | _ => none
theorem strL_ok {c : Cfg} {H : Hp} : ∀ {ts : List T} {l : List (List Nat)}, Ts.ok c H ts → strL (Ts.d ts) = some l → ts.map T.v = (l.map fun z => (⟨z.toArray⟩ : Str)).map V.str ∧ ∀ z ∈ l, (Sc.str z).good
  | [], l, k, h => by simp [Ts.d, strL] at h; subst h; simp
  | t :: ts, l, k, h => by
    cases t with
    | sc x =>
      cases x <;> simp only [Ts.d, T.d, strL] at h <;> try cases h
      rename_i z
      obtain ⟨r, hr, rfl⟩ := Option.map_eq_some_iff.mp h
      simp only [Ts.ok] at k
      obtain ⟨q1, q2⟩ := strL_ok k.2 hr
      refine ⟨by simp only [List.map_cons, q1]; rfl, fun y hy => ?_⟩
      rcases List.mem_cons.1 hy with rfl | hy
      · simpa [T.ok] using k.1
      · exact q2 y hy
    | _ => simp [Ts.d, T.d, strL] at h
def glL (s : List Nat) : List (List Nat) → List Nat
  | [] => []
  | x :: r => s ++ x ++ glL s r
def joinL (s : List Nat) : List (List Nat) → List Nat
  | [] => []
  | x :: r => x ++ glL s r
theorem gl_glue (s : List Nat) : ∀ r : List (List Nat), StrLaws.glueL s (r.map fun z => (⟨z.toArray⟩ : Str)) = glL s r
  | [] => rfl
  | x :: r => by simp [StrLaws.glueL, glL, gl_glue s r]
theorem join_eq (s : List Nat) (ys : List (List Nat)) : Txt.join ⟨s.toArray⟩ (ys.map fun z => (⟨z.toArray⟩ : Str)) = ⟨(joinL s ys).toArray⟩ := by
  refine str_eq ?_
  cases ys with
  | nil => rfl
  | cons x r =>
    simp only [List.map_cons]
    show (Builtin.Str.glued _ _).cps.toList = _
    rw [StrLaws.glued_list]
    simp [StrLaws.glueT, joinL, gl_glue]
theorem gl_len (s : List Nat) : ∀ r : List (List Nat), (glL s r).length = (r.map List.length).sum + r.length * s.length
  | [] => by simp [glL]
  | x :: r => by simp [glL, gl_len s r, Nat.add_mul]; omega
theorem join_len (s : List Nat) (r : List (List Nat)) : (joinL s r).length ≤ (r.map List.length).sum + r.length * s.length := by
  cases r with
  | nil => simp [joinL]
  | cons x r => simp [joinL, gl_len s r, Nat.add_mul]; omega
theorem gl_mem (s : List Nat) (c : Nat) : ∀ r : List (List Nat), c ∈ glL s r → c ∈ s ∨ ∃ z ∈ r, c ∈ z
  | [], h => by simp [glL] at h
  | x :: r, h => by
    simp only [glL, List.mem_append] at h
    rcases h with (h | h) | h
    · exact Or.inl h
    · exact Or.inr ⟨x, by simp, h⟩
    · rcases gl_mem s c r h with h | ⟨z, h1, h2⟩
      · exact Or.inl h
      · exact Or.inr ⟨z, by simp [h1], h2⟩
theorem join_mem (s : List Nat) (c : Nat) (r : List (List Nat)) (h : c ∈ joinL s r) : c ∈ s ∨ ∃ z ∈ r, c ∈ z := by
  cases r with
  | nil => simp [joinL] at h
  | cons x r =>
    simp only [joinL, List.mem_append] at h
    rcases h with h | h
    · exact Or.inr ⟨x, by simp, h⟩
    · rcases gl_mem s c r h with h | ⟨z, h1, h2⟩
      · exact Or.inl h
      · exact Or.inr ⟨z, by simp [h1], h2⟩
def joinD : D → D → Option Sc
  | .sc (.str s), .lst _ xs => match strL xs with
    | some ys => if (ys.map List.length).sum + ys.length * s.length ≤ 16777216 then some (.str (joinL s ys)) else none
    | none => none
  | _, _ => none
theorem hs_join {K : PySem.W.Frag} (hK : K = g.c.K) : HM1 g joinD (fun x xs H Q => ∃ a p, ∃ ys : List Str, x = .str a ∧ xs = [.ref p] ∧ (SqL K H p (ys.map V.str) ∨ SqT K H p (ys.map V.str)) ∧
    (ys.map (·.length)).sum + ys.length * a.length ≤ 16777216 ∧ Q (.str (Txt.join a ys)) H) := fun H u1 u2 c Q k1 k2 h q => by
  subst hK
  cases u1 with
  | sc x =>
    cases u2 with
    | lst p o xs =>
      cases x <;> simp only [T.d, joinD] at h <;> try cases h
      rename_i s
      cases e : strL (Ts.d xs) with
      | none => rw [e] at h; cases h
      | some ys =>
        rw [e] at h
        simp only at h
        split at h
        · rename_i hl
          cases h
          have kk := lst_sq k2
          obtain ⟨e1, e2⟩ := strL_ok kk.2.2 e
          simp only [T.ok] at k1
          refine ⟨_, p, ys.map fun z => (⟨z.toArray⟩ : Str), rfl, rfl, .inl ?_, ?_, ?_⟩
          · rw [← e1]; exact kk.1
          · simpa [Str.length, Function.comp_def] using hl
          · rw [join_eq]
            refine q ⟨?_, fun c hc => ?_⟩
            · exact Nat.le_trans (join_len s ys) hl
            · rcases join_mem s c ys hc with h | ⟨z, h1, h2⟩
              · exact k1.2 c h
              · exact (e2 z h1).2 c h2
        · cases h
    | sc y => cases x <;> simp [T.d, joinD] at h
    | _ => cases x <;> simp [T.d, joinD] at h
  | _ => simp [T.d, joinD] at h
/-! ### replace, of two written texts -/
def mRepl (y z : List Nat) (m : Cm D) : Cm D := fun ρ => (m ρ).bind fun d ρ => match d with
  | .sc (.str x) => if x.length + (x.length + 1) * z.length ≤ 16777216 ∧ (StrLaws.replL y z x).all (fun c => decide (c < 1114112)) = true then .ok (.str (StrLaws.replL y z x)) ρ else .stuck
  | _ => .stuck
theorem repl_imp {y z : List Nat} (hy : 1 ≤ y.length) : ∀ σ H Q, tE g W (mRepl y z m) σ H Q → CwR.tReplC (tE g W m) ⟨y.toArray⟩ ⟨z.toArray⟩ σ H Q := fun σ H Q ⟨sl, tm, s, h⟩ => by
  refine tE.of s h fun H1 sl1 t1 s1 h1 => ?_
  cases t1 with
  | sc x =>
    cases x with
    | str x =>
      simp only [T.d] at h1
      split at h1
      · rename_i hl
        refine ⟨⟨x.toArray⟩, rfl, by simpa [Str.length] using hl.1, ?_⟩
        have e : Txt.replace ⟨x.toArray⟩ ⟨y.toArray⟩ ⟨z.toArray⟩ = ⟨(StrLaws.replL y z x).toArray⟩ := str_eq (by rw [StrLaws.replace_list (by simpa [Str.length] using hy)])
        have gl : (StrLaws.replL y z x).length ≤ 16777216 := by
          have := TK.replace_len ⟨x.toArray⟩ ⟨y.toArray⟩ ⟨z.toArray⟩
          rw [e] at this
          simp [Str.length] at this
          omega
        rw [e]
        exact h1 H1 sl1 (.sc (.str _)) (s1.pop.push _ ⟨gl, fun c hc => by simpa using List.all_eq_true.1 hl.2 c hc⟩) rfl rfl
      · exact h1.elim
    | _ => exact h1.elim
  | _ => exact h1.elim
theorem _root_.L2.PET.imp {X : Cx} {e : Expr} {t t' : TE} (h : PET X e t) (w : ∀ σ H Q, t' σ H Q → t σ H Q) : PET X e t' := fun pins s σ H Q h0 I q => h pins s σ H Q h0 I (w σ H Q q)
theorem e_repl1 {y z : List Nat} {ys zs : Str} {j k : Nat} {c0 c1 apos : Pos} (h1 : ys = ⟨y.toArray⟩) (h2 : zs = ⟨z.toArray⟩) (hy : 1 ≤ y.length) (ho : PE X a (tE g W m)) (hyz : (ys == zs) = false := by decide)
    (hst : starEach [.Constant (.str ys) j c0, .Constant (.str zs) k c1] X.env = [(false, eval (.Constant (.str ys) j c0) X.env), (false, eval (.Constant (.str zs) k c1) X.env)] := by rfl)
    (hbase : attributeBase a "replace" X.env (eval a X.env) = eval a X.env := by rfl) (hline : (apos.endLine == pos.line) = true := by rfl) :
    PET X (.Call (.Attribute a "replace" apos) [.Constant (.str ys) j c0, .Constant (.str zs) k c1] [] pos) (tE g W (mRepl y z m)) := by
  subst h1 h2
  exact (CwR.pet_replC ho hyz hst hbase hline).imp (repl_imp hy)
theorem e_repl2 {y z : List Nat} {ys zs : Str} {j k : Nat} {c0 c1 apos : Pos} (h1 : ys = ⟨y.toArray⟩) (h2 : zs = ⟨z.toArray⟩) (hy : 1 ≤ y.length) (ho : PET X a (tE g W m)) (hyz : (ys == zs) = false := by decide)
    (hst : starEach [.Constant (.str ys) j c0, .Constant (.str zs) k c1] X.env = [(false, eval (.Constant (.str ys) j c0) X.env), (false, eval (.Constant (.str zs) k c1) X.env)] := by rfl)
    (hbase : attributeBase a "replace" X.env (eval a X.env) = eval a X.env := by rfl) (hline : (apos.endLine == pos.line) = true := by rfl) :
    PET X (.Call (.Attribute a "replace" apos) [.Constant (.str ys) j c0, .Constant (.str zs) k c1] [] pos) (tE g W (mRepl y z m)) := by
  subst h1 h2
  exact (CwR.pet_replT ho hyz hst hbase hline).imp (repl_imp hy)
/-- a written text ahead of what wants a token -/
theorem pe_opT {op : Operator} {r : R2} {cs : Str} {j : Nat} {p : Pos} {tf : TE} (ho : OpR X (binaryOp op) r) (hb : PET X b tf) : PE X (.BinOp (.Constant (.str cs) j p) op b pos) (tOp r (tC (.str cs)) tf) := by
  refine ⟨fun pins s σ H Q I h => ?_⟩
  refine wpAny_BinOp (Calls.Constant_str ?_)
  exact thn (hb pins _ σ H _ (by show 1 ≤ s.toks + 1; omega) (I.tok _) h) fun u s2 ⟨y, H2, I2, r2, q2⟩ => ho pins s2 σ H2 _ y _ u Q I2 (show RelV (.str cs) (.str cs s.toks) from ⟨_, rfl⟩) r2 q2
theorem e_addT {c : List Nat} {cs : Str} {j : Nat} {p : Pos} (h1 : cs = ⟨c.toArray⟩) (hg : (Sc.str c).good) (hb : PET X b (tE g W mb)) : PE X (.BinOp (.Constant (.str cs) j p) .Add b pos) (tE g W (mBin addD (mC (.str c)) mb)) :=
  e_addW fun ho => (pe_opT ho hb).imp fun σ H Q ⟨sl, tm, s, h⟩ => by
    subst h1
    exact h H sl (.sc (.str c)) (s.push _ hg) rfl rfl
/-! ### a loop over a text -/
def mItemsS (ma : Cm D) : Cm (List D) := fun ρ => (ma ρ).bind fun d ρ => match d with
  | .sc (.str l) => .ok (l.map fun c => D.str [c]) ρ
  | _ => .stuck
theorem it_str {l : List Nat} (hl : (Sc.str l).good) : ItOk g (Its ⟨l.toArray⟩) [] (l.map fun c => D.str [c]) where
  stop := fun H σ sl tm s => by simp [Its]
  go := fun i d H σ sl tm s h => by
    rw [List.getElem?_map, Option.map_eq_some_iff] at h
    obtain ⟨c, hc, rfl⟩ := h
    obtain ⟨hlt, e⟩ := List.getElem?_eq_some_iff.1 hc
    refine ⟨by simpa [Its] using hlt, fun x H' hy => ?_⟩
    obtain ⟨rfl, c', hc', rfl⟩ := hy
    have : c' = c := by simp [hc] at hc'; omega
    subst this
    exact ⟨.sc (.str [c']), s.push _ ⟨by simp, fun z hz => by simp at hz; subst hz; exact hl.2 _ (List.mem_of_getElem? hc)⟩, rfl, rfl⟩
theorem i_str (h : PE X e (tE g W ma)) {tg : Expr} : PI X tg e (tI g W (mItemsS ma)) := (pi_str h).imp fun σ H R ⟨sl, tm, s, q⟩ => by
  refine tE.of s q fun H' sl' t s' h' => ?_
  cases t with
  | sc x =>
    cases x with
    | str l =>
      have k := s'.top
      simp only [T.ok] at k
      exact ⟨_, rfl, h' H' sl' [] _ s'.pop rfl (it_str k)⟩
    | _ => exact h'.elim
  | _ => exact h'.elim
end
end VS

/-! VS, part p: max with a default, two keywords. -/
namespace VS
open PySem PySem.Spec PyProof.Rows L2
section
variable {X : Cx} {g : Gh} {W : WX} {pos : Pos} {a b e f : Expr} {ma mb m : Cm D}
def maxDefD : D → D → Option D
  | .lst _ xs, .sc s => match intL xs with
    | some [] => some (.sc s)
    | some (y :: ys) => some (.int (ys.foldl (fun a y => if a < y then y else a) y))
    | none => none
  | _, _ => none
theorem max_imp (H : Hp) (σ : L2.St) (sl : List (Option T)) (tm : List T) (t1 t2 : T) (d : D) (Q : VK) (s : SR g H σ sl (t2 :: t1 :: tm)) (h : maxDefD t1.d t2.d = some d) (q : ∀ H' t, SR g H' σ sl (t :: tm) → t.d = d → Q t.v H') :
    ∃ p ns, t1.v = .ref p ∧ SqL g.c.K H p (ns.map V.int) ∧ (ns = [] → Q t2.v H) ∧ ∀ y ys, ns = y :: ys → Q (.int (ys.foldl (fun a y => if a < y then y else a) y)) H := by
  have k1 : t1.ok g.c H := by have := s.okT; simp only [Ts.ok] at this; exact this.2.1
  cases t1 with
  | lst p o xs =>
    cases t2 with
    | sc z =>
      simp only [T.d, maxDefD] at h
      cases e : intL (Ts.d xs) with
      | none => rw [e] at h; cases h
      | some l =>
        rw [e] at h
        have hq := intL_ok e
        refine ⟨p, l, rfl, by rw [← hq]; exact (lst_sq k1).1, fun hl => ?_, fun y ys hl => ?_⟩
        · subst hl
          cases h
          have kz := s.top
          exact q H (.sc z) (s.pop.pop.push _ kz) rfl
        · subst hl
          cases h
          exact q H (.sc (.int _)) (s.pop.pop.push _ trivial) rfl
    | _ => simp [T.d, maxDefD] at h
  | sc x => cases x <;> simp [T.d, maxDefD] at h
  | _ => simp [T.d, maxDefD] at h
theorem e_maxdef {p kp : Pos} {k : Nat} (hK : X.K = g.c.K) (hr : Room k X.A) (hg : Gl X "max") (hm : X.mg "max" = none) (ha : PE X a (tE g W ma)) (hb : PE X b (tE g W mb))
    (he : starEach [a] X.env = (false, eval a X.env) :: starEach [] X.env := by rfl) :
    PE X (.Call (.Name "max" p) [a] [⟨some "default", b, kp⟩] pos) (tE g W (mBin maxDefD ma mb)) := by
  refine ⟨fun pins s σ H Q I h => ?_⟩
  obtain ⟨sl, tm, s0, h0⟩ := h
  have hv : bootBuiltins "max" = some (.builtin "max") := by decide +kernel
  refine wpAny_Call_Name_kw (ld_blt I hg hm hv ?_ (by decide) (by decide))
  refine PyProof.Rows.callWith_kw ?_ (by rw [he]; rfl) (by rw [he]; rfl)
  have hpa : PA X [a] (tCons (tE g W ma) tNil) := pa_cons ha pa_nil he
  have hpk : PK X [⟨some "default", b, kp⟩] (tCons (tE g W mb) tNil) := pk_cons hb pk_nil
  let Post : V → List V → Hp → Prop := fun v ws H2 => ∃ u P ns, ws = [u] ∧ v = V.ref P ∧ SqL X.K H2 P (ns.map V.int) ∧ (ns = [] → Q u H2) ∧ ∀ y ys, ns = y :: ys → Q (.int (ys.foldl (fun a y => if a < y then y else a) y)) H2
  refine thn (hpa.run pos pins s σ H (fun vs H1 => ∃ v, vs = [v] ∧ tE g W mb σ H1 fun u H2 => Post v [u] H2) I ?_) fun us s1 ⟨vs, H1, I1, r1, v, ev, q1⟩ => ?_
  · show tE g W ma σ H _
    refine tE.of (f := fun x ρ => (mb ρ).bind fun y ρ => lift (maxDefD x y) ρ) s0 h0 fun H' sl' t s' h' => ?_
    refine ⟨t.v, rfl, ?_⟩
    refine tE.of s' (Lands.drop h') fun H2 sl2 t2 s2 h2 => ?_
    cases q : maxDefD t.d t2.d with
    | none => rw [q] at h2; exact h2.elim
    | some d =>
      rw [q] at h2
      obtain ⟨P, ns, e1, e2, e3, e4⟩ := max_imp H2 σ sl2 tm t t2 d Q s2 q fun H' t s' e => h2 H' sl2 t s' rfl e
      exact ⟨_, P, ns, rfl, e1, by rw [hK]; exact e2, e3, e4⟩
  · subst ev
    obtain ⟨z, rfl, rz0⟩ := Vals.one r1
    refine thn (hpk.run pos pins s1 σ H1 (Post v) I1 q1) fun ws s2 ⟨zs, H2, I2, rz, u, P, ns, ez, ep, hs, q0, qq⟩ => ?_
    subst ez ep
    obtain ⟨w, rfl, rw0⟩ := Vals.one rz
    cases rz0
    obtain ⟨its, rv, hl, _⟩ := I2.list hs
    have hun := hr.un
    show wpAny _ _ (call (.builtin "max") [.ref P] [(Str.ofString "default", w)]) _ _ _
    refine PySem.W.max_list_datum_default (α := Int) (xs := ns) hr.hd hl.isList (PySem.W.HoldAll.of_ints (by simpa using rv.ints)) (by show X.A.units + 1 + 0 < cLine; omega) (fun e h' tk hk => ?_) (fun y ys i v h' tk e hi hv hk => ?_)
    · exact ⟨u, H2, I2.kept hk, rw0, q0 e⟩
    · obtain ⟨t, rfl⟩ := PySem.W.int_of_holds hv
      refine ⟨.int _, H2, I2.kept hk, ⟨_, rfl⟩, ?_⟩
      have := qq y ys e
      simpa [PySem.W.maxOf, PySem.W.DatumOrd.lt] using this
end
end VS
namespace VS
open PySem PySem.Spec PyProof.Rows L2
section
variable {X : Cx} {g : Gh} {W : WX} {pos : Pos} {a b e f : Expr} {ma mb m : Cm D}
def swapM (M : List D → RF) : List D → RF
  | [x, y] => M [y, x]
  | _ => .stuck
theorem Ts_two {ts : List T} (h : ts.length = 2) : ∃ t u, ts = [t, u] := by
  match ts, h with
  | [t, u], _ => exact ⟨t, u, rfl⟩
theorem R.bind_bind {α β γ : Type} (r : R α) (f : α → Cm β) (h : β → Cm γ) : (r.bind f).bind h = r.bind fun x ρ => (f x ρ).bind h := by cases r <;> rfl
/-- two keywords, in the other order -/
def mCallS (M : List D → RF) (a b : Cm D) : Cm D := mCall (swapM M) [.e a, .e b]
theorem e_callK2s {f : Addr} {fd : FuncData} {x k1 k2 : Str} {p kp kq : Pos} {c : Cfg} {M : List D → RF} {k : Nat} (F : FnOk X.prog X.w X.K X.mg X.base (L2.CX X.prog X.w) k f fd [k1, k2] (spM c 2 [] M)) (hr : Room k X.A) (hg : Gl X x) (hm : X.mg x = some (.ref f)) (hk : PySem.W.keepIn X.K (.ref f) = true)
    (hb : ∀ (s : Shared) (u v : Value), BindsTo s fd ⟨[], [(k2, v), (k1, u)]⟩ [(k1, u), (k2, v)]) (tk : Takes X W)
    (ha : PE X a (tE g W ma)) (hbb : PE X b (tE g W mb)) (hc : g.c = c) (hdb : (x == ("__debug__" : Str)) = false := by decide) : PE X (.Call (.Name x p) [] [⟨some k2, a, kp⟩, ⟨some k1, b, kq⟩] pos) (tE g W (mCallS M ma mb)) := by
  refine ⟨fun pins s σ H Q I h => ?_⟩
  refine wpAny_Call_Name_kw (ld_glob I hg hm ?_ hdb)
  refine PySem.W.callWith_KW0 (h₀ := X.base) I.ok.mod.kin hk rfl ?_ rfl
  have h2 := call_imp (as := [.e ma, .e mb]) (np := 2) (io := []) hc rfl rfl (by simp [agSlots]) σ H Q h
  obtain ⟨sl, tm, s1, h3⟩ := h2
  have hpk : PK X [⟨some k2, a, kp⟩, ⟨some k1, b, kq⟩] (tCons (tE g W ma) (tCons (tE g W mb) tNil)) := pk_cons ha (pk_cons hbb pk_nil)
  refine thn (hpk.run pos pins s σ H (fun vs H1 => spM c 2 [] (swapM M) vs H1 Q (WE W σ)) I ?_) fun ws s2 ⟨zs, H2, I2, rz, q2⟩ => ⟨I2.kIn, ?_⟩
  · show tE g W ma σ H _
    refine tE.of (f := fun d ρ => ((mb ρ).bind fun d2 ρ => (agRun [] ρ).bind fun ts ρ => R.ok (some d2 :: ts) ρ).bind fun ts ρ => R.ok (some d :: ts) ρ) s1 h3 fun H' sl' t s' h' => ?_
    rw [R.bind_bind] at h'
    show tE g W mb σ H' _
    refine tE.of s' (Lands.drop h') fun H4 sl4 t4 s4 h4 => ?_
    simp only [agRun, R.bind_ok, Lands] at h4
    have z := h4 H4 sl4 [some t, some t4] [t.v, t4.v] (by simpa [live] using s4) rfl (by simp) (by simp [AgV])
    simp only [tNil]
    exact z
  · show wpAny _ _ (call (.ref f) [] ([some k2, some k1].filterMap id |>.zip ws)) _ _ _
    obtain ⟨ts, e, hok, htb, hoc, hl, q3⟩ := q2
    obtain ⟨t, u, rfl⟩ := Ts_two hl
    subst e
    obtain ⟨w0, w1, rfl, r0, r1⟩ := Vals.two rz
    have sp : spM c 2 [] M [u.v, t.v] H2 Q (WE W σ) := by
      refine ⟨[u, t], rfl, ?_, htb, ?_, rfl, ?_⟩
      · simp only [Ts.ok] at hok ⊢; exact ⟨hok.2.1, hok.1, trivial⟩
      · intro a; have := hoc a; simp only [Ts.oc, Ts.sh] at this ⊢; omega
      · have aft : ∀ {H' : Hp} {us : List T}, Aft c H2 [u, t] H' us → Aft c H2 [t, u] H' us := fun {H' us} A =>
          ⟨A.ok, A.inv, fun a h0 h1 => by
            have := A.prov a h0 (by simp only [Ts.oc] at h1 ⊢; omega)
            refine ⟨this.1, fun h2 => this.2 (by simp only [Ts.sh] at h2 ⊢; omega)⟩, fun a o h0 hn h1 => A.frame a o h0 hn (by simp only [Ts.oc] at h1 ⊢; omega), A.tabs⟩
        simp only [Ts.d, swapM] at q3 ⊢
        cases hM : M [u.d, t.d] with
        | ok d ds =>
          rw [hM] at q3
          intro H' t' us A e1 e2 e3
          exact q3 H' t' us (aft A) e1 e2 (by simpa [ioV] using e3)
        | exc x ds =>
          rw [hM] at q3
          intro H' a' dx us A e2 e3
          exact q3 H' a' dx us (aft A) e2 (by simpa [ioV] using e3)
        | stuck => rw [hM] at q3; exact q3
    refine wpAny_call (codeAny_mono (F.run X.A X.stack s2 H2 ⟨[], [(k2, w0), (k1, w1)]⟩ [w1, w0] [u.v, t.v] Q (WE W σ) hr I2.env0 (hb s2 w1 w0) (.cons r1 (.cons r0 .nil)) sp) fun r s' hq => ?_)
    cases r with
    | error e => exact (passAt tk σ) pins H2 s2 e s' I2 hq
    | ok fl =>
      cases fl with
      | ret u => exact I2.after hq
      | next => exact False.elim hq
      | brk => exact False.elim hq
      | cont => exact False.elim hq
theorem bindK2s {K : PySem.W.Frag} {x qual : Str} {params : Arguments} {body : List Stmt} {scope : Scope} {k1 k2 : Str} {f : Addr} {fd : FuncData} (F : FunD K x qual params body scope [] [] f fd)
    (h : ∀ (kV doc pm : Value) (an : Option Addr) (cdv ct u v : Value), bindArgs (PySem.W.fnOf x qual params body scope .none kV doc pm an cdv ct) ⟨[], [(k2, v), (k1, u)]⟩ = pure [(k1, u), (k2, v)]) : ∀ (s : Shared) (u v : Value), BindsTo s fd ⟨[], [(k2, v), (k1, u)]⟩ [(k1, u), (k2, v)] := fun s u v => by
  obtain ⟨oc, od, dV, kV, doc, pm, an, cdv, ct, osl, rfl, lk, hcd, hD, hK⟩ := F.ex
  rcases hD with ⟨_, rfl⟩ | ⟨e, _⟩
  · exact .of_eq (h kV doc pm an cdv ct u v)
  · exact absurd rfl e
end
end VS
namespace VS
open PySem PySem.Spec PyProof.Rows L2
/-! ### strip of some signs -/
def ldrop (p : Nat → Bool) (l : List Nat) : List Nat := l.dropWhile p
def rdrop (p : Nat → Bool) (l : List Nat) : List Nat := (l.reverse.dropWhile p).reverse
def stripL (b : List Nat) (l : List Nat) : List Nat := rdrop b.contains (ldrop b.contains l)
theorem drop_tw (p : Nat → Bool) : ∀ l : List Nat, l.drop (l.takeWhile p).length = l.dropWhile p
  | [] => rfl
  | x :: l => by
    by_cases h : p x = true
    · simp [h, drop_tw p l]
    · simp [h]
theorem take_tw (p : Nat → Bool) (d : List Nat) : d.take (d.length - (d.reverse.takeWhile p).length) = rdrop p d := by
  unfold rdrop
  rw [← drop_tw, List.drop_reverse, List.reverse_reverse]
theorem contains_arr (b : List Nat) : (⟨b.toArray⟩ : Str).cps.contains = b.contains := by
  funext c
  simp
theorem strip_eq (a b : List Nat) : Txt.stripChars ⟨a.toArray⟩ ⟨b.toArray⟩ = ⟨(stripL b a).toArray⟩ := by
  have e1 : stripLo b.contains true ⟨a.toArray⟩ = (a.takeWhile b.contains).length := by simp [stripLo]
  have e2 : stripHi b.contains true ⟨a.toArray⟩ (a.takeWhile b.contains).length = a.length - ((a.dropWhile b.contains).reverse.takeWhile b.contains).length := by
    simp [stripHi, Str.length, drop_tw]
  have hlen : a.length = (a.takeWhile b.contains).length + (a.dropWhile b.contains).length := by
    rw [← List.length_append, List.takeWhile_append_dropWhile]
  have hs : Builtin.Str.strSub ⟨a.toArray⟩ (a.takeWhile b.contains).length (a.length - ((a.dropWhile b.contains).reverse.takeWhile b.contains).length) = ⟨(stripL b a).toArray⟩ := by
    refine str_eq ?_
    unfold Builtin.Str.strSub stripL ldrop
    rw [← take_tw]
    simp only [Array.toList_extract]
    rw [List.extract_eq_take_drop, ← drop_tw]
    congr 1
    rw [drop_tw]
    omega
  unfold Txt.stripChars Txt.stripBy
  rw [contains_arr]
  unfold stripSame stripped
  rw [e1, e2, hs]
  split
  · rename_i h
    rw [Bool.and_eq_true] at h
    have h1 : (a.takeWhile b.contains).length = 0 := by simpa using h.1
    have h2 : a.length - ((a.dropWhile b.contains).reverse.takeWhile b.contains).length = a.length := by simpa [Str.length] using h.2
    rw [← hs, h1, h2]
    refine (str_eq ?_).symm
    simp [Builtin.Str.strSub]
  · rfl
def stripM : D → D → Option Sc
  | .sc (.str a), .sc (.str b) => some (.str (stripL b a))
  | _, _ => none
theorem strip_sub (b : List Nat) (a : List Nat) : ∀ c ∈ stripL b a, c ∈ a := fun c h => by
  unfold stripL rdrop ldrop at h
  rw [List.mem_reverse] at h
  have := (List.dropWhile_sublist _).subset h
  rw [List.mem_reverse] at this
  exact (List.dropWhile_sublist _).subset this
theorem strip_len (b : List Nat) (a : List Nat) : (stripL b a).length ≤ a.length := by
  unfold stripL rdrop ldrop
  have h1 := (List.dropWhile_sublist b.contains (l := (a.dropWhile b.contains).reverse)).length_le
  have h2 := (List.dropWhile_sublist b.contains (l := a)).length_le
  simp at h1 ⊢
  omega
theorem hs_strip {g : Gh} : HM1 g stripM (fun x xs H Q => ∃ a b, x = .str a ∧ xs = [.str b] ∧ a.length ≤ sizeLine ∧ Q (.str (Txt.stripChars a b)) H) := fun H u1 u2 c Q k1 k2 h q => by
  cases u1 with
  | sc x =>
    cases u2 with
    | sc y =>
      cases x <;> cases y <;> simp [T.d, stripM] at h
      rename_i a b
      subst h
      simp only [T.ok] at k1
      refine ⟨_, _, rfl, rfl, ?_, ?_⟩
      · rw [sizeLine_eq]; simpa [Str.length] using k1.1
      · rw [strip_eq]
        exact q ⟨Nat.le_trans (strip_len b a) k1.1, fun c hc => k1.2 c (strip_sub b a c hc)⟩
    | _ => cases x <;> simp [T.d, stripM] at h
  | _ => simp [T.d, stripM] at h
theorem dw_head (p : Nat → Bool) : ∀ (l : List Nat) (c : Nat), (l.dropWhile p).head? = some c → p c = false
  | [], c, h => by simp at h
  | x :: l, c, h => by
    by_cases hx : p x = true
    · rw [List.dropWhile_cons, if_pos hx] at h; exact dw_head p l c h
    · rw [List.dropWhile_cons, if_neg hx] at h
      simp at h; subst h; simpa using hx
theorem dw_id (p : Nat → Bool) (l : List Nat) (h : ∀ c, l.head? = some c → p c = false) : l.dropWhile p = l := by
  cases l with
  | nil => rfl
  | cons x l => rw [List.dropWhile_cons, if_neg (by rw [h x rfl]; simp)]
/-- no such sign at either end -/
def Tight (b : List Nat) (l : List Nat) : Prop := (∀ c, l.head? = some c → c ∉ b) ∧ ∀ c, l.reverse.head? = some c → c ∉ b
theorem strip_tight (b l : List Nat) (h : Tight b l) : stripL b l = l := by
  unfold stripL rdrop ldrop
  rw [dw_id _ l (fun c k => by simpa using h.1 c k), dw_id _ l.reverse (fun c k => by simpa using h.2 c k), List.reverse_reverse]
theorem tight_strip (b l : List Nat) : Tight b (stripL b l) := by
  unfold stripL rdrop ldrop
  refine ⟨fun c h => ?_, fun c h => ?_⟩
  · have h0 : ∀ c, (l.dropWhile b.contains).head? = some c → c ∉ b := fun c k => by simpa using dw_head _ l c k
    generalize l.dropWhile b.contains = d at *
    obtain ⟨t, e⟩ := List.dropWhile_suffix b.contains (l := d.reverse)
    have e2 : (List.dropWhile b.contains d.reverse).reverse ++ t.reverse = d := by
      rw [← List.reverse_append, e, List.reverse_reverse]
    refine h0 c ?_
    rw [← e2]
    cases hh : (List.dropWhile b.contains d.reverse).reverse with
    | nil => rw [hh] at h; simp at h
    | cons x r => rw [hh] at h; simpa using h
  · rw [List.reverse_reverse] at h
    simpa using dw_head _ _ c h
end VS

/-! VS, part q: range with a step, a list to several targets, or of texts, methods without arguments. -/
namespace VS
open PySem PySem.Spec PyProof.Rows L2
section
variable {X : Cx} {g : Gh} {W : WX} {pos : Pos} {a b c e f tg : Expr} {ma mb mc m : Cm D} {oa ob : Opd} {rest : List Expr}
/-! ### range(i, j, c) -/
def stepD (lo c : Int) (n : Nat) : List D := (List.range n).map fun k : Nat => D.int (lo + (k : Int) * c)
def mRange3 (ma mb mc : Cm D) : Cm (List D) := fun ρ => (ma ρ).bind fun d ρ => (mb ρ).bind fun d' ρ => (mc ρ).bind fun d'' ρ => match d, d', d'' with
  | .sc (.int i), .sc (.int j), .sc (.int c) => if c ≠ 0 ∧ c.natAbs < 1073741824 ∧ Builtin.Range.small i j c = true then .ok (stepD i c (Builtin.Range.rangeSize i j c).toNat) ρ else .stuck
  | _, _, _ => .stuck
theorem it_step {lo c : Int} {n : Nat} : ItOk g (Itc lo c n) [] (stepD lo c n) where
  stop := fun H σ sl tm s => by simp [stepD, Itc]
  go := fun i d H σ sl tm s h => by
    unfold stepD at h
    rw [List.getElem?_map, Option.map_eq_some_iff] at h
    obtain ⟨k, hk, rfl⟩ := h
    have hlt : i < n := by
      by_cases q : i < n
      · exact q
      · rw [List.getElem?_eq_none (by simp; omega)] at hk; cases hk
    rw [List.getElem?_range hlt] at hk
    cases hk
    refine ⟨hlt, fun x H' hy => ?_⟩
    obtain ⟨rfl, rfl⟩ := hy
    exact ⟨.sc (.int (lo + (i : Int) * c)), s.push _ trivial, rfl, rfl⟩
theorem tA3 {α : Type} {σ : L2.St} {H : Hp} {sl : List (Option T)} {tm : List T} {Q : List V → Hp → Prop} {f : D → D → D → Cm α} {k : α → DE → Prop} (s : SR g H σ sl tm) (h : Lands g W tm ((ma (den sl)).bind fun x ρ => (mb ρ).bind fun y ρ => (mc ρ).bind fun z ρ => f x y z ρ) k)
    (q : ∀ H' sl' t u v, SR g H' σ sl' (v :: u :: t :: tm) → Lands g W tm (f t.d u.d v.d (den sl')) k → Q [t.v, u.v, v.v] H') : tA g W [ma, mb, mc] σ H Q := by
  refine tA.of (f := fun ds ρ => match ds with | [x, y, z] => f x y z ρ | _ => .stuck) (k := k) s ?_ fun H' sl' ts s' h' => ?_
  · revert h
    simp only [mArgs]
    cases ma (den sl) with
    | ok x ρ =>
      cases e : mb ρ with
      | ok y ρ => cases e2 : mc ρ <;> simp [e, e2, R.bind, Lands]
      | exc x ρ => simp [e, R.bind, Lands]
      | stuck => simp [e, R.bind, Lands]
    | exc x ρ => simp [R.bind, Lands]
    | stuck => simp [R.bind, Lands]
  · match ts, s', h' with
    | [], _, h' => exact h'.elim
    | [_], _, h' => exact h'.elim
    | [_, _], _, h' => exact h'.elim
    | _ :: _ :: _ :: _ :: _, _, h' => exact h'.elim
    | [t, u, v], s', h' => exact q H' sl' t u v s' h'
theorem i_range3 {p : Pos} (hg : Gl X "range") (hm : X.mg "range" = none) (ha : PA X [a, b, c] (tA g W [ma, mb, mc])) (hs : starEach [a, b, c] X.env = (false, eval a X.env) :: starEach [b, c] X.env := by rfl) (hpl : (backTo pos (starEach [b, c] X.env)).any (·.1) = false := by rfl) :
    PI X tg (.Call (.Name "range" p) [a, b, c] [] pos) (tI g W (mRange3 ma mb mc)) := (pi_range3 hg hm ha hs hpl).imp fun σ H R ⟨sl, tm, s, q⟩ => by
  refine tA3 s q fun H' sl' t u v s' h' => ?_
  cases t with
  | sc x =>
    cases x with
    | int i =>
      cases u with
      | sc y =>
        cases y with
        | int j =>
          cases v with
          | sc z =>
            cases z with
            | int c =>
              simp only [T.d] at h'
              split at h'
              · rename_i hj
                exact ⟨i, j, c, _, rfl, ⟨hj.1, hj.2.1, hj.2.2, PyProof.Rows.rangeSize_toNat i j c⟩, h' H' sl' [] _ s'.pop.pop.pop rfl it_step⟩
              · exact h'.elim
            | _ => exact h'.elim
          | _ => exact h'.elim
        | _ => exact h'.elim
      | _ => exact h'.elim
    | _ => exact h'.elim
  | _ => exact h'.elim
/-! ### a list to several targets -/
def mTupL (fs : List (D → Cm Unit)) : D → Cm Unit := fun d ρ => match d with
  | .lst _ ds => if ds.length = fs.length ∧ ds.all D.isSc = true then putAll fs ds ρ else .stuck
  | _ => .stuck
theorem sc_free {xs : List T} (h : (Ts.d xs).all D.isSc = true) (p : Addr) : Ts.oc p xs = 0 ∧ Ts.sh p xs = 0 := by
  induction xs with
  | nil => simp [Ts.oc, Ts.sh]
  | cons t ts ih =>
    simp only [Ts.d, List.all_cons, Bool.and_eq_true] at h
    have := ih h.2
    cases t with
    | sc x => simp [Ts.oc, Ts.sh, T.oc, T.sh, this]
    | _ => simp [T.d, D.isSc] at h
theorem g_tupL {es : List Expr} {k n : Nat} {fs : List (D → Cm Unit)} (hc : X.calm = true) (h : PGs X es (tGs g W fs)) (hK : X.K = g.c.K)
    (hn : (assignEach es X.env).length = n := by rfl) (hst : (assignEach es X.env).findIdx? (·.1) = none := by rfl) (hfn : fs.length = n := by rfl) : PG X (.Tuple es k pos) (tG g W (mTupL fs)) := (pg_unl hc h hn hst).imp fun v σ H Q ⟨sl, tm, t, s, e, h⟩ => by
  subst e
  cases t with
  | lst p o xs =>
    simp only [T.d, mTupL] at h
    split at h
    · rename_i hl
      have q := lst_sq s.top
      have fr := sc_free hl.2
      refine ⟨p, _, rfl, by rw [hK]; exact q.1, by have := hl.1; rw [Ts.d_len] at this; simp; omega, sl, tm, xs, ?_, rfl, h⟩
      refine s.tmp ?_ fun a => ?_
      · have k := s.okT
        simp only [Ts.ok] at k
        rw [Ts.ok_iff]
        intro t ht
        rcases List.mem_append.mp ht with ht | ht
        · exact Ts.ok_iff.mp q.2.2 t ht
        · exact Ts.ok_iff.mp k.2 t ht
      · have := fr a
        rw [Ts.oc_append, Ts.sh_append]
        simp only [Ts.oc, Ts.sh]
        refine ⟨by omega, fun z => .inl (by omega)⟩
    · exact h.elim
  | _ => exact h.elim
/-! ### a text, or another -/
def mOrS (ma mb : Cm D) : Cm D := fun ρ => (ma ρ).bind fun d ρ => match d with
  | .sc .non => mb ρ
  | .sc (.str l) => if l = [] then mb ρ else .ok (.str l) ρ
  | _ => .stuck
theorem e_orS (ha : PE X a (tE g W ma)) (hb : PE X (.BoolOp .Or (b :: rest) pos) (tE g W mb)) : PE X (.BoolOp .Or (a :: b :: rest) pos) (tE g W (mOrS ma mb)) := (pe_orT ha hb).imp fun σ H Q ⟨sl, tm, s, h⟩ => by
  refine tE.of s h fun H' sl' t s' h' => ?_
  cases t with
  | sc x =>
    cases x with
    | non => exact ⟨false, rfl, sl', tm, s'.pop, h'⟩
    | str l =>
      simp only [T.d] at h'
      have k := s'.top
      simp only [T.ok] at k
      by_cases q : l = []
      · rw [if_pos q] at h'
        subst q
        exact ⟨false, ⟨by rw [sizeLine_eq]; simp [Str.length], by simp [Str.length]⟩, sl', tm, s'.pop, h'⟩
      · rw [if_neg q] at h'
        refine ⟨true, ⟨by rw [sizeLine_eq]; simpa [Str.length] using k.1, ?_⟩, ?_⟩
        · simp [Str.length, q]
        · exact h' H' sl' (.sc (.str l)) s' rfl rfl
    | _ => exact h'.elim
  | _ => exact h'.elim
/-! ### a text's method without arguments -/
def mM0 (f : D → Option Sc) (x : Opd) : Cm D := mP1 f x
def HM0 (g : Gh) (f : D → Option Sc) (r : V → List V → Hp → VK → Prop) : Prop := ∀ H (u1 : T) c Q, u1.ok g.c H → f u1.d = some c → (c.good → Q (c.v) H) → (∃ a, u1.v = .str a) ∧ r u1.v [] H Q
theorem e_m0 {id : String} {name : Str} {apos : Pos} {fm : D → Option Sc} {r : V → List V → Hp → VK → Prop} (slot : Slot "str" name id) (ty : typeOf (.builtin id) = pure (.type "method_descriptor")) (rule : MtR X id r) (hr : HM0 g fm r) (ho : PE X a (tO g W oa))
    (hbase : attributeBase a name X.env (eval a X.env) = eval a X.env := by rfl) (hline : (apos.endLine == pos.line) = true := by rfl) :
    PE X (.Call (.Attribute a name apos) [] [] pos) (tE g W (mP1 fm oa)) := (pe_m0 slot ty rule ho hbase hline).imp (p1_imp hr)
def isalnumM : D → Option Sc
  | .sc (.str l) => some (.bl (Txt.isalnum ⟨l.toArray⟩))
  | _ => none
theorem hs_isalnum {g : Gh} : HM0 g isalnumM (fun x xs H Q => ∃ a, x = .str a ∧ xs = [] ∧ True ∧ Q (.bl (Txt.isalnum a)) H) := fun H u c Q k h q => by
  cases u with
  | sc x =>
    cases x <;> simp [T.d, isalnumM] at h
    subst h
    exact ⟨⟨_, rfl⟩, _, rfl, rfl, trivial, q trivial⟩
  | _ => simp [T.d, isalnumM] at h
end
end VS
namespace VS
open PySem
theorem fits_of {i : Int} (h : -1000000 ≤ i) (h2 : i ≤ 1000000) : Builtin.Range.rangeFitsLong i = true := by
  unfold Builtin.Range.rangeFitsLong
  have e : (2 : Int) ^ 63 = 9223372036854775808 := by decide
  rw [e, Bool.and_eq_true, decide_eq_true_eq, decide_eq_true_eq]
  constructor <;> omega
theorem small_up (n c : Int) (hn : 0 ≤ n) (hn2 : n ≤ 500000) (hc : 0 < c) (hc2 : c ≤ 1000) (hz : 0 ≤ Builtin.Range.rangeSize 0 n c ∧ Builtin.Range.rangeSize 0 n c ≤ 500000) : Builtin.Range.small 0 n c = true := by
  unfold Builtin.Range.small
  rw [fits_of (i := 0) (by decide) (by decide), fits_of (i := n) (by omega) (by omega), fits_of (i := c) (by omega) (by omega), fits_of (i := Builtin.Range.rangeSize 0 n c) (by omega) (by omega), if_pos (by omega), fits_of (i := n + (c - 1)) (by omega) (by omega)]
  simp
theorem size_up (n c : Nat) (hc : 0 < c) : Builtin.Range.rangeSize 0 (n : Int) (c : Int) = (((n + c - 1) / c : Nat) : Int) := by
  unfold Builtin.Range.rangeSize
  rw [if_pos (by omega)]
  by_cases q : n = 0
  · subst q
    have : (0 + c - 1) / c = 0 := Nat.div_eq_of_lt (by omega)
    rw [this]; simp
  · rw [if_pos (by omega)]
    have e : (n + c - 1) = (n - 1) + c := by omega
    rw [e, Nat.add_div_right _ hc]
    have e2 : ((n : Int) - 0 - 1) = ((n - 1 : Nat) : Int) := by omega
    rw [e2]
    simp
end VS
namespace VS
open PySem
theorem range3_ok {ma mb mc : Cm D} {ρ ρ1 ρ2 ρ3 : DE} {n c N : Nat} (h1 : ma ρ = .ok (.int 0) ρ1) (h2 : mb ρ1 = .ok (.int n) ρ2) (h3 : mc ρ2 = .ok (.int c) ρ3) (hc : 0 < c) (hc2 : c ≤ 1000) (hn : n ≤ 500000) (hN : (n + c - 1) / c = N) : mRange3 ma mb mc ρ = .ok (stepD 0 c N) ρ3 := by
  have hz := size_up n c hc
  rw [hN] at hz
  have hb : N ≤ 500000 := by
    rw [← hN]
    have := Nat.div_le_div_left (c := 1) (b := c) hc (by decide) (a := n + c - 1)
    by_cases q : n = 0
    · subst q
      have : (0 + c - 1) / c = 0 := Nat.div_eq_of_lt (by omega)
      omega
    · have h : (n + c - 1) / c ≤ n := by
        rw [show n + c - 1 = (n - 1) + c by omega, Nat.add_div_right _ hc]
        have := Nat.div_le_self (n - 1) c
        omega
      omega
  have hs : Builtin.Range.small 0 (n : Int) (c : Int) = true := small_up _ _ (by omega) (by omega) (by omega) (by omega) (by rw [hz]; omega)
  unfold mRange3
  rw [h1, R.bind_ok, h2, R.bind_ok, h3, R.bind_ok]
  simp only
  rw [if_pos ⟨by omega, by omega, hs⟩, hz, Int.toNat_natCast]
end VS

/-! VS, part s: the mirror's words, for simp. -/
namespace VS
open PySem L2
section
variable (ρ : DE) (a b c : Cm D) (t u : Cm Bool) (m m' : Cm Out) (i j : Nat)
@[simp] theorem mC_ (s : Sc) : mC s ρ = .ok (.sc s) ρ := (rfl)
@[simp] theorem mK_ (l : List Sc) : mK l ρ = .ok (.tup (l.map D.sc)) ρ := (rfl)
@[simp] theorem mVar_ : mVar i ρ = match ρ[i]? with
  | some (some d) => .ok d.fz (ρ.set i (some d.fz))
  | _ => .stuck := (rfl)
@[simp] theorem mMove_ : mMove i ρ = match ρ[i]? with
  | some (some d) => .ok d (ρ.set i none)
  | _ => .stuck := (rfl)
@[simp] theorem mBin_ (f : D → D → Option D) : mBin f a b ρ = (a ρ).bind fun x ρ => (b ρ).bind fun y ρ => lift (f x y) ρ := (rfl)
@[simp] theorem mUn_ (f : D → Option D) : mUn f a ρ = (a ρ).bind fun x ρ => lift (f x) ρ := (rfl)
@[simp] theorem orun_v : (Opd.v i).run ρ = match ρ[i]? with
    | some (some _) => .ok none ρ
    | _ => .stuck := (rfl)
@[simp] theorem orun_e : (Opd.e a).run ρ = (a ρ).bind fun d ρ => .ok (some d) ρ := (rfl)
@[simp] theorem oget_v (o : Option D) : (Opd.v i).get o ρ = (ρ[i]?).join := (rfl)
@[simp] theorem oget_e (o : Option D) : (Opd.e a).get o ρ = o := (rfl)
@[simp] theorem mP1_ (f : D → Option Sc) (x : Opd) : mP1 f x ρ = (x.run ρ).bind fun t ρ => match x.get t ρ with
  | some y => (lift (f y) ρ).bind fun s ρ => .ok (.sc s) ρ
  | none => .stuck := (rfl)
@[simp] theorem mP2_ (f : D → D → Option Sc) (x y : Opd) : mP2 f x y ρ = (x.run ρ).bind fun t ρ => (y.run ρ).bind fun u ρ => match x.get t ρ, y.get u ρ with
  | some v, some w => (lift (f v w) ρ).bind fun s ρ => .ok (.sc s) ρ
  | _, _ => .stuck := (rfl)
@[simp] theorem mTest_ : mTest a ρ = (a ρ).bind fun d ρ => match d with
  | .sc (.bl b) => .ok b ρ
  | _ => .stuck := (rfl)
@[simp] theorem mAnd_ : mAnd t u ρ = (t ρ).bind fun c ρ => if c then u ρ else .ok false ρ := (rfl)
@[simp] theorem mOr_ : mOr t u ρ = (t ρ).bind fun c ρ => if c then .ok true ρ else u ρ := (rfl)
@[simp] theorem mNot_ : mNot t ρ = (t ρ).bind fun c ρ => .ok (!c) ρ := (rfl)
@[simp] theorem mIfE_ {α : Type} (x y : Cm α) : mIfE t x y ρ = (t ρ).bind fun k ρ => if k then x ρ else y ρ := (rfl)
@[simp] theorem mIf_ : mIf t m m' ρ = (t ρ).bind fun k ρ => if k then m ρ else m' ρ := (rfl)
@[simp] theorem mAndV_ : mAndV a b ρ = (a ρ).bind fun d ρ => match d with
  | .sc (.bl c) => if c then b ρ else .ok (.bl false) ρ
  | _ => .stuck := (rfl)
@[simp] theorem mOrV_ : mOrV a b ρ = (a ρ).bind fun d ρ => match d with
  | .sc (.bl c) => if c then .ok (.bl true) ρ else b ρ
  | _ => .stuck := (rfl)
@[simp] theorem mChain_ (f f' : D → D → Option Sc) : mChain f f' a b c ρ = (a ρ).bind fun x ρ => (b ρ).bind fun y ρ => (lift (f x y) ρ).bind fun k ρ => match k with
  | .bl true => (c ρ).bind fun z ρ => (lift (f' y z) ρ).bind fun s ρ => .ok (.sc s) ρ
  | .bl false => .ok (.bl false) ρ
  | _ => .stuck := (rfl)
@[simp] theorem mArgs_nil : mArgs [] ρ = .ok [] ρ := (rfl)
@[simp] theorem mArgs_cons (ms : List (Cm D)) : mArgs (a :: ms) ρ = (a ρ).bind fun d ρ => (mArgs ms ρ).bind fun ds ρ => .ok (d :: ds) ρ := (rfl)
@[simp] theorem mLst_ (ms : List (Cm D)) : mLst ms ρ = (mArgs ms ρ).bind fun ds ρ => if ds.length ≤ 16777216 then .ok (.lst .own ds) ρ else .stuck := (rfl)
@[simp] theorem mTup_ (ms : List (Cm D)) : mTup ms ρ = (mArgs ms ρ).bind fun ds ρ => if ds.length ≤ 16777216 then .ok (.tup ds) ρ else .stuck := (rfl)
@[simp] theorem mIdx_e : mIdx (.e a) b ρ = (a ρ).bind fun x ρ => (b ρ).bind fun j ρ => match j with
  | .sc (.int i) => match idxD x i with
    | some d => .ok d ρ
    | none => .stuck
  | _ => .stuck := by
  unfold mIdx
  cases e : a ρ with
  | ok x ρ =>
    simp only [orun_e, e, R.bind_ok]
    cases e2 : b ρ with
    | ok j ρ => simp only [R.bind_ok, oget_e]; cases j <;> first | rfl | (rename_i s; cases s <;> rfl)
    | exc _ _ => rfl
    | stuck => rfl
  | exc _ _ => simp only [orun_e, e]; rfl
  | stuck => simp only [orun_e, e]; rfl
@[simp] theorem mIdx_v : mIdx (.v i) b ρ = match ρ[i]? with
  | some (some _) => (b ρ).bind fun j ρ => match (ρ[i]?).join, j with
    | some x, .sc (.int k) => match idxD x k with
      | some d => if d.pur then .ok d ρ else .ok d.fz (ρ.set i (some x.fz))
      | none => .stuck
    | _, _ => .stuck
  | _ => .stuck := by
  unfold mIdx
  simp only [orun_v]
  split
  · simp only [R.bind_ok]
    rfl
  · rfl
@[simp] theorem mPart_none : mPart none ρ = .ok none ρ := (rfl)
@[simp] theorem mPart_some : mPart (some a) ρ = (a ρ).bind fun d ρ => match d with
    | .sc (.int i) => .ok (some i) ρ
    | _ => .stuck := (rfl)
@[simp] theorem mSlc_ (x : Opd) (lo hi : Option (Cm D)) : mSlc x lo hi ρ = (x.run ρ).bind fun t ρ => (mPart lo ρ).bind fun l ρ => (mPart hi ρ).bind fun u ρ => match x.get t ρ with
  | some y => lift (sliceD l u y) ρ
  | none => .stuck := (rfl)
@[simp] theorem mNew_ (f : D → Option D) (x : Opd) : mNew f x ρ = (x.run ρ).bind fun t ρ => match x.get t ρ with
  | some y => lift (f y) ρ
  | none => .stuck := (rfl)
@[simp] theorem mSeq_ : mSeq m m' ρ = (m ρ).bind fun o ρ => match o with
  | .nx => m' ρ
  | o => .ok o ρ := (rfl)
@[simp] theorem mNext_ : mNext ρ = .ok .nx ρ := (rfl)
@[simp] theorem mBreak_ : mBreak ρ = .ok .brk ρ := (rfl)
@[simp] theorem mCont_ : mCont ρ = .ok .ct ρ := (rfl)
@[simp] theorem mStuckO_ : mStuckO ρ = .stuck := (rfl)
@[simp] theorem mSet_ : mSet i a ρ = (a ρ).bind fun d ρ => .ok .nx (ρ.set i (some d)) := (rfl)
@[simp] theorem mAug_ (f : D → D → Option D) : mAug f i a ρ = match ρ[i]? with
  | some (some _) => (a ρ).bind fun y ρ => match ρ[i]? with
    | some (some x) => (lift (f x y) ρ).bind fun d ρ => .ok .nx (ρ.set i (some d))
    | _ => .stuck
  | _ => .stuck := (rfl)
@[simp] theorem mRet_ : mRet a ρ = (a ρ).bind fun d ρ => .ok (.ret d) ρ := (rfl)
@[simp] theorem mDrop_ : mDrop a ρ = (a ρ).bind fun _ ρ => .ok .nx ρ := (rfl)
@[simp] theorem mPar_ : mPar i j a b ρ = (a ρ).bind fun x ρ => (b ρ).bind fun y ρ => .ok .nx ((ρ.set i (some x)).set j (some y)) := (rfl)
@[simp] theorem mAsg_ (f : D → Cm Unit) : mAsg a f ρ = (a ρ).bind fun d ρ => (f d ρ).bind fun _ ρ => .ok .nx ρ := (rfl)
@[simp] theorem mPut_ (d : D) : mPut i d ρ = .ok () (ρ.set i (some d)) := (rfl)
@[simp] theorem mTupT_ (fs : List (D → Cm Unit)) (ds : List D) : mTupT fs (.tup ds) ρ = if ds.length = fs.length then putAll fs ds ρ else .stuck := (rfl)
@[simp] theorem mUnp_ (fs : List (D → Cm Unit)) (ds : List D) : mUnp fs (.tup ds) ρ = putAll fs ds ρ := (rfl)
@[simp] theorem putAll_nil : putAll [] [] ρ = .ok () ρ := (rfl)
@[simp] theorem putAll_cons (f : D → Cm Unit) (fs : List (D → Cm Unit)) (d : D) (ds : List D) : putAll (f :: fs) (d :: ds) ρ = (f d ρ).bind fun _ ρ => putAll fs ds ρ := (rfl)
@[simp] theorem mSetI_ (d : D) : mSetI i a d ρ = match ρ[i]? with
  | some (some (.lst _ _)) => (a ρ).bind fun j ρ => match ρ[i]?, j with
    | some (some (.lst .own xs)), .sc (.int k) => match ixN xs.length k with
      | some n => .ok () (ρ.set i (some (.lst .own (xs.set n d))))
      | none => .stuck
    | _, _ => .stuck
  | _ => .stuck := (rfl)
@[simp] theorem mApp_ : mApp i a ρ = match ρ[i]? with
  | some (some (.lst _ _)) => (a ρ).bind fun d ρ => match ρ[i]? with
    | some (some (.lst .own xs)) => if xs.length < 16777216 then .ok .non (ρ.set i (some (.lst .own (xs ++ [d])))) else .stuck
    | _ => .stuck
  | _ => .stuck := (rfl)
@[simp] theorem mExt_ : mExt i a ρ = match ρ[i]? with
  | some (some (.lst _ _)) => (a ρ).bind fun d ρ => match ρ[i]?, d with
    | some (some (.lst .own xs)), .lst o ys => if (o = .own ∨ o = .shr) ∧ xs.length + ys.length ≤ 16777216 then .ok .non (ρ.set i (some (.lst .own (xs ++ ys)))) else .stuck
    | _, _ => .stuck
  | _ => .stuck := (rfl)
@[simp] theorem mFor_ (mi : Cm (List D)) (g : D → Cm Unit) : mFor mi g m ρ = (mi ρ).bind fun ds ρ => forL g m ds ρ := (rfl)
@[simp] theorem mItemsL_ : mItemsL a ρ = (a ρ).bind fun d ρ => match d.fz with
  | .lst _ ds => .ok ds ρ
  | _ => .stuck := (rfl)
@[simp] theorem mItemsT_ : mItemsT a ρ = (a ρ).bind fun d ρ => match d.fz with
  | .tup ds => .ok ds ρ
  | _ => .stuck := (rfl)
@[simp] theorem mRange1_ : mRange1 a ρ = (a ρ).bind fun d ρ => match d with
  | .sc (.int j) => if smallR j then .ok (rangeD 0 j.toNat) ρ else .stuck
  | _ => .stuck := (rfl)
@[simp] theorem mRange2_ : mRange2 a b ρ = (a ρ).bind fun d ρ => (b ρ).bind fun d' ρ => match d, d' with
  | .sc (.int i), .sc (.int j) => if smallR i ∧ smallR j then .ok (rangeD i (j - i).toNat) ρ else .stuck
  | _, _ => .stuck := (rfl)
@[simp] theorem mLc_ (mi : Cm (List D)) (g : D → Cm Unit) (vs : List Nat) : mLc mi g t a vs ρ = (mi ρ).bind fun ds ρ => match saved ρ vs with
  | some ss => if ds.length ≤ 16777216 then (unexc (lcL g t a vs ds (wipeD ρ vs))).bind fun r ρ => .ok (.lst .own r) (restD ρ vs ss) else .stuck
  | none => .stuck := (rfl)
@[simp] theorem mYes_ : mYes ρ = .ok true ρ := (rfl)
@[simp] theorem mCall_ (M : List D → RF) (as : List Ag) : mCall M as ρ = (agRun as ρ).bind fun ts ρ => match agGet as ts ρ with
  | some (ds, ρ') => match M ds with
    | .ok d us => if us.length = (agOuts as).length then (if d.isFree && (agOuts as).isEmpty then .ok d ρ else .ok d (putD ρ' (agOuts as) us)) else .stuck
    | .exc x us => if us.length = (agOuts as).length then .exc x (putD ρ' (agOuts as) us) else .stuck
    | .stuck => .stuck
  | none => .stuck := (rfl)
@[simp] theorem agRun_nil : agRun [] ρ = .ok [] ρ := (rfl)
@[simp] theorem agRun_s (as : List Ag) : agRun (.s i :: as) ρ = match ρ[i]? with
    | some (some _) => (agRun as ρ).bind fun ts ρ => .ok (none :: ts) ρ
    | _ => .stuck := (rfl)
@[simp] theorem agRun_p (as : List Ag) : agRun (.p i :: as) ρ = match ρ[i]? with
    | some (some _) => (agRun as ρ).bind fun ts ρ => .ok (none :: ts) ρ
    | _ => .stuck := (rfl)
@[simp] theorem agRun_e (as : List Ag) : agRun (.e a :: as) ρ = (a ρ).bind fun d ρ => (agRun as ρ).bind fun ts ρ => .ok (some d :: ts) ρ := (rfl)
@[simp] theorem agRun_t (as : List Ag) : agRun (.t a :: as) ρ = (a ρ).bind fun d ρ => (agRun as ρ).bind fun ts ρ => .ok (some d :: ts) ρ := (rfl)
@[simp] theorem agGet_nil : agGet [] [] ρ = some ([], ρ) := (rfl)
@[simp] theorem agGet_s (as : List Ag) (ts : List (Option D)) : agGet (.s i :: as) (none :: ts) ρ = match ρ[i]? with
    | some (some d) => (agGet as ts (ρ.set i none)).map fun r => (d :: r.1, r.2)
    | _ => none := (rfl)
@[simp] theorem agGet_p (as : List Ag) (ts : List (Option D)) : agGet (.p i :: as) (none :: ts) ρ = match ρ[i]? with
    | some (some d) => (agGet as ts (ρ.set i (some d.fz))).map fun r => (d.fz :: r.1, r.2)
    | _ => none := (rfl)
@[simp] theorem agGet_e (d : D) (as : List Ag) (ts : List (Option D)) : agGet (.e a :: as) (some d :: ts) ρ = (agGet as ts ρ).map fun r => (d.fz :: r.1, r.2) := (rfl)
@[simp] theorem agGet_t (d : D) (as : List Ag) (ts : List (Option D)) : agGet (.t a :: as) (some d :: ts) ρ = (agGet as ts ρ).map fun r => (d :: r.1, r.2) := (rfl)
end
@[simp] theorem agOuts_nil : agOuts [] = [] := (rfl)
@[simp] theorem agOuts_s (i : Nat) (as : List Ag) : agOuts (.s i :: as) = some i :: agOuts as := (rfl)
@[simp] theorem agOuts_p (i : Nat) (as : List Ag) : agOuts (.p i :: as) = agOuts as := (rfl)
@[simp] theorem agOuts_e (m : Cm D) (as : List Ag) : agOuts (.e m :: as) = agOuts as := (rfl)
@[simp] theorem agOuts_t (m : Cm D) (as : List Ag) : agOuts (.t m :: as) = none :: agOuts as := (rfl)
@[simp] theorem putD_nil (ρ : DE) (ds : List D) : putD ρ [] ds = ρ := by simp [putD]
@[simp] theorem putD_s (ρ : DE) (i : Nat) (is : List (Option Nat)) (d : D) (ds : List D) : putD ρ (some i :: is) (d :: ds) = (putD ρ is ds).set i (some d) := (rfl)
@[simp] theorem putD_n (ρ : DE) (is : List (Option Nat)) (d : D) (ds : List D) : putD ρ (none :: is) (d :: ds) = putD ρ is ds := (rfl)
@[simp] theorem runF_ (n : Nat) (io : List Nat) (m : Cm Out) (args : List D) : runF n io m args = endF io (m (startD n args)) := (rfl)
@[simp] theorem startD_ (n : Nat) (args : List D) : startD n args = args.map some ++ List.replicate (n - args.length) none := (rfl)
@[simp] theorem endF_nx (io : List Nat) (ρ : DE) : endF io (.ok .nx ρ) = match ioGet ρ io with
    | some ds => .ok .non ds
    | none => .stuck := (rfl)
@[simp] theorem endF_ret (io : List Nat) (d : D) (ρ : DE) : endF io (.ok (.ret d) ρ) = match ioGet ρ io with
    | some ds => .ok d ds
    | none => .stuck := (rfl)
@[simp] theorem endF_exc (io : List Nat) (x : Ex) (ρ : DE) : endF io (.exc x ρ) = match ioGet ρ io with
    | some ds => .exc x ds
    | none => .stuck := (rfl)
@[simp] theorem ioGet_nil (ρ : DE) : ioGet ρ [] = some [] := (rfl)
@[simp] theorem ioGet_cons (ρ : DE) (i : Nat) (is : List Nat) : ioGet ρ (i :: is) = match ρ[i]? with
    | some (some d) => (ioGet ρ is).map (d :: ·)
    | _ => none := (rfl)
/-! ### data -/
@[simp] theorem fz_sc (s : Sc) : (D.sc s).fz = .sc s := by simp [D.fz]
@[simp] theorem fz_lst (o : Ow) (xs : List D) : (D.lst o xs).fz = .lst (if o = .own then .shr else o) (xs.map D.fz) := by simp [D.fz, Ds.fz_map]
@[simp] theorem fz_tup (xs : List D) : (D.tup xs).fz = .tup (xs.map D.fz) := by simp [D.fz, Ds.fz_map]
theorem Ds.pur_all : ∀ xs : List D, Ds.pur xs = xs.all D.pur
  | [] => by simp [Ds.pur]
  | x :: xs => by simp [Ds.pur, Ds.pur_all xs]
@[simp] theorem pur_sc (s : Sc) : (D.sc s).pur = true := by simp [D.pur]
@[simp] theorem pur_lst (o : Ow) (xs : List D) : (D.lst o xs).pur = (o != .own && xs.all D.pur) := by simp [D.pur, Ds.pur_all]
@[simp] theorem pur_tup (xs : List D) : (D.tup xs).pur = xs.all D.pur := by simp [D.pur, Ds.pur_all]
@[simp] theorem isFree_sc (s : Sc) : (D.sc s).isFree = true := (rfl)
@[simp] theorem isFree_own (xs : List D) : (D.lst .own xs).isFree = xs.all D.isSc := (rfl)
@[simp] theorem isFree_shr (xs : List D) : (D.lst .shr xs).isFree = false := (rfl)
@[simp] theorem isFree_tup (xs : List D) : (D.tup xs).isFree = false := (rfl)
@[simp] theorem isSc_sc (s : Sc) : (D.sc s).isSc = true := (rfl)
@[simp] theorem flat_sc (n : Nat) (s : Sc) : D.flatN n (.sc s) = true := by cases n <;> rfl
@[simp] theorem flat_lst (n : Nat) (o : Ow) (xs : List D) : D.flatN (n + 1) (.lst o xs) = xs.all (D.flatN n) := by simp [D.flatN]
@[simp] theorem flat_tup (n : Nat) (xs : List D) : D.flatN (n + 1) (.tup xs) = xs.all (D.flatN n) := by simp [D.flatN]
@[simp] theorem addD_int (i j : Int) : addD (.int i) (.int j) = some (.int (i + j)) := (rfl)
@[simp] theorem addD_str (a b : List Nat) : addD (.str a) (.str b) = if a.length + b.length ≤ 16777216 then some (.str (a ++ b)) else none := (rfl)
@[simp] theorem addD_lst (o p : Ow) (xs ys : List D) : addD (.lst o xs) (.lst p ys) = if (o = .own ∨ o = .shr) ∧ (p = .own ∨ p = .shr) ∧ xs.length + ys.length ≤ 16777216 then some (.lst .own (xs ++ ys)) else none := (rfl)
@[simp] theorem subD_int (i j : Int) : subD (.int i) (.int j) = some (.int (i - j)) := (rfl)
@[simp] theorem mulD_int (i j : Int) : mulD (.int i) (.int j) = if i.natAbs < 18446744073709551616 ∨ j.natAbs < 18446744073709551616 then some (.int (i * j)) else none := (rfl)
@[simp] theorem mulD_str (a : List Nat) (n : Int) : mulD (.str a) (.int n) = if a.length * n.toNat ≤ 16777216 ∧ n.natAbs < 4611686018427387904 then some (.str (List.replicate n.toNat a).flatten) else none := (rfl)
@[simp] theorem mulD_lst (o : Ow) (xs : List D) (n : Int) : mulD (.lst o xs) (.int n) = if (o = .own ∨ o = .shr) ∧ Ds.pur xs = true ∧ xs.length * n.toNat ≤ 16777216 ∧ n.natAbs < 4611686018427387904 then some (.lst .own (List.replicate n.toNat xs).flatten) else none := (rfl)
@[simp] theorem fdivD_int (i j : Int) : fdivD (.int i) (.int j) = if 0 < j ∧ j < 4611686018427387904 then some (.int (i / j)) else none := (rfl)
@[simp] theorem modD_int (i j : Int) : modD (.int i) (.int j) = if 0 < j then some (.int (i % j)) else none := (rfl)
@[simp] theorem powD_int (i j : Int) : powD (.int i) (.int j) = if 0 ≤ j ∧ j ≤ 1000000 ∧ i.natAbs < 18446744073709551616 then some (.int (i ^ j.toNat)) else none := (rfl)
@[simp] theorem negD_int (i : Int) : negD (.int i) = some (.int (-i)) := (rfl)
@[simp] theorem notD_bl (b : Bool) : notD (.bl b) = some (.bl (!b)) := (rfl)
@[simp] theorem ltD_int (i j : Int) : ltD (.int i) (.int j) = some (.bl (decide (i < j))) := (rfl)
@[simp] theorem leD_int (i j : Int) : leD (.int i) (.int j) = some (.bl (decide (i ≤ j))) := (rfl)
@[simp] theorem gtD_int (i j : Int) : gtD (.int i) (.int j) = some (.bl (decide (j < i))) := (rfl)
@[simp] theorem geD_int (i j : Int) : geD (.int i) (.int j) = some (.bl (decide (j ≤ i))) := (rfl)
@[simp] theorem augA_int (i j : Int) : augA (.int i) (.int j) = some (.int (i + j)) := (rfl)
@[simp] theorem augA_str (a b : List Nat) : augA (.str a) (.str b) = if a.length + b.length ≤ 16777216 then some (.str (a ++ b)) else none := (rfl)
@[simp] theorem isNon_ (x : D) : isNon x .non = some (.bl (match x with | .sc .non => true | _ => false)) := (rfl)
@[simp] theorem isntNon_ (x : D) : isntNon x .non = some (.bl (match x with | .sc .non => false | _ => true)) := (rfl)
@[simp] theorem lenD_str (l : List Nat) : lenD (.str l) = some (.int l.length) := (rfl)
@[simp] theorem lenD_lst (o : Ow) (xs : List D) : lenD (.lst o xs) = some (.int xs.length) := (rfl)
@[simp] theorem lenD_tup (xs : List D) : lenD (.tup xs) = some (.int xs.length) := (rfl)
@[simp] theorem intD_int (i : Int) : intD (.int i) = some (.int i) := (rfl)
@[simp] theorem intD_bl (b : Bool) : intD (.bl b) = some (.int (if b then 1 else 0)) := (rfl)
@[simp] theorem maxD_int (i j : Int) : maxD (.int i) (.int j) = some (.int (max i j)) := (rfl)
@[simp] theorem minD_int (i j : Int) : minD (.int i) (.int j) = some (.int (min i j)) := (rfl)
@[simp] theorem idxD_lst (o : Ow) (xs : List D) (i : Int) : idxD (.lst o xs) i = atI xs i := (rfl)
@[simp] theorem idxD_tup (xs : List D) (i : Int) : idxD (.tup xs) i = atI xs i := (rfl)
@[simp] theorem idxD_str (l : List Nat) (i : Int) : idxD (.str l) i = (atI l i).map fun c => .str [c] := (rfl)
@[simp] theorem sliceD_str (lo hi : Option Int) (l : List Nat) : sliceD lo hi (.str l) = some (.str (cutL l lo hi)) := (rfl)
@[simp] theorem sliceD_lst (lo hi : Option Int) (o : Ow) (xs : List D) : sliceD lo hi (.lst o xs) = if xs.all D.pur then some (.lst .own (cutL xs lo hi)) else none := by simp [sliceD, Ds.pur_all]
@[simp] theorem listD_lst (o : Ow) (xs : List D) : listD (.lst o xs) = if xs.all D.pur then some (.lst .own xs) else none := by simp [listD, Ds.pur_all]
@[simp] theorem listD_tup (xs : List D) : listD (.tup xs) = if xs.all D.pur then some (.lst .own xs) else none := by simp [listD, Ds.pur_all]
@[simp] theorem eqD_ (x y : D) : eqD x y = if D.flatN 8 x && D.flatN 8 y then some (.bl (x.eqB y)) else none := (rfl)
@[simp] theorem neD_ (x y : D) : neD x y = if D.flatN 8 x && D.flatN 8 y then some (.bl (!x.eqB y)) else none := (rfl)
@[simp] theorem eqB_int (i j : Int) : D.eqB (.int i) (.int j) = (i == j) := by simp [D.eqB, Sc.eqB]
@[simp] theorem eqB_str (i j : List Nat) : D.eqB (.str i) (.str j) = (i == j) := by simp [D.eqB, Sc.eqB]
@[simp] theorem eqB_bl (i j : Bool) : D.eqB (.bl i) (.bl j) = (i == j) := by simp [D.eqB, Sc.eqB]
@[simp] theorem eqB_lst (o p : Ow) (xs ys : List D) : D.eqB (.lst o xs) (.lst p ys) = Ds.eqB xs ys := by simp [D.eqB]
@[simp] theorem eqB_tup (xs ys : List D) : D.eqB (.tup xs) (.tup ys) = Ds.eqB xs ys := by simp [D.eqB]
@[simp] theorem eqB_nil : Ds.eqB [] [] = true := by simp [Ds.eqB]
@[simp] theorem eqB_cons (x y : D) (xs ys : List D) : Ds.eqB (x :: xs) (y :: ys) = (x.eqB y && Ds.eqB xs ys) := by simp [Ds.eqB]
@[simp] theorem eqB_nc (y : D) (ys : List D) : Ds.eqB [] (y :: ys) = false := by simp [Ds.eqB]
@[simp] theorem eqB_cn (y : D) (ys : List D) : Ds.eqB (y :: ys) [] = false := by simp [Ds.eqB]
theorem eqB_map {α : Type} [DecidableEq α] (f : α → D) (hf : ∀ x y, (f x).eqB (f y) = decide (x = y)) : ∀ xs ys : List α, Ds.eqB (xs.map f) (ys.map f) = decide (xs = ys)
  | [], [] => by simp
  | [], y :: ys => by simp
  | x :: xs, [] => by simp
  | x :: xs, y :: ys => by simp [hf, eqB_map f hf xs ys]
@[simp] theorem eqB_ints (xs ys : List Int) : Ds.eqB (xs.map fun i => D.sc (.int i)) (ys.map fun i => D.sc (.int i)) = decide (xs = ys) := eqB_map _ (fun x y => by simp [Bool.beq_eq_decide_eq]) xs ys
@[simp] theorem eqB_strs (xs ys : List (List Nat)) : Ds.eqB (xs.map fun i => D.sc (.str i)) (ys.map fun i => D.sc (.str i)) = decide (xs = ys) := eqB_map _ (fun x y => by simp [Bool.beq_eq_decide_eq]) xs ys
@[simp] theorem allD_ (o : Ow) (bs : List Bool) : allD (.lst o (bs.map fun b => D.sc (.bl b))) = some (.bl (bs.all id)) := by
  have : bls (bs.map fun b => D.sc (.bl b)) = some bs := by induction bs with | nil => rfl | cons b bs ih => simp [bls, ih]
  simp [allD, this]
@[simp] theorem anyD_ (o : Ow) (bs : List Bool) : anyD (.lst o (bs.map fun b => D.sc (.bl b))) = some (.bl (bs.any id)) := by
  have : bls (bs.map fun b => D.sc (.bl b)) = some bs := by induction bs with | nil => rfl | cons b bs ih => simp [bls, ih]
  simp [anyD, this]
@[simp] theorem sumD_ (o : Ow) (bs : List Int) : sumD (.lst o (bs.map fun b => D.sc (.int b))) = some (.int bs.sum) := by
  have : intL (bs.map fun b => D.sc (.int b)) = some bs := by induction bs with | nil => rfl | cons b bs ih => simp [intL, ih]
  simp [sumD, this]
@[simp] theorem isTy_int_int (i : Int) : isTy .int (.int i) = some (.bl true) := (rfl)
@[simp] theorem isTy_bool_int (i : Int) : isTy .bool (.int i) = some (.bl false) := (rfl)
@[simp] theorem isTy_list (o : Ow) (xs : List D) : isTy .list (.lst o xs) = some (.bl true) := (rfl)
@[simp] theorem isTy_str (xs : List Nat) : isTy .str (.str xs) = some (.bl true) := (rfl)
@[simp] theorem isTy_tuple (xs : List D) : isTy .tuple (.tup xs) = some (.bl true) := (rfl)
theorem atI_nn {α : Type} (xs : List α) (i : Nat) (h : i < xs.length) : atI xs (i : Int) = xs[i]? := by
  unfold atI ixN
  rw [if_pos (by omega), if_pos (by omega)]
  simp
/-- an index of a written list -/
@[simp] theorem atI_z {α : Type} (x : α) (xs : List α) : atI (x :: xs) 0 = some x := by
  unfold atI ixN
  rw [if_pos (by omega), if_pos (by simp)]
  simp
theorem atI_s {α : Type} (x : α) (xs : List α) (i : Int) (h : 0 < i) : atI (x :: xs) i = atI xs (i - 1) := by
  unfold atI ixN
  rw [if_pos (by omega), if_pos (show (0 : Int) ≤ i - 1 by omega)]
  by_cases q : i < ((x :: xs).length : Nat)
  · rw [if_pos q, if_pos (by simp at q; omega)]
    have : i.toNat = (i - 1).toNat + 1 := by omega
    show (x :: xs)[i.toNat]? = xs[(i-1).toNat]?
    rw [this, List.getElem?_cons_succ]
  · rw [if_neg q, if_neg (by simp at q; omega)]
    rfl

/-! ### loops -/
/-- a for whose turns are told by a function on states -/
theorem forL_fold {σ : Type} {α : Type} {g : D → Cm Unit} {b : Cm Out} (enc : σ → DE) (el : α → D) (f : σ → α → σ)
    (h : ∀ s x, (g (el x) (enc s)).bind (fun _ ρ => (b ρ).bind fun o ρ => match o with | .nx => .ok Out.nx ρ | .ct => .ok Out.nx ρ | .brk => .ok Out.brk ρ | .ret y => .ok (Out.ret y) ρ) = .ok .nx (enc (f s x))) :
    ∀ (xs : List α) (s : σ), forL g b (xs.map el) (enc s) = .ok .nx (enc (xs.foldl f s))
  | [], s => rfl
  | x :: xs, s => by
    have hx := h s x
    simp only [List.map_cons, forL, List.foldl_cons]
    cases e : g (el x) (enc s) with
    | exc _ _ => rw [e] at hx; simp at hx
    | stuck => rw [e] at hx; simp at hx
    | ok u ρ =>
      rw [e] at hx
      simp only [R.bind_ok] at hx ⊢
      cases e2 : b ρ with
      | exc _ _ => rw [e2] at hx; simp at hx
      | stuck => rw [e2] at hx; simp at hx
      | ok o ρ2 =>
        rw [e2] at hx
        cases o <;> simp at hx ⊢ <;> (subst hx; exact forL_fold enc el f h xs _)
/-- a for whose turns keep a relation; the turn may need its place -/
theorem forL_inv {g : D → Cm Unit} {b : Cm Out} {ds : List D} (I : Nat → DE → Prop)
    (h : ∀ i d ρ, ds[i]? = some d → I i ρ → ∃ ρ1, g d ρ = .ok () ρ1 ∧ ∃ o ρ2, b ρ1 = .ok o ρ2 ∧ (o = .nx ∨ o = .ct) ∧ I (i + 1) ρ2) :
    ∀ (n i : Nat) (ρ : DE), ds.length - i = n → i ≤ ds.length → I i ρ → ∃ ρ', forL g b (ds.drop i) ρ = .ok .nx ρ' ∧ I ds.length ρ'
  | 0, i, ρ, hn, hi, k => by
    have e : i = ds.length := by omega
    subst e
    rw [List.drop_length]
    exact ⟨ρ, rfl, k⟩
  | n + 1, i, ρ, hn, hi, k => by
    have hlt : i < ds.length := by omega
    rw [List.drop_eq_getElem_cons hlt]
    obtain ⟨ρ1, h1, o, ρ2, h2, h3, h4⟩ := h i _ ρ (List.getElem?_eq_getElem hlt) k
    obtain ⟨ρ', e1, e2⟩ := forL_inv I h n (i + 1) ρ2 (by omega) (by omega) h4
    refine ⟨ρ', ?_, e2⟩
    simp only [forL, h1, R.bind_ok, h2]
    rcases h3 with rfl | rfl <;> exact e1
theorem forL_inv0 {g : D → Cm Unit} {b : Cm Out} {ds : List D} {ρ : DE} (I : Nat → DE → Prop) (h0 : I 0 ρ)
    (h : ∀ i d ρ, ds[i]? = some d → I i ρ → ∃ ρ1, g d ρ = .ok () ρ1 ∧ ∃ o ρ2, b ρ1 = .ok o ρ2 ∧ (o = .nx ∨ o = .ct) ∧ I (i + 1) ρ2) : ∃ ρ', forL g b ds ρ = .ok .nx ρ' ∧ I ds.length ρ' := by
  simpa using forL_inv I h ds.length 0 ρ (by omega) (by omega) h0
/-- a comprehension whose steps are told by a function -/
theorem lcL_map {α : Type} {g : D → Cm Unit} {e : Cm D} {vs : List Nat} {ρ : DE} (el : α → D) (f : α → D) (hw : wipeD ρ vs = ρ)
    (h : ∀ x, ∃ ρ1 ρ2, g (el x) ρ = .ok () ρ1 ∧ e ρ1 = .ok (f x) ρ2 ∧ wipeD ρ2 vs = ρ) : ∀ xs : List α, lcL g mYes e vs (xs.map el) ρ = .ok (xs.map f) ρ
  | [] => rfl
  | x :: xs => by
    obtain ⟨ρ1, ρ2, h1, h2, h3⟩ := h x
    simp only [List.map_cons, lcL, h1, R.bind_ok, mYes_, if_true, h2, h3, lcL_map el f hw h xs]
end VS
namespace VS
/-- a product with a small side: for simp with a discharger -/
theorem mulD_intL (i j : Int) (h : -18446744073709551616 < i ∧ i < 18446744073709551616) : mulD (.int i) (.int j) = some (.int (i * j)) := by
  rw [mulD_int, if_pos (Or.inl (by omega))]
theorem mulD_intR (i j : Int) (h : -18446744073709551616 < j ∧ j < 18446744073709551616) : mulD (.int i) (.int j) = some (.int (i * j)) := by
  rw [mulD_int, if_pos (Or.inr (by omega))]
theorem modD_intP (i j : Int) (h : 0 < j) : modD (.int i) (.int j) = some (.int (i % j)) := by
  rw [modD_int, if_pos h]
theorem fdivD_intP (i j : Int) (h : 0 < j ∧ j < 4611686018427387904) : fdivD (.int i) (.int j) = some (.int (i / j)) := by
  rw [fdivD_int, if_pos h]
end VS
namespace VS
@[simp] theorem fz_comp_int : D.fz ∘ D.int = D.int := by funext i; simp
@[simp] theorem fz_comp_str : D.fz ∘ D.str = D.str := by funext i; simp
@[simp] theorem fz_comp_bl : D.fz ∘ D.bl = D.bl := by funext i; simp
@[simp] theorem fz_map_int (ns : List Int) : (ns.map D.int).map D.fz = ns.map D.int := by simp
@[simp] theorem fz_map_str (ns : List (List Nat)) : (ns.map D.str).map D.fz = ns.map D.str := by simp
@[simp] theorem pur_all_int (ns : List Int) : (ns.map D.int).all D.pur = true := by simp
@[simp] theorem pur_all_str (ns : List (List Nat)) : (ns.map D.str).all D.pur = true := by simp
@[simp] theorem isSc_all_int (ns : List Int) : (ns.map D.int).all D.isSc = true := by simp
@[simp] theorem isSc_all_str (ns : List (List Nat)) : (ns.map D.str).all D.isSc = true := by simp
@[simp] theorem flat_all_int (n : Nat) (ns : List Int) : (ns.map D.int).all (D.flatN n) = true := by simp
@[simp] theorem flat_all_str (n : Nat) (ns : List (List Nat)) : (ns.map D.str).all (D.flatN n) = true := by simp
end VS
namespace VS
open L2
/-- an entry of a row of ints, by an int -/
def pk (l : List Int) (i : Int) : Int := l.getD i.toNat 0
theorem atI_pk (l : List Int) (i : Int) (h : 0 ≤ i) (h2 : i < l.length) : atI (l.map D.int) i = some (D.int (pk l i)) := by
  obtain ⟨n, rfl⟩ := Int.eq_ofNat_of_zero_le h
  have : n < l.length := by omega
  rw [atI_nn _ _ (by simpa using this)]
  simp [pk, this]
theorem pk_mem (l : List Int) (i : Int) (h : 0 ≤ i) (h2 : i < l.length) : pk l i ∈ l := by
  obtain ⟨n, rfl⟩ := Int.eq_ofNat_of_zero_le h
  have : n < l.length := by omega
  simp [pk, this]
theorem pk_P {P : Int → Prop} (l : List Int) (i : Int) (h : 0 ≤ i) (h2 : i < l.length) (q : ∀ x ∈ l, P x) : P (pk l i) := q _ (pk_mem l i h h2)
theorem atI_pk1 (a i : Int) (h : 0 ≤ i) (h2 : i < 1) : atI [D.int a] i = some (D.int (pk [a] i)) := atI_pk [a] i h h2
theorem atI_pk2 (a b i : Int) (h : 0 ≤ i) (h2 : i < 2) : atI [D.int a, D.int b] i = some (D.int (pk [a, b] i)) := atI_pk [a, b] i h h2
theorem atI_pk3 (a b c i : Int) (h : 0 ≤ i) (h2 : i < 3) : atI [D.int a, D.int b, D.int c] i = some (D.int (pk [a, b, c] i)) := atI_pk [a, b, c] i h h2
theorem atI_pk4 (a b c d i : Int) (h : 0 ≤ i) (h2 : i < 4) : atI [D.int a, D.int b, D.int c, D.int d] i = some (D.int (pk [a, b, c, d] i)) := atI_pk [a, b, c, d] i h h2
theorem atI_pk5 (a b c d e i : Int) (h : 0 ≤ i) (h2 : i < 5) : atI [D.int a, D.int b, D.int c, D.int d, D.int e] i = some (D.int (pk [a, b, c, d, e] i)) := atI_pk [a, b, c, d, e] i h h2
theorem atI_pk6 (a b c d e f i : Int) (h : 0 ≤ i) (h2 : i < 6) : atI [D.int a, D.int b, D.int c, D.int d, D.int e, D.int f] i = some (D.int (pk [a, b, c, d, e, f] i)) := atI_pk [a, b, c, d, e, f] i h h2
theorem atI_pk12 (a b c d e f a' b' c' d' e' f' i : Int) (h : 0 ≤ i) (h2 : i < 12) : atI [D.int a, D.int b, D.int c, D.int d, D.int e, D.int f, D.int a', D.int b', D.int c', D.int d', D.int e', D.int f'] i = some (D.int (pk [a, b, c, d, e, f, a', b', c', d', e', f'] i)) := atI_pk [a, b, c, d, e, f, a', b', c', d', e', f'] i h h2
theorem cut_all {α : Type} (xs : List α) : cutL xs none none = xs := by simp [cutL, HT.sIx_none]
theorem cut_take {α : Type} (xs : List α) (n : Nat) (h : n ≤ xs.length) : cutL xs none (some (n : Int)) = xs.take n := by
  unfold cutL; rw [HT.sIx_none, HT.sIx_nat, Nat.min_eq_left h]; simp
theorem cut_drop {α : Type} (xs : List α) (n : Nat) (h : n ≤ xs.length) : cutL xs (some (n : Int)) none = xs.drop n := by
  unfold cutL; rw [HT.sIx_none, HT.sIx_nat, Nat.min_eq_left h]
  exact List.take_of_length_le (by simp)
theorem cut_mid {α : Type} (xs : List α) (a b : Nat) (h : a ≤ b) (h2 : b ≤ xs.length) : cutL xs (some (a : Int)) (some (b : Int)) = (xs.drop a).take (b - a) := by
  unfold cutL; rw [HT.sIx_nat, HT.sIx_nat, Nat.min_eq_left h2, Nat.min_eq_left (Nat.le_trans h h2)]
/-- a row's ends, whatever the cut -/
theorem cut_sub {α : Type} (xs : List α) (lo hi : Option Int) : ∀ x ∈ cutL xs lo hi, x ∈ xs := fun x h => cutL_mem h
theorem whileL_step {c : Cm Bool} {b : Cm Out} {n : Nat} {ρ ρ1 ρ2 : DE} (h : c ρ = .ok true ρ1) (h2 : b ρ1 = .ok .nx ρ2) : whileL c b (n + 1) ρ = whileL c b n ρ2 := by
  simp [whileL, h, h2]
theorem whileL_end {c : Cm Bool} {b : Cm Out} {n : Nat} {ρ ρ1 : DE} (h : c ρ = .ok false ρ1) : whileL c b (n + 1) ρ = .ok .nx ρ1 := by
  simp [whileL, h]
end VS
namespace VS
theorem allD_map {α : Type} (o : Ow) (f : α → Bool) (xs : List α) : allD (.lst o (xs.map fun x => D.sc (.bl (f x)))) = some (.bl (xs.all f)) := by
  have := allD_ o (xs.map f)
  simpa [Function.comp_def] using this
theorem anyD_map {α : Type} (o : Ow) (f : α → Bool) (xs : List α) : anyD (.lst o (xs.map fun x => D.sc (.bl (f x)))) = some (.bl (xs.any f)) := by
  have := anyD_ o (xs.map f)
  simpa [Function.comp_def] using this
end VS
namespace VS
theorem rangeD_get {lo : Int} {n i : Nat} {d : D} (h : (rangeD lo n)[i]? = some d) : i < n ∧ d = D.int (lo + i) := by
  unfold rangeD at h
  rw [List.getElem?_map, Option.map_eq_some_iff] at h
  obtain ⟨k, hk, rfl⟩ := h
  obtain ⟨hl, rfl⟩ := List.getElem?_eq_some_iff.1 hk
  simp at hl ⊢
  exact hl
@[simp] theorem rangeD_len (lo : Int) (n : Nat) : (rangeD lo n).length = n := by simp [rangeD]
end VS
namespace VS
open L2
@[simp] theorem mM_e (f : D → D → Option Sc) (a b : Cm D) (ρ : DE) : mM f (.e a) (.e b) ρ = (a ρ).bind fun d ρ => match d with
  | .sc (.str _) => (b ρ).bind fun w ρ => (lift (f d w) ρ).bind fun s ρ => .ok (.sc s) ρ
  | _ => .stuck := by
  unfold mM
  cases e : a ρ with
  | ok x ρ =>
    simp only [orun_e, e, R.bind_ok, oget_e]
    cases x with
    | sc s =>
      cases s <;> try rfl
      cases e2 : b ρ <;> simp [R.bind]
    | _ => rfl
  | exc _ _ => simp only [orun_e, e]; rfl
  | stuck => simp only [orun_e, e]; rfl
@[simp] theorem mRepl_ (y z : List Nat) (m : Cm D) (ρ : DE) : mRepl y z m ρ = (m ρ).bind fun d ρ => match d with
  | .sc (.str x) => if x.length + (x.length + 1) * z.length ≤ 16777216 ∧ (PySem.StrLaws.replL y z x).all (fun c => decide (c < 1114112)) = true then .ok (.str (PySem.StrLaws.replL y z x)) ρ else .stuck
  | _ => .stuck := (rfl)
@[simp] theorem mItemsS_ (a : Cm D) (ρ : DE) : mItemsS a ρ = (a ρ).bind fun d ρ => match d with
  | .sc (.str l) => .ok (l.map fun c => D.str [c]) ρ
  | _ => .stuck := (rfl)
theorem inStr_one (c : Nat) (b : List Nat) : inStr [c] b = decide (c ∈ b) := by
  have := PySem.StrLaws.found_one ⟨b.toArray⟩ c
  simpa [inStr, PySem.Str.length] using this
@[simp] theorem inD_one (neg : Bool) (c : Nat) (b : List Nat) : inD neg (.str [c]) (.str b) = some (.bl (neg ^^ decide (c ∈ b))) := by
  rw [← inStr_one]; rfl
@[simp] theorem eqB_nilr (xs : List D) : Ds.eqB xs [] = xs.isEmpty := by cases xs <;> simp
theorem strL_map (l : List (List Nat)) : strL (l.map D.str) = some l := by
  induction l with
  | nil => rfl
  | cons x l ih => simp [strL, ih]
theorem joinL_nil (cs : List Nat) : joinL [] (cs.map fun c => [c]) = cs := by
  cases cs with
  | nil => rfl
  | cons c cs =>
    have : ∀ l : List Nat, glL [] (l.map fun c => [c]) = l := fun l => by induction l with | nil => rfl | cons x l ih => simp [glL, ih]
    simp [joinL, this]
theorem join_signs (o : Ow) (cs : List Nat) (h : cs.length ≤ 16777216) : joinD (.str []) (.lst o (cs.map fun c => D.str [c])) = some (.str cs) := by
  have e := strL_map (cs.map fun c => [c])
  simp only [List.map_map, Function.comp_def] at e
  have s : ((cs.map fun c => [c]).map List.length).sum = cs.length := by
    clear h e
    induction cs with
    | nil => rfl
    | cons c cs ih => simp at ih ⊢; omega
  simp only [joinD, e, joinL_nil]
  rw [if_pos (by rw [s]; simpa using h)]
/-- a comprehension with a condition -/
theorem lcL_filter {α : Type} {g : D → Cm Unit} {t : Cm Bool} {e : Cm D} {vs : List Nat} {ρ : DE} (el : α → D) (p : α → Bool) (f : α → D) (hw : wipeD ρ vs = ρ)
    (h : ∀ x, ∃ ρ1 ρ2 ρ3, g (el x) ρ = .ok () ρ1 ∧ t ρ1 = .ok (p x) ρ2 ∧ wipeD ρ2 vs = ρ ∧ e ρ2 = .ok (f x) ρ3 ∧ wipeD ρ3 vs = ρ) : ∀ xs : List α, lcL g t e vs (xs.map el) ρ = .ok ((xs.filter p).map f) ρ
  | [] => rfl
  | x :: xs => by
    obtain ⟨ρ1, ρ2, ρ3, h1, h2, h3, h4, h5⟩ := h x
    cases q : p x with
    | true =>
      rw [q] at h2
      simp only [List.map_cons, lcL, h1, R.bind_ok, h2, if_true, h4, h5, lcL_filter el p f hw h xs, List.filter_cons, q]
    | false =>
      rw [q] at h2
      simp only [List.map_cons, lcL, h1, R.bind_ok, h2, h3, lcL_filter el p f hw h xs, List.filter_cons, q, Bool.false_eq_true, if_false]
/-- a comprehension whose steps draw -/
theorem lcL_draw {σ : Type} {g : D → Cm Unit} {e : Cm D} {vs : List Nat} (enc : σ → DE) (P : Nat → Prop)
    (h : ∀ s d, ∃ ρ1 ρ2 c s', g d (enc s) = .ok () ρ1 ∧ e ρ1 = .ok (.str [c]) ρ2 ∧ wipeD ρ2 vs = enc s' ∧ P c) : ∀ (ds : List D) (s : σ), ∃ (cs : List Nat) (s' : σ), lcL g mYes e vs ds (enc s) = .ok (cs.map fun c => D.str [c]) (enc s') ∧ cs.length = ds.length ∧ ∀ c ∈ cs, P c
  | [], s => ⟨[], s, rfl, rfl, by simp⟩
  | d :: ds, s => by
    obtain ⟨ρ1, ρ2, c, s1, h1, h2, h3, h4⟩ := h s d
    obtain ⟨cs, s', e1, e2, e3⟩ := lcL_draw enc P h ds s1
    refine ⟨c :: cs, s', by simp only [lcL, h1, R.bind_ok, mYes_, if_true, h2, h3, e1, List.map_cons], by simp [e2], fun x hx => ?_⟩
    rcases List.mem_cons.1 hx with rfl | hx
    · exact h4
    · exact e3 x hx
theorem repl_one (c : Nat) (z : List Nat) : ∀ l : List Nat, PySem.StrLaws.replL [c] z l = l.flatMap fun x => if x = c then z else [x]
  | [] => by rw [PySem.StrLaws.replL_nil]; rfl
  | x :: l => by
    by_cases q : x = c
    · subst q
      rw [PySem.StrLaws.replL_hit (by simp) (by simp)]
      simp [repl_one]
    · rw [PySem.StrLaws.replL_miss (by simpa using q), repl_one c z l]
      simp [q]
theorem at_app {α : Type} (A : List α) (b : α) (B : List α) : atI (A ++ b :: B) (A.length : Int) = some b := by
  rw [atI_nn _ _ (by simp)]
  simp
theorem cut_app {α : Type} (A : List α) (b : α) (B : List α) : cutL (A ++ b :: B) (some (A.length : Int)) (some ((A.length : Int) + 1)) = [b] := by
  have := cut_mid (A ++ b :: B) A.length (A.length + 1) (by omega) (by simp)
  rw [Int.natCast_add] at this
  simpa using this
end VS
namespace VS
open L2
theorem whileL_ret {c : Cm Bool} {b : Cm Out} {n : Nat} {ρ ρ1 ρ2 : DE} {d : D} (h : c ρ = .ok true ρ1) (h2 : b ρ1 = .ok (.ret d) ρ2) : whileL c b (n + 1) ρ = .ok (.ret d) ρ2 := by
  simp only [whileL, h, R.bind_ok, if_true, h2]
theorem whileL_exc {c : Cm Bool} {b : Cm Out} {n : Nat} {ρ ρ1 ρ2 : DE} {x : Ex} (h : c ρ = .ok true ρ1) (h2 : b ρ1 = .exc x ρ2) : whileL c b (n + 1) ρ = .exc x ρ2 := by
  simp only [whileL, h, R.bind_ok, if_true, h2, R.bind_exc]
end VS

/-! VS, part t: exceptions: raise, try .. except. -/
namespace VS
open PySem PySem.Spec PyProof.Rows L2
def mRaise (C : String) : Cm Out := fun ρ => .exc ⟨C, [], []⟩ ρ
/-- raise C(why), raise C(why, e): C's own field f -/
def mRaiseF (C f : String) (ms : List (Cm D)) : Cm Out := fun ρ => (mArgs ms ρ).bind fun ds ρ => match ds with
  | [_] => .exc ⟨C, [f], [.int 0]⟩ ρ
  | [_, .sc s] => .exc ⟨C, [f], [s]⟩ ρ
  | _ => .stuck
/-- try: mb / except D as i: ms -/
def mTryAs (exm : String → String → Option Bool) (i : Nat) (Dn : String) (mb : Cm Out) (ms : Ex → Cm Out) : Cm Out := fun ρ => match mb ρ with
  | .ok o ρ => .ok o ρ
  | .stuck => .stuck
  | .exc x ρ => if x.cls = "dict" then .stuck else match exm x.cls Dn with
    | none => .stuck
    | some false => .exc x ρ
    | some true => match ms x (ρ.set i none) with
      | .ok o ρ => .ok o (ρ.set i none)
      | _ => .stuck
def mTry (exm : String → String → Option Bool) (Dn : String) (mb ms : Cm Out) : Cm Out := fun ρ => match mb ρ with
  | .ok o ρ => .ok o ρ
  | .stuck => .stuck
  | .exc x ρ => match exm x.cls Dn with
    | none => .stuck
    | some false => .exc x ρ
    | some true => match ms ρ with
      | .ok o ρ => .ok o ρ
      | _ => .stuck
def exT (all ds : List String) (C Dn : String) : Option Bool := if all.contains C && ds.contains Dn then some (C == Dn || Dn == "LetterError") else none
def mIsX (exm : String → String → Option Bool) (x : Ex) (Dn : String) : Cm D := match exm x.cls Dn with
  | some b => mC (.bl b)
  | none => mStuckD
def mIsV (all : List String) (x : Ex) : Cm D := if all.contains x.cls then mC (.bl true) else mStuckD
def xfV : List String → List Sc → String → Option Sc
  | [f'], [s], f => if f' = f then some s else none
  | _, _, _ => none
theorem xfV_eq {ns : List String} {xs : List Sc} {f : String} {s : Sc} (h : xfV ns xs f = some s) : ns = [f] ∧ xs = [s] := by
  unfold xfV at h
  split at h
  · split at h
    · rename_i e
      cases h
      subst e
      exact ⟨rfl, rfl⟩
    · cases h
  · cases h
def mXf (x : Ex) (f : String) : Cm D := match xfV x.ns x.xs f with
  | some s => mC s
  | none => mStuckD
/-! ### what the written part says of the classes -/
def cB (K : PySem.W.Frag) (C : Addr) : Bool := xfB K C && (decide (PySem.W.typeIn K (.ref C) = some (.type "type")) && (PySem.W.keepIn K (.ref C) && (decide (PySem.W.findIn K (.ref C) "__class__" = some (some (.builtin "object.__class__"))) &&
  (decide (PySem.W.specialIn K (.builtin "object.__class__") "__get__" = some (some (.builtin "getset_descriptor.__get__"))) && (decide (PySem.W.takesIn K (.builtin "object.__class__") = some true) && (decide (PySem.W.mroIn K C (.type "object") = some true) && ((PySem.W.clsIn K C).isSome &&
  (decide (PySem.W.findIn K (.ref C) "at" = some none) && (decide (PySem.W.findIn K (.ref C) "line" = some none) && decide (PySem.W.kitOne K (.ref C) (.type "ValueError") = some true))))))))))
structure CB (K : PySem.W.Frag) (C : Addr) : Prop where
  xf : XfC K C
  ty : PySem.W.typeIn K (.ref C) = some (.type "type")
  kp : PySem.W.keepIn K (.ref C) = true
  ca : PySem.W.findIn K (.ref C) "__class__" = some (some (.builtin "object.__class__"))
  sp : PySem.W.specialIn K (.builtin "object.__class__") "__get__" = some (some (.builtin "getset_descriptor.__get__"))
  tk : PySem.W.takesIn K (.builtin "object.__class__") = some true
  mr : PySem.W.mroIn K C (.type "object") = some true
  cl : (PySem.W.clsIn K C).isSome = true
  nA : PySem.W.findIn K (.ref C) "at" = some none
  nL : PySem.W.findIn K (.ref C) "line" = some none
  kv : PySem.W.kitOne K (.ref C) (.type "ValueError") = some true
theorem cB_ok {K : PySem.W.Frag} {C : Addr} (h : cB K C = true) : CB K C := by
  unfold cB at h
  simp only [Bool.and_eq_true, decide_eq_true_eq] at h
  obtain ⟨h1, h2, h3, h4, h5, h6, h7, h8, h9, h10, h11⟩ := h
  exact ⟨xfB_ok h1, h2, h3, h4, h5, h6, h7, h8, h9, h10, h11⟩
/-- the classes that may fly (all), those that are named (ds) -/
structure XT (K : PySem.W.Frag) (cls : String → Addr) (all ds : List String) : Prop where
  c : ∀ C ∈ all, CB K (cls C)
  exm : ∀ C ∈ all, ∀ Dn ∈ ds, PySem.W.exmOne K (.ref (cls C)) (.ref (cls Dn)) = some (C == Dn || Dn == "LetterError")
  kit : ∀ C ∈ all, ∀ Dn ∈ ds, PySem.W.kitOne K (.ref (cls C)) (.ref (cls Dn)) = some (C == Dn || Dn == "LetterError")
def xtB (K : PySem.W.Frag) (cls : String → Addr) (all ds : List String) : Bool := all.all fun C => cB K (cls C) && ds.all fun Dn => decide (PySem.W.exmOne K (.ref (cls C)) (.ref (cls Dn)) = some (C == Dn || Dn == "LetterError")) && decide (PySem.W.kitOne K (.ref (cls C)) (.ref (cls Dn)) = some (C == Dn || Dn == "LetterError"))
theorem xtB_ok {K : PySem.W.Frag} {cls : String → Addr} {all ds : List String} (h : xtB K cls all ds = true) : XT K cls all ds := by
  unfold xtB at h
  simp only [List.all_eq_true, Bool.and_eq_true, decide_eq_true_eq] at h
  exact ⟨fun C hC => cB_ok (h C hC).1, fun C hC Dn hD => ((h C hC).2 Dn hD).1, fun C hC Dn hD => ((h C hC).2 Dn hD).2⟩
/-- an own class with an own __init__ -/
def oexB (K : PySem.W.Frag) (C : Addr) : Bool := (match K.lookup C with
  | some ⟨.type "type", _, .cls cd, sl⟩ => (match cd.mro, sl.toList with
    | .ref C' :: bm, [_, _, _, _, some (.builtin n), _] => C' == C && n == "ValueError.__new__" && !cd.hasDel && cd.hasDict && PySem.HandSPX.refsVE bm
    | _, _ => false)
  | _ => false) && (decide (PySem.W.findIn K (.ref C) "__setattr__" = some (some (.builtin "object.__setattr__"))) && (decide (PySem.W.subIn K (.ref C) (.type "BaseException") = some true) && (decide (PySem.W.typeIn K (.ref C) = some (.type "type")) && PySem.W.keepIn K (.ref C))))
theorem oexB_ok {K : PySem.W.Frag} {C : Addr} (h : oexB K C = true) : OexC K C := by
  unfold oexB at h
  simp only [Bool.and_eq_true, decide_eq_true_eq] at h
  obtain ⟨q, h2, h3, h4, h5⟩ := h
  refine ⟨?_, h2, h3, h4, h5⟩
  split at q
  · rename_i dd cd sl ho
    split at q
    · rename_i C' bm k0 k1 k2 k3 n k5 hm hs
      simp only [Bool.and_eq_true, beq_iff_eq, Bool.not_eq_true'] at q
      obtain ⟨⟨⟨⟨rfl, rfl⟩, hdel⟩, hdict⟩, hr⟩ := q
      obtain ⟨nm, bs, mro, ns, qn, hd, sn, sub, ab, col, del⟩ := cd
      dsimp only at hm hdel hdict
      subst hm hdel hdict
      have hsl : sl = #[k0, k1, k2, k3, some (.builtin "ValueError.__new__"), k5] := by
        obtain ⟨l⟩ := sl
        simp only at hs
        rw [hs]
      subst hsl
      exact ⟨nm, qn, ns, bs, bm, sn, sub, ab, col, dd, k0, k1, k2, k3, k5, ho, hr⟩
    · cases q
  · cases q

/-! ### the states -/
section
variable {g : Gh} {H : Hp} {σ : L2.St} {sl : List (Option T)} {tm : List T}
theorem SR.exn0 (s : SR g H σ sl tm) (a : Addr) (C : String) (hC : C ≠ "dict") : SR g H σ sl (T.exn a none C [] [] :: tm) :=
  s.tmp (by simp [Ts.ok, T.ok, hC]; exact s.okT) fun b => by simp [Ts.oc, Ts.sh, T.oc, T.sh, b2]; omega
theorem SR.exn1 {ts : List T} {d a : Addr} {C f : String} {v : Sc} (s : SR g H σ sl (ts ++ tm)) (hd : H d = none) (gv : v.good) (hC : C ≠ "dict") : SR g (upd H d (.xd [(Str.ofString f, v.v)])) σ sl (T.exn a (some d) C [f] [v] :: tm) := by
  have s := s.popL
  have fr := s.free hd
  refine s.go (s.stayS fun b q => upd_ne fun e => ?_) ?_ (fun b => ?_) (fun b => ?_) s.len s.slen s.at_ s.io
  · subst e; omega
  · simp only [Ts.ok, T.ok]
    refine ⟨⟨by simpa using gv, ?_⟩, s.stayT fun b q => upd_ne fun e => ?_⟩
    · rw [upd_same]; exact ⟨by unfold exnO; rw [if_neg hC]; rfl, fun e => absurd e hC⟩
    · subst e; omega
  · by_cases e : d = b
    · subst e
      refine .inr ⟨.inl hd, .inl ?_⟩
      simp only [Ts.oc, T.oc]; omega
    · refine .inl ?_
      simp [Ts.oc, Ts.sh, T.oc, T.sh, b2, e]
      omega
  · by_cases e : b = d
    · exact .inr (.inl (by rw [e]; exact hd))
    · exact .inl (upd_ne e)
/-- what stands while a suite holds the exception -/
abbrev Gh.sx (g : Gh) (i : Nat) (a : Addr) (d : Option Addr) (x : Ex) : Gh := { g with io := (i, .ref a) :: g.io, px := (match d with
  | none => []
  | some dd => [(dd, HO.xd (fieldsV x.ns (x.xs.map Sc.v)))]) ++ g.px }
theorem sx_io {i : Nat} {a : Addr} {d : Option Addr} {x : Ex} {l : List Nat} (h : g.io.map (·.1) = l) : (g.sx i a d x).io.map (·.1) = i :: l := by simp [Gh.sx, h]
theorem SR.unslot {i : Nat} (s : SR g H σ sl tm) (hio : ∀ p ∈ g.io, p.1 ≠ i) (v : Option V) : SR g H (σ.set i v) (sl.set i none) tm := by
  refine s.go (fun u hu => ?_) s.okT (fun a => .inl ?_) (fun _ => .inl rfl) (by simp [s.len]) (by simp [s.slen]) (fun j u hu => ?_) (fun p hp => ?_)
  · rcases mem_set hu with e | e
    · cases e
    · exact s.okS u e
  · by_cases hl : i < sl.length
    · have h1 := So_set (f := T.oc a) (x := none) (List.getElem?_eq_getElem hl)
      have h2 := So_set (f := T.sh a) (x := none) (List.getElem?_eq_getElem hl)
      simp only [fO] at h1 h2
      omega
    · rw [List.set_eq_of_length_le (by omega)]
      omega
  · rcases set_get hu with ⟨rfl, e⟩ | ⟨ne, e⟩
    · cases e
    · rw [List.getElem?_set_ne (Ne.symm ne)]
      exact s.at_ _ _ e
  · rw [List.getElem?_set_ne (Ne.symm (hio p hp))]
    exact s.io p hp
theorem SR.into {i : Nat} {a a0 : Addr} {d : Option Addr} {x : Ex} (s : SR g H σ sl (T.exn a0 d x.cls x.ns x.xs :: tm)) (hi : i < g.N) (hio : ∀ p ∈ g.io, p.1 ≠ i) (hx : x.cls ≠ "dict") : SR (g.sx i a d x) H (σ.set i (some (.ref a))) (sl.set i none) tm := by
  have s1 := s.pop.unslot hio (some (.ref a))
  have k := s.top
  refine ⟨s1.okS, s1.okT, s1.inv, s1.prov, s1.frame, s1.len, s1.slen, s1.at_, fun p hp => ?_, fun p hp => ?_, s1.tabs⟩
  · rcases List.mem_cons.mp hp with rfl | hp
    · exact List.getElem?_set_self (by rw [s.len]; exact hi)
    · exact s1.io p hp
  · rcases List.mem_append.mp hp with hp | hp
    · cases d with
      | none => exact (List.not_mem_nil hp).elim
      | some dd =>
        simp only [List.mem_singleton] at hp
        subst hp
        simp only [T.ok] at k
        refine ⟨by have := k.2.1; unfold exnO at this; rw [if_neg hx] at this; exact this, ?_, rfl⟩
        show So (T.oc dd) (sl.set i none) + Ts.oc dd tm = 0
        have iv := s.inv dd
        simp only [Ts.oc, Ts.sh, T.oc, T.sh, b2, if_true] at iv
        by_cases hl : i < sl.length
        · have h1 := So_set (f := T.oc dd) (x := none) (List.getElem?_eq_getElem hl)
          simp only [fO] at h1
          omega
        · rw [List.set_eq_of_length_le (by omega)]
          omega
    · exact s1.px p hp
theorem SR.outof {i : Nat} {a : Addr} {d : Option Addr} {x : Ex} (s : SR (g.sx i a d x) H σ sl tm) : SR g H σ sl tm :=
  ⟨s.okS, s.okT, s.inv, s.prov, s.frame, s.len, s.slen, s.at_, fun p hp => s.io p (List.mem_cons_of_mem _ hp), fun p hp => s.px p (List.mem_append_right _ hp), s.tabs⟩
end

/-! ### raise -/
section
variable {X : Cx} {g : Gh} {W : WX} {pos pos2 p p2 : Pos} {x m : Str} {j : Nat}
theorem s_raise {C : String} (hc : X.calm = true) (tk : Takes X W) (q : PySem.W.excIn X.K (g.c.cls C) He.veBase "ValueError.__new__" = true) (kC : PySem.W.keepIn X.K (.ref (g.c.cls C)) = true) (hs : PySem.W.subIn X.K (.ref (g.c.cls C)) (.type "BaseException") = some true)
    (ht : PySem.W.typeIn X.K (.ref (g.c.cls C)) = some (.type "type")) (gC : X.mg x = some (.ref (g.c.cls C))) (hg : Gl X x) (hC : C ≠ "dict" := by decide) (hdb : (x == ("__debug__" : Str)) = false := by decide) :
    PS X (.Raise (some (.Call (.Name x p) [.Constant (.str m) j p2] [] pos)) none pos2) (tS g W (mRaise C)) :=
  (ps_raise hc tk (pmk_own PySem.F.excBase_ValueError q gC kC (raises_own hs ht) hg hdb)).imp fun De σ H ⟨sl, tm, s, h⟩ => h H σ sl 0 none (s.exn0 0 C hC) rfl
/-- __init__(self, why, f=0): self.f = f -/
def spInit (K : PySem.W.Frag) (C : Addr) (f : Str) : Sp := fun vs H Q _ => ∃ (a : Addr) (why v : V), vs = [.ref a, why, v] ∧ OexC K C ∧ PySem.W.findIn K (.ref C) f = some none ∧ H a = some (exo a C none) ∧
  ∀ dx, H dx = none → dx ≠ a → Q .non (upd (upd H dx (exd dx [(f, v)])) a (exo a C (some dx)))
structure XIni (P : Program) (w : World) (K : PySem.W.Frag) (mg : Str → Option Value) (base : Heap) (c : Cfg) (C f : String) (fI : Addr) (fd : FuncData) : Prop where
  T : OexC K (c.cls C)
  no : PySem.W.findIn K (.ref (c.cls C)) (Str.ofString f) = some none
  iC : PySem.W.findIn K (.ref (c.cls C)) "__init__" = some (some (.ref fI))
  tI : PySem.W.typeIn K (.ref fI) = some (.type "function")
  g : mg (Str.ofString C) = some (.ref (c.cls C))
  F : FnOk P w K mg base (L2.CX P w) 1 fI fd ["self", "why", Str.ofString f] (spInit K (c.cls C) (Str.ofString f))
  b1 : ∃ ds, Vals [V.int 0] ds ∧ Binds K fd ["self", "why", Str.ofString f] ds
  b2 : Binds K fd ["self", "why", Str.ofString f] []
theorem passF {X : Cx} : Passes (L2.CX X.prog X.w) X (fun _ _ _ => False) := passL
theorem raiseF_heap {H1 : Hp} {a d C : Addr} {f : Str} {v : V} (ha : H1 a = none) (hda : d ≠ a) :
    upd (del (upd (upd (upd H1 a (exo a C none)) d (exd d [(f, v)])) a (exo a C (some d))) a) d (.xd [(f, v)]) = upd H1 d (.xd [(f, v)]) := by
  funext b
  by_cases e : b = d
  · subst e; rw [upd_same, upd_same]
  · rw [upd_ne e, upd_ne e]
    by_cases e2 : b = a
    · subst e2; rw [del_same, ha]
    · rw [del_ne e2, upd_ne e2, upd_ne e, upd_ne e2]
theorem raiseF_imp {C f : String} {ms : List (Cm D)} {dvs : List V} {fI : Addr} (T : OexC X.K (g.c.cls C)) (hno : PySem.W.findIn X.K (.ref (g.c.cls C)) (Str.ofString f) = some none) (hC : C ≠ "dict")
    (hd : (dvs = [V.int 0] ∧ ms.length = 1) ∨ (dvs = [] ∧ ms.length = 2)) (De : Ends) (σ : L2.St) (H : Hp) (h : tS g W (mRaiseF C f ms) De σ H) :
    tMkO (g.c.cls C) (spInit X.K (g.c.cls C) (Str.ofString f)) dvs (tA g W ms) σ H fun cls d H' => W cls d σ H' := by
  obtain ⟨sl, tm, s, h⟩ := h
  unfold mRaiseF at h
  have ml : ∀ {ms : List (Cm D)} {ρ ρ' : DE} {ds : List D}, mArgs ms ρ = .ok ds ρ' → ds.length = ms.length := by
    intro ms
    induction ms with
    | nil => intro ρ ρ' ds e; simp only [mArgs, R.ok.injEq] at e; rw [← e.1]; rfl
    | cons m ms ih =>
      intro ρ ρ' ds e
      unfold mArgs at e
      cases e1 : m ρ with
      | ok d ρ1 =>
        rw [e1, R.bind_ok] at e
        cases e2 : mArgs ms ρ1 with
        | ok ds2 ρ2 =>
          rw [e2, R.bind_ok] at e
          simp only [R.ok.injEq] at e
          rw [← e.1, List.length_cons, List.length_cons, ih e2]
        | exc x ρ2 => rw [e2] at e; cases e
        | stuck => rw [e2] at e; cases e
      | exc x ρ1 => rw [e1] at e; cases e
      | stuck => rw [e1] at e; cases e
  refine ⟨sl, tm, s, ?_⟩
  cases e : mArgs ms (den sl) with
  | exc x ρ => rw [e] at h; exact h
  | stuck => rw [e] at h; exact h
  | ok ds ρ =>
    rw [e, R.bind_ok] at h
    have hl := ml e
    intro H1 sl1 ts s1 e1 e2
    subst e1 e2
    have fin : ∀ (u : Sc) (w : V), u.good → exP g W tm ⟨C, [f], [u]⟩ (den sl1) → ∀ a d, H1 a = none → H1 d = none → d ≠ a → W (.ref (g.c.cls C)) (some d) σ (upd (del (upd (upd (upd H1 a (exo a (g.c.cls C) none)) d (exd d [(Str.ofString f, u.v)])) a (exo a (g.c.cls C) (some d))) a) d (.xd [(Str.ofString f, u.v)])) := fun u w gu hx a d na nd ne => by
      rw [raiseF_heap na ne]
      exact hx _ σ sl1 a (some d) (s1.exn1 nd gu hC) rfl
    have fin2 : ∀ (why : V) (u : Sc), u.good → exP g W tm ⟨C, [f], [u]⟩ (den sl1) → ∀ a, H1 a = none → spInit X.K (g.c.cls C) (Str.ofString f) [.ref a, why, u.v] (upd H1 a (exo a (g.c.cls C) none))
        (fun v H2 => v = .non ∧ ∃ (d : Addr) (fs : List (Str × V)), H2 a = some (exo a (g.c.cls C) (some d)) ∧ H2 d = some (exd d fs) ∧ H1 d = none ∧ W (.ref (g.c.cls C)) (some d) σ (upd (del H2 a) d (.xd fs))) (fun _ _ _ => False) := fun why u gu hx a na => by
      refine ⟨a, why, u.v, rfl, T, hno, upd_same, fun dx nd ne => ⟨rfl, dx, [(Str.ofString f, u.v)], upd_same, ?_, ?_, ?_⟩⟩
      · rw [upd_ne ne, upd_same]
      · rw [upd_ne ne] at nd; exact nd
      · rw [upd_ne ne] at nd
        exact fin u why gu hx a dx na nd ne
    rw [Ts.d_len] at hl
    rcases hd with ⟨rfl, hm⟩ | ⟨rfl, hm⟩
    · obtain ⟨t, rfl⟩ : ∃ t, ts = [t] := by
        match ts, hl with
        | [t], _ => exact ⟨t, rfl⟩
        | [], hl => simp at hl; omega
        | _ :: _ :: _, hl => simp at hl; omega
      exact ⟨by simp, fun a na => fin2 t.v (.int 0) trivial h a na⟩
    · obtain ⟨t, u, rfl⟩ : ∃ t u, ts = [t, u] := by
        match ts, hl with
        | [t, u], _ => exact ⟨t, u, rfl⟩
        | [], hl => simp at hl; omega
        | [_], hl => simp at hl; omega
        | _ :: _ :: _ :: _, hl => simp at hl; omega
      clear T
      cases u with
      | sc v =>
        have gv : v.good := by
          have := s1.okx
          simp only [Ts.ok, T.ok] at this
          exact this.2.1
        exact ⟨by simp, fun a na => fin2 t.v v gv h a na⟩
      | _ => exact h.elim
theorem s_raise1 {C f : String} {fI : Addr} {fd : FuncData} {k : Nat} {m1 : Cm D} {e : Expr} (hc : X.calm = true) (tk : Takes X W) (I : XIni X.prog X.w X.K X.mg X.base g.c C f fI fd) (hr : Room k X.A) (hk : 2 ≤ k) (hx : x = Str.ofString C) (hg : Gl X x) (ha : PA X [e] (tA g W [m1])) (hC : C ≠ "dict" := by decide)
    (hdb : (x == ("__debug__" : Str)) = false := by decide) (he : starEach (e :: []) X.env = (false, eval e X.env) :: starEach [] X.env := by rfl) (hpl : (backTo pos (starEach [] X.env)).any (·.1) = false := by rfl) :
    PS X (.Raise (some (.Call (.Name x p) [e] [] pos)) none pos2) (tS g W (mRaiseF C f [m1])) := by
  obtain ⟨ds, hv, hb⟩ := I.b1
  exact (ps_raise hc tk (pmk_oex I.T I.iC I.tI I.F (hr.mono hk) hb hv passF hg (by rw [hx]; exact I.g) ha hdb he hpl)).imp (raiseF_imp (fI := fI) I.T I.no hC (.inl ⟨rfl, rfl⟩))
theorem s_raise2 {C f : String} {fI : Addr} {fd : FuncData} {k : Nat} {m1 m2 : Cm D} {e e2 : Expr} (hc : X.calm = true) (tk : Takes X W) (I : XIni X.prog X.w X.K X.mg X.base g.c C f fI fd) (hr : Room k X.A) (hk : 2 ≤ k) (hx : x = Str.ofString C) (hg : Gl X x) (ha : PA X [e, e2] (tA g W [m1, m2])) (hC : C ≠ "dict" := by decide)
    (hdb : (x == ("__debug__" : Str)) = false := by decide) (he : starEach (e :: [e2]) X.env = (false, eval e X.env) :: starEach [e2] X.env := by rfl) (hpl : (backTo pos (starEach [e2] X.env)).any (·.1) = false := by rfl) :
    PS X (.Raise (some (.Call (.Name x p) [e, e2] [] pos)) none pos2) (tS g W (mRaiseF C f [m1, m2])) :=
  (ps_raise hc tk (pmk_oex I.T I.iC I.tI I.F (hr.mono hk) I.b2 .nil passF hg (by rw [hx]; exact I.g) ha hdb he hpl)).imp (raiseF_imp (fI := fI) I.T I.no hC (.inr ⟨rfl, rfl⟩))
end

/-! ### try -/
structure XIs (g : Gh) (cls : Value) (d : Option Addr) (x : Ex) : Prop where
  is : cls = .ref (g.c.cls x.cls)
  dn : d = none → x.ns = []
  good : ∀ s ∈ x.xs, s.good
theorem _root_.L2.PSs.ex {α : Type} {X : Cx} {sts : List Stmt} {P : α → Prop} {t : α → TS} (h : ∀ x, P x → PSs X sts (t x)) : PSs X sts (fun De σ H => ∃ x, P x ∧ t x De σ H) := ⟨fun pins s σ H De I q => by
  obtain ⟨x, hx, q⟩ := q
  exact (h x hx).run pins s σ H De I q⟩
section
variable {X : Cx} {g : Gh} {W : WX} {pos pos' np : Pos} {x n : Str} {body suite : List Stmt} {b₀ : Stmt} {i : Nat} {Dn : String} {mb : Cm Out} {ms : Ex → Cm Out} {exm : String → String → Option Bool}
theorem s_tryAs (hs : X.stack = X.env :: X.outer) (hf : X.env.frame = some X.env.locals) (hN : X.N.Nodup) (hi : X.N[i]? = some n) (hln : X.env.kindOf n = some .local) (hgl : Gl X x) (hdb : (x == ("__debug__" : Str)) = false) (gD : X.mg x = some (.ref (g.c.cls Dn)))
    (hx : ∀ C b, exm C Dn = some b → PySem.W.exmOne X.K (.ref (g.c.cls C)) (.ref (g.c.cls Dn)) = some b) (tk : Takes X W) (hi' : i < g.N) (hio : ∀ p ∈ g.io, p.1 ≠ i)
    (hb : ∀ (W' : WX) (pn : List (Addr × Obj)) (xe : Value → Shared → Prop), Takes (X.tr pn xe) W' → PassesOwn (model X.prog X.w) X.A X.env xe → PSs (X.tr pn xe) body (tS g W' mb))
    (hsu : ∀ (a : Addr) (oe : Obj) (cls : Value) (d : Option Addr) (pn : List (Addr × Obj)), Zc cls d oe → (∃ vs, oe.data = .fields vs) → ∀ y : Ex, XIs g cls d y ∧ exm y.cls Dn = some true → PSs (X.suite a ((a, oe) :: pn)) (b₀ :: suite) (tS (g.sx i a d y) (fun _ _ _ _ => False) (ms y))) :
    PS X (.Try body [.ExceptHandler (some (.Name x np)) (some n) (b₀ :: suite) pos'] [] [] pos) (tS g W (mTryAs exm i Dn mb ms)) := by
  refine (ps_try_as (c := .ref (g.c.cls Dn)) (ts := fun a cls d De σ H => ∃ y, (XIs g cls d y ∧ exm y.cls Dn = some true) ∧ tS (g.sx i a d y) (fun _ _ _ _ => False) (ms y) De σ H) (tb := fun W' => tS g W' mb) hs hf hN hi hln ⟨hgl, hdb, .inl gD⟩ tk hb
    (fun a oe cls d pn hz hv => PSs.ex (hsu a oe cls d pn hz hv))).imp fun De σ H ⟨sl, tm, s, h⟩ => ⟨sl, tm, s, ?_⟩
  unfold mTryAs at h
  cases e : mb (den sl) with
  | ok o ρ => rw [e] at h; exact h
  | stuck => rw [e] at h; exact h
  | exc y ρ =>
    rw [e] at h
    simp only [] at h
    by_cases hdi : y.cls = "dict"
    · rw [if_pos hdi] at h; exact h.elim
    rw [if_neg hdi] at h
    intro H1 σ1 sl1 a0 dx s1 e1
    subst e1
    cases eb : exm y.cls Dn with
    | none => rw [eb] at h; exact h.elim
    | some b =>
      rw [eb] at h
      refine ⟨b, hx _ _ eb, fun hb1 a na => ?_, fun hb1 => ?_⟩
      · subst hb1
        simp only [] at h
        have k := s1.top
        simp only [T.ok] at k
        refine ⟨y, ⟨⟨rfl, fun hd => ?_, k.1⟩, eb⟩, sl1.set i none, tm, s1.into hi' hio hdi, ?_⟩
        · subst hd; exact k.2.1
        · rw [den_set]
          show Lands (g.sx i a dx y) _ tm (ms y ((den sl1).set i none)) _
          cases e2 : ms y ((den sl1).set i none) with
          | exc _ _ => rw [e2] at h; exact h.elim
          | stuck => rw [e2] at h; exact h.elim
          | ok o ρ =>
            rw [e2] at h
            cases o with
            | nx => exact fun H' σ' sl' s' e' => h H' _ (sl'.set i none) (s'.outof.unslot hio none) (by rw [den_set, e']; rfl)
            | brk => exact fun H' σ' sl' s' e' => h H' _ (sl'.set i none) (s'.outof.unslot hio none) (by rw [den_set, e']; rfl)
            | ct => exact fun H' σ' sl' s' e' => h H' _ (sl'.set i none) (s'.outof.unslot hio none) (by rw [den_set, e']; rfl)
            | ret d => exact fun H' σ' sl' t s' e' ed => h H' _ (sl'.set i none) t (s'.outof.unslot hio none) (by rw [den_set, e']; rfl) ed
      · subst hb1
        exact h H1 σ1 sl1 a0 dx s1 rfl
theorem s_try {ms : Cm Out} (hs : X.stack = X.env :: X.outer) (hf : X.env.frame = some X.env.locals) (hgl : Gl X x) (hdb : (x == ("__debug__" : Str)) = false) (gD : X.mg x = some (.ref (g.c.cls Dn)))
    (hx : ∀ C b, exm C Dn = some b → PySem.W.exmOne X.K (.ref (g.c.cls C)) (.ref (g.c.cls Dn)) = some b) (tk : Takes X W)
    (hb : ∀ (W' : WX) (pn : List (Addr × Obj)) (xe : Value → Shared → Prop), Takes (X.tr pn xe) W' → PassesOwn (model X.prog X.w) X.A X.env xe → PSs (X.tr pn xe) body (tS g W' mb))
    (hsu : ∀ (a : Addr) (oe : Obj) (cls : Value) (d : Option Addr) (pn : List (Addr × Obj)), Zc cls d oe → (∃ vs, oe.data = .fields vs) → PSs (X.suite a ((a, oe) :: pn)) (b₀ :: suite) (tS g (fun _ _ _ _ => False) ms)) :
    PS X (.Try body [.ExceptHandler (some (.Name x np)) none (b₀ :: suite) pos'] [] [] pos) (tS g W (mTry exm Dn mb ms)) := by
  refine (ps_try_only (c := .ref (g.c.cls Dn)) (ts := fun a cls d => tS g (fun _ _ _ _ => False) ms) (tb := fun W' => tS g W' mb) hs hf ⟨hgl, hdb, .inl gD⟩ tk hb hsu).imp fun De σ H ⟨sl, tm, s, h⟩ => ⟨sl, tm, s, ?_⟩
  unfold mTry at h
  cases e : mb (den sl) with
  | ok o ρ => rw [e] at h; exact h
  | stuck => rw [e] at h; exact h
  | exc y ρ =>
    rw [e] at h
    simp only [] at h
    intro H1 σ1 sl1 a0 dx s1 e1
    subst e1
    cases eb : exm y.cls Dn with
    | none => rw [eb] at h; exact h.elim
    | some b =>
      rw [eb] at h
      refine ⟨b, hx _ _ eb, fun hb1 a na => ?_, fun hb1 => ?_⟩
      · subst hb1
        simp only [] at h
        refine ⟨sl1, tm, s1.pop, ?_⟩
        cases e2 : ms (den sl1) with
        | exc _ _ => rw [e2] at h; exact h.elim
        | stuck => rw [e2] at h; exact h.elim
        | ok o ρ => rw [e2] at h; exact h
      · subst hb1
        exact h H1 σ1 sl1 a0 dx s1 rfl
end
section
/-! the exception that a suite holds: its field, its class -/
variable {X : Cx} {g : Gh} {W : WX} {p p1 p2 pos : Pos} {n y : Str} {i : Nat} {a : Addr} {oe : Obj} {cls : Value} {d : Option Addr} {pn : List (Addr × Obj)} {x : Ex}
theorem e_xf {f : String} (hz : Zc cls d oe) (hf : ∃ vs, oe.data = .fields vs) (hx : XIs g cls d x) (T : XfC X.K (g.c.cls x.cls)) (hno : PySem.W.findIn X.K (.ref (g.c.cls x.cls)) n = some none) (hn : n = Str.ofString f)
    (hp : PE (X.suite a ((a, oe) :: pn)) (.Name y p) (tVar i)) (hb : attributeBase (.Name y p) n (X.suite a ((a, oe) :: pn)).env (eval (.Name y p) (X.suite a ((a, oe) :: pn)).env) = eval (.Name y p) (X.suite a ((a, oe) :: pn)).env := by rfl) :
    PE (X.suite a ((a, oe) :: pn)) (.Attribute (.Name y p) n pos) (tE (g.sx i a d x) W (mXf x f)) := by
  subst hn
  refine (pe_xf (X := X) (cls := cls) (d := d) (C := g.c.cls x.cls) T hno hz hf hp hb).imp fun σ H Q ⟨sl, tm, s, h⟩ => ?_
  unfold mXf at h
  cases ev : xfV x.ns x.xs f with
  | none => rw [ev] at h; exact h.elim
  | some v =>
    rw [ev] at h
    obtain ⟨en, es⟩ := xfV_eq ev
    cases d with
    | none =>
      have := hx.dn rfl
      rw [en] at this
      cases this
    | some dd =>
      have hpx := (s.px (dd, HO.xd (fieldsV x.ns (x.xs.map Sc.v))) (by simp [Gh.sx])).1
      refine ⟨.ref a, s.io (i, .ref a) (by simp [Gh.sx]), rfl, hx.is, dd, _, v.v, rfl, hpx, ?_, ?_⟩
      · rw [en, es]
        simp [fieldsV, List.lookup]
      · exact h H sl (.sc v) (s.push v (hx.good v (by rw [es]; simp))) rfl rfl
def rIsX (K : PySem.W.Frag) (C a : Addr) (d : Option Addr) : List V → Hp → VK → Prop := fun xs H Q => ∃ (c : V) (cv : Value) (b : Bool), xs = [.ref a, c] ∧ (∀ u, RelV c u → u = cv) ∧ PySem.W.kitOne K (.ref C) cv = some b ∧ (match d with
  | none => True
  | some dd => ∃ fs, H dd = some (.xd fs)) ∧ Q (.bl b) H
theorem call_isX {C : Addr} (T : CB X.K C) (hz : Zc (.ref C) d oe) (hf : ∃ vs, oe.data = .fields vs) : CallR (X.suite a ((a, oe) :: pn)) (.builtin "isinstance") (rIsX X.K C a d) := by
  intro pins s σ H xs us Q I r h
  obtain ⟨c, cv, b, rfl, hcv, e, hd, q⟩ := h
  cases r with
  | cons rx rr =>
    cases rr with
    | cons rt rr =>
      cases rr
      cases rx
      have ec := hcv _ rt
      subst ec
      obtain ⟨hget, _⟩ := I.pin (a, oe) (List.mem_append.mpr (.inl List.mem_cons_self))
      obtain ⟨vs, hv⟩ := hf
      have J : ∃ od, PySem.W.InstAt s.heap a oe C od := by
        cases d with
        | none => exact ⟨none, hget, hz.1, by unfold PySem.W.notCls; rw [hv] <;> rfl, by rw [hz.2]; trivial⟩
        | some dd =>
          obtain ⟨fs, hd⟩ := hd
          have hx : ObjOk X.prog X.w H s.heap dd (.xd fs) := I.hok dd _ hd
          obtain ⟨mA, hns, hr⟩ := hx
          obtain ⟨od, ho, hl⟩ := lookIn_ns hns
          exact ⟨some od, hget, hz.1, by unfold PySem.W.notCls; rw [hv] <;> rfl, by rw [hz.2]; exact ho⟩
      obtain ⟨od, J⟩ := J
      exact PySem.W.kia_one (PySem.W.kitx_exc T.cl T.xf.ga T.xf.gg T.xf.exC T.ca T.sp T.tk T.mr) I.kIn J e (fun z => nomatch z) fun tk => ⟨.bl b, H, I.kept (t' := tk) fun _ _ z => z, rfl, q⟩
theorem isx_imp {b : Bool} {c : V} {cv : Value} (hx : XIs g cls d x) (hcv : ∀ u, RelV c u → u = cv) (hk : PySem.W.kitOne X.K (.ref (g.c.cls x.cls)) cv = some b) {m : Cm D} (hm : m = mC (.bl b)) (σ : L2.St) (H : Hp) (Q : VK) (h : tE (g.sx i a d x) W m σ H Q) :
    tCons (tVar i) (tCons (tC c) tNil) σ H fun vs H1 => rIsX X.K (g.c.cls x.cls) a d vs H1 Q := by
  obtain ⟨sl, tm, s, h⟩ := h
  subst hm
  refine ⟨.ref a, s.io (i, .ref a) (by simp [Gh.sx]), c, cv, b, rfl, hcv, hk, ?_, h H sl (.sc (.bl b)) (s.push _ trivial) rfl rfl⟩
  cases d with
  | none => trivial
  | some dd => exact ⟨_, (s.px (dd, HO.xd (fieldsV x.ns (x.xs.map Sc.v))) (by simp [Gh.sx])).1⟩
end
end VS

/-! VS, part u: split, partition, index, pop, clear, isinstance of a caught exception. -/
namespace VS
open PySem PySem.Spec PyProof.Rows L2
/-! ### a text cut at a sign -/
def splitC (c : Nat) : List Nat → List (List Nat)
  | [] => [[]]
  | x :: r => if x = c then [] :: splitC c r else match splitC c r with
    | [] => [[x]]
    | w :: ws => (x :: w) :: ws
theorem splitC_ne (c : Nat) (l : List Nat) : splitC c l ≠ [] := by
  cases l with
  | nil => simp [splitC]
  | cons x r =>
    unfold splitC
    split
    · simp
    · split <;> simp
theorem splitC_free (c : Nat) : ∀ l : List Nat, ∀ w ∈ splitC c l, c ∉ w
  | [], w, h => by simp [splitC] at h; subst h; simp
  | x :: r, w, h => by
    have ih := splitC_free c r
    unfold splitC at h
    split at h
    · rcases List.mem_cons.mp h with rfl | h
      · simp
      · exact ih w h
    · rename_i hx
      split at h
      · simp at h; subst h; simpa using fun e => hx e.symm
      · rename_i w0 ws e
        rw [e] at ih
        rcases List.mem_cons.mp h with rfl | h
        · simp only [List.mem_cons, not_or]
          exact ⟨fun e => hx e.symm, ih w0 (by simp)⟩
        · exact ih w (by simp [h])
theorem splitC_append (c : Nat) (w : List Nat) (hw : c ∉ w) : splitC c w = [w] := by
  induction w with
  | nil => rfl
  | cons x r ih =>
    simp only [List.mem_cons, not_or] at hw
    unfold splitC
    rw [if_neg (fun e => hw.1 e.symm), ih hw.2]
theorem splitC_cons (c : Nat) (w r : List Nat) (hw : c ∉ w) : splitC c (w ++ c :: r) = w :: splitC c r := by
  induction w with
  | nil => simp [splitC]
  | cons x u ih =>
    simp only [List.mem_cons, not_or] at hw
    rw [List.cons_append, splitC, if_neg (fun e => hw.1 e.symm), ih hw.2]
/-- cut again, what was put together comes back -/
theorem splitC_join (c : Nat) : ∀ ws : List (List Nat), ws ≠ [] → (∀ w ∈ ws, c ∉ w) → splitC c (joinL [c] ws) = ws
  | [], h, _ => absurd rfl h
  | [w], _, h => by
    show splitC c (w ++ []) = _
    rw [List.append_nil]
    exact splitC_append c w (h w (by simp))
  | w :: v :: r, _, h => by
    have ih := splitC_join c (v :: r) (by simp) (fun u hu => h u (by simp [hu]))
    have e : joinL [c] (w :: v :: r) = w ++ c :: joinL [c] (v :: r) := by simp [joinL, glL]
    rw [e, splitC_cons c w _ (h w (by simp)), ih]
theorem join_splitC (c : Nat) : ∀ l : List Nat, joinL [c] (splitC c l) = l
  | [] => rfl
  | x :: r => by
    have ih := join_splitC c r
    have ne := splitC_ne c r
    unfold splitC
    split
    · rename_i e
      cases hs : splitC c r with
      | nil => exact absurd hs ne
      | cons w ws =>
        rw [hs] at ih
        rw [← ih, e]
        simp [joinL, glL]
    · split
      · rename_i e; exact absurd e ne
      · rename_i w ws e
        rw [e] at ih
        rw [← ih]
        simp [joinL]
theorem split_eq (l : List Nat) (c : Nat) : Txt.split ⟨l.toArray⟩ ⟨#[c]⟩ = (splitC c l).map fun z => (⟨z.toArray⟩ : Str) := by
  have h1 := PySem.StrLaws.join_split ⟨l.toArray⟩ ⟨#[c]⟩
  have h2 := PySem.StrLaws.split_free ⟨l.toArray⟩ c
  generalize hS : Txt.split ⟨l.toArray⟩ ⟨#[c]⟩ = S at *
  have hne : S ≠ [] := by
    intro e
    have := PyProof.Rows.split_pos ⟨l.toArray⟩ ⟨#[c]⟩
    rw [hS, e] at this
    exact absurd this (by simp)
  obtain ⟨ws, rfl⟩ : ∃ ws : List (List Nat), S = ws.map fun z => (⟨z.toArray⟩ : Str) := ⟨S.map fun z => z.cps.toList, by
    rw [List.map_map]
    conv => lhs; rw [← List.map_id S]
    apply List.map_congr_left
    intro z _
    cases z; simp⟩
  have hj : joinL [c] ws = l := by
    have e := join_eq [c] ws
    have e2 : Txt.join ⟨[c].toArray⟩ (ws.map fun z => (⟨z.toArray⟩ : Str)) = Str.join ⟨#[c]⟩ (ws.map fun z => (⟨z.toArray⟩ : Str)) := PySem.StrLaws.glued_eq_join _ _
    rw [e2, h1] at e
    have := congrArg (fun z : Str => z.cps.toList) e
    simpa using this.symm
  have := splitC_join c ws (by simpa using hne) (fun w hw => by
    have := h2 ⟨w.toArray⟩ (List.mem_map.mpr ⟨w, hw, rfl⟩)
    simpa using this)
  rw [hj] at this
  rw [this]
theorem splitC_sub (c : Nat) (l : List Nat) : ∀ w ∈ splitC c l, w.length ≤ l.length ∧ ∀ x ∈ w, x ∈ l := by
  induction l with
  | nil => intro w h; simp [splitC] at h; subst h; simp
  | cons x r ih =>
    intro w h
    unfold splitC at h
    split at h
    · rcases List.mem_cons.mp h with rfl | h
      · simp
      · obtain ⟨h1, h2⟩ := ih w h
        exact ⟨by simp; omega, fun y hy => by simp [h2 y hy]⟩
    · split at h
      · simp at h; subst h; simp
      · rename_i w0 ws e
        rw [e] at ih
        rcases List.mem_cons.mp h with rfl | h
        · obtain ⟨h1, h2⟩ := ih w0 (by simp)
          refine ⟨by simp; omega, fun y hy => ?_⟩
          rcases List.mem_cons.mp hy with rfl | hy
          · simp
          · simp [h2 y hy]
        · obtain ⟨h1, h2⟩ := ih w (by simp [h])
          exact ⟨by simp; omega, fun y hy => by simp [h2 y hy]⟩
theorem splitC_len (c : Nat) (l : List Nat) : (splitC c l).length ≤ l.length + 1 := by
  induction l with
  | nil => simp [splitC]
  | cons x r ih =>
    unfold splitC
    split
    · simp; omega
    · split
      · simp
      · rename_i w ws e; rw [e] at ih; simp at ih ⊢; omega
/-! ### a method of a text with one argument whose answer is made -/
def splitD : D → D → Option D
  | .sc (.str a), .sc (.str [c]) => if a.length + 2 ≤ 16777216 then some (.lst .own ((splitC c a).map D.str)) else none
  | _, _ => none
def mMN (f : D → D → Option D) (x y : Opd) : Cm D := fun ρ => (x.run ρ).bind fun t ρ => match x.get t ρ with
  | some (.sc (.str _)) => (y.run ρ).bind fun u ρ => match x.get t ρ, y.get u ρ with
    | some v, some w => lift (f v w) ρ
    | _, _ => .stuck
  | _ => .stuck
section
variable {X : Cx} {g : Gh} {W : WX} {pos p : Pos} {a b : Expr} {oa ob : Opd} {α : Type}
def HMN (g : Gh) (f : D → D → Option D) (r : V → List V → Hp → VK → Prop) : Prop := ∀ H (u1 u2 : T) d Q, u1.ok g.c H → u2.ok g.c H → f u1.d u2.d = some d →
  (∀ (σ : L2.St) (sl : List (Option T)) (tm : List T), SR g H σ sl tm → ∀ k : D → DE → Prop, (∀ H' t, SR g H' σ sl (t :: tm) → t.d = d → Q t.v H') → r u1.v [u2.v] H Q)
theorem mN_imp {f : D → D → Option D} {r : V → List V → Hp → VK → Prop} (hr : HMN g f r) : ∀ σ H Q, tE g W (mMN f oa ob) σ H Q → tM1 r (tO g W oa) (tO g W ob) σ H Q := fun σ H Q ⟨sl, tm, s, h⟩ => by
  refine tO.of s h fun H1 sl1 t1 v1 s1 d1 h1 => ?_
  split at h1
  · rename_i z ex
    have hm1 : ∀ u, t1 = some u → u ∈ xs? t1 tm := fun u e => by subst e; simp [xs?]
    obtain ⟨w, kw, ew, fw, _⟩ := d1.tree s1 hm1 ex
    have hv : ∃ a, v1 = .str a := by
      cases w with
      | sc y => cases y <;> simp [T.d] at ew; exact ⟨_, fw.symm⟩
      | _ => simp [T.d] at ew
    refine ⟨hv, tO.of s1 (Lands.drops h1) fun H2 sl2 t2 v2 s2 d2 h2 => ?_⟩
    split at h2
    · rename_i x y ex ey
      have hm1 : ∀ u, t1 = some u → u ∈ xs? t2 (xs? t1 tm) := fun u e => by subst e; cases t2 <;> simp [xs?]
      have hm2 : ∀ u, t2 = some u → u ∈ xs? t2 (xs? t1 tm) := fun u e => by subst e; simp [xs?]
      have d1' : Held g H2 oa σ sl2 t1 v1 := ⟨d1.is⟩
      obtain ⟨u1, k1, e1, f1, _⟩ := d1'.tree s2 hm1 ex
      obtain ⟨u2, k2, e2, f2, _⟩ := d2.tree s2 hm2 ey
      subst f1 f2 e1 e2
      cases q : f u1.d u2.d with
      | none => rw [q] at h2; exact h2.elim
      | some d =>
        rw [q] at h2
        exact hr H2 u1 u2 d Q k1 k2 q σ sl2 tm s2.xs.xs (fun _ _ => True) fun H' t s' e => h2 H' sl2 t s' rfl e
    · exact h2.elim
  · exact h1.elim
theorem e_mN {id : String} {name : Str} {apos : Pos} {fm : D → D → Option D} {r : V → List V → Hp → VK → Prop} (slot : Slot "str" name id) (ty : typeOf (.builtin id) = pure (.type "method_descriptor")) (rule : MtR X id r) (hr : HMN g fm r) (ho : PE X a (tO g W oa)) (he : PE X b (tO g W ob))
    (hs : starEach [b] X.env = [(false, eval b X.env)] := by rfl) (hbase : attributeBase a name X.env (eval a X.env) = eval a X.env := by rfl) (hline : (apos.endLine == pos.line) = true := by rfl) :
    PE X (.Call (.Attribute a name apos) [b] [] pos) (tE g W (mMN fm oa ob)) := (pe_m1 slot ty rule ho he hs hbase hline).imp (mN_imp hr)
theorem strs_new {g : Gh} {H : Hp} {σ : L2.St} {sl : List (Option T)} {tm : List T} {p : Addr} (s : SR g H σ sl tm) (hp : H p = none) (l : List (List Nat)) (hz : l.length ≤ 16777216) (hg : ∀ z ∈ l, (Sc.str z).good) :
    SR g (upd H p (.lst ((l.map fun z => (⟨z.toArray⟩ : Str)).map V.str))) σ sl (T.lst p .own (l.map fun z => T.sc (.str z)) :: tm) := by
  have z : ∀ a (l : List (List Nat)), Ts.oc a (l.map fun z => T.sc (.str z)) = 0 ∧ Ts.sh a (l.map fun z => T.sc (.str z)) = 0 := fun a l => by
    induction l with
    | nil => simp [Ts.oc, Ts.sh]
    | cons w l ih => simp [Ts.oc, Ts.sh, T.oc, T.sh, ih]
  have k := s.newL (xs := []) (tm := tm) (ts := l.map fun z => T.sc (.str z)) hp (by simpa using hz) (by
    rw [Ts.ok_iff]; intro t m
    obtain ⟨w, hw, rfl⟩ := List.mem_map.mp m
    exact hg w hw) (fun a => by rw [(z a l).1, (z a l).2]; simp)
  have e : (l.map fun z => T.sc (.str z)).map T.v = (l.map fun z => (⟨z.toArray⟩ : Str)).map V.str := by
    rw [List.map_map, List.map_map]; rfl
  rw [e] at k
  exact k
theorem hs_split : HMN g splitD (fun x xs H Q => ∃ a b, x = .str a ∧ xs = [.str b] ∧ (b.length == 0) = false ∧ a.length + 2 ≤ sizeLine ∧ rNewStrs (Txt.split a b) H Q) := fun H u1 u2 d Q k1 k2 h σ sl tm s _ q => by
  unfold splitD at h
  split at h
  · rename_i x y a c e1 e2
    split at h
    · rename_i hz
      cases h
      cases u1 with
      | sc z1 =>
        cases u2 with
        | sc z2 =>
          simp only [T.d, D.sc.injEq] at e1 e2
          subst e1 e2
          simp only [T.ok] at k1
          refine ⟨⟨a.toArray⟩, ⟨#[c]⟩, rfl, rfl, rfl, by rw [SZ_eq]; simpa [Str.length] using hz, fun p hp => ?_⟩
          rw [split_eq]
          refine q _ _ (strs_new s hp (splitC c a) (by have := splitC_len c a; omega) fun w hw => ?_) ?_
          · obtain ⟨h1, h2⟩ := splitC_sub c a w hw
            exact ⟨by have := k1.1; omega, fun x hx => k1.2 x (h2 x hx)⟩
          · simp [T.d, Ts.d_map]
        | _ => simp [T.d] at e2
      | _ => simp [T.d] at e1
    · cases h
  · cases h
/-! ### partition at a sign -/
def partC (c : Nat) (l : List Nat) : List Nat × List Nat × List Nat := if c ∈ l then (l.takeWhile (· != c), [c], (l.dropWhile (· != c)).drop 1) else (l, [], [])
def partD : D → D → Option D
  | .sc (.str a), .sc (.str [c]) => some (.tup [.str (partC c a).1, .str (partC c a).2.1, .str (partC c a).2.2])
  | _, _ => none
/-! ### where a sign stands -/
def idxC (c : Nat) (l : List Nat) : Nat := (l.takeWhile (· != c)).length
theorem tw_get (c : Nat) : ∀ (l : List Nat), c ∈ l → l[idxC c l]? = some c ∧ ∀ j, j < idxC c l → l[j]? ≠ some c
  | [], h => by simp at h
  | x :: r, h => by
    unfold idxC
    by_cases e : x = c
    · subst e; simp
    · have ih := tw_get c r (by simpa [Ne.symm e] using h)
      have : (x != c) = true := by simpa using e
      rw [List.takeWhile_cons, if_pos this]
      refine ⟨by simpa [idxC] using ih.1, fun j hj => ?_⟩
      cases j with
      | zero => simpa using e
      | succ j => simp at hj ⊢; exact ih.2 j hj
theorem occ1 (c : Nat) (l : List Nat) (h : c ∈ l) : ∃ r, Builtin.Str.occurrences ⟨l.toArray⟩ ⟨#[c]⟩ 0 (⟨l.toArray⟩ : Str).length 1 = idxC c l :: r := by
  obtain ⟨g1, g2⟩ := tw_get c l h
  have key : ∀ i, PySem.StrLaws.At (⟨l.toArray⟩ : Str) ⟨#[c]⟩ (⟨l.toArray⟩ : Str).length i ↔ l[i]? = some c := fun i => PySem.StrLaws.subAt_one ⟨l.toArray⟩ c i
  rcases PySem.StrLaws.occ_head ⟨l.toArray⟩ ⟨#[c]⟩ 1 (by omega) with ⟨_, hn⟩ | ⟨i, r, e, ha, hn⟩
  · exact absurd ((key _).mpr g1) (hn _)
  · refine ⟨r, ?_⟩
    rw [e]
    congr 1
    rcases Nat.lt_trichotomy i (idxC c l) with q | q | q
    · exact absurd ((key i).mp ha) (g2 i q)
    · exact q
    · exact absurd ((key _).mpr g1) (hn _ q)
theorem occ0 (c : Nat) (l : List Nat) (h : c ∉ l) : Builtin.Str.occurrences ⟨l.toArray⟩ ⟨#[c]⟩ 0 (⟨l.toArray⟩ : Str).length 1 = [] := by
  have key : ∀ i, PySem.StrLaws.At (⟨l.toArray⟩ : Str) ⟨#[c]⟩ (⟨l.toArray⟩ : Str).length i ↔ l[i]? = some c := fun i => PySem.StrLaws.subAt_one ⟨l.toArray⟩ c i
  rcases PySem.StrLaws.occ_head ⟨l.toArray⟩ ⟨#[c]⟩ 1 (by omega) with ⟨e, _⟩ | ⟨i, r, e, ha, hn⟩
  · exact e
  · exact absurd (List.mem_of_getElem? ((key i).mp ha)) h
def sindexM : D → D → Option Sc
  | .sc (.str a), .sc (.str [c]) => if c ∈ a then some (.int (idxC c a)) else none
  | _, _ => none
theorem hs_sindex : HM1 g sindexM (fun x xs H Q => ∃ a b i rest, x = .str a ∧ xs = [.str b] ∧ Builtin.Str.occurrences a b 0 a.length 1 = i :: rest ∧ Q (.int (i : Nat)) H) := fun H u1 u2 d Q k1 k2 h q => by
  unfold sindexM at h
  split at h
  · rename_i x y a c e1 e2
    split at h
    · rename_i hz
      cases h
      cases u1 with
      | sc z1 =>
        cases u2 with
        | sc z2 =>
          simp only [T.d, D.sc.injEq] at e1 e2
          subst e1 e2
          obtain ⟨r, e⟩ := occ1 c a hz
          exact ⟨⟨a.toArray⟩, ⟨#[c]⟩, _, r, rfl, rfl, e, q trivial⟩
        | _ => simp [T.d] at e2
      | _ => simp [T.d] at e1
    · cases h
  · cases h
theorem tw_take (c : Nat) (l : List Nat) : l.take (idxC c l) = l.takeWhile (· != c) := by
  unfold idxC
  induction l with
  | nil => rfl
  | cons x r ih =>
    rw [List.takeWhile_cons]
    split
    · rw [List.length_cons, List.take_succ_cons, ih]
    · rfl
theorem tw_drop (c : Nat) (l : List Nat) : l.drop (idxC c l) = l.dropWhile (· != c) := by
  unfold idxC
  exact drop_tw _ l
theorem part_eq (c : Nat) (l : List Nat) : Txt.partition ⟨l.toArray⟩ ⟨#[c]⟩ = (⟨(partC c l).1.toArray⟩, ⟨(partC c l).2.1.toArray⟩, ⟨(partC c l).2.2.toArray⟩) := by
  unfold Txt.partition partC
  by_cases h : c ∈ l
  · obtain ⟨r, e⟩ := occ1 c l h
    rw [e, if_pos h]
    have hs : ∀ (i j : Nat), Builtin.Str.strSub (⟨l.toArray⟩ : Str) i j = ⟨((l.drop i).take (j - i)).toArray⟩ := fun i j => str_eq (PySem.StrLaws.strSub_toList _ _ _)
    simp only [hs]
    have hl : (⟨l.toArray⟩ : Str).length = l.length := by simp [Str.length]
    have h1 : (⟨#[c]⟩ : Str).length = 1 := rfl
    have e3 : (List.drop (idxC c l + (⟨#[c]⟩ : Str).length) l).take ((⟨l.toArray⟩ : Str).length - (idxC c l + (⟨#[c]⟩ : Str).length)) = (l.dropWhile (· != c)).drop 1 := by
      rw [h1, hl, ← List.drop_drop, tw_drop]
      apply List.take_of_length_le
      have : ((l.dropWhile (· != c)).drop 1).length = l.length - idxC c l - 1 := by rw [← tw_drop]; simp; omega
      omega
    have e1 : (List.drop 0 l).take (idxC c l - 0) = l.takeWhile (· != c) := by rw [List.drop_zero, Nat.sub_zero, tw_take]
    rw [e1, e3]
  · rw [occ0 c l h, if_neg h]; rfl
theorem part_mem (c : Nat) (l : List Nat) : ((partC c l).1.length ≤ l.length ∧ ∀ x ∈ (partC c l).1, x ∈ l) ∧ ((partC c l).2.1.length ≤ 1 ∧ ∀ x ∈ (partC c l).2.1, x ∈ l) ∧ ((partC c l).2.2.length ≤ l.length ∧ ∀ x ∈ (partC c l).2.2, x ∈ l) := by
  unfold partC
  split
  · rename_i h
    refine ⟨⟨?_, fun x hx => (List.takeWhile_sublist _).mem hx⟩, ⟨by simp, by simpa using h⟩, ?_, fun x hx => ?_⟩
    · exact (List.takeWhile_sublist _).length_le
    · exact Nat.le_trans (List.drop_sublist _ _).length_le (List.dropWhile_sublist _).length_le
    · exact (List.dropWhile_sublist _).mem ((List.drop_sublist _ _).mem hx)
  · simp
theorem hs_part : HMN g partD (fun x xs H Q => ∃ a b, x = .str a ∧ xs = [.str b] ∧ (b.length == 0) = false ∧ a.length ≤ sizeLine ∧ ∀ p, H p = none → Q (.ref p) (upd H p (.tup [.str (Txt.partition a b).1, .str (Txt.partition a b).2.1, .str (Txt.partition a b).2.2]))) := fun H u1 u2 d Q k1 k2 h σ sl tm s _ q => by
  unfold partD at h
  split at h
  · rename_i x y a c e1 e2
    cases h
    cases u1 with
    | sc z1 =>
      cases u2 with
      | sc z2 =>
        simp only [T.d, D.sc.injEq] at e1 e2
        subst e1 e2
        simp only [T.ok] at k1
        refine ⟨⟨a.toArray⟩, ⟨#[c]⟩, rfl, rfl, rfl, by rw [SZ_eq]; simpa [Str.length] using k1.1, fun p hp => ?_⟩
        rw [part_eq]
        obtain ⟨⟨m1, m2⟩, ⟨m3, m4⟩, m5, m6⟩ := part_mem c a
        have k := s.newT (xs := []) (tm := tm) (ts := [T.sc (.str (partC c a).1), T.sc (.str (partC c a).2.1), T.sc (.str (partC c a).2.2)]) hp (by simp) (by
          have := k1.1
          simp only [Ts.ok, T.ok, Sc.good]
          exact ⟨⟨by omega, fun x hx => k1.2 x (m2 x hx)⟩, ⟨by omega, fun x hx => k1.2 x (m4 x hx)⟩, ⟨by omega, fun x hx => k1.2 x (m6 x hx)⟩, trivial⟩) (fun a => by simp [Ts.oc, Ts.sh, T.oc, T.sh])
        exact q _ _ k (by simp [T.d, Ts.d])
      | _ => simp [T.d] at e2
    | _ => simp [T.d] at e1
  · cases h
/-! ### t.index(x), t a tuple of the text -/
def idxL (l : List Sc) (z : List Nat) : Option Nat := l.findIdx? (· == .str z)
def allStr : List Sc → Option (List (List Nat))
  | [] => some []
  | .str z :: r => (allStr r).map (z :: ·)
  | _ => none
def mTidx (l : List (List Nat)) (m : Cm D) : Cm D := fun ρ => (m ρ).bind fun d ρ => match d with
  | .sc (.str z) => match l.findIdx? (· == z) with
    | some j => .ok (.int j) ρ
    | none => .stuck
  | _ => .stuck
theorem e_tidx {x : Str} {l : List (List Nat)} {mb : Cm D} {apos : Pos} (hg : Gl X x) (hm : ∃ a, X.mg x = some (.ref a) ∧ StcT X.K a (l.map fun z => V.str ⟨z.toArray⟩) ∧ ∃ o, X.K.lookup a = some o ∧ o.cls = .type "tuple" ∧ o.dict = none) (hb : PE X b (tE g W mb)) (hd : (x == ("__debug__" : Str)) = false := by decide)
    (hbase : attributeBase (.Name x p) "index" X.env (eval (.Name x p) X.env) = eval (.Name x p) X.env := by rfl)
    (hfew : ((backTo pos (starEach [b] X.env)).all (fun x => !x.1) && (backToKw pos (keywordEach [] X.env)).all (fun x => x.1.isSome)
      && decide (([b] : List Expr).length + ([] : List Keyword).length + (if ([] : List Keyword).isEmpty then 0 else 1) < 30)) = true := by rfl)
    (hline : (apos.endLine == pos.line) = true := by rfl) (hs : starEach [b] X.env = (false, eval b X.env) :: starEach [] X.env := by rfl) (hplain : (backTo pos (starEach [] X.env)).any (·.1) = false := by rfl) :
    PE X (.Call (.Attribute (.Name x p) "index" apos) [b] [] pos) (tE g W (mTidx l mb)) := by
  obtain ⟨a, ha, hst, hty⟩ := hm
  refine (pe_bm PySem.F.plainAttrs_tuple PySem.F.slot_tuple_index PySem.F.type_tuple_index mt_tup_index (pe_glob (v := .ref a) hg ha rfl hd) (a_cons hb a_nil hs) hbase hfew hline hs hplain).imp fun σ H Q ⟨sl, tm, s, h⟩ => ?_
  refine ⟨.inr (.inl ⟨rfl, hty⟩), ?_⟩
  refine tA1 s h fun H1 sl1 t s1 h1 => ?_
  cases t with
  | sc z =>
    cases z with
    | str z =>
      simp only [T.d] at h1
      cases e : l.findIdx? (· == z) with
      | none => rw [e] at h1; exact h1.elim
      | some j =>
        rw [e] at h1
        obtain ⟨hj, hz, hno⟩ := List.findIdx?_eq_some_iff_getElem.mp e
        refine ⟨a, l.map fun z => (⟨z.toArray⟩ : Str), ⟨z.toArray⟩, j, rfl, rfl, ?_, ?_, fun m hm he => ?_, h1 H1 sl1 (.sc (.int j)) (s1.pop.push _ trivial) rfl rfl⟩
        · rw [List.map_map]
          rcases hst with hst | hst
          · rcases hst with h | ⟨o, h⟩ <;> cases h
          · exact .inr hst
        · rw [List.getElem?_map, List.getElem?_eq_getElem hj]
          simp only [beq_iff_eq] at hz
          rw [hz]; rfl
        · rw [List.getElem?_map, Option.map_eq_some_iff] at he
          obtain ⟨w, hw, he⟩ := he
          have hml : m < l.length := by omega
          rw [List.getElem?_eq_getElem hml] at hw
          have hwz : w = z := by
            have := congrArg (fun q : Str => q.cps.toList) he
            simpa using this
          have := hno m hm
          simp only [Option.some.inj hw, hwz] at this
          simp at this
    | _ => exact h1.elim
  | _ => exact h1.elim
/-! ### x.clear(), x.pop() of a list without parts -/
def mClr (i : Nat) : Cm D := fun ρ => match ρ[i]? with
  | some (some (.lst .own xs)) => if xs.all D.isSc then .ok .non (ρ.set i (some (.lst .own []))) else .stuck
  | _ => .stuck
theorem e_clr {y : Str} {apos : Pos} {i : Nat} (hK : X.K = g.c.K) (hp : PE X (.Call (.Attribute (.Name y p) "clear" apos) [] [] pos) (tBM0 X.K "list" rClear (tVar i))) : PE X (.Call (.Attribute (.Name y p) "clear" apos) [] [] pos) (tE g W (mClr i)) :=
  hp.imp fun σ H Q ⟨sl, tm, s, h⟩ => by
    unfold mClr at h
    split at h
    · rename_i xs e0
      split at h
      · obtain ⟨q, e3, hty⟩ := some_list hK s e0
        obtain ⟨p', ts, g1, rfl, g3, g4, g5⟩ := own_list s e0
        rw [e3] at g5
        cases g5
        refine ⟨_, e3, hty, _, _, rfl, rfl, g3, ?_⟩
        have s2 := SR.write (zs := []) (es := []) (tm := tm) s g1 (by simp) (by simp [Ts.ok]) (fun a => by simp [Ts.oc]) (fun a => by simp [Ts.sh])
        exact h _ _ (.sc .non) (s2.push _ trivial) (by rw [den_set]; simp [T.d, Ts.d]) rfl
      · exact h.elim
    · exact h.elim
def mPopS (i : Nat) : Cm D := fun ρ => match ρ[i]? with
  | some (some (.lst .own xs)) => match xs.getLast? with
    | some (.sc v) => .ok (.sc v) (ρ.set i (some (.lst .own xs.dropLast)))
    | _ => .stuck
  | _ => .stuck
theorem e_popS {y : Str} {apos : Pos} {i : Nat} (hK : X.K = g.c.K) (hp : PE X (.Call (.Attribute (.Name y p) "pop" apos) [] [] pos) (tBM0 X.K "list" rPop (tVar i))) : PE X (.Call (.Attribute (.Name y p) "pop" apos) [] [] pos) (tE g W (mPopS i)) :=
  hp.imp fun σ H Q ⟨sl, tm, s, h⟩ => by
    unfold mPopS at h
    split at h
    · rename_i xs e0
      split at h
      · rename_i v ev
        obtain ⟨q, e3, hty⟩ := some_list hK s e0
        obtain ⟨p', ts, g1, rfl, g3, g4, g5⟩ := own_list s e0
        rw [e3] at g5
        cases g5
        rw [Ts.d_map, List.getLast?_map, Option.map_eq_some_iff] at ev
        obtain ⟨t, ht, hv⟩ := ev
        have htv : t = .sc v := by
          cases t with
          | sc w => simpa [T.d] using hv
          | _ => simp [T.d] at hv
        subst htv
        have gv : v.good := by
          have := Ts.ok_iff.mp g4 _ (List.mem_of_getLast? ht)
          simpa [T.ok] using this
        refine ⟨_, e3, hty, _, _, v.v, rfl, rfl, g3, ?_, ?_⟩
        · rw [List.length_map, List.getElem?_map, ← List.getLast?_eq_getElem?, ht]; rfl
        have s2 := SR.write (zs := ts.dropLast) (es := []) (tm := tm) s g1 (by
            have hz : ts.length ≤ 16777216 := by have := s.okS _ (s.slot g1); simp only [T.ok] at this; exact this.2.1
            simp; omega) (by
            rw [Ts.ok_iff]; intro u m
            exact Ts.ok_iff.mp g4 u ((List.dropLast_sublist _).mem m)) (fun a => by
            have : ts = ts.dropLast ++ [T.sc v] := by
              obtain ⟨zs, hz⟩ := List.getLast?_eq_some_iff.mp ht
              rw [hz]; simp
            have h2 := congrArg (Ts.oc a) this
            rw [Ts.oc_append] at h2
            simp only [Ts.oc, T.oc] at h2 ⊢
            omega) (fun a => by
            have : ts = ts.dropLast ++ [T.sc v] := by
              obtain ⟨zs, hz⟩ := List.getLast?_eq_some_iff.mp ht
              rw [hz]; simp
            have h2 := congrArg (Ts.sh a) this
            rw [Ts.sh_append] at h2
            simp only [Ts.sh, T.sh] at h2 ⊢
            omega)
        rw [← List.map_dropLast]
        exact h _ _ (.sc v) (s2.push _ gv) (by rw [den_set]; simp [T.d, Ts.d_map]) rfl
      · exact h.elim
    · exact h.elim
end
/-! ### isinstance of the exception that a suite holds -/
section
variable {X : Cx} {g : Gh} {W : WX} {p p1 p2 pos : Pos} {y xD : Str} {i : Nat} {a : Addr} {oe : Obj} {cls : Value} {d : Option Addr} {pn : List (Addr × Obj)} {x : Ex} {exm : String → String → Option Bool} {Dn : String}
theorem e_isX (hz : Zc cls d oe) (hf : ∃ vs, oe.data = .fields vs) (hx : XIs g cls d x) (T : CB X.K (g.c.cls x.cls)) (hk : ∀ b, exm x.cls Dn = some b → PySem.W.kitOne X.K (.ref (g.c.cls x.cls)) (.ref (g.c.cls Dn)) = some b)
    (hm : X.mg "isinstance" = none) (hgD : Gl X xD) (gD : X.mg xD = some (.ref (g.c.cls Dn))) (hp : PE (X.suite a ((a, oe) :: pn)) (.Name y p1) (tVar i)) (hg : Gl X "isinstance" := by rfl) (hdD : (xD == ("__debug__" : Str)) = false := by decide)
    (hs1 : starEach [.Name y p1, .Name xD p2] (X.suite a ((a, oe) :: pn)).env = (false, eval (.Name y p1) (X.suite a ((a, oe) :: pn)).env) :: starEach [.Name xD p2] (X.suite a ((a, oe) :: pn)).env := by rfl) (hs2 : starEach [.Name xD p2] (X.suite a ((a, oe) :: pn)).env = (false, eval (.Name xD p2) (X.suite a ((a, oe) :: pn)).env) :: starEach [] (X.suite a ((a, oe) :: pn)).env := by rfl) (hpl : (backTo pos (starEach [.Name xD p2] (X.suite a ((a, oe) :: pn)).env)).any (·.1) = false := by rfl) :
    PE (X.suite a ((a, oe) :: pn)) (.Call (.Name "isinstance" p) [.Name y p1, .Name xD p2] [] pos) (tE (g.sx i a d x) W (mIsX exm x Dn)) := by
  have hb : PE (X.suite a ((a, oe) :: pn)) (.Name xD p2) (tC (.ref (g.c.cls Dn))) := pe_glob (X := X.suite a ((a, oe) :: pn)) hgD gD rfl hdD
  have hz2 : Zc (.ref (g.c.cls x.cls)) d oe := by rw [← hx.is]; exact hz
  refine (pe_callB (call_isX (X := X) T hz2 hf) hg hm (by decide +kernel) (pa_cons hp (pa_cons hb pa_nil hs2) hs1) (hpl := hpl) (he := hs1)).imp fun σ H Q h => ?_
  cases e : exm x.cls Dn with
  | none =>
    obtain ⟨sl, tm, s, h⟩ := h
    unfold mIsX at h
    rw [e] at h
    exact h.elim
  | some b => exact isx_imp (c := .ref (g.c.cls Dn)) (cv := .ref (g.c.cls Dn)) hx (fun u h => h) (hk b e) (by unfold mIsX; rw [e]) σ H Q h
theorem e_isV {all : List String} (hz : Zc cls d oe) (hf : ∃ vs, oe.data = .fields vs) (hx : XIs g cls d x) (T : CB X.K (g.c.cls x.cls)) (hm : X.mg "isinstance" = none) (hgD : Gl X "ValueError") (gD : X.mg "ValueError" = none) (hp : PE (X.suite a ((a, oe) :: pn)) (.Name y p1) (tVar i)) (hg : Gl X "isinstance" := by rfl)
    (hs1 : starEach [.Name y p1, .Name "ValueError" p2] (X.suite a ((a, oe) :: pn)).env = (false, eval (.Name y p1) (X.suite a ((a, oe) :: pn)).env) :: starEach [.Name "ValueError" p2] (X.suite a ((a, oe) :: pn)).env := by rfl) (hs2 : starEach [.Name "ValueError" p2] (X.suite a ((a, oe) :: pn)).env = (false, eval (.Name "ValueError" p2) (X.suite a ((a, oe) :: pn)).env) :: starEach [] (X.suite a ((a, oe) :: pn)).env := by rfl) (hpl : (backTo pos (starEach [.Name "ValueError" p2] (X.suite a ((a, oe) :: pn)).env)).any (·.1) = false := by rfl) :
    PE (X.suite a ((a, oe) :: pn)) (.Call (.Name "isinstance" p) [.Name y p1, .Name "ValueError" p2] [] pos) (tE (g.sx i a d x) W (mIsV all x)) := by
  have hb : PE (X.suite a ((a, oe) :: pn)) (.Name "ValueError" p2) (tC (.ty "ValueError")) := pe_bltn (X := X.suite a ((a, oe) :: pn)) hgD gD (by decide +kernel) rfl (by decide) (by decide)
  have hz2 : Zc (.ref (g.c.cls x.cls)) d oe := by rw [← hx.is]; exact hz
  refine (pe_callB (call_isX (X := X) T hz2 hf) hg hm (by decide +kernel) (pa_cons hp (pa_cons hb pa_nil hs2) hs1) (hpl := hpl) (he := hs1)).imp fun σ H Q h => ?_
  by_cases e : all.contains x.cls = true
  · exact isx_imp (c := .ty "ValueError") (cv := .type "ValueError") hx (fun u h => h) T.kv (by unfold mIsV; rw [if_pos e]) σ H Q h
  · obtain ⟨sl, tm, s, h⟩ := h
    unfold mIsV at h
    rw [if_neg e] at h
    exact h.elim
theorem exT_all {all ds : List String} {C Dn : String} {b : Bool} (h : exT all ds C Dn = some b) : C ∈ all ∧ Dn ∈ ds ∧ b = (C == Dn || Dn == "LetterError") := by
  unfold exT at h
  split at h
  · rename_i q
    simp only [Bool.and_eq_true, List.contains_iff_mem] at q
    cases h
    exact ⟨q.1, q.2, rfl⟩
  · cases h
theorem XT.exm' {K : PySem.W.Frag} {cl : String → Addr} {all ds : List String} {C Dn : String} {b : Bool} (T : XT K cl all ds) (h : exT all ds C Dn = some b) : PySem.W.exmOne K (.ref (cl C)) (.ref (cl Dn)) = some b := by
  obtain ⟨h1, h2, rfl⟩ := exT_all h
  exact T.exm C h1 Dn h2
theorem XT.kit' {K : PySem.W.Frag} {cl : String → Addr} {all ds : List String} {C Dn : String} {b : Bool} (T : XT K cl all ds) (h : exT all ds C Dn = some b) : PySem.W.kitOne K (.ref (cl C)) (.ref (cl Dn)) = some b := by
  obtain ⟨h1, h2, rfl⟩ := exT_all h
  exact T.kit C h1 Dn h2
end
end VS
namespace VS
open PySem PySem.Spec PyProof.Rows L2
/-! ### {} -/
def mDct : Cm D := fun ρ => .ok (.exn "dict" [] []) ρ
theorem SR.newD {g : Gh} {H : Hp} {σ : L2.St} {sl : List (Option T)} {tm : List T} {p : Addr} (s : SR g H σ sl tm) (hp : H p = none) : SR g (upd H p (.dK [])) σ sl (T.exn p (some p) "dict" [] [] :: tm) := by
  have fr := s.free hp
  refine s.go (s.stayS fun b q => upd_ne fun e => ?_) ?_ (fun b => ?_) (fun b => ?_) s.len s.slen s.at_ s.io
  · subst e; omega
  · simp only [Ts.ok, T.ok]
    refine ⟨⟨by simp, ?_, by simp⟩, s.stayT fun b q => upd_ne fun e => ?_⟩
    · rw [upd_same]; simp [exnO]
    · subst e; omega
  · by_cases e : p = b
    · subst e
      refine .inr ⟨.inl hp, .inl ?_⟩
      simp only [Ts.oc, T.oc]; omega
    · refine .inl ?_
      simp [Ts.oc, Ts.sh, T.oc, T.sh, b2, e]
      omega
  · by_cases e : b = p
    · exact .inr (.inl (by rw [e]; exact hp))
    · exact .inl (upd_ne e)
theorem e_dct {X : Cx} {g : Gh} {W : WX} {pos : Pos} : PE X (.Dict [] [] pos) (tE g W mDct) := pe_dnewK.imp fun σ H Q ⟨sl, tm, s, h⟩ => fun p hp => h _ sl (T.exn p (some p) "dict" [] []) (s.newD hp) rfl rfl
end VS

/-! VS, part v: the end of a law with exceptions, with tuples of the text. -/
namespace VS
open PySem PySem.Spec PyProof.Rows L2
def hookE (n : Nat) (fa : List He.Fa) (fn : List He.DefD) (ex : PySem.W.Frag → Bool) : PySem.W.Hook where
  α := He.AlD × Bool
  obs := fun s => (He.obsDG n fa fn s.heap.get?, ex (He.frG s.heap.get? (He.asD s.heap.get? n)))
  val := fun _ => (He.valD fn, true)
  says := fun _ h => ∃ K : PySem.W.Frag, K.In h ∧ He.SaysD fa fn K ∧ ex K = true
  of := fun _ _ e => ⟨_, He.frG_in, congrArg (fun z : He.AlD × Bool => z.1) e, congrArg (fun z : He.AlD × Bool => z.2) e⟩
  keeps := fun _ _ _ ⟨K, hK, c⟩ k => ⟨K, PySem.W.Frag.In.keeps hK k, c⟩
def obsE (n : Nat) (fa : List He.Fa) (fn : List He.DefD) (ex : PySem.W.Frag → Bool) (g : Addr → Option Obj) : He.AlD × Bool := (He.obsDG n fa fn g, ex (He.frG g (He.asD g n)))
theorem obsE_eq {n : Nat} {fa : List He.Fa} {fn : List He.DefD} {ex : PySem.W.Frag → Bool} {g : Addr → Option Obj} {s : Shared} (h : ∀ a, g a = s.heap.get? a) : obsE n fa fn ex g = (hookE n fa fn ex).obs s := by
  have e : g = s.heap.get? := funext h
  rw [e] <;> rfl
abbrev clsOf (K : PySem.W.Frag) : String → Addr := fun x => He.ga K (Str.ofString x)
/-- of a class with its own __init__ -/
def iniB (K : PySem.W.Frag) (C f : String) : Bool := oexB K (clsOf K C) && (decide (PySem.W.findIn K (.ref (clsOf K C)) (Str.ofString f) = some none) && (decide (PySem.W.findIn K (.ref (clsOf K C)) "__init__" = some (some (.ref (He.ma K (clsOf K C) "__init__")))) && decide (PySem.W.typeIn K (.ref (He.ma K (clsOf K C) "__init__")) = some (.type "function"))))
theorem iniB_ok {K : PySem.W.Frag} {C f : String} (h : iniB K C f = true) : OexC K (clsOf K C) ∧ PySem.W.findIn K (.ref (clsOf K C)) (Str.ofString f) = some none ∧ PySem.W.findIn K (.ref (clsOf K C)) "__init__" = some (some (.ref (He.ma K (clsOf K C) "__init__"))) ∧ PySem.W.typeIn K (.ref (He.ma K (clsOf K C) "__init__")) = some (.type "function") := by
  unfold iniB at h
  simp only [Bool.and_eq_true, decide_eq_true_eq] at h
  exact ⟨oexB_ok h.1, h.2.1, h.2.2.1, h.2.2.2⟩
/-- a tuple of the text, of texts and ints -/
def Sc.dv : Sc → He.Dv
  | .non => .non
  | .bl b => .bl b
  | .int i => .int i
  | .str s => .str ⟨s.toArray⟩
theorem Sc.dv_v (K : PySem.W.Frag) (s : Sc) : (s.dv).v K = s.v := by cases s <;> rfl
def tupE (K : PySem.W.Frag) (x : Str) (l : List Sc) : Bool := He.tupB K x (l.map Sc.dv) && (match K.lookup (He.ga K x) with
  | some ⟨.type c, none, _, _⟩ => decide (c = "tuple")
  | _ => false)
theorem tupE_ok {K : PySem.W.Frag} {x : Str} {l : List Sc} (h : tupE K x l = true) : StcT K (He.ga K x) (l.map Sc.v) ∧ ∃ o, K.lookup (He.ga K x) = some o ∧ o.cls = .type "tuple" ∧ o.dict = none := by
  obtain ⟨h1, h2⟩ := Bool.and_eq_true_iff.mp h
  constructor
  · have := He.tupB_ok h1 (fun _ => none)
    rw [List.map_map] at this
    have e : (He.Dv.v K ∘ Sc.dv) = Sc.v := funext (Sc.dv_v K)
    rw [e] at this
    exact this
  · split at h2
    · rename_i c dt sl ho
      exact ⟨_, ho, by rw [of_decide_eq_true h2], rfl⟩
    · cases h2
theorem tupE_strs {K : PySem.W.Frag} {a : Addr} {l : List Sc} {z : List (List Nat)} (h : StcT K a (l.map Sc.v)) (e : l = z.map Sc.str) : StcT K a (z.map fun w => V.str ⟨w.toArray⟩) := by
  subst e
  rw [List.map_map] at h
  exact h
theorem init_ok {P : Program} {w : World} {K : PySem.W.Frag} {mg : Str → Option Value} {base : Heap} {C : Addr} {F : Str} {qual : Str} {params : Arguments} {body : List Stmt} {scope : Scope} {f : Addr} {fd : FuncData}
    (D : FunD K "__init__" qual params body scope [V.int 0] [] f fd) (S : FnScope ["self", "why", F] ["self", "why", F] scope)
    (hb : ∀ (cdv : Value) (A : Around) (outer : List Env) (s : Shared) (H : Hp) (E : XK), PSs (cxOf (L2.CX P w) P w K mg base ["self", "why", F] qual scope f cdv A outer s H E) body (tOst K F (tVar 0) (tVar 2))) : FnOk P w K mg base (L2.CX P w) 1 f fd ["self", "why", F] (spInit K C F) :=
  FunD.ok (k := 0) D S (fun vs H Q E ⟨a, why, v, e, _⟩ => by rw [e]; rfl) fun cdv A outer s H vs Q E hr ⟨a, why, v, e, T, no, ha, q⟩ => ⟨_, hb cdv A outer s H E, by
    subst e
    exact ⟨v, rfl, .ref a, rfl, a, C, rfl, T, no, .inl ⟨ha, fun dx n ne => q dx n ne⟩⟩⟩
end VS

/-! VS, part w: enumerate, str(n), int(text). -/
namespace VS
open PySem PySem.Spec PyProof.Rows L2
set_option maxHeartbeats 1000000 in
theorem meets_enumT {v : Value} {o : Obj} {H : Heap → Prop} (B : Begins v o H) :
    Meets (Builtin.«enumerate.__new__» ⟨[.type "enumerate", v], []⟩) (fun _ R s => H s.heap ∧
      R (.ok (.ret (.ref (s.heap.push o).objs.size))) { s with heap := (s.heap.push o).push { cls := .type "enumerate", data := .fields #[.none, .bool false, .ref s.heap.objs.size, rawInt 0, .none, .none] } }) :=
  .of_wp fun prog w A R s h => by
    obtain ⟨hp, g, d, tk, os⟩ := s; obtain ⟨h1, h⟩ := h
    have hsub := sub_enumerate
    have q1 : ∀ {A' : Around} {E : Value → Shared → Prop} {Q : Value → Shared → Prop}, Q (.ref hp.objs.size) ⟨hp.push o, g, d, tk, os⟩ → wpAny (model prog w) A' (pyIter v) Q E ⟨hp, g, d, tk, os⟩ :=
      fun q => B.iter prog w _ _ ⟨hp, g, d, tk, os⟩ _ h1 q
    wp_walk using q1
    refine wpAny_stack_any fun st => wpAny_pure ?_
    split
    · rename_i c _ _ _ _ _
      cases (c == Value.type "enumerate")
      · wp_walk using q1
        exact ⟨_, rfl, h⟩
      · wp_walk using q1
        exact ⟨_, rfl, h⟩
    · wp_walk using q1
      exact ⟨_, rfl, h⟩
theorem call_enumT {prog : Program} {w : World} {A : Around} {E : Value → Shared → Prop} {s : Shared} {v : Value} {o : Obj} {H : Heap → Prop} {Q : Value → Shared → Prop} (B : Begins v o H) (h1 : H s.heap)
    (h : ∀ h', IsEnum h' (s.heap.objs.size + 1) s.heap.objs.size 0 .none → h'.get? s.heap.objs.size = some o → h'.objs.size = s.heap.objs.size + 2 →
      (∀ b o, s.heap.get? b = some o → h'.get? b = some o) → Q (.ref (s.heap.objs.size + 1)) { s with heap := h' }) :
    wpAny (model prog w) A (call (.type "enumerate") [v]) Q E s := by
  refine callType_new F.called_enumerate (by decide) (F.typeCall_enumerate_1 _) (F.newCall_enumerate_1 _) (fun obj => F.args_object_init_2 obj _) F.entry_enumerate_new
    (meets_enumT B) ⟨h1, ?_⟩
  have hz : (s.heap.push o).objs.size = s.heap.objs.size + 1 := Heap.size_push ..
  show _ ∧ _
  rw [hz]
  have he : IsEnum ((s.heap.push o).push { cls := .type "enumerate", data := .fields #[.none, .bool false, .ref s.heap.objs.size, rawInt 0, .none, .none] }) (s.heap.objs.size + 1) s.heap.objs.size 0 .none := by
    have := Heap.get?_push_size (s.heap.push o) (o := { cls := .type "enumerate", data := .fields #[.none, .bool false, .ref s.heap.objs.size, rawInt 0, .none, .none] }) rfl
    rw [hz] at this; exact this
  refine ⟨⟨_, he, rfl⟩, h _ he (Heap.get?_push_of_some _ (Heap.get?_push_size _ B.free)) (by rw [Heap.size_push, hz]) fun b o x => Heap.get?_push_of_some _ (Heap.get?_push_of_some _ x)⟩
/-- the tuple at a as it stands at each turn, each item in a new pair -/
def IteT (K : PySem.W.Frag) (a : Addr) : It :=
  ⟨fun i H => ∃ (xs : List V) (x : V), SqT K H a xs ∧ xs[i]? = some x, fun i H v H' => ∃ T x, v = .ref T ∧ H T = none ∧ H' = upd H T (.tup [.int (i : Nat), x]) ∧ ∀ xs, SqT K H a xs → xs[i]? = some x, fun i H => ∃ xs : List V, SqT K H a xs ∧ xs.length = i⟩
theorem turn_enumT {P : Program} {w : World} {K : PySem.W.Frag} {elts : List Expr} {kk : Nat} {tpos : Pos} (a e it : Addr) :
    Turn P w K (.Tuple elts kk tpos) (IteT K a) [e, it] e (fun i h => (∃ old, IsEnum h e it ((i : Nat) : Int) old) ∧ h.IsTupleIter it a i ∧ e ≠ it ∧ e ≠ a ∧ a ≠ it) where
  mem := by simp
  obj := fun i h st b hb => by
    obtain ⟨⟨old, he⟩, ⟨o, ho, hc, hd⟩, _⟩ := st
    have e' : b = e ∨ b = it := by simpa using hb
    rcases e' with z | z
    · rw [z]; exact ⟨_, he, fun v q => nomatch q⟩
    · rw [z]; exact ⟨o, ho, fun v q => by rw [hd] at q; cases q⟩
  keep := fun i h h' st k => let ⟨⟨old, he⟩, hi, hne⟩ := st; ⟨⟨old, k e (by simp) _ he⟩, hi.at fun o q => k it (by simp) o q, hne⟩
  item := by
    intro X hP hw hK hc i pins s σ H E I hf st hg
    subst hP hw hK
    obtain ⟨⟨old, he⟩, hit, hne, hea, hai⟩ := st
    obtain ⟨xs, x, hq, hx⟩ := hg
    obtain ⟨its, rv, p, hz⟩ := I.tuple hq
    obtain ⟨u, hu, ru⟩ := rv.get hx
    have hel : e < s.heap.objs.size := Heap.lt_size he
    have hil : it < s.heap.objs.size := by obtain ⟨_, q, _⟩ := hit; exact Heap.lt_size q
    have hlt : i < its.toArray.size := by
      have := (List.getElem?_eq_some_iff.mp hu).1
      simpa using this
    refine wpAny_pyNext_enum_itemD (Draws.tuple (A := X.A.in1) (I.ok.hd hc) it a hai its.toArray) he ⟨hit, p⟩ hlt hne (by simp [hne, hea]) fun y h' tk hy ho hst hT hsz hk => ?_
    obtain rfl : y = u := by
      have hy' : its.toArray[i]? = some y := hy
      rw [List.getElem?_toArray, hu] at hy'
      exact (Option.some.inj hy').symm
    have hit' := hst.1
    refine ⟨_, rfl, wpAny_letOwnedTupleGo_enum (s := { s with heap := h', toks := tk + 1 }) ho fun h'' he' sb => ?_⟩
    have hT2 : h''.get? s.heap.objs.size = some { cls := .type "tuple", data := .seq #[.int i tk, y] } := (sb.2 _ (Nat.ne_of_gt hel)).trans hT
    have new : ObjOk X.prog X.w (upd H s.heap.objs.size (.tup [.int (i : Nat), x])) h'' s.heap.objs.size (.tup [.int (i : Nat), x]) :=
      ⟨by show 2 ≤ sizeLine; decide, [.int i tk, y], .cons ⟨_, rfl⟩ (.cons ru .nil), ⟨_, hT2, rfl, _, rfl⟩⟩
    have I1 : Inv X pins σ (upd H s.heap.objs.size (.tup [.int (i : Nat), x])) { s with heap := h'', toks := tk + 1 } :=
      I.turnedNew (ch := [e, it]) (fun b ob hb q => (sb.2 b (fun z => hb (by simp [z]))).trans (hk b ob (fun z => hb (by simp [z])) (fun z => hb (by simp [z])) q)) hf (Nat.le_refl _) new
    refine ⟨.ref s.heap.objs.size, _, I1, rfl, ⟨_, x, rfl, I.hok.fresh (Nat.le_refl _), rfl, fun ys hy => by rw [I.tuple_inj hy hq]; exact hx⟩, ⟨⟨y, ?_⟩, hit'.at fun o q => (sb.2 it (Ne.symm hne)).trans q, hne, hea, hai⟩, fun b hb => ?_⟩
    · have e1 : ((i + 1 : Nat) : Int) = (i : Int) + 1 := by omega
      rw [e1]; exact he'
    · have hb' : b < s.heap.objs.size := by
        have e' : b = e ∨ b = it := by simpa using hb
        rcases e' with z | z
        · rw [z]; exact hel
        · rw [z]; exact hil
      rw [upd_ne (Nat.ne_of_lt hb')]
      exact (hf b hb).1
  done := by
    intro X hP hw hK hc i pins s σ H E I hf st hg
    subst hP hw hK
    obtain ⟨⟨old, he⟩, hit, hne, hea, hai⟩ := st
    obtain ⟨xs, hq, hx⟩ := hg
    obtain ⟨its, rv, p, hz⟩ := I.tuple hq
    obtain ⟨f0, f1, f2, f3, f4, f5⟩ := hf it (by simp)
    have hl := rv.length
    have hn : its.toArray.size = i := by simp; omega
    subst hn
    exact wpAny_pyNext_enum_endD (Draws.tuple (A := X.A.in1) (I.ok.hd hc) it a hai its.toArray) he ⟨hit, p⟩ fun h' eb => ⟨rfl, I.turned (t' := s.toks) (fun b o hb q => eb b o hb q) f0 f1 f3 f4 f5⟩
  self := fun A i s Q E st h => let ⟨⟨_, he⟩, _⟩ := st; wpAny_pyIter_enum he h
def iEnumT (K : PySem.W.Frag) (ta : TA) : TI := fun σ H R => ta σ H fun vs H1 => ∃ a xs, vs = [.ref a] ∧ SqT K H1 a xs ∧ R (IteT K a) H1
theorem pi_enumT {X : Cx} {e : Expr} {ta : TA} {p pos tpos : Pos} {elts : List Expr} {kk : Nat} (hg : Gl X "enumerate") (hm : X.mg "enumerate" = none) (ha : PA X [e] ta) (hs : starEach [e] X.env = [(false, eval e X.env)] := by rfl) :
    PI X (.Tuple elts kk tpos) (.Call (.Name "enumerate" p) [e] [] pos) (iEnumT X.K ta) := by
  refine ⟨fun pins s σ H R I h => ?_⟩
  refine Call_ (ld_blt I hg hm boot_enumerate (PyProof.Rows.callWith_type1 (thn (ha.run pos pins s σ H _ I h) fun us s1 ⟨vs, H1, I1, r1, q1⟩ => ?_) hs rfl))
  obtain ⟨a, xs, ex, hq, q⟩ := q1
  subst ex
  cases r1 with
  | cons r rr =>
    cases rr
    cases r
    obtain ⟨its, rv, p', hz⟩ := I1.tuple hq
    have hal : a < s1.heap.objs.size := by obtain ⟨_, q, _⟩ := id p'; exact Heap.lt_size q
    refine call_enumT (begins_tuple a its.toArray) p' fun h' he hit hsz hk => wpAny_pyIter_enum he ?_
    have I2 : Inv X pins σ H1 { s1 with heap := h' } := I1.kept (t' := s1.toks) hk
    refine ⟨s1.heap.objs.size + 1, [s1.heap.objs.size + 1, s1.heap.objs.size], _, _, H1, rfl, I2, turn_enumT a (s1.heap.objs.size + 1) s1.heap.objs.size, ⟨⟨.none, he⟩, ⟨_, hit, rfl, rfl⟩, Nat.succ_ne_self _, Nat.ne_of_gt (Nat.lt_succ_of_lt hal), Nat.ne_of_lt hal⟩, fun b hb => ?_, q⟩
    have e' : b = s1.heap.objs.size + 1 ∨ b = s1.heap.objs.size := by simpa using hb
    have hle : s1.heap.objs.size ≤ b := by
      rcases e' with z | z
      · rw [z]; exact Nat.le_add_right _ _
      · rw [z]; exact Nat.le_refl _
    exact I1.fpOk hle (I1.hok.fresh hle)
/-! ### enumerate over data -/
section
variable {X : Cx} {g : Gh} {W : WX} {pos : Pos} {a b c e tg iter : Expr} {ma mb : Cm D}
def enumD (ds : List D) : List D := ds.mapIdx fun i d => D.tup [.sc (.int (i : Nat)), d]
theorem enumD_len (ds : List D) : (enumD ds).length = ds.length := by simp [enumD]
theorem enum_pair {H : Hp} {σ : L2.St} {sl : List (Option T)} {tm : List T} {t : T} {i : Int} {p : Addr} (s : SR g H σ sl tm) (s2 : SR g H σ sl (t :: tm)) (hp : H p = none) :
    ∃ u : T, SR g (upd H p (.tup [.int i, t.v])) σ sl (u :: tm) ∧ u.d = .tup [.sc (.int i), t.d] ∧ u.v = .ref p := by
  have s3 : SR g H σ sl (T.sc (.int i) :: t :: tm) := s2.push (.int i) trivial
  have ok : Ts.ok g.c H [T.sc (.int i), t] := by
    have := s3.okT
    simp only [Ts.ok] at this ⊢
    exact ⟨this.1, this.2.1, trivial⟩
  have s4 : SR g H σ sl ([T.sc (.int i), t] ++ tm) := s3
  exact ⟨_, s4.newT (ts := [T.sc (.int i), t]) hp (by simp) ok (fun a => ⟨Nat.le_refl _, id⟩), rfl, rfl⟩
theorem it_enum {K : PySem.W.Frag} (hK : K = g.c.K) {p : Addr} {o : Ow} {xs : List T} (hx : ∀ a, Ts.oc a xs = 0) : ItOk g (Ite K p) [T.lst p o xs] (enumD (Ts.d xs)) where
  stop := fun H σ sl tm s => by
    have q := lst_sq s.top
    exact ⟨_, by rw [hK]; exact q.1, by simp [enumD_len, Ts.d_len]⟩
  go := fun i d H σ sl tm s h => by
    have q := lst_sq s.top
    unfold enumD at h
    rw [List.getElem?_mapIdx, Ts.d_map, List.getElem?_map, Option.map_map, Option.map_eq_some_iff] at h
    obtain ⟨t, ht, rfl⟩ := h
    have m := List.mem_of_getElem? ht
    refine ⟨⟨_, t.v, by rw [hK]; exact q.1, by rw [List.getElem?_map, ht]; rfl⟩, fun x H' hy => ?_⟩
    obtain ⟨T', x', rfl, hT, rfl, hy⟩ := hy
    have e := hy _ (by rw [hK]; exact q.1)
    rw [List.getElem?_map, ht] at e
    obtain rfl : t.v = x' := Option.some.inj e
    have s2 : SR g H σ sl (t :: ([T.lst p o xs] ++ tm)) := s.dupK (tms := []) (Ts.ok_iff.mp q.2.2 t m) (fun a => by
      have h1 := Ts.oc_mem (a := a) m; have := hx a; omega) (fun a => by
      have h1 := Ts.sh_mem (a := a) m
      simp only [List.singleton_append, Ts.sh, T.sh]; omega)
    exact enum_pair s s2 hT
theorem it_enumT {K : PySem.W.Frag} (hK : K = g.c.K) {p : Addr} {o : Bool} {xs : List T} (hx : ∀ a, Ts.oc a xs = 0) : ItOk g (IteT K p) [T.tup p o xs] (enumD (Ts.d xs)) where
  stop := fun H σ sl tm s => by
    have q := tup_sq s.top
    exact ⟨_, by rw [hK]; exact q.1, by simp [enumD_len, Ts.d_len]⟩
  go := fun i d H σ sl tm s h => by
    have q := tup_sq s.top
    unfold enumD at h
    rw [List.getElem?_mapIdx, Ts.d_map, List.getElem?_map, Option.map_map, Option.map_eq_some_iff] at h
    obtain ⟨t, ht, rfl⟩ := h
    have m := List.mem_of_getElem? ht
    refine ⟨⟨_, t.v, by rw [hK]; exact q.1, by rw [List.getElem?_map, ht]; rfl⟩, fun x H' hy => ?_⟩
    obtain ⟨T', x', rfl, hT, rfl, hy⟩ := hy
    have e := hy _ (by rw [hK]; exact q.1)
    rw [List.getElem?_map, ht] at e
    obtain rfl : t.v = x' := Option.some.inj e
    have s2 : SR g H σ sl (t :: ([T.tup p o xs] ++ tm)) := s.dupK (tms := []) (Ts.ok_iff.mp q.2.2 t m) (fun a => by
      have h1 := Ts.oc_mem (a := a) m; have := hx a; omega) (fun a => by
      have h1 := Ts.sh_mem (a := a) m
      simp only [List.singleton_append, Ts.sh, T.sh]; omega)
    exact enum_pair s s2 hT
def mEnum (ma : Cm D) : Cm (List D) := fun ρ => (ma ρ).bind fun d ρ => match d.fz with
  | .lst _ ds => .ok (enumD ds) ρ
  | _ => .stuck
def mEnumT (ma : Cm D) : Cm (List D) := fun ρ => (ma ρ).bind fun d ρ => match d.fz with
  | .tup ds => .ok (enumD ds) ρ
  | _ => .stuck
theorem i_enum {elts : List Expr} {kk : Nat} {tpos p : Pos} (hK : X.K = g.c.K) (hg : Gl X "enumerate") (hm : X.mg "enumerate" = none) (ha : PA X [e] (tA g W [ma])) (hs : starEach [e] X.env = [(false, eval e X.env)] := by rfl) :
    PI X (.Tuple elts kk tpos) (.Call (.Name "enumerate" p) [e] [] pos) (tI g W (mEnum ma)) := (pi_enum hg hm ha hs).imp fun σ H R ⟨sl, tm, s, q⟩ => by
  refine tA1 s q fun H' sl' t s' h' => ?_
  rw [← T.fz_d] at h'
  have s2 := s'.fz1
  rw [← T.fz_v]
  cases e : t.fz with
  | lst p o xs =>
    rw [e] at h' s2
    refine ⟨p, _, rfl, by rw [hK]; exact (lst_sq s2.top).1, h' H' sl' [_] _ s2 rfl (it_enum hK fun a => ?_)⟩
    have := T.fz_oc a t
    rw [e] at this
    simp only [T.oc] at this
    omega
  | _ => rw [e] at h'; exact h'.elim
theorem i_enumT {elts : List Expr} {kk : Nat} {tpos p : Pos} (hK : X.K = g.c.K) (hg : Gl X "enumerate") (hm : X.mg "enumerate" = none) (ha : PA X [e] (tA g W [ma])) (hs : starEach [e] X.env = [(false, eval e X.env)] := by rfl) :
    PI X (.Tuple elts kk tpos) (.Call (.Name "enumerate" p) [e] [] pos) (tI g W (mEnumT ma)) := (pi_enumT hg hm ha hs).imp fun σ H R ⟨sl, tm, s, q⟩ => by
  refine tA1 s q fun H' sl' t s' h' => ?_
  rw [← T.fz_d] at h'
  have s2 := s'.fz1
  rw [← T.fz_v]
  cases e : t.fz with
  | tup p o xs =>
    rw [e] at h' s2
    refine ⟨p, _, rfl, by rw [hK]; exact (tup_sq s2.top).1, h' H' sl' [_] _ s2 rfl (it_enumT hK fun a => ?_)⟩
    have := T.fz_oc a t
    rw [e] at this
    simp only [T.oc] at this
    omega
  | _ => rw [e] at h'; exact h'.elim
@[simp] theorem mEnum_ {ρ : DE} : mEnum ma ρ = (ma ρ).bind fun d ρ => match d.fz with
  | .lst _ ds => .ok (enumD ds) ρ
  | _ => .stuck := (rfl)
@[simp] theorem mEnumT_ {ρ : DE} : mEnumT ma ρ = (ma ρ).bind fun d ρ => match d.fz with
  | .tup ds => .ok (enumD ds) ρ
  | _ => .stuck := (rfl)

/-! ### str(n), int(text) -/
def numL (i : Int) : List Nat := (Str.ofString (toString i)).cps.toList
def strD : D → Option Sc
  | .sc (.int i) => if i.natAbs < 1000000000000000000 then some (.str (numL i)) else none
  | _ => none
theorem log_small {n : Nat} (h : n < 1000000000000000000) : n.log2 < 1920 := by
  by_cases q : n = 0
  · subst q; decide
  · have h1 : n.log2 < 60 := (Nat.log2_lt q).2 (Nat.lt_of_lt_of_le h (by decide))
    omega
theorem numL_good {i : Int} (h : i.natAbs < 1000000000000000000) : (Sc.str (numL i)).good := by
  have h1 := PySem.int_text_fits (log_small h)
  have h2 := PySem.W.KSb.asc_num i
  have h3 : (numL i).length = (Str.ofString (toString i)).length := Array.length_toList
  rw [SZ_eq] at h1
  exact ⟨by rw [h3]; exact h1, fun c hc => Nat.lt_trans (h2 c hc) (by decide)⟩
theorem call_strA : CallR X (.type "str") (fun xs H Q => ∃ i, xs = [.int i] ∧ i.natAbs.log2 < 1920 ∧ Q (.str (toString i)) H) := call_str_int
theorem hr_strA : HR1 g strD (fun xs H Q => ∃ i, xs = [.int i] ∧ i.natAbs.log2 < 1920 ∧ Q (.str (toString i)) H) := fun H u c Q k h q => by
  cases u with
  | sc s =>
    cases s with
    | int i =>
      simp only [T.d, strD] at h
      split at h
      · rename_i hi
        cases h
        refine ⟨i, rfl, log_small hi, ?_⟩
        have := q (numL_good hi)
        have e : (Sc.str (numL i)).v = V.str (toString i : String) := by
          show V.str ⟨(numL i).toArray⟩ = V.str (Str.ofString (toString i))
          unfold numL
          simp
        rwa [e] at this
      · cases h
    | _ => simp [T.d, strD] at h
  | _ => simp [T.d, strD] at h
def isDg (l : List Nat) : Bool := (!l.isEmpty) && (l.all fun c => decide (48 ≤ c) && decide (c ≤ 57)) && decide (l.length ≤ 640)
def intBD : D → Option Sc
  | .sc (.int i) => some (.int i)
  | .sc (.bl b) => some (.int (if b then 1 else 0))
  | .sc (.str l) => if isDg l then some (.int (NumText.digitsVal l : Nat)) else none
  | _ => none
theorem call_intC : CallR X (.type "int") (fun xs H Q => ((∃ i, xs = [.int i] ∧ Q (.int i) H) ∨ ∃ k, xs = [.bl k] ∧ Q (.int (if k then 1 else 0)) H) ∨ ∃ a n, xs = [.str a] ∧ PySem.intText? a = some n ∧ a.length ≤ 640 ∧ Q (.int n) H) := by
  intro pins s σ H xs us Q I r h
  rcases h with h | h
  · exact call_int1 pins s σ H xs us Q I r h
  · exact call_int_str pins s σ H xs us Q I r h
theorem hr_intC : HR1 g intBD (fun xs H Q => ((∃ i, xs = [.int i] ∧ Q (.int i) H) ∨ ∃ k, xs = [.bl k] ∧ Q (.int (if k then 1 else 0)) H) ∨ ∃ a n, xs = [.str a] ∧ PySem.intText? a = some n ∧ a.length ≤ 640 ∧ Q (.int n) H) := fun H u c Q k h q => by
  cases u with
  | sc s =>
    cases s with
    | int i => simp only [T.d, intBD] at h; cases h; exact .inl (.inl ⟨_, rfl, q trivial⟩)
    | bl b => simp only [T.d, intBD] at h; cases h; exact .inl (.inr ⟨_, rfl, q trivial⟩)
    | str l =>
      simp only [T.d, intBD] at h
      split at h
      · rename_i hd
        cases h
        simp only [isDg, Bool.and_eq_true, List.all_eq_true, decide_eq_true_eq, Bool.not_eq_true', List.isEmpty_eq_false_iff] at hd
        have e : PySem.intText? ⟨l.toArray⟩ = some ((NumText.digitsVal l : Nat) : Int) := by
          have := intText_digits (x := ⟨l.toArray⟩) (by simpa [NumText.AllDigits] using hd.1.2) (by simpa using hd.1.1) (by have := hd.2; simp [Str.length]; omega)
          simpa using this
        exact .inr ⟨_, _, rfl, e, by simpa [Str.length] using hd.2, q trivial⟩
      · cases h
    | _ => simp [T.d, intBD] at h
  | _ => simp [T.d, intBD] at h
/-! ### rows -/
@[simp] theorem intBD_int (i : Int) : intBD (.int i) = some (.int i) := (rfl)
@[simp] theorem intBD_bl (b : Bool) : intBD (.bl b) = some (.int (if b then 1 else 0)) := (rfl)
theorem intBD_str (l : List Nat) (h : isDg l = true) : intBD (.str l) = some (.int (NumText.digitsVal l : Nat)) := by
  show (if isDg l then some (Sc.int (NumText.digitsVal l : Nat)) else none) = _
  rw [if_pos h]
theorem strD_int (i : Int) (h : i.natAbs < 1000000000000000000) : strD (.int i) = some (.str (numL i)) := by
  show (if i.natAbs < 1000000000000000000 then some (Sc.str (numL i)) else none) = _
  rw [if_pos h]
theorem numL_nat (n : Nat) : numL (n : Int) = (Nat.toDigits 10 n).map Char.toNat := PySem.W.KIN.signs_num n

/-! ### a slice of a tuple, never the whole -/
def wholeT (n : Nat) (lo hi : Option Int) : Bool := decide (HT.sIx n 0 lo = 0) && decide (HT.sIx n n hi = n)
def sliceT (lo hi : Option Int) : D → Option D
  | .tup xs => if Ds.pur xs && !(wholeT xs.length lo hi) then some (.tup (cutL xs lo hi)) else none
  | _ => none
def mSlcT (oa : Opd) (lo hi : Option (Cm D)) : Cm D := fun ρ => (oa.run ρ).bind fun t ρ => (mPart lo ρ).bind fun l ρ => (mPart hi ρ).bind fun u ρ => match oa.get t ρ with
  | some x => lift (sliceT l u x) ρ
  | none => .stuck
theorem e_slcT {oa : Opd} {lo hi : Option Expr} {ml mh : Option (Cm D)} {p2 : Pos} (ha : PE X a (tO g W oa)) (hl : PO X lo (tPt g W (mPart ml))) (hh : PO X hi (tPt g W (mPart mh))) (hK : X.K = g.c.K) : PE X (.Subscript a (.Slice lo hi none p2) pos) (tE g W (mSlcT oa ml mh)) :=
  (pe_slice sl_tup ha hl hh).imp fun σ H Q ⟨sl, tm, s, h⟩ => by
  refine tO.of s h fun H1 sl1 t1 v1 s1 d1 h1 => ?_
  refine tPt.of s1 (Lands.drops h1) fun H2 sl2 l s2 h2 => ?_
  refine tPt.of s2 h2 fun H3 sl3 u s3 h3 => ?_
  have d1' : Held g H3 oa σ sl3 t1 v1 := ⟨d1.is⟩
  have hm1 : ∀ u, t1 = some u → u ∈ xs? t1 tm := fun u e => by subst e; simp [xs?]
  split at h3
  · rename_i x ex
    obtain ⟨w, kw, ew, fw, hw⟩ := d1'.tree s3 hm1 ex
    subst fw ew
    cases w with
    | tup p o xs =>
      simp only [T.d, sliceT] at h3
      split at h3
      · rename_i hp
        rw [Bool.and_eq_true, Bool.not_eq_true'] at hp
        obtain ⟨hp, hwh⟩ := hp
        have q := tup_sq kw
        have hwh' : ¬ (HT.sIx (xs.map T.v).length 0 l = 0 ∧ HT.sIx (xs.map T.v).length (xs.map T.v).length u = (xs.map T.v).length) := by
          unfold wholeT at hwh
          rw [Ts.d_len] at hwh
          rw [List.length_map]
          intro ⟨e1, e2⟩
          simp [e1, e2] at hwh
        refine ⟨p, _, rfl, by rw [hK]; exact q.1, hwh', fun n hn => ?_⟩
        have ec : cutV (xs.map T.v) l u = (cutL xs l u).map T.v := cutL_map T.v xs l u
        rw [ec]
        have hnew : SR g H3 σ sl3 ((cutL xs l u).reverse ++ tm) := by
          have hO : ∀ a, Ts.oc a (cutL xs l u) = 0 := fun a => Nat.eq_zero_of_not_pos fun hpos => by
            obtain ⟨t, m, ht⟩ := Ts.pos_oc hpos
            have := T.pur_oc a t (Ds.pur_mem hp (cutL_mem m))
            omega
          have hS : ∀ a, 0 < Ts.sh a (cutL xs l u) → 0 < Ts.sh a xs := fun a hpos => by
            obtain ⟨t, m, ht⟩ := Ts.pos_sh hpos
            have := Ts.sh_mem (a := a) (cutL_mem m)
            omega
          have okc : Ts.ok g.c H3 ((cutL xs l u).reverse ++ tm) := by
            rw [Ts.ok_iff]
            intro t m
            rcases List.mem_append.mp m with m | m
            · exact Ts.ok_iff.mp q.2.2 t (cutL_mem (List.mem_reverse.mp m))
            · exact Ts.ok_iff.mp s3.xs.okT t m
          refine s3.tmp okc fun a => ?_
          have z1 := hO a
          have z2 := hS a
          have z3 := hw a
          have z4 : Ts.sh a xs ≤ (T.tup p o xs).sh a := by simp only [T.sh]; omega
          rw [Ts.oc_append, Ts.sh_append, Ts.oc_rev, Ts.sh_rev]
          cases t1 with
          | none => simp only [xs?] at z3 ⊢; omega
          | some w => simp only [xs?, Ts.oc, Ts.sh] at z3 ⊢; omega
        exact h3 _ _ _ (hnew.newT hn (Nat.le_trans (cutL_len _ _ _) q.2.1) (by
          rw [Ts.ok_iff]; exact fun t m => Ts.ok_iff.mp q.2.2 t (cutL_mem m)) fun z => by rw [Ts.oc_rev, Ts.sh_rev]; omega) rfl (by simp [T.d, Ts.d_map, cutL_map])
      · exact h3.elim
    | _ => exact h3.elim
  · exact h3.elim
@[simp] theorem mSlcT_ {oa : Opd} {lo hi : Option (Cm D)} {ρ : DE} : mSlcT oa lo hi ρ = (oa.run ρ).bind fun t ρ => (mPart lo ρ).bind fun l ρ => (mPart hi ρ).bind fun u ρ => match oa.get t ρ with
  | some x => lift (sliceT l u x) ρ
  | none => .stuck := (rfl)
end
end VS

/-! VS, part x: more rows for simp; constants that are good. -/
namespace VS
open PySem PySem.Spec PyProof.Rows L2
def Sc.goodB : Sc → Bool
  | .str l => decide (l.length ≤ 16777216) && l.all fun c => decide (c < 1114112)
  | _ => true
theorem goodB_ok (ls : List Sc) (h : ls.all Sc.goodB = true) : ∀ s ∈ ls, s.good := fun s hs => by
  have q := List.all_eq_true.1 h s hs
  cases s with
  | str l =>
    simp only [Sc.goodB, Bool.and_eq_true, decide_eq_true_eq, List.all_eq_true] at q
    exact q
  | _ => trivial
@[simp] theorem mM_ev (f : D → D → Option Sc) (a : Cm D) (i : Nat) (ρ : DE) : mM f (.e a) (.v i) ρ = (a ρ).bind fun d ρ => match d with
  | .sc (.str _) => match ρ[i]? with
    | some (some w) => (lift (f d w) ρ).bind fun s ρ => .ok (.sc s) ρ
    | _ => .stuck
  | _ => .stuck := by
  unfold mM
  cases e : a ρ with
  | ok x ρ =>
    simp only [orun_e, e, R.bind_ok, oget_e]
    cases x with
    | sc s =>
      cases s <;> try rfl
      simp only [orun_v, oget_v]
      cases e2 : ρ[i]? with
      | none => rfl
      | some o => cases o <;> simp [e2]
    | _ => rfl
  | exc _ _ => simp only [orun_e, e]; rfl
  | stuck => simp only [orun_e, e]; rfl
@[simp] theorem mM_ve (f : D → D → Option Sc) (b : Cm D) (i : Nat) (ρ : DE) : mM f (.v i) (.e b) ρ = match (ρ[i]?).join with
  | some (.sc (.str l)) => (b ρ).bind fun w ρ => match (ρ[i]?).join with
    | some d => (lift (f d w) ρ).bind fun s ρ => .ok (.sc s) ρ
    | none => .stuck
  | _ => .stuck := by
  unfold mM
  simp only [orun_v, oget_v]
  cases e : ρ[i]? with
  | none => rfl
  | some o =>
    cases o with
    | none => rfl
    | some d =>
      simp only [R.bind_ok, e, Option.join_some]
      cases d with
      | sc s =>
        cases s <;> try rfl
        cases e2 : b ρ with
        | ok w ρ2 => simp [e2]; cases (ρ2[i]?).join <;> rfl
        | exc _ _ => simp [e2]
        | stuck => simp [e2]
      | _ => rfl
@[simp] theorem mMN_ (f : D → D → Option D) (x y : Opd) (ρ : DE) : mMN f x y ρ = (x.run ρ).bind fun t ρ => match x.get t ρ with
  | some (.sc (.str _)) => (y.run ρ).bind fun u ρ => match x.get t ρ, y.get u ρ with
    | some v, some w => lift (f v w) ρ
    | _, _ => .stuck
  | _ => .stuck := rfl
@[simp] theorem mTidx_ (l : List (List Nat)) (m : Cm D) (ρ : DE) : mTidx l m ρ = (m ρ).bind fun d ρ => match d with
  | .sc (.str z) => match l.findIdx? (· == z) with
    | some j => .ok (.int j) ρ
    | none => .stuck
  | _ => .stuck := rfl
theorem splitD_ (a : List Nat) (c : Nat) (h : a.length + 2 ≤ 16777216) : splitD (.str a) (.str [c]) = some (.lst .own ((splitC c a).map D.str)) := by
  simp [splitD, h]
theorem addD_strC (a b : List Nat) (h : a.length + b.length ≤ 16777216) : addD (.str a) (.str b) = some (.str (a ++ b)) := by
  rw [addD_str, if_pos h]
end VS

/-! VS, part y: tuples put together. -/
namespace VS
open PySem PySem.Spec PyProof.Rows L2
def catD : D → D → Option D
  | .tup xs, .tup ys => if xs.length + ys.length ≤ 16777216 then some (.tup (xs ++ ys)) else none
  | _, _ => none
@[simp] theorem catD_ (xs ys : List D) : catD (.tup xs) (.tup ys) = if xs.length + ys.length ≤ 16777216 then some (.tup (xs ++ ys)) else none := (rfl)
section
variable {X : Cx} {g : Gh} {W : WX} {pos : Pos} {a b : Expr} {ma mb : Cm D}
theorem SR.under {H : Hp} {σ : L2.St} {sl : List (Option T)} {tm : List T} {t u : T} (s : SR g H σ sl (t :: u :: tm)) : SR g H σ sl (t :: tm) :=
  s.tmp (by have := s.okT; simp only [Ts.ok] at this ⊢; exact ⟨this.1, this.2.2⟩) fun b => by simp only [Ts.oc, Ts.sh]; omega
theorem e_cat (hK : X.K = g.c.K) (ha : PE X a (tE g W ma)) (hb : PE X b (tE g W mb)) : PE X (.BinOp a .Add b pos) (tE g W (mBin catD ma mb)) := by
  refine (pe_op op_catA ha hb).imp (bin_imp fun H σ sl tm t1 t2 d Q s h k => ?_)
  have k1 : t1.ok g.c H := by have := s.okT; simp only [Ts.ok] at this; exact this.2.1
  have k2 := s.top
  rw [hK]
  cases t1 with
  | tup a o xs =>
    cases t2 with
    | tup b p ys =>
      simp only [T.d, catD, Ts.d_len] at h
      split at h
      · rename_i hc
        cases h
        have q1 := tup_sq k1
        have q2 := tup_sq k2
        refine ⟨a, b, xs.map T.v, ys.map T.v, rfl, rfl, q1.1, q2.1, by rw [SZ_eq]; simpa using hc, fun e => ?_, fun _ e => ?_, fun _ _ q nq => ?_⟩
        · have : xs = [] := by simpa using e
          subst this
          exact k H _ s.under (by simp [T.d, Ts.d])
        · have : ys = [] := by simpa using e
          subst this
          exact k H _ s.pop (by simp [T.d, Ts.d])
        · have s' := s.newT (xs := [.tup b p ys, .tup a o xs]) (tm := tm) (ts := xs ++ ys) nq (by simpa using hc)
            (Ts.ok_iff.mpr fun t m => by
              rcases List.mem_append.mp m with m | m
              · exact Ts.ok_iff.mp q1.2.2 t m
              · exact Ts.ok_iff.mp q2.2.2 t m) (fun z => by
              simp only [Ts.oc_append, Ts.sh_append, Ts.oc, Ts.sh, T.oc, T.sh]; omega)
          rw [List.map_append] at s'
          exact k _ _ s' (by simp [T.d, Ts.d_append])
      · cases h
    | sc y => simp [T.d, catD] at h
    | _ => simp [T.d, catD] at h
  | _ => simp [T.d, catD] at h
end
end VS

/-! VS, part z: xs.index(x) of a list in a slot. -/
namespace VS
open PySem PySem.Spec PyProof.Rows L2
section
variable {X : Cx} {g : Gh} {W : WX} {pos p : Pos} {a b : Expr} {ma mb : Cm D}
def mLidx (i : Nat) (ma : Cm D) : Cm D := fun ρ => match ρ[i]? with
  | some (some (.lst _ _)) => (ma ρ).bind fun d ρ => match (ρ[i]?).join, d with
    | some (.lst _ xs), .sc z => match scs xs with
      | some l => match l.findIdx? (fun y => y.eqB z) with
        | some j => .ok (.int j) ρ
        | none => .stuck
      | none => .stuck
    | _, _ => .stuck
  | _ => .stuck
@[simp] theorem mLidx_ (i : Nat) (ma : Cm D) (ρ : DE) : mLidx i ma ρ = match ρ[i]? with
  | some (some (.lst _ _)) => (ma ρ).bind fun d ρ => match (ρ[i]?).join, d with
    | some (.lst _ xs), .sc z => match scs xs with
      | some l => match l.findIdx? (fun y => y.eqB z) with
        | some j => .ok (.int j) ρ
        | none => .stuck
      | none => .stuck
    | _, _ => .stuck
  | _ => .stuck := rfl
theorem e_lidx {y : Str} {apos : Pos} {i : Nat} (hK : X.K = g.c.K) (hp : PE X (.Call (.Attribute (.Name y p) "index" apos) [a] [] pos) (tBM X.K "list" (rIndex X.K) (tVar i) (tA g W [ma]))) : PE X (.Call (.Attribute (.Name y p) "index" apos) [a] [] pos) (tE g W (mLidx i ma)) :=
  hp.imp fun σ H Q ⟨sl, tm, s, h⟩ => by
    unfold mLidx at h
    split at h
    · rename_i o xs e0
      obtain ⟨p, e3, hty⟩ := some_list hK s e0
      refine ⟨_, e3, hty, tA1 s h fun H1 sl1 t s1 h1 => ?_⟩
      split at h1
      · rename_i zo ys z e1 e2
        have e1' : (den sl1)[i]? = some (some (.lst zo ys)) := by
          cases q : (den sl1)[i]? with
          | none => rw [q] at e1; simp at e1
          | some o => rw [q] at e1; simp at e1; rw [e1]
        obtain ⟨u, g1, g2, g4, g3⟩ := s1.val e1'
        cases u with
        | lst p' o' ts =>
          simp only [T.d, D.lst.injEq] at g2
          obtain ⟨rfl, rfl⟩ := g2
          rw [e3] at g3
          cases g3
          split at h1
          · rename_i l hl
            split at h1
            · rename_i j hj
              have sk := scs_ok hl
              obtain ⟨q1, q2, q3⟩ := List.findIdx?_eq_some_iff_getElem.mp hj
              cases t with
              | sc w =>
                simp only [T.d, D.sc.injEq] at e2
                subst e2
                have fw : flatV w.v = true := by cases w <;> rfl
                refine ⟨p, _, w.v, j, l[j].v, rfl, rfl, by rw [hK]; exact (lst_sq g4).1, fw, sk.2, ?_, ?_, fun m z' hm he => ?_, h1 H1 sl1 (.sc (.int j)) (s1.pop.push _ trivial) rfl rfl⟩
                · rw [sk.1, List.getElem?_map, List.getElem?_eq_getElem q1]; rfl
                · rw [eqV_sc]; exact q2
                · rw [sk.1, List.getElem?_map, Option.map_eq_some_iff] at he
                  obtain ⟨v, hv, rfl⟩ := he
                  have hml : m < l.length := by omega
                  rw [List.getElem?_eq_getElem hml] at hv
                  cases hv
                  rw [eqV_sc]
                  have := q3 m hm
                  simpa using this
              | _ => simp [T.d] at e2
            · exact h1.elim
          · exact h1.elim
        | _ => simp [T.d] at g2
      · exact h1.elim
    · exact h.elim
/-! ### xs[::-1], tuple(xs) -/
def revD : D → Option D
  | .lst _ xs => if Ds.pur xs then some (.lst .own xs.reverse) else none
  | _ => none
@[simp] theorem revD_lst (o : Ow) (xs : List D) : revD (.lst o xs) = if xs.all D.pur then some (.lst .own xs.reverse) else none := by simp [revD, Ds.pur_all]
theorem Ts.d_rev (xs : List T) : Ts.d xs.reverse = (Ts.d xs).reverse := by simp [Ts.d_map]
theorem e_revL {oa : Opd} {k : Nat} {p1 p2 p3 : Pos} (hK : X.K = g.c.K) (ha : PE X a (tO g W oa)) : PE X (.Subscript a (.Slice none none (some (.UnaryOp .USub (.Constant (.int 1) k p1) p2)) p3) pos) (tE g W (mNew revD oa)) :=
  (pe_revL ha).imp fun σ H Q ⟨sl, tm, s, h⟩ => by
    refine tO.of s h fun H1 sl1 t1 v1 s1 d1 h1 => ?_
    have hm1 : ∀ u, t1 = some u → u ∈ xs? t1 tm := fun u e => by subst e; simp [xs?]
    split at h1
    · rename_i x ex
      obtain ⟨w, kw, ew, fw, hw⟩ := d1.tree s1 hm1 ex
      subst fw ew
      cases w with
      | lst p o xs =>
        simp only [T.d, revD] at h1
        split at h1
        · rename_i hp
          have q := lst_sq kw
          refine ⟨p, _, rfl, by rw [hK]; exact q.1, fun n hn => ?_⟩
          have s2 := s1.copy (ys := xs.reverse) q.2.2 hp (fun a => by have := hw a; simp only [T.sh] at this; omega) (fun t m => List.mem_reverse.mp m) (by simpa using q.2.1) hn
          rw [List.map_reverse] at s2
          exact h1 _ _ _ s2 rfl (by simp [T.d, Ts.d_rev])
        · exact h1.elim
      | sc y => cases y <;> exact h1.elim
      | _ => exact h1.elim
    · exact h1.elim
theorem SR.copyT {H : Hp} {σ : L2.St} {sl : List (Option T)} {tm : List T} {t1 : Option T} {n : Addr} {xs : List T} (s : SR g H σ sl (xs? t1 tm)) (kx : Ts.ok g.c H xs) (hp : Ds.pur (Ts.d xs) = true)
    (hw : ∀ a, Ts.sh a xs ≤ So (T.sh a) sl + Ts.sh a (xs? t1 tm)) (hz : xs.length ≤ 16777216) (hn : H n = none) : SR g (upd H n (.tup (xs.map T.v))) σ sl (.tup n false xs :: tm) := by
  have hO : ∀ a, Ts.oc a xs = 0 := fun a => Nat.eq_zero_of_not_pos fun hpos => by
    obtain ⟨t, m, ht⟩ := Ts.pos_oc hpos
    have := T.pur_oc a t (Ds.pur_mem hp m)
    omega
  have hnew : SR g H σ sl (xs ++ tm) := by
    refine s.tmp ?_ fun a => ?_
    · rw [Ts.ok_iff]
      intro t m
      rcases List.mem_append.mp m with m | m
      · exact Ts.ok_iff.mp kx t m
      · exact Ts.ok_iff.mp s.xs.okT t m
    · have z1 := hO a
      have z3 := hw a
      rw [Ts.oc_append, Ts.sh_append]
      cases t1 with
      | none => simp only [xs?] at z3 ⊢; omega
      | some w => simp only [xs?, Ts.oc, Ts.sh] at z3 ⊢; omega
  exact hnew.newT hn hz kx fun z => by omega
def tupD : D → Option D
  | .lst _ xs => if Ds.pur xs then some (.tup xs) else none
  | _ => none
@[simp] theorem tupD_lst (o : Ow) (xs : List D) : tupD (.lst o xs) = if xs.all D.pur then some (.tup xs) else none := by simp [tupD, Ds.pur_all]
theorem e_tuple {oa : Opd} (hK : X.K = g.c.K) (hg : Gl X "tuple") (hm : X.mg "tuple" = none) (ha : PE X a (tO g W oa)) (he : starEach (a :: []) X.env = (false, eval a X.env) :: starEach [] X.env := by rfl) : PE X (.Call (.Name "tuple" p) [a] [] pos) (tE g W (mNew tupD oa)) :=
  (pe_callTy call_tuple_of hg hm (by decide +kernel) (pa_cons ha pa_nil he) (he := he)).imp fun σ H Q ⟨sl, tm, s, h⟩ => by
    refine tO.of s h fun H1 sl1 t1 v1 s1 d1 h1 => ?_
    have hm1 : ∀ u, t1 = some u → u ∈ xs? t1 tm := fun u e => by subst e; simp [xs?]
    split at h1
    · rename_i x ex
      obtain ⟨w, kw, ew, fw, hw⟩ := d1.tree s1 hm1 ex
      subst fw ew
      cases w with
      | lst p o xs =>
        simp only [T.d, tupD] at h1
        split at h1
        · rename_i hp
          have q := lst_sq kw
          refine ⟨p, _, rfl, .inl ⟨by rw [hK]; exact q.1, fun n hn => ?_⟩⟩
          exact h1 _ _ _ (s1.copyT q.2.2 hp (fun a => by have := hw a; simp only [T.sh] at this; omega) q.2.1 hn) rfl rfl
        · exact h1.elim
      | sc y => cases y <;> exact h1.elim
      | _ => exact h1.elim
    · exact h1.elim
/-! ### xs + ys of lists whoever holds them -/
def rCatLA (K : PySem.W.Frag) : R2 := fun x y H Q => ∃ l b xs zs, x = .ref l ∧ y = .ref b ∧ SqL K H l xs ∧ SqL K H b zs ∧ xs.length + zs.length ≤ sizeLine ∧ ∀ p, H p = none → Q (.ref p) (upd H p (.lst (xs ++ zs)))
theorem op_catLA : OpR X (binaryOp .Add) (rCatLA X.K) := by
  intro pins s σ H x y v u Q I rx ry h
  obtain ⟨l, b, xs, zs, rfl, rfl, hH, hB, hz, q⟩ := h
  cases rx
  cases ry
  obtain ⟨its, r, ⟨⟨cls, dd, data, sl⟩, n, ho, hc, hdn, hd⟩, hl⟩ := I.list hH
  obtain ⟨its2, r2, ⟨⟨cls2, dd2, data2, sl2⟩, n2, ho2, hc2, hdn2, hd2⟩, hl2⟩ := I.list hB
  simp only at hc hd hc2 hd2
  subst hc hd hc2 hd2
  have e1 := r.length
  have e2 := r2.length
  refine concat_meets ⟨_, ho, rfl⟩ ⟨_, ho2, rfl⟩ noFill_list_add seq_list_add PySem.F.slot_list_add PySem.F.entry_list_add (PySem.F.args_list_add_2 _ _) (list_addW l b its.toArray its2.toArray n n2 dd dd2 sl sl2 (by rw [List.size_toArray, List.size_toArray]; omega)) ⟨ho, ho2, ?_⟩
  have ea : its.toArray ++ its2.toArray = (its ++ its2).toArray := by simp
  rw [ea]
  exact ⟨.ref _, _, I.lnew (t' := s.toks) (r.append r2) (by rw [List.length_append]; omega), rfl, q _ I.fresh⟩
def catLD : D → D → Option D
  | .lst _ xs, .lst _ ys => if xs.length + ys.length ≤ 16777216 then some (.lst .own (xs ++ ys)) else none
  | _, _ => none
@[simp] theorem catLD_ (o p : Ow) (xs ys : List D) : catLD (.lst o xs) (.lst p ys) = if xs.length + ys.length ≤ 16777216 then some (.lst .own (xs ++ ys)) else none := (rfl)
theorem e_catL (hK : X.K = g.c.K) (ha : PE X a (tE g W ma)) (hb : PE X b (tE g W mb)) : PE X (.BinOp a .Add b pos) (tE g W (mBin catLD ma mb)) := by
  refine (pe_op op_catLA ha hb).imp (bin_imp fun H σ sl tm t1 t2 d Q s h k => ?_)
  have k1 : t1.ok g.c H := by have := s.okT; simp only [Ts.ok] at this; exact this.2.1
  have k2 := s.top
  rw [hK]
  cases t1 with
  | lst a o xs =>
    cases t2 with
    | lst b p ys =>
      simp only [T.d, catLD, Ts.d_len] at h
      split at h
      · rename_i hc
        cases h
        have q1 := lst_sq k1
        have q2 := lst_sq k2
        refine ⟨a, b, xs.map T.v, ys.map T.v, rfl, rfl, q1.1, q2.1, by rw [SZ_eq]; simpa using hc, fun q nq => ?_⟩
        have s' := s.newL (xs := [.lst b p ys, .lst a o xs]) (tm := tm) (ts := xs ++ ys) nq (by simpa using hc)
            (Ts.ok_iff.mpr fun t m => by
              rcases List.mem_append.mp m with m | m
              · exact Ts.ok_iff.mp q1.2.2 t m
              · exact Ts.ok_iff.mp q2.2.2 t m) (fun z => by
              simp only [Ts.oc_append, Ts.sh_append, Ts.oc, Ts.sh, T.oc, T.sh]; omega)
        rw [List.map_append] at s'
        exact k _ _ s' (by simp [T.d, Ts.d_append])
      · cases h
    | sc y => simp [T.d, catLD] at h
    | _ => simp [T.d, catLD] at h
  | _ => simp [T.d, catLD] at h
end
end VS

/-! VS, part A: a list within a slot's list is changed. -/
namespace VS
open PySem PySem.Spec PyProof.Rows L2
theorem Ts.oc_setE (a : Addr) (x : T) : ∀ (ts : List T) (n : Nat) (y : T), ts[n]? = some y → Ts.oc a (ts.set n x) + y.oc a = Ts.oc a ts + x.oc a
  | [], n, y, h => by simp at h
  | u :: ts, 0, y, h => by simp at h; subst h; simp [Ts.oc]; omega
  | u :: ts, n + 1, y, h => by have := Ts.oc_setE a x ts n y (by simpa using h); simp [Ts.oc]; omega
theorem Ts.sh_setE (a : Addr) (x : T) : ∀ (ts : List T) (n : Nat) (y : T), ts[n]? = some y → Ts.sh a (ts.set n x) + y.sh a = Ts.sh a ts + x.sh a
  | [], n, y, h => by simp at h
  | u :: ts, 0, y, h => by simp at h; subst h; simp [Ts.sh]; omega
  | u :: ts, n + 1, y, h => by have := Ts.sh_setE a x ts n y (by simpa using h); simp [Ts.sh]; omega
section
variable {g : Gh}
theorem SR.writeN {H : Hp} {σ : L2.St} {sl : List (Option T)} {tm es : List T} {i n : Nat} {P p : Addr} {ts xs zs : List T} (s : SR g H σ sl (es ++ tm)) (h : sl[i]? = some (some (T.lst P .own ts))) (hn : ts[n]? = some (T.lst p .own xs)) (hz : zs.length ≤ 16777216)
    (hk : Ts.ok g.c H zs) (ho : ∀ a, Ts.oc a zs ≤ Ts.oc a xs + Ts.oc a es) (hs : ∀ a, 0 < Ts.sh a zs → 0 < Ts.sh a xs + Ts.sh a es) :
    SR g (upd H p (.lst (zs.map T.v))) σ (sl.set i (some (T.lst P .own (ts.set n (T.lst p .own zs))))) tm := by
  have hmem := s.slot h
  have k := s.okS _ hmem
  simp only [T.ok] at k
  have hm := List.mem_of_getElem? hn
  have b1 : b2 (True ∧ True) = 1 := by simp [b2]
  have so : ∀ a, Ts.oc a (ts.set n (T.lst p .own zs)) + Ts.oc a xs = Ts.oc a ts + Ts.oc a zs := fun a => by
    have := Ts.oc_setE a (T.lst p .own zs) ts n _ hn
    simp only [T.oc] at this
    omega
  have ss : ∀ a, Ts.sh a (ts.set n (T.lst p .own zs)) + Ts.sh a xs = Ts.sh a ts + Ts.sh a zs := fun a => by
    have := Ts.sh_setE a (T.lst p .own zs) ts n _ hn
    simp only [T.sh] at this
    omega
  have xo : ∀ a, b2 (Ow.own = Ow.own ∧ p = a) + Ts.oc a xs ≤ Ts.oc a ts := fun a => by
    have := Ts.oc_mem (a := a) hm
    simpa [T.oc] using this
  have xsh : ∀ a, Ts.sh a xs ≤ Ts.sh a ts := fun a => by
    have := Ts.sh_mem (a := a) hm
    simp only [T.sh] at this
    omega
  have g1 := So_get (f := T.oc p) hmem
  have g1s := So_get (f := T.sh p) hmem
  simp only [T.oc] at g1
  simp only [T.sh] at g1s
  have iv := s.inv p
  rw [Ts.oc_append, Ts.sh_append] at iv
  have xp := xo p
  rw [show b2 (Ow.own = Ow.own ∧ p = p) = 1 from by simp [b2]] at xp
  have hP : P ≠ p := fun e => by
    subst e
    rw [show b2 (True ∧ P = P) = 1 from by simp [b2]] at g1
    omega
  have c1 : ∀ a, So (T.oc a) (sl.set i (some (T.lst P .own (ts.set n (T.lst p .own zs))))) + Ts.oc a xs = So (T.oc a) sl + Ts.oc a zs := fun a => by
    have := So_set (f := T.oc a) (x := some (T.lst P .own (ts.set n (T.lst p .own zs)))) h
    simp only [fO, T.oc] at this
    have := so a
    omega
  have c2 : ∀ a, So (T.sh a) (sl.set i (some (T.lst P .own (ts.set n (T.lst p .own zs))))) + Ts.sh a xs = So (T.sh a) sl + Ts.sh a zs := fun a => by
    have := So_set (f := T.sh a) (x := some (T.lst P .own (ts.set n (T.lst p .own zs)))) h
    simp only [fO, T.sh] at this
    have := ss a
    omega
  have k0 : Ts.oc p zs = 0 ∧ Ts.sh p zs = 0 ∧ Ts.sh p ts = 0 ∧ Ts.oc p ts = 1 := by
    have h1 := ho p
    have h2 := hs p
    have h3 := xsh p
    omega
  have kin : T.ok g.c (upd H p (.lst (zs.map T.v))) (T.lst P .own (ts.set n (T.lst p .own zs))) := by
    simp only [T.ok]
    refine ⟨?_, by simpa using k.2.1, ?_⟩
    · rw [upd_ne hP, k.1, List.map_set]
      congr 2
      have e2 : (ts.map T.v)[n]? = some (T.lst p .own xs).v := by rw [List.getElem?_map, hn]; rfl
      obtain ⟨hl, e3⟩ := List.getElem?_eq_some_iff.1 e2
      exact ((List.set_getElem_self hl).symm.trans (by rw [e3]; rfl))
    · rw [Ts.ok_iff]
      intro t m
      obtain ⟨j, hj⟩ := mem_get m
      rcases set_get hj with ⟨rfl, e'⟩ | ⟨ne, e'⟩
      · subst e'
        simp only [T.ok]
        exact ⟨upd_same, hz, Ts.stay zs hk fun a q => upd_ne fun e => by subst e; omega⟩
      · refine T.stay t (Ts.ok_iff.mp k.2.2 t (List.mem_of_getElem? e')) fun a q => upd_ne fun ea => ?_
        subst ea
        have d0 := Ts.oc_setE a (T.sc .non) ts n _ hn
        have d1 := Ts.oc_mem (a := a) (ts := ts.set n (T.sc .non)) (t := t) (List.mem_of_getElem? (i := j) (by rw [List.getElem?_set_ne (Ne.symm ne)]; exact e'))
        have d2 := Ts.sh_mem (a := a) (List.mem_of_getElem? e')
        simp only [T.oc] at d0
        rw [b1] at d0
        omega
  refine s.go (fun t m => ?_) ?_ (fun a => .inl ?_) (fun a => ?_) s.len (by simp [s.slen]) (fun j t hj => ?_) s.io
  · obtain ⟨j, hj⟩ := mem_get m
    rcases set_get hj with ⟨rfl, e'⟩ | ⟨ne, e'⟩
    · cases e'; exact kin
    · have e := List.mem_of_getElem? e'
      refine T.stay t (s.okS t e) fun a q => upd_ne fun ea => ?_
      subst ea
      have d0 := So_set (f := T.oc a) (x := none) h
      have d1 := So_get (f := T.oc a) (sl := sl.set i none) (t := t) (List.mem_of_getElem? (i := j) (by rw [List.getElem?_set_ne (Ne.symm ne)]; exact e'))
      have d2 := So_get (f := T.sh a) e
      simp only [fO, T.oc] at d0
      omega
  · have kt := s.okT
    rw [Ts.ok_iff] at kt ⊢
    intro t m
    refine T.stay t (kt t (List.mem_append_right _ m)) fun a q => upd_ne fun ea => ?_
    subst ea
    have h1 := Ts.oc_mem (a := a) m; have h2 := Ts.sh_mem (a := a) m
    omega
  · have d1 := c1 a
    have d2 := c2 a
    have h1 := ho a
    have h2 := hs a
    have g2 := So_get (f := T.sh a) hmem
    have g3 := So_get (f := T.oc a) hmem
    simp only [T.sh, T.oc] at g2 g3
    have g4 := xsh a
    have g5 := xo a
    rw [Ts.oc_append, Ts.sh_append]
    refine ⟨by omega, fun q => .inl ?_⟩
    omega
  · by_cases e : a = p
    · subst e
      refine .inr (.inr ?_)
      omega
    · exact .inl (upd_ne e)
  · rcases set_get hj with ⟨rfl, e⟩ | ⟨_, e⟩
    · cases e; have := s.at_ _ _ h; simpa [T.v] using this
    · exact s.at_ _ _ e
variable {X : Cx} {W : WX} {pos p : Pos} {a b : Expr} {ma mb : Cm D}
/-- x[m].append(y): y a name (v), or a constant (c) -/
inductive Sm where
  | v (j : Nat)
  | c (s : Sc)
def Sm.get (x : Sm) (i : Nat) (ρ : DE) : Option (D × DE) := match x with
  | .c s => some (.sc s, ρ)
  | .v j => match ρ[j]? with
    | some (some d) => if j = i then none else some (d.fz, ρ.set j (some d.fz))
    | _ => none
def mAppN (i : Nat) (mb : Cm D) (x : Sm) : Cm D := fun ρ => match ρ[i]? with
  | some (some (.lst .own _)) => (mb ρ).bind fun kx ρ => match ρ[i]?, kx with
    | some (some (.lst .own xs)), .sc (.int k) => match ixN xs.length k with
      | some n => match xs[n]?, x.get i ρ with
        | some (.lst .own zs), some (d, ρ) => if zs.length < 16777216 then .ok .non (ρ.set i (some (.lst .own (xs.set n (.lst .own (zs ++ [d])))))) else .stuck
        | _, _ => .stuck
      | none => .stuck
    | _, _ => .stuck
  | _ => .stuck
@[simp] theorem mAppN_ (i : Nat) (mb : Cm D) (x : Sm) (ρ : DE) : mAppN i mb x ρ = match ρ[i]? with
  | some (some (.lst .own _)) => (mb ρ).bind fun kx ρ => match ρ[i]?, kx with
    | some (some (.lst .own xs)), .sc (.int k) => match ixN xs.length k with
      | some n => match xs[n]?, x.get i ρ with
        | some (.lst .own zs), some (d, ρ) => if zs.length < 16777216 then .ok .non (ρ.set i (some (.lst .own (xs.set n (.lst .own (zs ++ [d])))))) else .stuck
        | _, _ => .stuck
      | none => .stuck
    | _, _ => .stuck
  | _ => .stuck := rfl
@[simp] theorem Smget_c (s : Sc) (i : Nat) (ρ : DE) : (Sm.c s).get i ρ = some (.sc s, ρ) := rfl
@[simp] theorem Smget_v (j i : Nat) (ρ : DE) : (Sm.v j).get i ρ = match ρ[j]? with
    | some (some d) => if j = i then none else some (d.fz, ρ.set j (some d.fz))
    | _ => none := rfl
/-- the reading of the argument -/
def tSm : Sm → TE
  | .v j => tVar j
  | .c s => fun _ H Q => s.good ∧ Q s.v H
theorem own_sub {H : Hp} {σ : L2.St} {sl : List (Option T)} {tm : List T} {i n : Nat} {xs zs : List D} (s : SR g H σ sl tm) (h : (den sl)[i]? = some (some (.lst .own xs))) (hn : xs[n]? = some (.lst .own zs)) :
    ∃ P p ts us, sl[i]? = some (some (T.lst P .own ts)) ∧ Ts.d ts = xs ∧ ts[n]? = some (T.lst p .own us) ∧ Ts.d us = zs ∧ H P = some (.lst (ts.map T.v)) ∧ H p = some (.lst (us.map T.v)) ∧ Ts.ok g.c H us ∧ us.length ≤ 16777216 ∧ σ[i]? = some (some (.ref P)) := by
  obtain ⟨P, ts, g1, rfl, g3, g4, g5⟩ := own_list s h
  rw [Ts.d_map, List.getElem?_map, Option.map_eq_some_iff] at hn
  obtain ⟨u, hu, e⟩ := hn
  cases u with
  | lst p o us =>
    simp only [T.d, D.lst.injEq] at e
    obtain ⟨rfl, rfl⟩ := e
    have k := Ts.ok_iff.mp g4 _ (List.mem_of_getElem? hu)
    simp only [T.ok] at k
    exact ⟨P, p, ts, us, g1, rfl, hu, rfl, g3, k.1, k.2.2, k.2.1, g5⟩
  | _ => simp [T.d] at e
theorem ixN_rIx {K : PySem.W.Frag} {P : Addr} {xs : List V} {k : Int} {n : Nat} {v : V} {H : Hp} {Q : VK} (h : H P = some (.lst xs)) (hk : ixN xs.length k = some n) (hv : xs[n]? = some v) (q : Q v H) : rIx K (.ref P) (.int k) H Q := by
  refine .inl ⟨P, xs, k, v, rfl, rfl, .of h, ?_, q⟩
  unfold atI
  rw [hk]
  exact hv
theorem e_appN {y : Str} {apos spos : Pos} {i : Nat} {x : Sm} (hK : X.K = g.c.K) (hp : PE X (.Call (.Attribute (.Subscript (.Name y p) b spos) "append" apos) [a] [] pos) (tBM X.K "list" rAppend (tOp (rIx X.K) (tVar i) (tE g W mb)) (tCons (tSm x) tNil)))
    (hx : ∀ s, x = .c s → s.good := by intro s h; first | (cases h; done) | (cases h; trivial)) : PE X (.Call (.Attribute (.Subscript (.Name y p) b spos) "append" apos) [a] [] pos) (tE g W (mAppN i mb x)) :=
  hp.imp fun σ H Q ⟨sl, tm, s, h⟩ => by
    unfold mAppN at h
    split at h
    · rename_i xs0 e0
      obtain ⟨P0, ts0, _, _, _, _, e3⟩ := own_list s e0
      refine ⟨_, e3, tE.of s h fun H1 sl1 t s1 h1 => ?_⟩
      split at h1
      · rename_i xs k e1 ek
        split at h1
        · rename_i n hn
          split at h1
          · rename_i zs d ρ hz hg
            have s1' := s1.pop
            obtain ⟨P, p, ts, us, g1, rfl, g2, rfl, g3, g4, g5, g6, g7⟩ := own_sub s1' e1 hz
            rw [e3] at g7
            cases g7
            have hl : ixN (ts.map T.v).length k = some n := by rw [List.length_map, ← Ts.d_len]; exact hn
            cases t with
            | sc w =>
              simp only [T.d, D.sc.injEq] at ek
              subst ek
              refine ixN_rIx g3 hl (by rw [List.getElem?_map, g2]; rfl) ?_
              show tyV X.K "list" (.ref p) H1 ∧ _
              refine ⟨.inl ⟨rfl, _, .of g4⟩, ?_⟩
              split at h1
              · rename_i hlen
                rw [Ts.d_len] at hlen
                cases x with
                | c sx =>
                  simp only [Sm.get, Option.some.injEq, Prod.mk.injEq] at hg
                  obtain ⟨rfl, rfl⟩ := hg
                  have gx := hx sx rfl
                  refine ⟨gx, p, _, sx.v, rfl, rfl, g4, by rw [SZ_eq]; simpa using hlen, ?_⟩
                  have s2 := s1'.push sx gx
                  have s3 := SR.writeN (zs := us ++ [T.sc sx]) (es := [T.sc sx]) (tm := tm) s2 g1 g2 (by simp; omega) (by
                    rw [Ts.ok_iff]; intro u m
                    rcases List.mem_append.mp m with m | m
                    · exact Ts.ok_iff.mp g5 u m
                    · have e := List.mem_singleton.mp m; subst e; exact gx) (fun a => by simp [Ts.oc_append, Ts.oc]) (fun a => by simp [Ts.sh_append, Ts.sh])
                  rw [List.map_append] at s3
                  exact h1 _ _ (.sc .non) (s3.push _ trivial) (by rw [den_set]; simp [T.d, Ts.d_set, Ts.d_append, Ts.d]) rfl
                | v j =>
                  simp only [Sm.get] at hg
                  split at hg
                  · rename_i dj hj
                    split at hg
                    · cases hg
                    · rename_i hji
                      simp only [Option.some.injEq, Prod.mk.injEq] at hg
                      obtain ⟨rfl, rfl⟩ := hg
                      obtain ⟨tj, f1, f2, _, f3⟩ := s1'.val hj
                      refine ⟨tj.v, f3, p, _, tj.v, rfl, rfl, g4, by rw [SZ_eq]; simpa using hlen, ?_⟩
                      have s2 := s1'.read f1
                      have g1' : (sl1.set j (some tj.fz))[i]? = some (some (T.lst P0 .own ts)) := by rw [List.getElem?_set_ne hji]; exact g1
                      have s3 := SR.writeN (zs := us ++ [tj.fz]) (es := [tj.fz]) (tm := tm) s2 g1' g2 (by simp; omega) (by
                        rw [Ts.ok_iff]; intro u m
                        rcases List.mem_append.mp m with m | m
                        · exact Ts.ok_iff.mp g5 u m
                        · have e := List.mem_singleton.mp m; subst e; exact s2.top) (fun a => by simp [Ts.oc_append, Ts.oc]) (fun a => by simp [Ts.sh_append, Ts.sh])
                      rw [List.map_append, List.map_cons, List.map_nil, T.fz_v] at s3
                      exact h1 _ _ (.sc .non) (s3.push _ trivial) (by rw [den_set, den_set]; subst f2; simp [T.d, Ts.d_set, Ts.d_append, Ts.d, T.fz_d]) rfl
                  · cases hg
              · exact h1.elim
            | _ => simp [T.d] at ek
          · exact h1.elim
        · exact h1.elim
      · exact h1.elim
    · exact h.elim
/-- x[m][k2] = e, k2 a number -/
def mSetIN (i : Nat) (mb : Cm D) (k2 : Int) : D → Cm Unit := fun d ρ => match ρ[i]? with
  | some (some (.lst .own _)) => (mb ρ).bind fun kx ρ => match ρ[i]?, kx with
    | some (some (.lst .own xs)), .sc (.int k) => match ixN xs.length k with
      | some n => match xs[n]? with
        | some (.lst .own zs) => match ixN zs.length k2 with
          | some n2 => .ok () (ρ.set i (some (.lst .own (xs.set n (.lst .own (zs.set n2 d))))))
          | none => .stuck
        | _ => .stuck
      | none => .stuck
    | _, _ => .stuck
  | _ => .stuck
@[simp] theorem mSetIN_ (i : Nat) (mb : Cm D) (k2 : Int) (d : D) (ρ : DE) : mSetIN i mb k2 d ρ = match ρ[i]? with
  | some (some (.lst .own _)) => (mb ρ).bind fun kx ρ => match ρ[i]?, kx with
    | some (some (.lst .own xs)), .sc (.int k) => match ixN xs.length k with
      | some n => match xs[n]? with
        | some (.lst .own zs) => match ixN zs.length k2 with
          | some n2 => .ok () (ρ.set i (some (.lst .own (xs.set n (.lst .own (zs.set n2 d))))))
          | none => .stuck
        | _ => .stuck
      | none => .stuck
    | _, _ => .stuck
  | _ => .stuck := rfl
theorem g_setN {y : Str} {spos tpos : Pos} {i : Nat} {k2 : Int} (hp : PG X (.Subscript (.Subscript (.Name y p) b spos) a tpos) (gSub (tOp (rIx X.K) (tVar i) (tE g W mb)) (tC (.int k2)) rSetL)) : PG X (.Subscript (.Subscript (.Name y p) b spos) a tpos) (tG g W (mSetIN i mb k2)) :=
  hp.imp fun v σ H Q ⟨sl, tm, t, s, e, h⟩ => by
    subst e
    unfold mSetIN at h
    split at h
    · rename_i xs0 e0
      obtain ⟨P0, ts0, _, _, _, _, e3⟩ := own_list s e0
      refine ⟨_, e3, tE.of s (Lands.drop h) fun H1 sl1 u s1 h1 => ?_⟩
      split at h1
      · rename_i xs k e1 ek
        split at h1
        · rename_i n hn
          split at h1
          · rename_i zs hz
            split at h1
            · rename_i n2 hn2
              have s1' := s1.pop
              obtain ⟨P, p, ts, us, g1, rfl, g2, rfl, g3, g4, g5, g6, g7⟩ := own_sub s1' e1 hz
              rw [e3] at g7
              cases g7
              have hl : ixN (ts.map T.v).length k = some n := by rw [List.length_map, ← Ts.d_len]; exact hn
              cases u with
              | sc w =>
                simp only [T.d, D.sc.injEq] at ek
                subst ek
                refine ixN_rIx g3 hl (by rw [List.getElem?_map, g2]; rfl) ?_
                refine ⟨p, us.map T.v, k2, n2, rfl, rfl, g4, by rw [List.length_map, ← Ts.d_len]; exact hn2, ?_⟩
                have s3 := SR.writeN (zs := us.set n2 t) (es := [t]) (tm := tm) s1' g1 g2 (by simpa using g6) (by
                  rw [Ts.ok_iff]; intro w m
                  rcases mem_set m with e | m
                  · subst e; exact s1'.top
                  · exact Ts.ok_iff.mp g5 w m) (fun a => by have := Ts.oc_set a t us n2; simp only [Ts.oc]; omega) (fun a => by have := Ts.sh_set a t us n2; simp only [Ts.sh]; omega)
                rw [List.map_set] at s3
                exact h1 _ _ _ s3 (by rw [den_set]; simp [T.d, Ts.d_set])
              | _ => simp [T.d] at ek
            · exact h1.elim
          · exact h1.elim
        · exact h1.elim
      · exact h1.elim
    · exact h.elim
theorem sm_v {x : Str} {j : Nat} (hp : PE X (.Name x pos) (tVar j)) : PE X (.Name x pos) (tSm (.v j)) := hp
theorem sm_int {k : Int} {j : Nat} : PE X (.Constant (.int k) j pos) (tSm (.c (.int k))) := pe_int.imp fun _ _ _ h => h.2
theorem sm_non {j : Nat} : PE X (.Constant .none j pos) (tSm (.c .non)) := pe_non.imp fun _ _ _ h => h.2
end
/-! ### startswith, endswith -/
def startswithM : D → D → Option Sc
  | .sc (.str a), .sc (.str b) => some (.bl (a.take b.length == b))
  | _, _ => none
def endswithM : D → D → Option Sc
  | .sc (.str a), .sc (.str b) => some (.bl (a.drop (a.length - b.length) == b))
  | _, _ => none
@[simp] theorem startswithM_ (a b : List Nat) : startswithM (.str a) (.str b) = some (.bl (a.take b.length == b)) := rfl
@[simp] theorem endswithM_ (a b : List Nat) : endswithM (.str a) (.str b) = some (.bl (a.drop (a.length - b.length) == b)) := rfl
theorem arr_beq (x y : List Nat) : (x.toArray == y.toArray) = (x == y) := by
  cases h : x == y with
  | true => have := beq_iff_eq.1 h; subst this; simp
  | false =>
    have : x ≠ y := by intro e; subst e; simp at h
    simpa using this
theorem starts_eq (a b : List Nat) : Txt.startswith ⟨a.toArray⟩ ⟨b.toArray⟩ = (a.take b.length == b) := by
  have e : (⟨a.toArray⟩ : Str).cps.extract 0 (0 + (⟨b.toArray⟩ : Str).length) = (a.take b.length).toArray := by simp [Str.length]
  unfold Txt.startswith Builtin.Str.subAt
  rw [e, arr_beq]
  by_cases q : b.length ≤ a.length
  · have : decide (0 + (⟨b.toArray⟩ : Str).length ≤ (⟨a.toArray⟩ : Str).length) = true := by simpa [Str.length] using q
    rw [this, Bool.true_and]
  · have : decide (0 + (⟨b.toArray⟩ : Str).length ≤ (⟨a.toArray⟩ : Str).length) = false := by simpa [Str.length] using q
    rw [this, Bool.false_and]
    have n : a.take b.length ≠ b := fun e => by have := congrArg List.length e; simp at this; omega
    exact (beq_eq_false_iff_ne.2 n).symm
theorem ends_eq (a b : List Nat) : Txt.endswith ⟨a.toArray⟩ ⟨b.toArray⟩ = (a.drop (a.length - b.length) == b) := by
  unfold Txt.endswith Builtin.Str.subAt
  by_cases q : b.length ≤ a.length
  · have : decide (0 + (⟨b.toArray⟩ : Str).length ≤ (⟨a.toArray⟩ : Str).length) = true := by simpa [Str.length] using q
    rw [this, Bool.true_and]
    have e : (⟨a.toArray⟩ : Str).cps.extract ((⟨a.toArray⟩ : Str).length - (⟨b.toArray⟩ : Str).length) ((⟨a.toArray⟩ : Str).length - (⟨b.toArray⟩ : Str).length + (⟨b.toArray⟩ : Str).length) = (a.drop (a.length - b.length)).toArray := by
      simp only [Str.length, List.size_toArray, List.extract_toArray]
      rw [Nat.sub_add_cancel q, List.extract_eq_drop_take]
      congr 1
      exact List.take_of_length_le (by simp)
    rw [e, arr_beq]
  · have : decide (0 + (⟨b.toArray⟩ : Str).length ≤ (⟨a.toArray⟩ : Str).length) = false := by simpa [Str.length] using q
    rw [this, Bool.false_and]
    have n : a.drop (a.length - b.length) ≠ b := fun e => by have := congrArg List.length e; simp at this; omega
    exact (beq_eq_false_iff_ne.2 n).symm
theorem hs_startswith {g : Gh} : HM1 g startswithM (fun x xs H Q => ∃ a b, x = .str a ∧ xs = [.str b] ∧ Q (.bl (Txt.startswith a b)) H) := fun H u1 u2 c Q k1 k2 h q => by
  cases u1 with
  | sc x =>
    cases u2 with
    | sc y =>
      cases x <;> cases y <;> simp [T.d, startswithM] at h
      subst h
      exact ⟨_, _, rfl, rfl, by rw [starts_eq]; exact q trivial⟩
    | _ => cases x <;> simp [T.d, startswithM] at h
  | _ => simp [T.d, startswithM] at h
theorem hs_endswith {g : Gh} : HM1 g endswithM (fun x xs H Q => ∃ a b, x = .str a ∧ xs = [.str b] ∧ Q (.bl (Txt.endswith a b)) H) := fun H u1 u2 c Q k1 k2 h q => by
  cases u1 with
  | sc x =>
    cases u2 with
    | sc y =>
      cases x <;> cases y <;> simp [T.d, endswithM] at h
      subst h
      exact ⟨_, _, rfl, rfl, by rw [ends_eq]; exact q trivial⟩
    | _ => cases x <;> simp [T.d, endswithM] at h
  | _ => simp [T.d, endswithM] at h
end VS

/-! VS, part B: x[m][k] looked at where it stands; pairs that are lists. -/
namespace VS
open PySem PySem.Spec PyProof.Rows L2
section
variable {X : Cx} {g : Gh} {W : WX} {pos p : Pos} {a b : Expr} {ma mb : Cm D}
/-- x[m][k], a scalar, looked at where it stands -/
def mPeek (i : Nat) (mb : Cm D) (k2 : Int) : Cm D := fun ρ => match ρ[i]? with
  | some (some (.lst .own _)) => (mb ρ).bind fun kx ρ => match ρ[i]?, kx with
    | some (some (.lst .own xs)), .sc (.int k) => match ixN xs.length k with
      | some n => match xs[n]? with
        | some (.lst .own zs) => match atI zs k2 with
          | some (.sc s) => .ok (.sc s) ρ
          | _ => .stuck
        | _ => .stuck
      | none => .stuck
    | _, _ => .stuck
  | _ => .stuck
@[simp] theorem mPeek_ (i : Nat) (mb : Cm D) (k2 : Int) (ρ : DE) : mPeek i mb k2 ρ = match ρ[i]? with
  | some (some (.lst .own _)) => (mb ρ).bind fun kx ρ => match ρ[i]?, kx with
    | some (some (.lst .own xs)), .sc (.int k) => match ixN xs.length k with
      | some n => match xs[n]? with
        | some (.lst .own zs) => match atI zs k2 with
          | some (.sc s) => .ok (.sc s) ρ
          | _ => .stuck
        | _ => .stuck
      | none => .stuck
    | _, _ => .stuck
  | _ => .stuck := rfl
theorem e_peek {y : Str} {spos tpos : Pos} {i : Nat} {k2 : Int} (hp : PE X (.Subscript (.Subscript (.Name y p) b spos) a tpos) (tOp (rIx X.K) (tOp (rIx X.K) (tVar i) (tE g W mb)) (tC (.int k2)))) : PE X (.Subscript (.Subscript (.Name y p) b spos) a tpos) (tE g W (mPeek i mb k2)) :=
  hp.imp fun σ H Q ⟨sl, tm, s, h⟩ => by
    unfold mPeek at h
    split at h
    · rename_i xs0 e0
      obtain ⟨P0, ts0, _, _, _, _, e3⟩ := own_list s e0
      refine ⟨_, e3, tE.of s h fun H1 sl1 u s1 h1 => ?_⟩
      split at h1
      · rename_i xs k e1 ek
        split at h1
        · rename_i n hn
          split at h1
          · rename_i zs hz
            split at h1
            · rename_i sx hsx
              have s1' := s1.pop
              obtain ⟨P, p, ts, us, g1, rfl, g2, rfl, g3, g4, g5, g6, g7⟩ := own_sub s1' e1 hz
              rw [e3] at g7
              cases g7
              have hl : ixN (ts.map T.v).length k = some n := by rw [List.length_map, ← Ts.d_len]; exact hn
              cases u with
              | sc w =>
                simp only [T.d, D.sc.injEq] at ek
                subst ek
                refine ixN_rIx g3 hl (by rw [List.getElem?_map, g2]; rfl) ?_
                rw [Ts.d_map, atI_map, Option.map_eq_some_iff] at hsx
                obtain ⟨t, ht, hd⟩ := hsx
                have tm' := atI_mem ht
                cases t with
                | sc v =>
                  simp only [T.d, D.sc.injEq] at hd
                  subst hd
                  have gk := Ts.ok_iff.mp g5 _ tm'
                  simp only [T.ok] at gk
                  refine .inl ⟨p, us.map T.v, k2, v.v, rfl, rfl, .of g4, by rw [atI_map, ht]; rfl, ?_⟩
                  exact h1 _ _ (.sc v) (s1'.push v gk) rfl rfl
                | _ => simp [T.d] at hd
              | _ => simp [T.d] at ek
            · exact h1.elim
          · exact h1.elim
        · exact h1.elim
      · exact h1.elim
    · exact h.elim
/-- x, y = a list of two -/
def mUnpL (fs : List (D → Cm Unit)) : D → Cm Unit
  | .lst _ ds => putAll fs ds
  | _ => fun _ => .stuck
@[simp] theorem mUnpL_ (fs : List (D → Cm Unit)) (o : Ow) (ds : List D) (ρ : DE) : mUnpL fs (.lst o ds) ρ = putAll fs ds ρ := (rfl)
theorem SR.openL {H : Hp} {σ : L2.St} {sl : List (Option T)} {tm : List T} {q : Addr} {o : Ow} {xs : List T} (s : SR g H σ sl (T.lst q o xs :: tm)) : SR g H σ sl (xs ++ tm) := by
  have k := lst_sq s.top
  refine s.tmp ?_ fun a => ?_
  · rw [Ts.ok_iff]
    intro t m
    rcases List.mem_append.mp m with m | m
    · exact Ts.ok_iff.mp k.2.2 t m
    · exact Ts.ok_iff.mp s.okT t (List.mem_cons_of_mem _ m)
  · simp only [Ts.oc_append, Ts.sh_append, Ts.oc, Ts.sh, T.oc, T.sh]
    omega
theorem hg_pairL {i j : Nat} (hij : i ≠ j) (hi : i < g.N) (hio : ∀ p ∈ g.io, p.1 ≠ i) (hj : j < g.N) (hjo : ∀ p ∈ g.io, p.1 ≠ j) {K : PySem.W.Frag} (hK : K = g.c.K) (v : V) (σ : L2.St) (H : Hp) (Q : L2.St → Hp → Prop)
    (h : tG g W0 (mUnpL [mPut i, mPut j]) v (L2.wipe σ [i, j]) H (fun σ2 H2 => L2.wipe σ2 [i, j] = L2.wipe σ [i, j] → Q σ2 H2)) :
    gLst K 2 (gCons (gName i) (gCons (gName j) gNil)) v (L2.wipe σ [i, j]) H fun σ2 H2 => L2.wipe σ2 [i, j] = L2.wipe σ [i, j] ∧ Q σ2 H2 := by
  obtain ⟨sl, tm, t, s, rfl, h⟩ := h
  cases t with
  | lst q o xs =>
    simp only [T.d, mUnpL] at h
    match xs, s, h with
    | [], _, h => exact h.elim
    | [_], _, h => exact absurd h (by simp [putAll, Ts.d, mPut, R.bind, Lands])
    | _ :: _ :: _ :: _, _, h => exact absurd h (by simp [putAll, Ts.d, mPut, R.bind, Lands])
    | [x, y], s, h =>
      have z := lst_sq s.top
      refine ⟨q, _, rfl, by rw [hK]; exact z.1, rfl, x.v, [y.v], rfl, y.v, [], rfl, rfl, ?_⟩
      have e : L2.wipe (((L2.wipe σ [i, j]).set i (some x.v)).set j (some y.v)) [i, j] = L2.wipe σ [i, j] := by
        simp only [L2.wipe]
        rw [List.set_set, List.set_comm _ _ hij, List.set_set, List.set_comm _ _ hij]
        simp [List.set_set]
      exact ⟨e, h H _ _ ((s.openL.store hi hio).store hj hjo) (by rw [den_set, den_set]; rfl) e⟩
  | _ => exact h.elim
end
end VS

/-! VS, part C: try with several clauses, the first one 'as e': the others are never asked. -/
namespace VS
open PySem PySem.Spec PyProof.Rows L2
/-- how the frame's ends look once the clause's name is gone -/
def endsAs (i : Nat) (D : Ends) : Ends where
  nx := fun τ h => D.nx (τ.set i none) h
  rt := D.rt
  bk := fun τ h => D.bk (τ.set i none) h
  ct := fun τ h => D.ct (τ.set i none) h
/-- what the first clause wishes of what the body raises: it is the clause's -/
def wFst (K : PySem.W.Frag) (c : Value) (i : Nat) (ts : Addr → Value → Option Addr → TS) (D : Ends) : WX := fun cls d τ h =>
  PySem.W.exmOne K cls c = some true ∧ ∀ a : Addr, h a = none → ts a cls d (endsAs i D) (τ.set i (some (V.ref a))) h
section
variable {X : Cx} {x n : Str} {c : Value} {i : Nat} {body suite : List Stmt} {s0 : Stmt} {np pos p2 : Pos} {others : List ExceptHandler} {tb : WX → TS} {ts : Addr → Value → Option Addr → TS}
theorem ps_first (hs : X.stack = X.env :: X.outer) (hf : X.env.frame = some X.env.locals) (hN : X.N.Nodup) (hi : X.N[i]? = some n) (hln : X.env.kindOf n = some .local) (hc : Names X x c)
    (hb : ∀ (W1 : WX) (q : List (Addr × Obj)) (xe : Value → Shared → Prop), Takes (X.tr q xe) W1 →
      PassesOwn (model X.prog X.w) X.A X.env xe → PSs (X.tr q xe) body (tb W1))
    (hsu : ∀ (a : Addr) (oe : Obj) (cls : Value) (d : Option Addr) (q : List (Addr × Obj)), Zc cls d oe →
      (∃ vs, oe.data = .fields vs) → PSs (X.suite a ((a, oe) :: q)) (s0 :: suite) (ts a cls d)) :
    PS X (.Try body (.ExceptHandler (some (.Name x np)) (some n) (s0 :: suite) p2 :: others) [] [] pos) (fun D τ h => tb (wFst X.K c i ts D) D τ h) := by
  constructor
  intro pins s σ H D I h
  have ok := I.ok
  have frames : X.A.frames = some (X.env :: X.outer) := by rw [ok.frames, hs]
  have loc : Loc X.env.scope n := .inl hln
  refine wpAny_Try_except ?_
  have walk := hb (wFst X.K c i ts D) (X.pn ++ pins)
    (fun e t1 => wpAny (model X.prog X.w) X.A (noteFrame e X.env)
      (fun _ t2 => wpAny (model X.prog X.w) X.A (setFlight e none)
        (fun _ t3 => wpAny (model X.prog X.w) X.A
          (handleBy e X.env (.ExceptHandler (some (.Name x np)) (some n) (s0 :: suite) p2 :: others)) (SP X pins D) X.xe t3) X.xe t2) X.xe t1)
    (by
      intro u s' raised
      obtain ⟨a, B, sI, pins', τ, h1, cls, d, rfl, J0, nb, up, sky, na, os, ag, w⟩ := raised
      obtain ⟨hit, wish⟩ := w
      have J : Inv X pins τ h1 sI := J0.ofTry ok
      rw [hs] at sky
      show wpAny (model X.prog X.w) X.A (noteFrame (.ref a) X.env) _ _ _
      refine Sky.land Zc.steady frames hf sky ?_
      intro h3 fl3 up3
      have J3 : Inv X pins τ h1 { s' with heap := h3 } := J.landed nb fl3.1 (up.trans up3) os ag
      obtain ⟨o3, v3, e3, z3, d3⟩ := fl3.there
      have out : a ∉ frs (X.env :: X.outer) := by
        intro m
        obtain ⟨_, o', e', no⟩ := fl3.2.2.1.mem m
        rw [e3] at e'
        cases e'
        exact no _ d3
      have nL : a ≠ X.env.locals := by
        intro z
        exact out (List.mem_filterMap.mpr ⟨X.env, List.mem_cons_self, by rw [hf, z]⟩)
      have nF : a ∉ X.fs := by
        intro m
        obtain ⟨e, he, q⟩ := List.mem_filterMap.mp m
        exact out (List.mem_filterMap.mpr ⟨e, List.mem_cons_of_mem _ he, q⟩)
      have S3 := J3.suite e3 d3 na nL nF
      refine wpAny_handleBy_cons (codeAny_handlers_test ?_) (by intro q; cases q)
      have looks : PySem.W.Looks (model X.prog X.w) h3 (typeOf (.ref a)) cls := by
        intro A Q E s k q
        exact wpAny_typeOf_ref (k _ _ e3) (by rw [z3.1]; exact q)
      have match_ := PySem.W.exm_one (M := model X.prog X.w) (J3.kIn) looks hit
      have named : ∀ {Q : Value → Shared → Prop} {E : Value → Shared → Prop}, Q c { s' with heap := h3 } →
          wpAny (model X.prog X.w) (X.A.mark (some (.ref a))) (eval (.Name x np) X.env) Q E { s' with heap := h3 } := by
        intro Q E q
        obtain ⟨g1, g2, g3 | ⟨g3, g4, g5⟩⟩ := hc
        · exact ld_glob (X := X.suite a ((a, o3) :: (X.pn ++ pins))) S3 g1 g3 q g2
        · exact ld_blt (X := X.suite a ((a, o3) :: (X.pn ++ pins))) S3 g1 g3 g4 q g5 g2
      refine named (match_.here ?_)
      refine codeAny_handlers_suite_as ?_
      refine HandSPX.lands_againZ fl3 ?_
      intro h4 fl4 up4
      have J4 : Inv X pins τ h1 { s' with heap := h4 } := J.landed nb fl4.1 ((up.trans up3).trans up4) os ag
      obtain ⟨o4, v4, e4, z4, d4⟩ := fl4.there
      have S4 := J4.suite e4 d4 na nL nF
      refine store_ok (X := X.suite a ((a, o4) :: (X.pn ++ pins))) (v := .ref a) S4 hN hi loc rfl ?_ (.inr hln)
      intro s5 S5
      have inner := (hsu a o4 cls d (X.pn ++ pins) z4 ⟨_, d4⟩).run [] s5 _ h1 _ S5 (wish a na)
      refine wpAny_mono inner ?_ (fun _ _ z => False.elim z)
      intro f s6 post
      have gone : ∀ {τ6 : L2.St} {h6 : Hp} {Q : Shared → Prop}, Inv (X.suite a ((a, o4) :: (X.pn ++ pins))) [] τ6 h6 s6 →
          (∀ s7, Inv X pins (τ6.set i none) h6 s7 → Q s7) →
          wpAny (model X.prog X.w) X.A (do bindName X.env n .none; unbindBehindTheSuite X.env n p2) (fun _ s7 => Q s7) X.xe s6 := by
        intro τ6 h6 Q S6 k
        exact gone_ok (S6.unsuite ok) hN hi hln k
      cases f with
      | next => obtain ⟨_, _, S6, k⟩ := post; exact gone S6 (fun s7 J7 => ⟨_, _, J7, k⟩)
      | brk => obtain ⟨_, _, S6, k⟩ := post; exact gone S6 (fun s7 J7 => ⟨_, _, J7, k⟩)
      | cont => obtain ⟨_, _, S6, k⟩ := post; exact gone S6 (fun s7 J7 => ⟨_, _, J7, k⟩)
      | ret u => obtain ⟨_, _, _, S6, r, k⟩ := post; exact gone S6 (fun s7 J7 => ⟨_, _, _, J7, r, k⟩))
    PassesOwn.looking
  refine wpAny_mono (walk.run [] s σ H D (I.toTry _) h) ?_ (fun e s1 he => he)
  intro f s1 post
  cases f with
  | next => obtain ⟨_, _, J', q⟩ := post; exact wpAny_execs_nil ⟨_, _, J'.ofTry ok, q⟩
  | brk => obtain ⟨_, _, J', q⟩ := post; exact ⟨_, _, J'.ofTry ok, q⟩
  | cont => obtain ⟨_, _, J', q⟩ := post; exact ⟨_, _, J'.ofTry ok, q⟩
  | ret u => obtain ⟨_, _, _, J', r, q⟩ := post; exact ⟨_, _, _, J'.ofTry ok, r, q⟩
end
/-- try: mb / except D as i: ms / other clauses, never asked -/
def mTryF (exm : String → String → Option Bool) (i : Nat) (Dn : String) (mb : Cm Out) (ms : Ex → Cm Out) : Cm Out := fun ρ => match mb ρ with
  | .ok o ρ => .ok o ρ
  | .stuck => .stuck
  | .exc x ρ => if x.cls = "dict" then .stuck else match exm x.cls Dn with
    | some true => match ms x (ρ.set i none) with
      | .ok o ρ => .ok o (ρ.set i none)
      | _ => .stuck
    | _ => .stuck
section
variable {X : Cx} {g : Gh} {W : WX} {pos pos' np : Pos} {x n : Str} {body suite : List Stmt} {b₀ : Stmt} {others : List ExceptHandler} {i : Nat} {Dn : String} {mb : Cm Out} {ms : Ex → Cm Out} {exm : String → String → Option Bool}
theorem s_tryF (hs : X.stack = X.env :: X.outer) (hf : X.env.frame = some X.env.locals) (hN : X.N.Nodup) (hi : X.N[i]? = some n) (hln : X.env.kindOf n = some .local) (hgl : Gl X x) (hdb : (x == ("__debug__" : Str)) = false) (gD : X.mg x = some (.ref (g.c.cls Dn)))
    (hx : ∀ C b, exm C Dn = some b → PySem.W.exmOne X.K (.ref (g.c.cls C)) (.ref (g.c.cls Dn)) = some b) (hi' : i < g.N) (hio : ∀ p ∈ g.io, p.1 ≠ i)
    (hb : ∀ (W' : WX) (pn : List (Addr × Obj)) (xe : Value → Shared → Prop), Takes (X.tr pn xe) W' → PassesOwn (model X.prog X.w) X.A X.env xe → PSs (X.tr pn xe) body (tS g W' mb))
    (hsu : ∀ (a : Addr) (oe : Obj) (cls : Value) (d : Option Addr) (pn : List (Addr × Obj)), Zc cls d oe → (∃ vs, oe.data = .fields vs) → ∀ y : Ex, XIs g cls d y ∧ exm y.cls Dn = some true → PSs (X.suite a ((a, oe) :: pn)) (b₀ :: suite) (tS (g.sx i a d y) (fun _ _ _ _ => False) (ms y))) :
    PS X (.Try body (.ExceptHandler (some (.Name x np)) (some n) (b₀ :: suite) pos' :: others) [] [] pos) (tS g W (mTryF exm i Dn mb ms)) := by
  refine (ps_first (c := .ref (g.c.cls Dn)) (ts := fun a cls d De σ H => ∃ y, (XIs g cls d y ∧ exm y.cls Dn = some true) ∧ tS (g.sx i a d y) (fun _ _ _ _ => False) (ms y) De σ H) (tb := fun W' => tS g W' mb) hs hf hN hi hln ⟨hgl, hdb, .inl gD⟩ hb
    (fun a oe cls d pn hz hv => PSs.ex (hsu a oe cls d pn hz hv))).imp fun De σ H ⟨sl, tm, s, h⟩ => ⟨sl, tm, s, ?_⟩
  unfold mTryF at h
  cases e : mb (den sl) with
  | ok o ρ => rw [e] at h; exact h
  | stuck => rw [e] at h; exact h
  | exc y ρ =>
    rw [e] at h
    simp only [] at h
    by_cases hdi : y.cls = "dict"
    · rw [if_pos hdi] at h; exact h.elim
    rw [if_neg hdi] at h
    intro H1 σ1 sl1 a0 dx s1 e1
    subst e1
    cases eb : exm y.cls Dn with
    | none => rw [eb] at h; exact h.elim
    | some b =>
      rw [eb] at h
      cases b with
      | false => exact h.elim
      | true =>
        refine ⟨hx _ _ eb, fun a na => ?_⟩
        simp only [] at h
        have k := s1.top
        simp only [T.ok] at k
        refine ⟨y, ⟨⟨rfl, fun hd => ?_, k.1⟩, eb⟩, sl1.set i none, tm, s1.into hi' hio hdi, ?_⟩
        · subst hd; exact k.2.1
        · rw [den_set]
          show Lands (g.sx i a dx y) _ tm (ms y ((den sl1).set i none)) _
          cases e2 : ms y ((den sl1).set i none) with
          | exc _ _ => rw [e2] at h; exact h.elim
          | stuck => rw [e2] at h; exact h.elim
          | ok o ρ =>
            rw [e2] at h
            cases o with
            | nx => exact fun H' σ' sl' s' e' => h H' _ (sl'.set i none) (s'.outof.unslot hio none) (by rw [den_set, e']; rfl)
            | brk => exact fun H' σ' sl' s' e' => h H' _ (sl'.set i none) (s'.outof.unslot hio none) (by rw [den_set, e']; rfl)
            | ct => exact fun H' σ' sl' s' e' => h H' _ (sl'.set i none) (s'.outof.unslot hio none) (by rw [den_set, e']; rfl)
            | ret d => exact fun H' σ' sl' t s' e' ed => h H' _ (sl'.set i none) t (s'.outof.unslot hio none) (by rw [den_set, e']; rfl) ed
end
end VS

namespace VS
open PySem PySem.Spec PySem.Builtin.Str PyProof L2
/-! ### find of one sign, rstrip of signs -/
def findM : D → D → Option Sc
  | .sc (.str a), .sc (.str [c]) => some (.int (if c ∈ a then ((idxC c a : Nat) : Int) else -1))
  | _, _ => none
@[simp] theorem findM_ (a : List Nat) (c : Nat) : findM (.str a) (.str [c]) = some (.int (if c ∈ a then ((idxC c a : Nat) : Int) else -1)) := rfl
theorem hs_find {g : Gh} : HM1 g findM (fun x xs H Q => ∃ a b, x = .str a ∧ xs = [.str b] ∧ Q (.int (Txt.find a b)) H) := fun H u1 u2 d Q k1 k2 h q => by
  unfold findM at h
  split at h
  · rename_i x y a c e1 e2
    cases h
    cases u1 with
    | sc z1 =>
      cases u2 with
      | sc z2 =>
        simp only [T.d, D.sc.injEq] at e1 e2
        subst e1 e2
        refine ⟨⟨a.toArray⟩, ⟨#[c]⟩, rfl, rfl, ?_⟩
        have e : Txt.find ⟨a.toArray⟩ ⟨#[c]⟩ = (if c ∈ a then ((idxC c a : Nat) : Int) else -1) := by
          unfold Txt.find
          by_cases hz : c ∈ a
          · obtain ⟨r, e⟩ := occ1 c a hz
            rw [e, if_pos hz]
          · rw [occ0 c a hz, if_neg hz]
        rw [e]
        exact q trivial
      | _ => simp [T.d] at e2
    | _ => simp [T.d] at e1
  · cases h
def rstripM : D → D → Option Sc
  | .sc (.str a), .sc (.str b) => some (.str (rdrop b.contains a))
  | _, _ => none
@[simp] theorem rstripM_ (a b : List Nat) : rstripM (.str a) (.str b) = some (.str (rdrop b.contains a)) := rfl
theorem rstrip_eq (a b : List Nat) : Txt.rstripChars ⟨a.toArray⟩ ⟨b.toArray⟩ = ⟨(rdrop b.contains a).toArray⟩ := by
  have e1 : stripLo b.contains false ⟨a.toArray⟩ = 0 := by simp [stripLo]
  have e2 : stripHi b.contains true ⟨a.toArray⟩ 0 = a.length - (a.reverse.takeWhile b.contains).length := by
    simp [stripHi, Str.length]
  have hs : Builtin.Str.strSub ⟨a.toArray⟩ 0 (a.length - (a.reverse.takeWhile b.contains).length) = ⟨(rdrop b.contains a).toArray⟩ := by
    refine str_eq ?_
    unfold Builtin.Str.strSub
    rw [← take_tw]
    simp
  unfold Txt.rstripChars Txt.stripBy
  rw [contains_arr]
  unfold stripSame stripped
  rw [e1, e2, hs]
  split
  · rename_i h
    rw [Bool.and_eq_true] at h
    have h2 : a.length - (a.reverse.takeWhile b.contains).length = a.length := by simpa [Str.length] using h.2
    rw [← hs, h2]
    refine (str_eq ?_).symm
    simp [Builtin.Str.strSub]
  · rfl
theorem rstrip_sub (p : Nat → Bool) (a : List Nat) : ∀ c ∈ rdrop p a, c ∈ a := fun c h => by
  unfold rdrop at h
  rw [List.mem_reverse] at h
  have := (List.dropWhile_sublist _).subset h
  rwa [List.mem_reverse] at this
theorem rstrip_len (p : Nat → Bool) (a : List Nat) : (rdrop p a).length ≤ a.length := by
  unfold rdrop
  have h1 := (List.dropWhile_sublist p (l := a.reverse)).length_le
  simp at h1 ⊢
  omega
theorem hs_rstrip {g : Gh} : HM1 g rstripM (fun x xs H Q => ∃ a b, x = .str a ∧ xs = [.str b] ∧ a.length ≤ sizeLine ∧ Q (.str (Txt.rstripChars a b)) H) := fun H u1 u2 c Q k1 k2 h q => by
  cases u1 with
  | sc x =>
    cases u2 with
    | sc y =>
      cases x <;> cases y <;> simp [T.d, rstripM] at h
      rename_i a b
      subst h
      simp only [T.ok] at k1
      refine ⟨_, _, rfl, rfl, ?_, ?_⟩
      · rw [sizeLine_eq]; simpa [Str.length] using k1.1
      · rw [rstrip_eq]
        exact q ⟨Nat.le_trans (rstrip_len _ a) k1.1, fun c hc => k1.2 c (rstrip_sub _ a c hc)⟩
    | _ => cases x <;> simp [T.d, rstripM] at h
  | _ => simp [T.d, rstripM] at h
/-! ### zip of two lists -/
section
variable {X : Cx} {g : Gh} {W : WX} {pos : Pos} {a b c e tg iter : Expr} {ma mb : Cm D}
def zipD (ds es : List D) : List D := List.zipWith (fun x y => D.tup [x, y]) ds es
theorem it_zip {K : PySem.W.Frag} (hK : K = g.c.K) {p q : Addr} {o o2 : Ow} {xs ys : List T} (hx : ∀ a, Ts.oc a xs = 0) (hy : ∀ a, Ts.oc a ys = 0) : ItOk g (Itz K p q) [T.lst q o2 ys, T.lst p o xs] (zipD (Ts.d xs) (Ts.d ys)) where
  stop := fun H σ sl tm s => by
    have k2 := lst_sq s.top
    have k1 := lst_sq s.pop.top
    refine ⟨_, _, by rw [hK]; exact k1.1, by rw [hK]; exact k2.1, ?_⟩
    simp only [zipD, List.length_zipWith, Ts.d_len, List.length_map]
    omega
  go := fun i d H σ sl tm s h => by
    have k2 := lst_sq s.top
    have k1 := lst_sq s.pop.top
    unfold zipD at h
    rw [List.getElem?_zipWith', Ts.d_map, Ts.d_map, List.getElem?_map, List.getElem?_map] at h
    cases h1 : xs[i]? with
    | none => rw [h1] at h; simp at h
    | some t =>
    cases h2 : ys[i]? with
    | none => rw [h1, h2] at h; simp at h
    | some u =>
    rw [h1, h2] at h
    simp at h
    subst h
    have m1 := List.mem_of_getElem? h1
    have m2 := List.mem_of_getElem? h2
    refine ⟨⟨_, _, t.v, u.v, by rw [hK]; exact k1.1, by rw [hK]; exact k2.1, by rw [List.getElem?_map, h1]; rfl, by rw [List.getElem?_map, h2]; rfl⟩, fun x H' hz => ?_⟩
    obtain ⟨T', x', y', rfl, hT, rfl, hz1, hz2⟩ := hz
    have e1 := hz1 _ (by rw [hK]; exact k1.1)
    rw [List.getElem?_map, h1] at e1
    obtain rfl : t.v = x' := Option.some.inj e1
    have e2 := hz2 _ (by rw [hK]; exact k2.1)
    rw [List.getElem?_map, h2] at e2
    obtain rfl : u.v = y' := Option.some.inj e2
    have s2 : SR g H σ sl (u :: ([T.lst q o2 ys, T.lst p o xs] ++ tm)) := s.dupK (tms := []) (Ts.ok_iff.mp k2.2.2 u m2) (fun a => by
      have h1 := Ts.oc_mem (a := a) m2; have := hy a; omega) (fun a => by
      have h1 := Ts.sh_mem (a := a) m2
      simp only [List.cons_append, List.nil_append, Ts.sh, T.sh]; omega)
    have s3 : SR g H σ sl (t :: u :: ([T.lst q o2 ys, T.lst p o xs] ++ tm)) := s2.dupK (tms := []) (Ts.ok_iff.mp k1.2.2 t m1) (fun a => by
      have h1 := Ts.oc_mem (a := a) m1; have := hx a; omega) (fun a => by
      have h1 := Ts.sh_mem (a := a) m1
      simp only [List.cons_append, List.nil_append, Ts.sh, T.sh]; omega)
    have ok : Ts.ok g.c H [t, u] := by
      have := s3.okT
      simp only [Ts.ok] at this ⊢
      exact ⟨this.1, this.2.1, trivial⟩
    have s4 : SR g H σ sl ([t, u] ++ ([T.lst q o2 ys, T.lst p o xs] ++ tm)) := s3
    exact ⟨_, s4.newT (ts := [t, u]) hT (by simp) ok (fun a => ⟨Nat.le_refl _, id⟩), rfl, rfl⟩
def mZip (ma mb : Cm D) : Cm (List D) := fun ρ => (ma ρ).bind fun d ρ => (mb ρ).bind fun e ρ => match d.fz, e.fz with
  | .lst _ ds, .lst _ es => .ok (zipD ds es) ρ
  | _, _ => .stuck
@[simp] theorem mZip_ {ρ : DE} : mZip ma mb ρ = (ma ρ).bind fun d ρ => (mb ρ).bind fun e ρ => match d.fz, e.fz with
  | .lst _ ds, .lst _ es => .ok (zipD ds es) ρ
  | _, _ => .stuck := rfl
theorem i_zip {elts : List Expr} {kk : Nat} {tpos p : Pos} (hK : X.K = g.c.K) (hg : Gl X "zip") (hm : X.mg "zip" = none) (ha : PA X [a, b] (tA g W [ma, mb]))
    (hs : starEach [a, b] X.env = (false, eval a X.env) :: starEach [b] X.env := by rfl) (hpl : (backTo pos (starEach [b] X.env)).any (·.1) = false := by rfl) :
    PI X (.Tuple elts kk tpos) (.Call (.Name "zip" p) [a, b] [] pos) (tI g W (mZip ma mb)) := (pi_zip hg hm ha hs hpl).imp fun σ H R ⟨sl, tm, s, q⟩ => by
  refine tA2 s q fun H' sl' t u s' h' => ?_
  rw [← T.fz_d, ← T.fz_d] at h'
  have s2 := s'.fz1
  have s3 : SR g H' σ sl' (u.fz :: t.fz :: tm) := s2.tmp (by have := s2.okT; simp only [Ts.ok] at this ⊢; exact ⟨this.1, T.fz_ok t this.2.1, this.2.2⟩) fun a => by
    have i := s2.inv a
    simp only [Ts.oc, Ts.sh, T.fz_oc, T.fz_sh] at i ⊢
    omega
  rw [← T.fz_v t, ← T.fz_v u]
  cases e : t.fz with
  | lst p o xs =>
    cases e2 : u.fz with
    | lst q2 o2 ys =>
      rw [e, e2] at h' s3
      refine ⟨p, q2, _, _, rfl, by rw [hK]; exact (lst_sq s3.pop.top).1, by rw [hK]; exact (lst_sq s3.top).1, h' H' sl' [_, _] _ s3 rfl (it_zip hK (fun a => ?_) (fun a => ?_))⟩
      · have := T.fz_oc a t
        rw [e] at this
        simp only [T.oc] at this
        omega
      · have := T.fz_oc a u
        rw [e2] at this
        simp only [T.oc] at this
        omega
    | _ => rw [e, e2] at h'; exact h'.elim
  | _ => rw [e] at h'; revert h'; cases u.fz <;> exact fun h' => h'.elim
/-! ### a list, or another -/
def mOrL (ma mb : Cm D) : Cm D := fun ρ => (ma ρ).bind fun d ρ => match d with
  | .lst o xs => if xs.isEmpty then mb ρ else .ok (.lst o xs) ρ
  | _ => .stuck
@[simp] theorem mOrL_ {ρ : DE} : mOrL ma mb ρ = (ma ρ).bind fun d ρ => match d with
  | .lst o xs => if xs.isEmpty then mb ρ else .ok (.lst o xs) ρ
  | _ => .stuck := rfl
theorem e_orL {rest : List Expr} (hK : X.K = g.c.K) (ha : PE X a (tE g W ma)) (hb : PE X (.BoolOp .Or (b :: rest) pos) (tE g W mb)) : PE X (.BoolOp .Or (a :: b :: rest) pos) (tE g W (mOrL ma mb)) := (pe_orT ha hb).imp fun σ H Q ⟨sl, tm, s, h⟩ => by
  refine tE.of s h fun H' sl' t s' h' => ?_
  cases t with
  | lst p o xs =>
    simp only [T.d] at h'
    have q := lst_sq s'.top
    cases k : (Ts.d xs).isEmpty with
    | true =>
      rw [k, if_pos rfl] at h'
      refine ⟨false, .inl ⟨_, by rw [hK]; exact q.1, ?_⟩, sl', tm, s'.pop, h'⟩
      cases xs with
      | nil => rfl
      | cons _ _ => simp [Ts.d] at k
    | false =>
      rw [k, if_neg Bool.false_ne_true] at h'
      refine ⟨true, .inl ⟨_, by rw [hK]; exact q.1, ?_⟩, h' H' sl' (.lst p o xs) s' rfl rfl⟩
      cases xs with
      | nil => simp [Ts.d] at k
      | cons _ _ => rfl
  | _ => exact h'.elim
end
end VS

/-! VS, part E: objects of the text's own classes: fields read and written, methods called. -/
namespace VS
open PySem PySem.Spec PyProof.Rows L2
theorem ofString_inj {a b : String} (h : Str.ofString a = Str.ofString b) : a = b := by
  rw [Str.ofString_eq_toList, Str.ofString_eq_toList] at h
  have h1 : a.toList.map Char.toNat = b.toList.map Char.toNat := by
    have := congrArg (fun s : Str => s.cps.toList) h
    simpa using this
  have h2 : a.toList = b.toList := (List.map_inj_right fun x y e => Char.toNat_inj.1 e).1 h1
  exact String.toList_inj.1 h2
/-- the place of a field -/
def fIx (f : String) : List String → Option Nat
  | [] => none
  | n :: ns => if n = f then some 0 else (fIx f ns).map (· + 1)
theorem fIx_lookup {f : String} {v : V} : ∀ {ns : List String} {vs : List V} {j : Nat}, fIx f ns = some j → vs[j]? = some v → (fieldsV ns vs).lookup (Str.ofString f) = some v
  | [], vs, j, h, _ => by cases h
  | n :: ns, [], j, h, hv => by simp at hv
  | n :: ns, u :: vs, j, h, hv => by
    unfold fIx at h
    have e : fieldsV (n :: ns) (u :: vs) = (Str.ofString n, u) :: fieldsV ns vs := rfl
    rw [e, List.lookup_cons]
    by_cases q : n = f
    · subst q
      rw [if_pos rfl] at h
      cases h
      simp at hv
      simp [hv]
    · rw [if_neg q] at h
      obtain ⟨k, hk, rfl⟩ := Option.map_eq_some_iff.1 h
      have : (Str.ofString f == Str.ofString n) = false := by
        rw [beq_eq_false_iff_ne]
        exact fun e => q (ofString_inj e).symm
      rw [this]
      exact fIx_lookup hk (by simpa using hv)
theorem fIx_none {f : String} : ∀ {ns : List String} {vs : List V}, fIx f ns = none → (fieldsV ns vs).lookup (Str.ofString f) = none
  | [], vs, h => by cases vs <;> rfl
  | n :: ns, [], h => rfl
  | n :: ns, u :: vs, h => by
    unfold fIx at h
    have e : fieldsV (n :: ns) (u :: vs) = (Str.ofString n, u) :: fieldsV ns vs := rfl
    rw [e, List.lookup_cons]
    by_cases q : n = f
    · rw [if_pos q] at h; cases h
    · rw [if_neg q, Option.map_eq_none_iff] at h
      have : (Str.ofString f == Str.ofString n) = false := by
        rw [beq_eq_false_iff_ne]
        exact fun e => q (ofString_inj e).symm
      rw [this]
      exact fIx_none h
theorem fIx_lt {f : String} : ∀ {ns : List String} {j : Nat}, fIx f ns = some j → j < ns.length
  | [], j, h => by cases h
  | n :: ns, j, h => by
    unfold fIx at h
    by_cases q : n = f
    · rw [if_pos q] at h; cases h; simp
    · rw [if_neg q] at h
      obtain ⟨k, hk, rfl⟩ := Option.map_eq_some_iff.1 h
      have := fIx_lt hk
      simp; omega
theorem fIx_put {f : String} {y : V} : ∀ {ns : List String} {vs : List V} {j : Nat}, fIx f ns = some j → ns.length = vs.length → putF (Str.ofString f) y (fieldsV ns vs) = fieldsV ns (vs.set j y)
  | [], vs, j, h, _ => by cases h
  | n :: ns, [], j, h, hl => by simp at hl
  | n :: ns, u :: vs, j, h, hl => by
    unfold fIx at h
    have e : fieldsV (n :: ns) (u :: vs) = (Str.ofString n, u) :: fieldsV ns vs := rfl
    rw [e]
    unfold putF
    by_cases q : n = f
    · subst q
      rw [if_pos rfl] at h
      cases h
      rw [if_pos rfl]
      rfl
    · rw [if_neg q] at h
      obtain ⟨k, hk, rfl⟩ := Option.map_eq_some_iff.1 h
      rw [if_neg fun e => q (ofString_inj e), fIx_put hk (by simpa using hl)]
      rfl
theorem fIx_new {f : String} {y : V} : ∀ {ns : List String} {vs : List V}, fIx f ns = none → ns.length = vs.length → putF (Str.ofString f) y (fieldsV ns vs) = fieldsV (ns ++ [f]) (vs ++ [y])
  | [], vs, h, hl => by
    cases vs with
    | nil => rfl
    | cons u vs => simp at hl
  | n :: ns, [], h, hl => by simp at hl
  | n :: ns, u :: vs, h, hl => by
    unfold fIx at h
    have e : fieldsV (n :: ns) (u :: vs) = (Str.ofString n, u) :: fieldsV ns vs := rfl
    rw [e]
    unfold putF
    by_cases q : n = f
    · rw [if_pos q] at h; cases h
    · rw [if_neg q, Option.map_eq_none_iff] at h
      rw [if_neg fun e => q (ofString_inj e), fIx_new h (by simpa using hl)]
      rfl
section
variable {g : Gh}
/-- an address that a slot's tree owns is written: the tree is another -/
theorem SR.writeS {H : Hp} {σ : L2.St} {sl : List (Option T)} {tm es : List T} {i : Nat} {t t' : T} {p : Addr} {o : HO} (s : SR g H σ sl (es ++ tm)) (h : sl[i]? = some (some t)) (hp : 0 < t.oc p) (hv : t'.v = t.v) (hk : t'.ok g.c (upd H p o))
    (ho : ∀ a, t'.oc a ≤ t.oc a + Ts.oc a es) (hs : ∀ a, 0 < t'.sh a → 0 < t.sh a + Ts.sh a es) : SR g (upd H p o) σ (sl.set i (some t')) tm := by
  have hmem := s.slot h
  have g1 := So_get (f := T.oc p) hmem
  have g1s := So_get (f := T.sh p) hmem
  have iv := s.inv p
  rw [Ts.oc_append, Ts.sh_append] at iv
  have c1 : ∀ a, So (T.oc a) (sl.set i (some t')) + t.oc a = So (T.oc a) sl + t'.oc a := fun a => by
    have := So_set (f := T.oc a) (x := some t') h
    simpa [fO] using this
  have c2 : ∀ a, So (T.sh a) (sl.set i (some t')) + t.sh a = So (T.sh a) sl + t'.sh a := fun a => by
    have := So_set (f := T.sh a) (x := some t') h
    simpa [fO] using this
  refine s.go (fun u m => ?_) ?_ (fun a => .inl ?_) (fun a => ?_) s.len (by simp [s.slen]) (fun j u hj => ?_) s.io
  · obtain ⟨j, hj⟩ := mem_get m
    rcases set_get hj with ⟨rfl, e'⟩ | ⟨ne, e'⟩
    · cases e'; exact hk
    · have e := List.mem_of_getElem? e'
      refine T.stay u (s.okS u e) fun a q => upd_ne fun ea => ?_
      subst ea
      have d0 := So_set (f := T.oc a) (x := none) h
      have d1 := So_get (f := T.oc a) (sl := sl.set i none) (t := u) (List.mem_of_getElem? (i := j) (by rw [List.getElem?_set_ne (Ne.symm ne)]; exact e'))
      have d2 := So_get (f := T.sh a) e
      simp only [fO] at d0
      omega
  · have kt := s.okT
    rw [Ts.ok_iff] at kt ⊢
    intro u m
    refine T.stay u (kt u (List.mem_append_right _ m)) fun a q => upd_ne fun ea => ?_
    subst ea
    have h1 := Ts.oc_mem (a := a) m; have h2 := Ts.sh_mem (a := a) m
    omega
  · have d1 := c1 a
    have d2 := c2 a
    have h1 := ho a
    have h2 := hs a
    have g2 := So_get (f := T.sh a) hmem
    have g3 := So_get (f := T.oc a) hmem
    rw [Ts.oc_append, Ts.sh_append]
    refine ⟨by omega, fun q => .inl ?_⟩
    omega
  · by_cases e : a = p
    · subst e
      refine .inr (.inr ?_)
      rw [Ts.oc_append]
      omega
    · exact .inl (upd_ne e)
  · rcases set_get hj with ⟨rfl, e⟩ | ⟨_, e⟩
    · cases e; rw [hv]; exact s.at_ _ _ h
    · exact s.at_ _ _ e
end

/-! ### what of the text a class must have -/
structure ClF (K : PySem.W.Frag) (C : Addr) : Prop where
  cl : Cls K C
section
variable {X : Cx} {g : Gh} {W : WX} {pos p apos : Pos} {a b e : Expr} {es : List Expr} {ma mb : Cm D} {as : List Ag} {y x : Str}
/-- an object in a slot -/
theorem obj_at {H : Hp} {σ : L2.St} {sl : List (Option T)} {tm : List T} {i : Nat} {o : Ow} {C : String} {ns : List String} {xs : List D} (s : SR g H σ sl tm) (h : (den sl)[i]? = some (some (.obj o C ns xs))) :
    ∃ q dx ts, sl[i]? = some (some (T.obj q dx o C ns ts)) ∧ Ts.d ts = xs ∧ H q = some (.ins (g.c.cls C) dx (fieldsV ns (ts.map T.v))) ∧ H dx = some (.own q) ∧ dx ≠ q ∧ ns.length = ts.length ∧ Ts.ok g.c H ts ∧ σ[i]? = some (some (.ref q)) := by
  obtain ⟨t, e1, e2, e4, e3⟩ := s.val h
  cases t with
  | obj q dx o' C' ns' ts =>
    simp only [T.d, D.obj.injEq] at e2
    obtain ⟨rfl, rfl, rfl, rfl⟩ := e2
    refine ⟨q, dx, ts, e1, rfl, ?_⟩
    cases o' <;> simp only [T.ok] at e4 <;> first | exact ⟨e4.1, e4.2.1, e4.2.2.1, e4.2.2.2.1, e4.2.2.2.2, e3⟩ | exact e4.elim
  | _ => simp [T.d] at e2
/-- self.f read; what is no scalar is held by two from now on -/
def mFld (i : Nat) (C f : String) : Cm D := fun ρ => match ρ[i]? with
  | some (some (.obj o C' ns xs)) => if C' = C then (match fIx f ns with
    | some j => match xs[j]? with
      | some d => if d.pur then .ok d ρ else .ok d.fz (ρ.set i (some (.obj o C ns (xs.set j d.fz))))
      | none => .stuck
    | none => .stuck) else .stuck
  | _ => .stuck
theorem Ts.d_at {ts : List T} {j : Nat} {d : D} (h : (Ts.d ts)[j]? = some d) : ∃ t, ts[j]? = some t ∧ t.d = d := by
  rw [Ts.d_map, List.getElem?_map, Option.map_eq_some_iff] at h
  exact h
theorem v_set_fz (ts : List T) (j : Nat) (t : T) (h : ts[j]? = some t) : (ts.set j t.fz).map T.v = ts.map T.v := by
  rw [List.map_set, T.fz_v]
  have e : (ts.map T.v)[j]? = some t.v := by rw [List.getElem?_map, h]; rfl
  obtain ⟨hl, e2⟩ := List.getElem?_eq_some_iff.1 e
  rw [← e2, List.set_getElem_self]
theorem SR.readF {H : Hp} {σ : L2.St} {sl : List (Option T)} {tm : List T} {i j : Nat} {q dx : Addr} {o : Ow} {C : String} {ns : List String} {ts : List T} {t : T} (s : SR g H σ sl tm) (h : sl[i]? = some (some (T.obj q dx o C ns ts))) (hj : ts[j]? = some t) :
    SR g H σ (sl.set i (some (T.obj q dx o C ns (ts.set j t.fz)))) (t.fz :: tm) := by
  have hm := s.slot h
  have k := s.okS _ hm
  have kt : t.ok g.c H := by
    cases o <;> simp only [T.ok] at k <;> first | exact Ts.ok_iff.mp k.2.2.2.2 t (List.mem_of_getElem? hj) | exact k.elim
  have so := fun a => Ts.oc_setE a t.fz ts j t hj
  have ss := fun a => Ts.sh_setE a t.fz ts j t hj
  have c1 : ∀ a, So (T.oc a) (sl.set i (some (T.obj q dx o C ns (ts.set j t.fz)))) + t.oc a = So (T.oc a) sl := fun a => by
    have := So_set (f := T.oc a) (x := some (T.obj q dx o C ns (ts.set j t.fz))) h
    have := so a
    simp only [fO, T.oc, T.fz_oc] at *
    omega
  have c2 : ∀ a, So (T.sh a) (sl.set i (some (T.obj q dx o C ns (ts.set j t.fz)))) = So (T.sh a) sl + t.oc a := fun a => by
    have := So_set (f := T.sh a) (x := some (T.obj q dx o C ns (ts.set j t.fz))) h
    have := ss a
    simp only [fO, T.sh, T.fz_sh] at *
    omega
  refine s.turn (fun u hu => ?_) ?_ (fun a => ?_) (by simp [s.slen]) fun j' u hu => ?_
  · rcases mem_set hu with e | e
    · cases e
      have kk : Ts.ok g.c H (ts.set j t.fz) := by
        have k2 : Ts.ok g.c H ts := by cases o <;> simp only [T.ok] at k <;> first | exact k.2.2.2.2 | exact k.elim
        rw [Ts.ok_iff] at k2 ⊢
        intro u m
        rcases List.mem_or_eq_of_mem_set m with m | m
        · exact k2 u m
        · subst m; exact T.fz_ok t kt
      cases o <;> simp only [T.ok] at k ⊢ <;> first | exact ⟨by rw [v_set_fz ts j t hj]; exact k.1, k.2.1, k.2.2.1, by simpa using k.2.2.2.1, kk⟩ | exact k.elim
    · exact s.okS u e
  · simp only [Ts.ok]; exact ⟨T.fz_ok t kt, s.okT⟩
  · have h1 := c1 a
    have h2 := c2 a
    have iv := s.inv a
    have z := So_get (f := T.oc a) hm
    have z2 := So_get (f := T.sh a) hm
    have m1 := Ts.oc_mem (a := a) (List.mem_of_getElem? hj)
    have m2 := Ts.sh_mem (a := a) (List.mem_of_getElem? hj)
    simp only [T.oc, T.sh] at z z2
    simp only [T.fz_oc, T.fz_sh, Ts.oc, Ts.sh]
    refine ⟨by omega, fun q => ?_⟩
    omega
  · rcases set_get hu with ⟨rfl, e⟩ | ⟨_, e⟩
    · cases e; have := s.at_ _ _ h; simpa [T.v] using this
    · exact s.at_ _ _ e
theorem SR.dupF {H : Hp} {σ : L2.St} {sl : List (Option T)} {tm : List T} {i j : Nat} {q dx : Addr} {o : Ow} {C : String} {ns : List String} {ts : List T} {t : T} (s : SR g H σ sl tm) (h : sl[i]? = some (some (T.obj q dx o C ns ts))) (hj : ts[j]? = some t) (hp : t.d.pur = true) :
    SR g H σ sl (t :: tm) := by
  have k := s.okS _ (s.slot h)
  have k2 : Ts.ok g.c H ts := by cases o <;> simp only [T.ok] at k <;> first | exact k.2.2.2.2 | exact k.elim
  refine s.dup h (Ts.ok_iff.mp k2 t (List.mem_of_getElem? hj)) (fun a => T.pur_oc a t hp) fun a => ?_
  have := Ts.sh_mem (a := a) (List.mem_of_getElem? hj)
  simp only [T.sh]
  omega
theorem e_fld {i : Nat} {C f : String} (cl : Cls X.K (g.c.cls C)) (na : NoAttr X.K (g.c.cls C) (Str.ofString f)) (hp : PE X (.Attribute e (Str.ofString f) pos) (tFld X.K (tVar i) (Str.ofString f))) : PE X (.Attribute e (Str.ofString f) pos) (tE g W (mFld i C f)) := hp.imp fun σ H Q ⟨sl, tm, s, h⟩ => by
  unfold mFld at h
  split at h
  · rename_i o C' ns xs e0
    split at h
    · rename_i hC
      subst hC
      split at h
      · rename_i j hj
        split at h
        · rename_i d hd
          obtain ⟨q, dx, ts, g1, rfl, g3, g4, g5, g6, g7, g8⟩ := obj_at s e0
          obtain ⟨t, ht, rfl⟩ := Ts.d_at hd
          have lk : (fieldsV ns (ts.map T.v)).lookup (Str.ofString f) = some t.v := fIx_lookup hj (by rw [List.getElem?_map, ht]; rfl)
          refine ⟨.ref q, g8, q, _, dx, _, t.v, rfl, g3, cl, na, lk, ?_⟩
          split at h
          · rename_i hpu
            exact h H sl t (s.dupF g1 ht hpu) rfl rfl
          · have := h H _ t.fz (s.readF g1 ht) (by rw [den_set]; simp [T.d, Ts.d_set, T.fz_d]) (T.fz_d t)
            rwa [T.fz_v] at this
        · exact h.elim
      · exact h.elim
    · exact h.elim
  · exact h.elim
/-- the object goes, a field of it stays: return x.f -/
def mFldM (i : Nat) (C f : String) : Cm D := fun ρ => match ρ[i]? with
  | some (some (.obj _ C' ns xs)) => if C' = C then (match fIx f ns with
    | some j => match xs[j]? with
      | some d => .ok d (ρ.set i none)
      | none => .stuck
    | none => .stuck) else .stuck
  | _ => .stuck
theorem e_fldM {i : Nat} {C f : String} (cl : Cls X.K (g.c.cls C)) (na : NoAttr X.K (g.c.cls C) (Str.ofString f)) (hp : PE X (.Attribute e (Str.ofString f) pos) (tFld X.K (tVar i) (Str.ofString f))) : PE X (.Attribute e (Str.ofString f) pos) (tE g W (mFldM i C f)) := hp.imp fun σ H Q ⟨sl, tm, s, h⟩ => by
  unfold mFldM at h
  split at h
  · rename_i o C' ns xs e0
    split at h
    · rename_i hC
      subst hC
      split at h
      · rename_i j hj
        split at h
        · rename_i d hd
          obtain ⟨q, dx, ts, g1, rfl, g3, g4, g5, g6, g7, g8⟩ := obj_at s e0
          obtain ⟨t, ht, rfl⟩ := Ts.d_at hd
          have lk : (fieldsV ns (ts.map T.v)).lookup (Str.ofString f) = some t.v := fIx_lookup hj (by rw [List.getElem?_map, ht]; rfl)
          refine ⟨.ref q, g8, q, _, dx, _, t.v, rfl, g3, cl, na, lk, ?_⟩
          have kt := Ts.ok_iff.mp g7 t (List.mem_of_getElem? ht)
          exact h H _ t ((s.move g1).part kt fun a => by
            have m1 := Ts.oc_mem (a := a) (List.mem_of_getElem? ht)
            have m2 := Ts.sh_mem (a := a) (List.mem_of_getElem? ht)
            simp only [T.oc, T.sh]
            omega) (by rw [den_set]; rfl) rfl
        · exact h.elim
      · exact h.elim
    · exact h.elim
  · exact h.elim
/-- a built-in of a field that is only looked at: len(self.f) -/
def mP1F (f : D → Option Sc) (i : Nat) (C nm : String) : Cm D := fun ρ => match ρ[i]? with
  | some (some (.obj _ C' ns xs)) => if C' = C then (match fIx nm ns with
    | some j => match xs[j]? with
      | some d => (lift (f d) ρ).bind fun s ρ => .ok (.sc s) ρ
      | none => .stuck
    | none => .stuck) else .stuck
  | _ => .stuck
theorem e_b1F {id : String} {f : D → Option Sc} {r : List V → Hp → VK → Prop} {i : Nat} {C nm : String} (cl : Cls X.K (g.c.cls C)) (na : NoAttr X.K (g.c.cls C) (Str.ofString nm)) (hc : CallR X (.builtin id) r) (hr : HR1 g f r) (hg : Gl X x) (hm : X.mg x = none) (hv : bootBuiltins x = some (.builtin id))
    (hp : PE X a (tFld X.K (tVar i) (Str.ofString nm))) (hn : x ≠ "__name__" := by decide) (hdb : (x == ("__debug__" : Str)) = false := by decide)
    (he : starEach (a :: []) X.env = (false, eval a X.env) :: starEach [] X.env := by rfl) : PE X (.Call (.Name x p) [a] [] pos) (tE g W (mP1F f i C nm)) :=
  (pe_callB hc hg hm hv (pa_cons hp pa_nil he) hn hdb he rfl).imp fun σ H Q ⟨sl, tm, s, h⟩ => by
    unfold mP1F at h
    split at h
    · rename_i o C' ns xs e0
      split at h
      · rename_i hC
        subst hC
        split at h
        · rename_i j hj
          split at h
          · rename_i d hd
            obtain ⟨q, dx, ts, g1, rfl, g3, g4, g5, g6, g7, g8⟩ := obj_at s e0
            obtain ⟨t, ht, rfl⟩ := Ts.d_at hd
            have lk : (fieldsV ns (ts.map T.v)).lookup (Str.ofString nm) = some t.v := fIx_lookup hj (by rw [List.getElem?_map, ht]; rfl)
            refine ⟨.ref q, g8, q, _, dx, _, t.v, rfl, g3, cl, na, lk, ?_⟩
            have kt := Ts.ok_iff.mp g7 t (List.mem_of_getElem? ht)
            cases q : f t.d with
            | none => rw [q] at h; exact h.elim
            | some c =>
              rw [q] at h
              exact hr H t c Q kt q fun gc => h H sl (.sc c) (s.push c gc) rfl rfl
          · exact h.elim
        · exact h.elim
      · exact h.elim
    · exact h.elim
end
end VS


namespace VS
open PySem PySem.Spec PyProof.Rows L2
section
variable {X : Cx} {g : Gh} {W : WX} {pos p apos : Pos} {a b e o : Expr} {es : List Expr} {ma mb : Cm D} {as : List Ag} {y x : Str}
/-- a field is written -/
theorem SR.writeF {H : Hp} {σ : L2.St} {sl : List (Option T)} {tm es : List T} {i : Nat} {q dx : Addr} {C : String} {ns ns' : List String} {ts zs : List T} (s : SR g H σ sl (es ++ tm)) (h : sl[i]? = some (some (T.obj q dx .own C ns ts)))
    (hl : ns'.length = zs.length) (hk : Ts.ok g.c H zs) (ho : ∀ a, Ts.oc a zs ≤ Ts.oc a ts + Ts.oc a es) (hs : ∀ a, 0 < Ts.sh a zs → 0 < Ts.sh a ts + Ts.sh a es) :
    SR g (upd H q (.ins (g.c.cls C) dx (fieldsV ns' (zs.map T.v)))) σ (sl.set i (some (T.obj q dx .own C ns' zs))) tm := by
  have k := s.okS _ (s.slot h)
  simp only [T.ok] at k
  have b1 : b2 (True ∧ True) = 1 := by simp [b2]
  have g1 := So_get (f := T.oc q) (s.slot h)
  have g2 := So_get (f := T.sh q) (s.slot h)
  have iv := s.inv q
  rw [Ts.oc_append, Ts.sh_append] at iv
  simp only [T.oc, T.sh] at g1 g2
  rw [b1] at g1
  have h1 := ho q
  have h2 := hs q
  have k0 : Ts.oc q zs = 0 ∧ Ts.sh q zs = 0 := by omega
  refine s.writeS h (by simp only [T.oc]; rw [b1]; omega) (by simp [T.v]) ?_ (fun a => ?_) fun a => ?_
  · simp only [T.ok]
    refine ⟨upd_same, by rw [upd_ne k.2.2.1]; exact k.2.1, k.2.2.1, hl, Ts.stay zs hk fun a c => upd_ne fun e => by subst e; omega⟩
  · have := ho a
    simp only [T.oc]
    omega
  · have := hs a
    simp only [T.sh]
    omega
/-- a field's list is written -/
theorem SR.writeFL {H : Hp} {σ : L2.St} {sl : List (Option T)} {tm es : List T} {i j : Nat} {q dx r : Addr} {C : String} {ns : List String} {ts xs zs : List T} (s : SR g H σ sl (es ++ tm)) (h : sl[i]? = some (some (T.obj q dx .own C ns ts))) (hj : ts[j]? = some (T.lst r .own xs))
    (hz : zs.length ≤ 16777216) (hk : Ts.ok g.c H zs) (ho : ∀ a, Ts.oc a zs ≤ Ts.oc a xs + Ts.oc a es) (hs : ∀ a, 0 < Ts.sh a zs → 0 < Ts.sh a xs + Ts.sh a es) :
    SR g (upd H r (.lst (zs.map T.v))) σ (sl.set i (some (T.obj q dx .own C ns (ts.set j (T.lst r .own zs))))) tm := by
  have k := s.okS _ (s.slot h)
  simp only [T.ok] at k
  have kj := Ts.ok_iff.mp k.2.2.2.2 _ (List.mem_of_getElem? hj)
  simp only [T.ok] at kj
  have g1 := So_get (f := T.oc r) (s.slot h)
  have g2 := So_get (f := T.sh r) (s.slot h)
  have iv := s.inv r
  rw [Ts.oc_append, Ts.sh_append] at iv
  simp only [T.oc, T.sh] at g1 g2
  have xo : ∀ a, b2 (Ow.own = Ow.own ∧ r = a) + Ts.oc a xs ≤ Ts.oc a ts := fun a => by
    have := Ts.oc_mem (a := a) (List.mem_of_getElem? hj)
    simpa [T.oc] using this
  have xs_ : ∀ a, Ts.sh a xs ≤ Ts.sh a ts := fun a => by
    have := Ts.sh_mem (a := a) (List.mem_of_getElem? hj)
    simp only [T.sh] at this
    omega
  have so := fun a => Ts.oc_setE a (T.lst r .own zs) ts j _ hj
  have ss := fun a => Ts.sh_setE a (T.lst r .own zs) ts j _ hj
  simp only [T.oc, T.sh] at so ss
  have xr := xo r
  rw [show b2 (Ow.own = Ow.own ∧ r = r) = 1 from by simp [b2]] at xr
  have h1 := ho r
  have h2 := hs r
  have x2 := xs_ r
  have k0 : Ts.oc r zs = 0 ∧ Ts.sh r zs = 0 ∧ Ts.oc r ts = 1 ∧ Ts.sh r ts = 0 := by omega
  have hq : q ≠ r := fun e => by have := k.1; rw [e, kj.1] at this; cases this
  have hd : dx ≠ r := fun e => by have := k.2.1; rw [e, kj.1] at this; cases this
  refine s.writeS h (by simp only [T.oc]; omega) (by simp [T.v]) ?_ (fun a => ?_) fun a => ?_
  · simp only [T.ok]
    refine ⟨?_, by rw [upd_ne hd]; exact k.2.1, k.2.2.1, by simpa using k.2.2.2.1, ?_⟩
    · rw [upd_ne hq, k.1, List.map_set]
      congr 3
      have e2 : (ts.map T.v)[j]? = some (T.lst r .own xs).v := by rw [List.getElem?_map, hj]; rfl
      obtain ⟨hl, e3⟩ := List.getElem?_eq_some_iff.1 e2
      exact ((List.set_getElem_self hl).symm.trans (by rw [e3]; rfl))
    · rw [Ts.ok_iff]
      intro t m
      obtain ⟨n, hn⟩ := mem_get m
      rcases set_get hn with ⟨rfl, e'⟩ | ⟨ne, e'⟩
      · subst e'
        simp only [T.ok]
        exact ⟨upd_same, hz, Ts.stay zs hk fun a c => upd_ne fun e => by subst e; omega⟩
      · refine T.stay t (Ts.ok_iff.mp k.2.2.2.2 t (List.mem_of_getElem? e')) fun a c => upd_ne fun ea => ?_
        subst ea
        have d0 := Ts.oc_setE a (T.sc .non) ts j _ hj
        have d1 := Ts.oc_mem (a := a) (ts := ts.set j (T.sc .non)) (t := t) (List.mem_of_getElem? (i := n) (by rw [List.getElem?_set_ne (Ne.symm ne)]; exact e'))
        have d2 := Ts.sh_mem (a := a) (List.mem_of_getElem? e')
        simp only [T.oc] at d0
        rw [show b2 (True ∧ True) = 1 by simp [b2]] at d0
        omega
  · have := ho a
    have := so a
    have := xo a
    simp only [T.oc]
    omega
  · have := hs a
    have := ss a
    have := xs_ a
    simp only [T.sh]
    omega
/-- self.f = e -/
def mSetF (i : Nat) (C f : String) (m : Cm D) : Cm Out := fun ρ => (m ρ).bind fun d ρ => match ρ[i]? with
  | some (some (.obj .own C' ns xs)) => if C' = C ∧ ns.length < 1000 then (match fIx f ns with
    | some j => .ok .nx (ρ.set i (some (.obj .own C ns (xs.set j d))))
    | none => .ok .nx (ρ.set i (some (.obj .own C (ns ++ [f]) (xs ++ [d]))))) else .stuck
  | _ => .stuck
theorem fieldsV_len (ns : List String) (vs : List V) : (fieldsV ns vs).length ≤ ns.length := by
  unfold fieldsV
  simp
  omega
theorem s_setF {i : Nat} {C f : String} {pos' : Pos} (cl : Cls X.K (g.c.cls C)) (na : NoAttr X.K (g.c.cls C) (Str.ofString f)) (hp : PS X (.Assign [.Attribute o (Str.ofString f) pos'] e pos) (sFld X.K (tVar i) (tE g W ma) (Str.ofString f))) : PS X (.Assign [.Attribute o (Str.ofString f) pos'] e pos) (tS g W (mSetF i C f ma)) :=
  hp.imp fun De σ H ⟨sl, tm, s, h⟩ => by
    unfold mSetF at h
    refine tE.of s h fun H1 sl1 t s1 h1 => ?_
    split at h1
    · rename_i C' ns xs e0
      split at h1
      · rename_i hC
        obtain ⟨rfl, hn⟩ := hC
        obtain ⟨q, dx, ts, g1, rfl, g3, g4, g5, g6, g7, g8⟩ := obj_at s1 e0
        have kt := s1.top
        refine ⟨.ref q, g8, q, _, dx, _, rfl, g3, cl, na, Nat.lt_of_le_of_lt (fieldsV_len _ _) hn, ?_⟩
        have s1' : SR g H1 σ sl1 ([t] ++ tm) := s1
        split at h1
        · rename_i j hj
          have w := s1'.writeF (ns' := ns) (zs := ts.set j t) g1 (by simpa using g6) (by
              rw [Ts.ok_iff] at g7 ⊢
              intro u m
              rcases List.mem_or_eq_of_mem_set m with m | m
              · exact g7 u m
              · subst m; exact kt) (fun a => by have := Ts.oc_set a t ts j; simp only [Ts.oc]; omega) (fun a => by have := Ts.sh_set a t ts j; simp only [Ts.sh]; omega)
          rw [fIx_put hj (by simpa using g6)]
          rw [List.map_set] at w
          exact h1 _ _ _ w (by rw [den_set]; simp [T.d, Ts.d_set])
        · rename_i hj
          have w := s1'.writeF (ns' := ns ++ [f]) (zs := ts ++ [t]) g1 (by simpa using g6) (by
              rw [Ts.ok_iff] at g7 ⊢
              intro u m
              rcases List.mem_append.1 m with m | m
              · exact g7 u m
              · have e := List.mem_singleton.mp m; subst e; exact kt) (fun a => by simp [Ts.oc_append, Ts.oc]) (fun a => by simp [Ts.sh_append, Ts.sh])
          rw [fIx_new hj (by simpa using g6)]
          rw [List.map_append] at w
          exact h1 _ _ _ w (by rw [den_set]; simp [T.d, Ts.d_append, Ts.d])
      · exact h1.elim
    · exact h1.elim
/-- self.f += e, self.f -= e of numbers -/
def mAugF (i : Nat) (C f : String) (op : Int → Int → Int) (m : Cm D) : Cm Out := fun ρ => match ρ[i]? with
  | some (some (.obj _ C' ns xs)) => if C' = C then (match fIx f ns with
    | some j => match xs[j]? with
      | some (.sc (.int u)) => (m ρ).bind fun d ρ => match d, ρ[i]? with
        | .sc (.int v), some (some (.obj .own C2 ns2 xs2)) => if C2 = C ∧ ns2.length < 1000 then (match fIx f ns2 with
          | some j2 => .ok .nx (ρ.set i (some (.obj .own C ns2 (xs2.set j2 (.int (op u v))))))
          | none => .stuck) else .stuck
        | _, _ => .stuck
      | _ => .stuck
    | none => .stuck) else .stuck
  | _ => .stuck
theorem s_augF {i : Nat} {C f : String} {op : Int → Int → Int} {O : Operator} {tpos : Pos} (cl : Cls X.K (g.c.cls C)) (na : NoAttr X.K (g.c.cls C) (Str.ofString f)) (hp : PS X (.AugAssign (.Attribute o (Str.ofString f) tpos) O e pos) (sFldAug X.K (tVar i) (tE g W ma) (fun x y H Q => ∃ i j, x = .int i ∧ y = .int j ∧ Q (.int (op i j)) H) (Str.ofString f))) :
    PS X (.AugAssign (.Attribute o (Str.ofString f) tpos) O e pos) (tS g W (mAugF i C f op ma)) := hp.imp fun De σ H ⟨sl, tm, s, h⟩ => by
  unfold mAugF at h
  split at h
  · rename_i o0 C' ns xs e0
    split at h
    · rename_i hC
      subst hC
      split at h
      · rename_i j hj
        split at h
        · rename_i u hd
          obtain ⟨q, dx, ts, g1, rfl, g3, g4, g5, g6, g7, g8⟩ := obj_at s e0
          obtain ⟨t, ht, htd⟩ := Ts.d_at hd
          have htv : t.v = .int u := by
            cases t with
            | sc z => simp only [T.d, D.sc.injEq] at htd; subst htd; rfl
            | _ => simp [T.d] at htd
          have lk : (fieldsV ns (ts.map T.v)).lookup (Str.ofString f) = some t.v := fIx_lookup hj (by rw [List.getElem?_map, ht]; rfl)
          refine ⟨.ref q, g8, q, _, dx, _, t.v, rfl, g3, cl, na, lk, ?_⟩
          refine tE.of s h fun H1 sl1 t1 s1 h1 => ?_
          split at h1
          · rename_i v C2 ns2 xs2 ed e1
            split at h1
            · rename_i hC2
              obtain ⟨rfl, hn⟩ := hC2
              split at h1
              · rename_i j2 hj2
                have htv1 : t1.v = .int v := by
                  cases t1 with
                  | sc z => simp only [T.d, D.sc.injEq] at ed; subst ed; rfl
                  | _ => simp [T.d] at ed
                obtain ⟨q2, dx2, ts2, k1, rfl, k3, k4, k5, k6, k7, k8⟩ := obj_at s1 e1
                have eq : q2 = q := by rw [k8] at g8; cases g8; rfl
                subst eq
                refine ⟨u, v, htv, htv1, dx2, _, k3, Nat.lt_of_le_of_lt (fieldsV_len _ _) hn, ?_⟩
                have s2 : SR g H1 σ sl1 ([] ++ tm) := s1.pop
                have w := s2.writeF (ns' := ns2) (zs := ts2.set j2 (.sc (.int (op u v)))) k1 (by simpa using k6) (by
                    rw [Ts.ok_iff] at k7 ⊢
                    intro z m
                    rcases List.mem_or_eq_of_mem_set m with m | m
                    · exact k7 z m
                    · subst m; simp [T.ok, Sc.good]) (fun a => by have := Ts.oc_set a (.sc (.int (op u v))) ts2 j2; simp only [T.oc, Ts.oc] at *; omega) (fun a => by have := Ts.sh_set a (.sc (.int (op u v))) ts2 j2; simp only [T.sh, Ts.sh] at *; omega)
                rw [fIx_put hj2 (by simpa using k6)]
                rw [List.map_set] at w
                exact h1 _ _ _ w (by rw [den_set]; simp [T.d, Ts.d_set])
              · exact h1.elim
            · exact h1.elim
          · exact h1.elim
        · exact h.elim
      · exact h.elim
    · exact h.elim
  · exact h.elim
end
end VS

namespace VS
open PySem PySem.Spec PyProof.Rows L2
section
variable {X : Cx} {g : Gh} {W : WX} {pos p apos : Pos} {a b e o : Expr} {es : List Expr} {ma mb : Cm D} {as : List Ag} {y x : Str}
/-- self.f.append(e), self.f.extend(e); e does not look at the object -/
def mAppF (i : Nat) (C f : String) (ma : Cm D) : Cm D := fun ρ => match ρ[i]? with
  | some (some (.obj .own C' ns xs)) => if C' = C then (match fIx f ns with
    | some j => match xs[j]? with
      | some (.lst .own ys) => (ma (ρ.set i none)).bind fun d ρ => match ρ[i]? with
        | some none => if ys.length < 16777216 then .ok .non (ρ.set i (some (.obj .own C ns (xs.set j (.lst .own (ys ++ [d])))))) else .stuck
        | _ => .stuck
      | _ => .stuck
    | none => .stuck) else .stuck
  | _ => .stuck
def mExtF (i : Nat) (C f : String) (ma : Cm D) : Cm D := fun ρ => match ρ[i]? with
  | some (some (.obj .own C' ns xs)) => if C' = C then (match fIx f ns with
    | some j => match xs[j]? with
      | some (.lst .own ys) => (ma (ρ.set i none)).bind fun d ρ => match ρ[i]?, d with
        | some none, .lst o zs => if (o = .own ∨ o = .shr) ∧ ys.length + zs.length ≤ 16777216 then .ok .non (ρ.set i (some (.obj .own C ns (xs.set j (.lst .own (ys ++ zs)))))) else .stuck
        | _, _ => .stuck
      | _ => .stuck
    | none => .stuck) else .stuck
  | _ => .stuck
/-- the field's list, the object hidden -/
theorem own_fld {H : Hp} {σ : L2.St} {sl : List (Option T)} {tm : List T} {i j : Nat} {C f : String} {ns : List String} {xs ys : List D} (s : SR g H σ sl tm) (h : (den sl)[i]? = some (some (.obj .own C ns xs))) (hj : fIx f ns = some j) (hd : xs[j]? = some (.lst .own ys)) :
    ∃ q dx ts r us, Ts.d ts = xs ∧ Ts.d us = ys ∧ ts[j]? = some (T.lst r .own us) ∧ sl[i]? = some (some (T.obj q dx .own C ns ts)) ∧ σ[i]? = some (some (.ref q)) ∧ H q = some (.ins (g.c.cls C) dx (fieldsV ns (ts.map T.v))) ∧
      (fieldsV ns (ts.map T.v)).lookup (Str.ofString f) = some (.ref r) ∧ H r = some (.lst (us.map T.v)) ∧ SR g H σ (sl.set i none) (T.obj q dx .own C ns ts :: tm) := by
  obtain ⟨q, dx, ts, g1, rfl, g3, g4, g5, g6, g7, g8⟩ := obj_at s h
  obtain ⟨t, ht, htd⟩ := Ts.d_at hd
  cases t with
  | lst r o' us =>
    simp only [T.d, D.lst.injEq] at htd
    obtain ⟨rfl, rfl⟩ := htd
    have kt := Ts.ok_iff.mp g7 _ (List.mem_of_getElem? ht)
    simp only [T.ok] at kt
    have lk : (fieldsV ns (ts.map T.v)).lookup (Str.ofString f) = some (T.lst r .own us).v := fIx_lookup hj (by rw [List.getElem?_map, ht]; rfl)
    exact ⟨q, dx, ts, r, us, rfl, rfl, ht, g1, g8, g3, lk, kt.1, s.move g1⟩
  | _ => simp [T.d] at htd
theorem swap_top {H : Hp} {σ : L2.St} {sl : List (Option T)} {tm : List T} {t u : T} (s : SR g H σ sl (t :: u :: tm)) : SR g H σ sl (u :: t :: tm) := s.tmp (by
  have := s.okT
  simp only [Ts.ok] at this ⊢
  exact ⟨this.2.1, this.1, this.2.2⟩) fun a => by simp only [Ts.oc, Ts.sh]; omega
theorem none_at {sl : List (Option T)} {i : Nat} (h : (den sl)[i]? = some none) : sl[i]? = some none := by
  unfold den at h
  rw [List.getElem?_map] at h
  cases q : sl[i]? with
  | none => rw [q] at h; cases h
  | some o =>
    cases o with
    | none => rfl
    | some t => rw [q] at h; simp at h
theorem set_set_none {α : Type} (l : List α) (i : Nat) (x y : α) : (l.set i x).set i y = l.set i y := by simp
theorem e_appF {i : Nat} {C f : String} (cl : Cls X.K (g.c.cls C)) (na : NoAttr X.K (g.c.cls C) (Str.ofString f)) (hK : X.K = g.c.K) (hp : PE X (.Call (.Attribute e "append" apos) [a] [] pos) (tBM X.K "list" rAppend (tFld X.K (tVar i) (Str.ofString f)) (tA g W [ma]))) : PE X (.Call (.Attribute e "append" apos) [a] [] pos) (tE g W (mAppF i C f ma)) :=
  hp.imp fun σ H Q ⟨sl, tm, s, h⟩ => by
    unfold mAppF at h
    split at h
    · rename_i C' ns xs e0
      split at h
      · rename_i hC
        subst hC
        split at h
        · rename_i j hj
          split at h
          · rename_i ys hd
            obtain ⟨q, dx, ts, r, us, rfl, rfl, ht, g1, g8, g3, lk, hr, s1⟩ := own_fld s e0 hj hd
            have kl : T.ok g.c H (T.lst r .own us) := by
              have k := s.okS _ (s.slot g1)
              simp only [T.ok] at k
              exact Ts.ok_iff.mp k.2.2.2.2 _ (List.mem_of_getElem? ht)
            refine ⟨.ref q, g8, q, _, dx, _, .ref r, rfl, g3, cl, na, lk, .inl ⟨rfl, _, by rw [hK]; exact (lst_sq kl).1⟩, ?_⟩
            have e2 : den (sl.set i none) = (den sl).set i none := den_set sl i none
            rw [← e2] at h
            refine tA1 s1 (Lands.drop h) fun H1 sl1 t s2 h1 => ?_
            split at h1
            · rename_i en
              split at h1
              · rename_i hz
                rw [Ts.d_len] at hz
                have s3 := (swap_top s2).back (i := i) (by simpa [T.v] using g8) (none_at en)
                have nl : i < sl1.length := by
                  have := none_at en
                  exact (List.getElem?_eq_some_iff.1 this).1
                have gi : (sl1.set i (some (T.obj q dx .own C' ns ts)))[i]? = some (some (T.obj q dx .own C' ns ts)) := List.getElem?_set_self nl
                have k3 := s3.okS _ (s3.slot gi)
                simp only [T.ok] at k3
                have kr := Ts.ok_iff.mp k3.2.2.2.2 _ (List.mem_of_getElem? ht)
                simp only [T.ok] at kr
                refine ⟨r, _, t.v, rfl, rfl, kr.1, by rw [SZ_eq]; simpa using hz, ?_⟩
                have s4 : SR g H1 σ (sl1.set i (some (T.obj q dx .own C' ns ts))) ([t] ++ tm) := s3
                have w := s4.writeFL (zs := us ++ [t]) gi ht (by simp; omega) (by
                    rw [Ts.ok_iff]; intro u m
                    rcases List.mem_append.mp m with m | m
                    · exact Ts.ok_iff.mp kr.2.2 u m
                    · have e := List.mem_singleton.mp m; subst e; exact s3.top) (fun a => by simp [Ts.oc_append, Ts.oc]) (fun a => by simp [Ts.sh_append, Ts.sh])
                rw [List.map_append, List.set_set] at w
                exact h1 _ _ (.sc .non) (w.push _ trivial) (by rw [den_set]; simp [T.d, Ts.d_set, Ts.d_append, Ts.d]) rfl
              · exact h1.elim
            · exact h1.elim
          · exact h.elim
        · exact h.elim
      · exact h.elim
    · exact h.elim
theorem e_extF {i : Nat} {C f : String} (cl : Cls X.K (g.c.cls C)) (na : NoAttr X.K (g.c.cls C) (Str.ofString f)) (hK : X.K = g.c.K) (hp : PE X (.Call (.Attribute e "extend" apos) [a] [] pos) (tBM X.K "list" rExtend (tFld X.K (tVar i) (Str.ofString f)) (tA g W [ma]))) : PE X (.Call (.Attribute e "extend" apos) [a] [] pos) (tE g W (mExtF i C f ma)) :=
  hp.imp fun σ H Q ⟨sl, tm, s, h⟩ => by
    unfold mExtF at h
    split at h
    · rename_i C' ns xs e0
      split at h
      · rename_i hC
        subst hC
        split at h
        · rename_i j hj
          split at h
          · rename_i ys hd
            obtain ⟨q, dx, ts, r, us, rfl, rfl, ht, g1, g8, g3, lk, hr, s1⟩ := own_fld s e0 hj hd
            have kl : T.ok g.c H (T.lst r .own us) := by
              have k := s.okS _ (s.slot g1)
              simp only [T.ok] at k
              exact Ts.ok_iff.mp k.2.2.2.2 _ (List.mem_of_getElem? ht)
            refine ⟨.ref q, g8, q, _, dx, _, .ref r, rfl, g3, cl, na, lk, .inl ⟨rfl, _, by rw [hK]; exact (lst_sq kl).1⟩, ?_⟩
            have e2 : den (sl.set i none) = (den sl).set i none := den_set sl i none
            rw [← e2] at h
            refine tA1 s1 (Lands.drop h) fun H1 sl1 t s2 h1 => ?_
            split at h1
            · rename_i o2 zs en ed
              split at h1
              · rename_i hz
                cases t with
                | lst qq o3 vs =>
                  simp only [T.d, D.lst.injEq] at ed
                  obtain ⟨rfl, rfl⟩ := ed
                  rw [Ts.d_len, Ts.d_len] at hz
                  have kt := s2.top
                  have hq : H1 qq = some (.lst (vs.map T.v)) := by
                    rcases hz.1 with rfl | rfl <;> (simp only [T.ok] at kt; exact kt.1)
                  have ku := (lst_sq kt).2.2
                  have s3 := (swap_top s2).back (i := i) (by simpa [T.v] using g8) (none_at en)
                  have nl : i < sl1.length := by
                    have := none_at en
                    exact (List.getElem?_eq_some_iff.1 this).1
                  have gi : (sl1.set i (some (T.obj q dx .own C' ns ts)))[i]? = some (some (T.obj q dx .own C' ns ts)) := List.getElem?_set_self nl
                  have k3 := s3.okS _ (s3.slot gi)
                  simp only [T.ok] at k3
                  have kr := Ts.ok_iff.mp k3.2.2.2.2 _ (List.mem_of_getElem? ht)
                  simp only [T.ok] at kr
                  refine ⟨r, qq, _, _, rfl, rfl, kr.1, hq, by rw [SZ_eq]; simpa using hz.2, ?_⟩
                  have s4 : SR g H1 σ (sl1.set i (some (T.obj q dx .own C' ns ts))) ([T.lst qq o3 vs] ++ tm) := s3
                  have w := s4.writeFL (zs := us ++ vs) gi ht (by simpa using hz.2) (by
                      rw [Ts.ok_iff]; intro u m
                      rcases List.mem_append.mp m with m | m
                      · exact Ts.ok_iff.mp kr.2.2 u m
                      · exact Ts.ok_iff.mp ku u m) (fun a => by simp [Ts.oc_append, Ts.oc, T.oc]) (fun a => by simp [Ts.sh_append, Ts.sh, T.sh]; omega)
                  rw [List.map_append, List.set_set] at w
                  exact h1 _ _ (.sc .non) (w.push _ trivial) (by rw [den_set]; simp [T.d, Ts.d_set, Ts.d_append]) rfl
                | _ => simp [T.d] at ed
              · exact h1.elim
            · exact h1.elim
          · exact h.elim
        · exact h.elim
      · exact h.elim
    · exact h.elim
/-! ### methods -/
def tMethE (C : Addr) (m : Str) (sp : Sp) (E : L2.St → XK) (ta : TE) (t : TA) : TE := fun σ H Q => ta σ H fun x H1 => ∃ a dx fs, x = .ref a ∧ H1 a = some (.ins C dx fs) ∧ fs.lookup m = none ∧ t σ H1 fun vs H2 => sp (x :: vs) H2 Q (E σ)
variable {k : Nat} {f C : Addr} {fd : FuncData} {ps : List Str} {sp : Sp} {E : L2.St → XK} {m : Str} {ta : TE} {t : TA} {CX : CXT}
theorem pe_methE {pl : Sem Bool} (he : PE X o ta) (c : Cls X.K C) (hm : Meth X.K C m f) (F : FnOk X.prog X.w X.K X.mg X.base CX k f fd ps sp) (hr : Room k X.A) (hb : Binds X.K fd ps []) (hx : ∀ σ, PassesAt CX X σ (E σ)) (ha : PA X (e :: es) t)
    (hst : starEach (e :: es) X.env = (false, eval e X.env) :: starEach es X.env := by rfl) (hpl : (backTo pos (starEach es X.env)).any (·.1) = false := by rfl)
    (ht : eval (.Call (.Attribute o m apos) (e :: es) [] pos) X.env = (do
      let ov ← eval o X.env
      standAt apos.atName
      let (f, first) ← holding [ov] (getMethod ov m pl)
      callWith pos f first (backTo pos (starEach (e :: es) X.env)) (backToKw pos (keywordEach [] X.env))) := by rfl) :
    PE X (.Call (.Attribute o m apos) (e :: es) [] pos) (tMethE C m sp E ta t) := by
  refine ⟨fun pins s σ H Q I h => ?_⟩
  refine PySem.W.methodCall_KW (pl := pl) (thn (he.run pins s σ H _ I h) fun u s1 ⟨x, H1, I1, rx, a, dx, fs, ex, ea, l, q⟩ => ?_) ht
  subst ex
  obtain rfl : u = Value.ref a := rx
  refine getmeth_ok I1 ea c hm l ?_
  refine PySem.W.callWith_K (first := [.ref a]) (h₀ := X.base) I.ok.mod.kin hm.kp (thn (ha.run pos pins s1 σ H1 _ I1 q) fun us s2 ⟨vs, H2, I2, r, q2⟩ => ⟨I2.kIn, ?_⟩) hst hpl
  exact run_fnS (us := .ref a :: us) (vs := .ref a :: vs) F hr hb (hx σ) I2 (.cons rfl r) q2
theorem pe_methE0 {pl : Sem Bool} (he : PE X o ta) (c : Cls X.K C) (hm : Meth X.K C m f) (F : FnOk X.prog X.w X.K X.mg X.base CX k f fd ps sp) (hr : Room k X.A) (hb : Binds X.K fd ps []) (hx : ∀ σ, PassesAt CX X σ (E σ))
    (ht : eval (.Call (.Attribute o m apos) [] [] pos) X.env = (do
      let ov ← eval o X.env
      standAt apos.atName
      let (f, first) ← holding [ov] (getMethod ov m pl)
      callWith pos f first (backTo pos (starEach [] X.env)) (backToKw pos (keywordEach [] X.env))) := by rfl) :
    PE X (.Call (.Attribute o m apos) [] [] pos) (fun σ H Q => ta σ H fun x H1 => ∃ a dx fs, x = .ref a ∧ H1 a = some (.ins C dx fs) ∧ fs.lookup m = none ∧ sp [x] H1 Q (E σ)) := by
  refine ⟨fun pins s σ H Q I h => ?_⟩
  refine PySem.W.methodCall_KW (pl := pl) (thn (he.run pins s σ H _ I h) fun u s1 ⟨x, H1, I1, rx, a, dx, fs, ex, ea, l, q⟩ => ?_) ht
  subst ex
  obtain rfl : u = Value.ref a := rx
  refine getmeth_ok I1 ea c hm l ?_
  exact PySem.W.callWith_K0 (first := [.ref a]) I1.kIn hm.kp (run_fnS (us := [.ref a]) (vs := [.ref a]) F hr hb (hx σ) I1 (.cons rfl .nil) q)
end
end VS

namespace VS
open PySem PySem.Spec PyProof.Rows L2
section
variable {X : Cx} {g : Gh} {W : WX} {pos p apos : Pos} {a b e o : Expr} {es : List Expr} {ma mb : Cm D} {as : List Ag} {y x : Str}
/-- o.m(..) of an object in a slot, which is handed in to be changed -/
def mMeth (i : Nat) (C m : String) (M : List D → RF) (as : List Ag) : Cm D := fun ρ => match ρ[i]? with
  | some (some (.obj _ C' ns _)) => if C' = C ∧ fIx m ns = none then mCall M (.s i :: as) ρ else .stuck
  | _ => .stuck
theorem meth_imp {c : Cfg} {M : List D → RF} {np i : Nat} {io : List Nat} {C m : String} (hc : g.c = c) (hio : agIo 0 (.s i :: as) = io) (hl : (Ag.s i :: as).length = np) (hnd : (agSlots (.s i :: as)).Nodup) (σ : L2.St) (H : Hp) (Q : VK) (q : tE g W (mMeth i C m M as) σ H Q) :
    tMethE (g.c.cls C) (Str.ofString m) (spM c np io M) (WE W) (tVar i) (tAs g W as) σ H Q := by
  obtain ⟨sl, tm, s, h⟩ := q
  unfold mMeth at h
  split at h
  · rename_i o' C' ns xs e0
    split at h
    · rename_i hC
      obtain ⟨rfl, hm⟩ := hC
      obtain ⟨q, dx, ts, g1, rfl, g3, g4, g5, g6, g7, g8⟩ := obj_at s e0
      obtain ⟨sl2, tm2, s2, h2⟩ := call_imp (as := .s i :: as) hc hio hl hnd σ H Q ⟨sl, tm, s, h⟩
      simp only [agRun] at h2
      split at h2
      · rename_i d e1
        refine ⟨.ref q, g8, q, dx, _, rfl, g3, fIx_none hm, tAs.go s2 h2 fun H1 sl1 us vs s3 hv h3 => ?_⟩
        exact h3 H1 sl1 (none :: us) (.ref q :: vs) s3 rfl rfl ⟨g8, hv⟩
      · exact h2.elim
    · exact h.elim
  · exact h.elim
theorem e_meth {f : Addr} {fd : FuncData} {ps : List Str} {c : Cfg} {M : List D → RF} {k np i : Nat} {io : List Nat} {C m : String} (cl : Cls X.K (g.c.cls C)) (hm : Meth X.K (g.c.cls C) (Str.ofString m) f) (F : FnOk X.prog X.w X.K X.mg X.base (L2.CX X.prog X.w) k f fd ps (spM c np io M)) (hr : Room k X.A) (hb : Binds X.K fd ps []) (tk : Takes X W)
    (ho : PE X o (tVar i)) (ha : PA X (e :: es) (tAs g W as)) (hc : g.c = c) (hio : agIo 0 (.s i :: as) = io) (hl : (Ag.s i :: as).length = np) (hnd : (agSlots (.s i :: as)).Nodup) {pl : Sem Bool}
    (hst : starEach (e :: es) X.env = (false, eval e X.env) :: starEach es X.env := by rfl) (hpl : (backTo pos (starEach es X.env)).any (·.1) = false := by rfl)
    (ht : eval (.Call (.Attribute o (Str.ofString m) apos) (e :: es) [] pos) X.env = (do
      let ov ← eval o X.env
      standAt apos.atName
      let (f, first) ← holding [ov] (getMethod ov (Str.ofString m) pl)
      callWith pos f first (backTo pos (starEach (e :: es) X.env)) (backToKw pos (keywordEach [] X.env))) := by rfl) :
    PE X (.Call (.Attribute o (Str.ofString m) apos) (e :: es) [] pos) (tE g W (mMeth i C m M as)) := (pe_methE (E := WE W) ho cl hm F hr hb (fun σ => passAt tk σ) ha hst hpl ht).imp (meth_imp hc hio hl hnd)
theorem e_meth0 {f : Addr} {fd : FuncData} {ps : List Str} {c : Cfg} {M : List D → RF} {k np i : Nat} {io : List Nat} {C m : String} (cl : Cls X.K (g.c.cls C)) (hm : Meth X.K (g.c.cls C) (Str.ofString m) f) (F : FnOk X.prog X.w X.K X.mg X.base (L2.CX X.prog X.w) k f fd ps (spM c np io M)) (hr : Room k X.A) (hb : Binds X.K fd ps []) (tk : Takes X W)
    (ho : PE X o (tVar i)) (hc : g.c = c) (hio : agIo 0 [.s i] = io) (hl : [Ag.s i].length = np) {pl : Sem Bool}
    (ht : eval (.Call (.Attribute o (Str.ofString m) apos) [] [] pos) X.env = (do
      let ov ← eval o X.env
      standAt apos.atName
      let (f, first) ← holding [ov] (getMethod ov (Str.ofString m) pl)
      callWith pos f first (backTo pos (starEach [] X.env)) (backToKw pos (keywordEach [] X.env))) := by rfl) :
    PE X (.Call (.Attribute o (Str.ofString m) apos) [] [] pos) (tE g W (mMeth i C m M [])) := (pe_methE0 (E := WE W) ho cl hm F hr hb (fun σ => passAt tk σ) ht).imp fun σ H Q q => by
    obtain ⟨v, hv, a, dx, fs, h1, h2, h3, h4⟩ := meth_imp (as := []) hc hio hl (by simp [agSlots]) σ H Q q
    refine ⟨v, hv, a, dx, fs, h1, h2, h3, ?_⟩
    obtain ⟨sl, tm, s, h5⟩ := h4
    exact h5 H sl [] [] s rfl rfl trivial
/-- C(): a new object -/
def mNewO (C : String) (M : List D → RF) : Cm D := fun ρ => match M [.obj .own C [] []] with
  | .ok (.sc .non) [d] => .ok d ρ
  | _ => .stuck
theorem SR.newO {H : Hp} {σ : L2.St} {sl : List (Option T)} {tm : List T} {q dx : Addr} {C : String} (s : SR g H σ sl tm) (hq : H q = none) (hd : H dx = none) (hn : dx ≠ q) :
    SR g (upd (upd H dx (.own q)) q (.ins (g.c.cls C) dx [])) σ sl (T.obj q dx .own C [] [] :: tm) := by
  have f1 := s.free hq
  have f2 := s.free hd
  have kept : ∀ a, 0 < So (T.oc a) sl + So (T.sh a) sl + Ts.oc a tm + Ts.sh a tm → (upd (upd H dx (.own q)) q (.ins (g.c.cls C) dx [])) a = H a := fun a h => by
    by_cases e : a = q
    · subst e; omega
    · by_cases e2 : a = dx
      · subst e2; omega
      · rw [upd_ne e, upd_ne e2]
  refine s.go (s.stayS fun a h => kept a (by omega)) ?_ (fun a => ?_) (fun a => ?_) s.len s.slen s.at_ s.io
  · simp only [Ts.ok, T.ok]
    refine ⟨⟨upd_same, by rw [upd_ne hn, upd_same], hn, rfl, trivial⟩, ?_⟩
    exact s.stayT fun a h => kept a (by omega)
  · simp only [Ts.oc, Ts.sh, T.oc, T.sh]
    by_cases e : q = a
    · subst e
      refine .inr ⟨.inl hq, .inr ?_⟩
      simp [b2, hn]
      omega
    · by_cases e2 : dx = a
      · subst e2
        refine .inr ⟨.inl hd, .inr ?_⟩
        simp [b2, e]
        omega
      · simp [b2, e, e2]
        refine .inl (by omega)
  · by_cases e : a = q
    · subst e; exact .inr (.inl hq)
    · by_cases e2 : a = dx
      · subst e2; exact .inr (.inl hd)
      · exact .inl (by rw [upd_ne e, upd_ne e2])
theorem newO_imp {c : Cfg} {M : List D → RF} {C : String} (hc : g.c = c) (σ : L2.St) (H : Hp) (Q : VK) (q : tE g W (mNewO C M) σ H Q) : tMake (g.c.cls C) (spM c 1 [0] M) [] (fun _ _ _ => False) tNil σ H Q := by
  subst hc
  obtain ⟨sl, tm, s, h⟩ := q
  unfold mNewO at h
  intro x dx hx hdx hne
  have s1 := s.newO (C := C) hx hdx hne
  split at h
  · rename_i d em
    refine ⟨[T.obj x dx .own C [] []], rfl, ?_, s1.tabs, fun a => ?_, rfl, ?_⟩
    · have := s1.okT
      simp only [Ts.ok] at this ⊢
      exact ⟨this.1, trivial⟩
    · simp only [Ts.oc, Ts.sh, T.oc, T.sh]
      by_cases e : x = a
      · subst e; simp [b2, hne]
      · by_cases e2 : dx = a
        · subst e2; simp [b2, e]
        · simp [b2, e, e2]
    · have ed : Ts.d [T.obj x dx .own C [] []] = [D.obj .own C [] []] := by simp [Ts.d, T.d]
      rw [ed, em]
      intro H' t us ha et eu hi
      have s2 : SR g H' σ sl ((t :: us) ++ tm) := SR.call (ts := [T.obj x dx .own C [] []]) (by simpa using s1) ha
      cases us with
      | nil => simp [Ts.d] at eu
      | cons u us =>
        cases us with
        | cons _ _ => simp [Ts.d] at eu
        | nil =>
          simp only [Ts.d, List.cons.injEq, and_true] at eu
          have uv : u.v = .ref x := by
            simp [ioV, T.v] at hi
            exact hi.symm
          refine ⟨?_, ?_⟩
          · cases t with
            | sc z => simp only [T.d, D.sc.injEq] at et; subst et; rfl
            | _ => simp [T.d] at et
          · have := h H' sl u s2.pop rfl eu
            rwa [uv] at this
  · exact h.elim
theorem e_newO {f : Addr} {fd : FuncData} {ps : List Str} {c : Cfg} {M : List D → RF} {k : Nat} {C : String} (Mk_ : Mk X.K (g.c.cls C) f) (F : FnOk X.prog X.w X.K X.mg X.base (L2.CX X.prog X.w) k f fd ps (spM c 1 [0] M)) (hr : Room (k + 1) X.A) (hb : Binds X.K fd ps [])
    (hg : Gl X x) (hm : X.mg x = some (.ref (g.c.cls C))) (hc : g.c = c) (hdb : (x == ("__debug__" : Str)) = false := by decide) : PE X (.Call (.Name x p) [] [] pos) (tE g W (mNewO C M)) :=
  (pe_make0 Mk_ F hr hg hm hb .nil passF hdb).imp (newO_imp hc)
end
end VS

namespace VS
open PySem PySem.Spec PyProof.Rows L2
section
variable {X : Cx} {g : Gh} {W : WX} {pos p apos : Pos} {a b e o : Expr} {es : List Expr} {ma mb : Cm D} {as : List Ag} {y x : Str}
/-- self.f[e]; e does not look at the object, what stands there is no made thing -/
def mIdxF (i : Nat) (C nm : String) (mb : Cm D) : Cm D := fun ρ => match ρ[i]? with
  | some (some (.obj o C' ns xs)) => if C' = C then (match fIx nm ns with
    | some j => match xs[j]? with
      | some d => (mb (ρ.set i none)).bind fun k ρ => match ρ[i]?, k with
        | some none, .sc (.int k) => match idxD d k with
          | some z => if z.pur then .ok z (ρ.set i (some (.obj o C ns xs))) else .stuck
          | none => .stuck
        | _, _ => .stuck
      | none => .stuck
    | none => .stuck) else .stuck
  | _ => .stuck
theorem e_idxF {i : Nat} {C nm : String} (cl : Cls X.K (g.c.cls C)) (na : NoAttr X.K (g.c.cls C) (Str.ofString nm)) (hK : X.K = g.c.K) (hp : PE X a (tFld X.K (tVar i) (Str.ofString nm))) (hb : PE X b (tE g W mb)) (hs : PlainIx b := by exact fun _ _ => rfl) : PE X (.Subscript a b pos) (tE g W (mIdxF i C nm mb)) :=
  (pe_ix (hK ▸ ix_seq) hp hb hs).imp fun σ H Q ⟨sl, tm, s, h⟩ => by
    unfold mIdxF at h
    split at h
    · rename_i o C' ns xs e0
      split at h
      · rename_i hC
        subst hC
        split at h
        · rename_i j hj
          split at h
          · rename_i d hd
            obtain ⟨q, dx, ts, g1, rfl, g3, g4, g5, g6, g7, g8⟩ := obj_at s e0
            obtain ⟨t, ht, rfl⟩ := Ts.d_at hd
            have lk : (fieldsV ns (ts.map T.v)).lookup (Str.ofString nm) = some t.v := fIx_lookup hj (by rw [List.getElem?_map, ht]; rfl)
            refine ⟨.ref q, g8, q, _, dx, _, t.v, rfl, g3, cl, na, lk, ?_⟩
            have s1 := s.move g1
            have e2 : den (sl.set i none) = (den sl).set i none := den_set sl i none
            rw [← e2] at h
            refine tE.of s1 (Lands.drop h) fun H1 sl1 u s2 h1 => ?_
            split at h1
            · rename_i k en ek
              split at h1
              · rename_i z hz
                split at h1
                · rename_i hpu
                  cases u with
                  | sc w =>
                    simp only [T.d, D.int, D.sc.injEq] at ek
                    subst ek
                    have s3 := (swap_top s2).back (i := i) (by simpa [T.v] using g8) (none_at en)
                    have nl : i < sl1.length := (List.getElem?_eq_some_iff.1 (none_at en)).1
                    have gi : (sl1.set i (some (T.obj q dx o C' ns ts)))[i]? = some (some (T.obj q dx o C' ns ts)) := List.getElem?_set_self nl
                    have k3 := s3.okS _ (s3.slot gi)
                    have kt : t.ok g.c H1 := by
                      cases o <;> simp only [T.ok] at k3 <;> first | exact Ts.ok_iff.mp k3.2.2.2.2 t (List.mem_of_getElem? ht) | exact k3.elim
                    obtain ⟨x, rfl, kx, hc, _, _, qq⟩ := idx_tree kt hz
                    have s4 : SR g H1 σ (sl1.set i (some (T.obj q dx o C' ns ts))) (x :: tm) := s3.pop.dup gi kx (fun a => T.pur_oc a x hpu) fun a => by
                      have := (hc a).2
                      have := Ts.sh_mem (a := a) (List.mem_of_getElem? ht)
                      simp only [T.sh]
                      omega
                    exact qq Q (h1 H1 _ x s4 (by rw [den_set]; simp [T.d]) rfl)
                  | _ => simp [T.d] at ek
                · exact h1.elim
              · exact h1.elim
            · exact h1.elim
          · exact h.elim
        · exact h.elim
      · exact h.elim
    · exact h.elim
end
/-! ### what the head of the text is asked of a class -/
/-- a method: where it stands -/
structure AtM (K : PySem.W.Frag) (c : Cfg) (C m : String) (nm qual : Str) (st : Stmt) (ps : List Str) (f : Addr) (fd : FuncData) : Prop where
  F : FunD K nm qual (defArgs st) (defBody st) (defScope st) [] [] f fd
  m : Meth K (c.cls C) (Str.ofString m) f
  b : Binds K fd ps []
def clsB (K : PySem.W.Frag) (C : String) (fs ms : List String) : Bool :=
  PySem.W.plainGet K (clsOf K C) Str.empty && (PySem.W.hasDictIn K (clsOf K C) && (PySem.W.plainOver K (clsOf K C) && (decide (PySem.W.findIn K (.ref (clsOf K C)) "__setattr__" = some (some (.builtin "object.__setattr__"))) && (PySem.W.makesIn K (clsOf K C) && (PySem.W.keepIn K (.ref (clsOf K C)) &&
  ((fs.all fun f => decide (PySem.W.findIn K (.ref (clsOf K C)) (Str.ofString f) = some none)) && (ms.all fun m => decide (PySem.W.findIn K (.ref (clsOf K C)) (Str.ofString m) = some (some (.ref (He.ma K (clsOf K C) (Str.ofString m))))) && (PySem.W.isFn K (.ref (He.ma K (clsOf K C) (Str.ofString m))) && PySem.W.keepIn K (.ref (He.ma K (clsOf K C) (Str.ofString m)))))))))))
theorem clsB_ok {K : PySem.W.Frag} {C : String} {fs ms : List String} (h : clsB K C fs ms = true) : Cls K (clsOf K C) ∧ (∀ f ∈ fs, NoAttr K (clsOf K C) (Str.ofString f)) ∧ (∀ m ∈ ms, Meth K (clsOf K C) (Str.ofString m) (He.ma K (clsOf K C) (Str.ofString m))) ∧
    ("__init__" ∈ ms → Mk K (clsOf K C) (He.ma K (clsOf K C) (Str.ofString "__init__"))) := by
  unfold clsB at h
  simp only [Bool.and_eq_true, decide_eq_true_eq, List.all_eq_true] at h
  obtain ⟨h1, h2, h3, h4, h5, h6, h7, h8⟩ := h
  exact ⟨⟨h1, h2, h3, h4⟩, h7, fun m hm => ⟨(h8 m hm).1, (h8 m hm).2.1, (h8 m hm).2.2⟩, fun hm => ⟨h5, (h8 _ hm).1, (h8 _ hm).2.1, h6⟩⟩
/-! ### the words, as rows for simp -/
section
variable {ρ : DE} {i : Nat} {C f : String}
@[simp] theorem mFld_ : mFld i C f ρ = match ρ[i]? with
  | some (some (.obj o C' ns xs)) => if C' = C then (match fIx f ns with
    | some j => match xs[j]? with
      | some d => if d.pur then .ok d ρ else .ok d.fz (ρ.set i (some (.obj o C ns (xs.set j d.fz))))
      | none => .stuck
    | none => .stuck) else .stuck
  | _ => .stuck := rfl
@[simp] theorem mFldM_ : mFldM i C f ρ = match ρ[i]? with
  | some (some (.obj _ C' ns xs)) => if C' = C then (match fIx f ns with
    | some j => match xs[j]? with
      | some d => .ok d (ρ.set i none)
      | none => .stuck
    | none => .stuck) else .stuck
  | _ => .stuck := rfl
@[simp] theorem mP1F_ (F : D → Option Sc) : mP1F F i C f ρ = match ρ[i]? with
  | some (some (.obj _ C' ns xs)) => if C' = C then (match fIx f ns with
    | some j => match xs[j]? with
      | some d => (lift (F d) ρ).bind fun s ρ => .ok (.sc s) ρ
      | none => .stuck
    | none => .stuck) else .stuck
  | _ => .stuck := rfl
@[simp] theorem mIdxF_ (mb : Cm D) : mIdxF i C f mb ρ = match ρ[i]? with
  | some (some (.obj o C' ns xs)) => if C' = C then (match fIx f ns with
    | some j => match xs[j]? with
      | some d => (mb (ρ.set i none)).bind fun k ρ => match ρ[i]?, k with
        | some none, .sc (.int k) => match idxD d k with
          | some z => if z.pur then .ok z (ρ.set i (some (.obj o C ns xs))) else .stuck
          | none => .stuck
        | _, _ => .stuck
      | none => .stuck
    | none => .stuck) else .stuck
  | _ => .stuck := rfl
@[simp] theorem mSetF_ (m : Cm D) : mSetF i C f m ρ = (m ρ).bind fun d ρ => match ρ[i]? with
  | some (some (.obj .own C' ns xs)) => if C' = C ∧ ns.length < 1000 then (match fIx f ns with
    | some j => .ok .nx (ρ.set i (some (.obj .own C ns (xs.set j d))))
    | none => .ok .nx (ρ.set i (some (.obj .own C (ns ++ [f]) (xs ++ [d]))))) else .stuck
  | _ => .stuck := rfl
@[simp] theorem mAugF_ (op : Int → Int → Int) (m : Cm D) : mAugF i C f op m ρ = match ρ[i]? with
  | some (some (.obj _ C' ns xs)) => if C' = C then (match fIx f ns with
    | some j => match xs[j]? with
      | some (.sc (.int u)) => (m ρ).bind fun d ρ => match d, ρ[i]? with
        | .sc (.int v), some (some (.obj .own C2 ns2 xs2)) => if C2 = C ∧ ns2.length < 1000 then (match fIx f ns2 with
          | some j2 => .ok .nx (ρ.set i (some (.obj .own C ns2 (xs2.set j2 (.int (op u v))))))
          | none => .stuck) else .stuck
        | _, _ => .stuck
      | _ => .stuck
    | none => .stuck) else .stuck
  | _ => .stuck := rfl
@[simp] theorem mAppF_ (ma : Cm D) : mAppF i C f ma ρ = match ρ[i]? with
  | some (some (.obj .own C' ns xs)) => if C' = C then (match fIx f ns with
    | some j => match xs[j]? with
      | some (.lst .own ys) => (ma (ρ.set i none)).bind fun d ρ => match ρ[i]? with
        | some none => if ys.length < 16777216 then .ok .non (ρ.set i (some (.obj .own C ns (xs.set j (.lst .own (ys ++ [d])))))) else .stuck
        | _ => .stuck
      | _ => .stuck
    | none => .stuck) else .stuck
  | _ => .stuck := rfl
@[simp] theorem mExtF_ (ma : Cm D) : mExtF i C f ma ρ = match ρ[i]? with
  | some (some (.obj .own C' ns xs)) => if C' = C then (match fIx f ns with
    | some j => match xs[j]? with
      | some (.lst .own ys) => (ma (ρ.set i none)).bind fun d ρ => match ρ[i]?, d with
        | some none, .lst o zs => if (o = .own ∨ o = .shr) ∧ ys.length + zs.length ≤ 16777216 then .ok .non (ρ.set i (some (.obj .own C ns (xs.set j (.lst .own (ys ++ zs)))))) else .stuck
        | _, _ => .stuck
      | _ => .stuck
    | none => .stuck) else .stuck
  | _ => .stuck := rfl
@[simp] theorem mMeth_ {m : String} (M : List D → RF) (as : List Ag) : mMeth i C m M as ρ = match ρ[i]? with
  | some (some (.obj _ C' ns _)) => if C' = C ∧ fIx m ns = none then mCall M (.s i :: as) ρ else .stuck
  | _ => .stuck := rfl
@[simp] theorem mNewO_ (M : List D → RF) : mNewO C M ρ = match M [.obj .own C [] []] with
  | .ok (.sc .non) [d] => .ok d ρ
  | _ => .stuck := rfl
@[simp] theorem fIx_cons {n : String} {ns : List String} : fIx f (n :: ns) = if n = f then some 0 else (fIx f ns).map (· + 1) := rfl
@[simp] theorem fIx_nil : fIx f [] = none := rfl
end
end VS
namespace VS
open PySem PySem.Spec PyProof.Rows L2
/-! ### enumerate over a text -/
def IteS (x : Str) : It :=
  ⟨fun i H => i < x.cps.size, fun i H v H' => ∃ T c, v = .ref T ∧ H T = none ∧ H' = upd H T (.tup [.int (i : Nat), .str ⟨#[c]⟩]) ∧ x.cps[i]? = some c, fun i H => x.cps.size = i⟩
theorem turn_enumS {P : Program} {w : World} {K : PySem.W.Frag} {elts : List Expr} {kk : Nat} {tpos : Pos} (x : Str) (t : Tok) (e it : Addr) :
    Turn P w K (.Tuple elts kk tpos) (IteS x) [e, it] e (fun i h => (∃ old, IsEnum h e it ((i : Nat) : Int) old) ∧ h.IsStrIter it (strIterType x) x t i ∧ e ≠ it) where
  mem := by simp
  obj := fun i h st b hb => by
    obtain ⟨⟨old, he⟩, ⟨o, ho, hc, hd⟩, _⟩ := st
    have e' : b = e ∨ b = it := by simpa using hb
    rcases e' with z | z
    · rw [z]; exact ⟨_, he, fun v q => nomatch q⟩
    · rw [z]; exact ⟨o, ho, fun v q => by rw [hd] at q; cases q⟩
  keep := fun i h h' st k => let ⟨⟨old, he⟩, ⟨o, ho, r⟩, hne⟩ := st; ⟨⟨old, k e (by simp) _ he⟩, ⟨o, k it (by simp) o ho, r⟩, hne⟩
  item := by
    intro X hP hw hK hc i pins s σ H E I hf st hg
    subst hP hw hK
    obtain ⟨⟨old, he⟩, hit, hne⟩ := st
    have hel : e < s.heap.objs.size := Heap.lt_size he
    have hil : it < s.heap.objs.size := by obtain ⟨_, q, _⟩ := hit; exact Heap.lt_size q
    refine wpAny_pyNext_enum_itemD (Draws.text (A := X.A.in1) (I.ok.hd hc) it x t) he hit hg hne (by simp [hne]) fun y h' tk hy ho hst hT hsz hk => ?_
    obtain ⟨c, u, hcx, rfl⟩ := hy
    refine ⟨_, rfl, wpAny_letOwnedTupleGo_enum (s := { s with heap := h', toks := tk + 1 }) ho fun h'' he' sb => ?_⟩
    have hT2 : h''.get? s.heap.objs.size = some { cls := .type "tuple", data := .seq #[.int i tk, .str ⟨#[c]⟩ u] } := (sb.2 _ (Nat.ne_of_gt hel)).trans hT
    have new : ObjOk X.prog X.w (upd H s.heap.objs.size (.tup [.int (i : Nat), .str ⟨#[c]⟩])) h'' s.heap.objs.size (.tup [.int (i : Nat), .str ⟨#[c]⟩]) :=
      ⟨by show 2 ≤ sizeLine; decide, [.int i tk, .str ⟨#[c]⟩ u], .cons ⟨_, rfl⟩ (.cons ⟨_, rfl⟩ .nil), ⟨_, hT2, rfl, _, rfl⟩⟩
    have I1 : Inv X pins σ (upd H s.heap.objs.size (.tup [.int (i : Nat), .str ⟨#[c]⟩])) { s with heap := h'', toks := tk + 1 } :=
      I.turnedNew (ch := [e, it]) (fun b ob hb q => (sb.2 b (fun z => hb (by simp [z]))).trans (hk b ob (fun z => hb (by simp [z])) (fun z => hb (by simp [z])) q)) hf (Nat.le_refl _) new
    have hst2 : h''.IsStrIter it (strIterType x) x t (i + 1) := by
      obtain ⟨o, ho', r⟩ := hst
      exact ⟨o, (sb.2 it (Ne.symm hne)).trans ho', r⟩
    refine ⟨.ref s.heap.objs.size, _, I1, rfl, ⟨_, c, rfl, I.hok.fresh (Nat.le_refl _), rfl, hcx⟩, ⟨⟨.str ⟨#[c]⟩ u, ?_⟩, hst2, hne⟩, fun b hb => ?_⟩
    · have e1 : ((i + 1 : Nat) : Int) = (i : Int) + 1 := by omega
      rw [e1]; exact he'
    · have hb' : b < s.heap.objs.size := by
        have e' : b = e ∨ b = it := by simpa using hb
        rcases e' with z | z
        · rw [z]; exact hel
        · rw [z]; exact hil
      rw [upd_ne (Nat.ne_of_lt hb')]
      exact (hf b hb).1
  done := by
    intro X hP hw hK hc i pins s σ H E I hf st hg
    subst hP hw hK
    obtain ⟨⟨old, he⟩, hit, hne⟩ := st
    obtain ⟨f0, f1, f2, f3, f4, f5⟩ := hf it (by simp)
    have hn : x.cps.size = i := hg
    subst hn
    exact wpAny_pyNext_enum_endD (Draws.text (A := X.A.in1) (I.ok.hd hc) it x t) he hit fun h' eb => ⟨rfl, I.turned (t' := s.toks) (fun b o hb q => eb b o hb q) f0 f1 f3 f4 f5⟩
  self := fun A i s Q E st h => let ⟨⟨_, he⟩, _⟩ := st; wpAny_pyIter_enum he h
def iEnumS (ta : TA) : TI := fun σ H R => ta σ H fun vs H1 => ∃ x, vs = [.str x] ∧ R (IteS x) H1
theorem pi_enumS {X : Cx} {e : Expr} {ta : TA} {p pos tpos : Pos} {elts : List Expr} {kk : Nat} (hg : Gl X "enumerate") (hm : X.mg "enumerate" = none) (ha : PA X [e] ta) (hs : starEach [e] X.env = [(false, eval e X.env)] := by rfl) :
    PI X (.Tuple elts kk tpos) (.Call (.Name "enumerate" p) [e] [] pos) (iEnumS ta) := by
  refine ⟨fun pins s σ H R I h => ?_⟩
  refine Call_ (ld_blt I hg hm boot_enumerate (PyProof.Rows.callWith_type1 (thn (ha.run pos pins s σ H _ I h) fun us s1 ⟨vs, H1, I1, r1, q1⟩ => ?_) hs rfl))
  obtain ⟨x, ex, q⟩ := q1
  subst ex
  cases r1 with
  | cons r rr =>
    cases rr
    obtain ⟨t, rfl⟩ := r
    refine call_enumT (begins_text x t) trivial fun h' he hit hsz hk => wpAny_pyIter_enum he ?_
    have I2 : Inv X pins σ H1 { s1 with heap := h' } := I1.kept (t' := s1.toks) hk
    refine ⟨s1.heap.objs.size + 1, [s1.heap.objs.size + 1, s1.heap.objs.size], _, _, H1, rfl, I2, turn_enumS x t (s1.heap.objs.size + 1) s1.heap.objs.size, ⟨⟨.none, he⟩, ⟨_, hit, rfl, rfl⟩, Nat.succ_ne_self _⟩, fun b hb => ?_, q⟩
    have e' : b = s1.heap.objs.size + 1 ∨ b = s1.heap.objs.size := by simpa using hb
    have hle : s1.heap.objs.size ≤ b := by
      rcases e' with z | z
      · rw [z]; exact Nat.le_add_right _ _
      · rw [z]; exact Nat.le_refl _
    exact I1.fpOk hle (I1.hok.fresh hle)
section
variable {X : Cx} {g : Gh} {W : WX} {pos : Pos} {a b c e tg iter : Expr} {ma mb : Cm D}
theorem it_enumS {l : List Nat} (hl : (Sc.str l).good) : ItOk g (IteS ⟨l.toArray⟩) [] (enumD (l.map fun c => D.str [c])) where
  stop := fun H σ sl tm s => by simp [IteS, enumD_len]
  go := fun i d H σ sl tm s h => by
    unfold enumD at h
    rw [List.getElem?_mapIdx, List.getElem?_map, Option.map_map, Option.map_eq_some_iff] at h
    obtain ⟨c, hc, rfl⟩ := h
    obtain ⟨hlt, e⟩ := List.getElem?_eq_some_iff.1 hc
    refine ⟨by simpa [IteS] using hlt, fun x H' hy => ?_⟩
    obtain ⟨T', c', rfl, hT, rfl, hc'⟩ := hy
    have : c' = c := by simp [hc] at hc'; omega
    subst this
    have s2 : SR g H σ sl (T.sc (.str [c']) :: ([] ++ tm)) := s.push _ ⟨by simp, fun z hz => by simp at hz; subst hz; exact hl.2 _ (List.mem_of_getElem? hc)⟩
    exact enum_pair s s2 hT
def mEnumS (ma : Cm D) : Cm (List D) := fun ρ => (ma ρ).bind fun d ρ => match d with
  | .sc (.str l) => .ok (enumD (l.map fun c => D.str [c])) ρ
  | _ => .stuck
@[simp] theorem mEnumS_ {ρ : DE} : mEnumS ma ρ = (ma ρ).bind fun d ρ => match d with
  | .sc (.str l) => .ok (enumD (l.map fun c => D.str [c])) ρ
  | _ => .stuck := rfl
theorem i_enumS {elts : List Expr} {kk : Nat} {tpos p : Pos} (hg : Gl X "enumerate") (hm : X.mg "enumerate" = none) (ha : PA X [e] (tA g W [ma])) (hs : starEach [e] X.env = [(false, eval e X.env)] := by rfl) :
    PI X (.Tuple elts kk tpos) (.Call (.Name "enumerate" p) [e] [] pos) (tI g W (mEnumS ma)) := (pi_enumS hg hm ha hs).imp fun σ H R ⟨sl, tm, s, q⟩ => by
  refine tA1 s q fun H' sl' t s' h' => ?_
  cases t with
  | sc x =>
    cases x with
    | str l =>
      have k := s'.top
      simp only [T.ok] at k
      exact ⟨_, rfl, h' H' sl' [] _ s'.pop rfl (it_enumS k)⟩
    | _ => exact h'.elim
  | _ => exact h'.elim
end
end VS
namespace VS
open PySem PySem.Spec PyProof.Rows L2
/-! ### max, min of a list -/
def bigI (y : Int) (ys : List Int) : Int := ys.foldl (fun a y => if a < y then y else a) y
def smaI (y : Int) (ys : List Int) : Int := ys.foldl (fun a y => if y < a then y else a) y
theorem bigI_is : ∀ (ys : List Int) (y : Int), (bigI y ys = y ∨ bigI y ys ∈ ys) ∧ y ≤ bigI y ys ∧ ∀ z ∈ ys, z ≤ bigI y ys
  | [], y => ⟨.inl rfl, Int.le_refl _, by simp⟩
  | z :: ys, y => by
    have e : bigI y (z :: ys) = bigI (if y < z then z else y) ys := rfl
    obtain ⟨h1, h2, h3⟩ := bigI_is ys (if y < z then z else y)
    rw [e]
    generalize bigI (if y < z then z else y) ys = m at *
    by_cases q : y < z
    · rw [if_pos q] at h1 h2
      refine ⟨.inr ?_, by omega, fun w hw => ?_⟩
      · rcases h1 with h1 | h1
        · rw [h1]; simp
        · simp [h1]
      · rcases List.mem_cons.1 hw with rfl | hw
        · omega
        · exact h3 w hw
    · rw [if_neg q] at h1 h2
      refine ⟨?_, by omega, fun w hw => ?_⟩
      · rcases h1 with h1 | h1
        · exact .inl h1
        · exact .inr (by simp [h1])
      · rcases List.mem_cons.1 hw with rfl | hw
        · omega
        · exact h3 w hw
theorem smaI_is : ∀ (ys : List Int) (y : Int), (smaI y ys = y ∨ smaI y ys ∈ ys) ∧ smaI y ys ≤ y ∧ ∀ z ∈ ys, smaI y ys ≤ z
  | [], y => ⟨.inl rfl, Int.le_refl _, by simp⟩
  | z :: ys, y => by
    have e : smaI y (z :: ys) = smaI (if z < y then z else y) ys := rfl
    obtain ⟨h1, h2, h3⟩ := smaI_is ys (if z < y then z else y)
    rw [e]
    generalize smaI (if z < y then z else y) ys = m at *
    by_cases q : z < y
    · rw [if_pos q] at h1 h2
      refine ⟨.inr ?_, by omega, fun w hw => ?_⟩
      · rcases h1 with h1 | h1
        · rw [h1]; simp
        · simp [h1]
      · rcases List.mem_cons.1 hw with rfl | hw
        · omega
        · exact h3 w hw
    · rw [if_neg q] at h1 h2
      refine ⟨?_, by omega, fun w hw => ?_⟩
      · rcases h1 with h1 | h1
        · exact .inl h1
        · exact .inr (by simp [h1])
      · rcases List.mem_cons.1 hw with rfl | hw
        · omega
        · exact h3 w hw
def maxLD : D → Option Sc
  | .lst _ xs => match intL xs with
    | some (y :: ys) => some (.int (bigI y ys))
    | _ => none
  | _ => none
def minLD : D → Option Sc
  | .lst _ xs => match intL xs with
    | some (y :: ys) => some (.int (smaI y ys))
    | _ => none
  | _ => none
section
variable {g : Gh}
theorem hr_maxL {K : PySem.W.Frag} (hK : K = g.c.K) : HR1 g maxLD (rMax K) := fun H u c Q k h q => by
  subst hK
  cases u with
  | lst p o xs =>
    simp only [T.d, maxLD] at h
    split at h
    · rename_i y ys hl
      cases h
      refine ⟨p, y :: ys, rfl, by rw [← intL_ok hl]; exact (lst_sq k).1, by simp, fun m hm hx => ?_⟩
      obtain ⟨h1, h2, h3⟩ := bigI_is ys y
      have e : m = bigI y ys := by
        have a : m ≤ bigI y ys := by
          rcases List.mem_cons.1 hm with rfl | hm
          · exact h2
          · exact h3 m hm
        have b : bigI y ys ≤ m := by
          rcases h1 with h1 | h1
          · rw [h1]; exact hx y (by simp)
          · exact hx _ (by simp [h1])
        omega
      subst e
      exact q trivial
    · cases h
  | sc s => cases s <;> simp [T.d, maxLD] at h
  | _ => simp [T.d, maxLD] at h
theorem hr_minL {K : PySem.W.Frag} (hK : K = g.c.K) : HR1 g minLD (rMin K) := fun H u c Q k h q => by
  subst hK
  cases u with
  | lst p o xs =>
    simp only [T.d, minLD] at h
    split at h
    · rename_i y ys hl
      cases h
      refine ⟨p, y :: ys, rfl, by rw [← intL_ok hl]; exact (lst_sq k).1, by simp, fun m hm hx => ?_⟩
      obtain ⟨h1, h2, h3⟩ := smaI_is ys y
      have e : m = smaI y ys := by
        have a : smaI y ys ≤ m := by
          rcases List.mem_cons.1 hm with rfl | hm
          · exact h2
          · exact h3 m hm
        have b : m ≤ smaI y ys := by
          rcases h1 with h1 | h1
          · rw [h1]; exact hx y (by simp)
          · exact hx _ (by simp [h1])
        omega
      subst e
      exact q trivial
    · cases h
  | sc s => cases s <;> simp [T.d, minLD] at h
  | _ => simp [T.d, minLD] at h
end
theorem intL_map (l : List Int) : intL (l.map D.int) = some l := by
  induction l with
  | nil => rfl
  | cons x l ih => simp [intL, ih]
theorem maxLD_ (o : Ow) (y : Int) (ys : List Int) : maxLD (.lst o ((y :: ys).map D.int)) = some (.int (bigI y ys)) := by
  show (match intL ((y :: ys).map D.int) with
    | some (y :: ys) => some (Sc.int (bigI y ys))
    | _ => none) = _
  rw [intL_map]
theorem minLD_ (o : Ow) (y : Int) (ys : List Int) : minLD (.lst o ((y :: ys).map D.int)) = some (.int (smaI y ys)) := by
  show (match intL ((y :: ys).map D.int) with
    | some (y :: ys) => some (Sc.int (smaI y ys))
    | _ => none) = _
  rw [intL_map]
end VS
namespace VS
open PySem PySem.Spec PyProof.Rows L2
/-! ### a list within a tuple is changed -/
section
variable {X : Cx} {g : Gh} {W : WX} {pos p : Pos} {a b : Expr} {mb : Cm D}
theorem SR.writeTL {H : Hp} {σ : L2.St} {sl : List (Option T)} {tm es : List T} {i j : Nat} {q r : Addr} {st : Bool} {ts xs zs : List T} (s : SR g H σ sl (es ++ tm)) (h : sl[i]? = some (some (T.tup q st ts))) (hj : ts[j]? = some (T.lst r .own xs))
    (hz : zs.length ≤ 16777216) (hk : Ts.ok g.c H zs) (ho : ∀ a, Ts.oc a zs ≤ Ts.oc a xs + Ts.oc a es) (hs : ∀ a, 0 < Ts.sh a zs → 0 < Ts.sh a xs + Ts.sh a es) :
    SR g (upd H r (.lst (zs.map T.v))) σ (sl.set i (some (T.tup q st (ts.set j (T.lst r .own zs))))) tm := by
  have k := s.okS _ (s.slot h)
  have kts : Ts.ok g.c H ts ∧ ts.length ≤ 16777216 := by cases st <;> simp only [T.ok] at k <;> exact ⟨k.2.2, k.2.1⟩
  have kj := Ts.ok_iff.mp kts.1 _ (List.mem_of_getElem? hj)
  simp only [T.ok] at kj
  have g1 := So_get (f := T.oc r) (s.slot h)
  have g2 := So_get (f := T.sh r) (s.slot h)
  have iv := s.inv r
  rw [Ts.oc_append, Ts.sh_append] at iv
  simp only [T.oc, T.sh] at g1 g2
  have xo : ∀ a, b2 (Ow.own = Ow.own ∧ r = a) + Ts.oc a xs ≤ Ts.oc a ts := fun a => by
    have := Ts.oc_mem (a := a) (List.mem_of_getElem? hj)
    simpa [T.oc] using this
  have xs_ : ∀ a, Ts.sh a xs ≤ Ts.sh a ts := fun a => by
    have := Ts.sh_mem (a := a) (List.mem_of_getElem? hj)
    simp only [T.sh] at this
    omega
  have so := fun a => Ts.oc_setE a (T.lst r .own zs) ts j _ hj
  have ss := fun a => Ts.sh_setE a (T.lst r .own zs) ts j _ hj
  simp only [T.oc, T.sh] at so ss
  have xr := xo r
  rw [show b2 (Ow.own = Ow.own ∧ r = r) = 1 from by simp [b2]] at xr
  have h1 := ho r
  have h2 := hs r
  have x2 := xs_ r
  have k0 : Ts.oc r zs = 0 ∧ Ts.sh r zs = 0 ∧ Ts.oc r ts = 1 ∧ Ts.sh r ts = 0 := by omega
  have vs : (ts.set j (T.lst r .own zs)).map T.v = ts.map T.v := by
    rw [List.map_set]
    have e2 : (ts.map T.v)[j]? = some (T.lst r .own xs).v := by rw [List.getElem?_map, hj]; rfl
    obtain ⟨hl, e3⟩ := List.getElem?_eq_some_iff.1 e2
    exact ((List.set_getElem_self hl).symm.trans (by rw [e3]; rfl)).symm
  have items : Ts.ok g.c (upd H r (.lst (zs.map T.v))) (ts.set j (T.lst r .own zs)) := by
    rw [Ts.ok_iff]
    intro t m
    obtain ⟨n, hn⟩ := mem_get m
    rcases set_get hn with ⟨rfl, e'⟩ | ⟨ne, e'⟩
    · subst e'
      simp only [T.ok]
      exact ⟨upd_same, hz, Ts.stay zs hk fun a c => upd_ne fun e => by subst e; omega⟩
    · refine T.stay t (Ts.ok_iff.mp kts.1 t (List.mem_of_getElem? e')) fun a c => upd_ne fun ea => ?_
      subst ea
      have d0 := Ts.oc_setE a (T.sc .non) ts j _ hj
      have d1 := Ts.oc_mem (a := a) (ts := ts.set j (T.sc .non)) (t := t) (List.mem_of_getElem? (i := n) (by rw [List.getElem?_set_ne (Ne.symm ne)]; exact e'))
      have d2 := Ts.sh_mem (a := a) (List.mem_of_getElem? e')
      simp only [T.oc] at d0
      rw [show b2 (True ∧ True) = 1 by simp [b2]] at d0
      omega
  refine s.writeS h (by simp only [T.oc]; omega) (by simp [T.v]) ?_ (fun a => ?_) fun a => ?_
  · cases st
    · simp only [T.ok] at k ⊢
      have hq : q ≠ r := fun e => by have := k.1; rw [e, kj.1] at this; cases this
      exact ⟨by rw [upd_ne hq, vs]; exact k.1, by simpa using kts.2, items⟩
    · simp only [T.ok] at k ⊢
      exact ⟨by rw [vs]; exact k.1, by simpa using kts.2, items⟩
  · have := ho a
    have := so a
    have := xo a
    simp only [T.oc]
    omega
  · have := hs a
    have := ss a
    have := xs_ a
    cases st <;> simp only [T.sh] <;> omega
/-- x[m].append(c), x a tuple, c a constant -/
def mAppT (i : Nat) (mb : Cm D) (x : Sc) : Cm D := fun ρ => match ρ[i]? with
  | some (some (.tup _)) => (mb ρ).bind fun kx ρ => match ρ[i]?, kx with
    | some (some (.tup xs)), .sc (.int k) => match ixN xs.length k with
      | some n => match xs[n]? with
        | some (.lst .own zs) => if zs.length < 16777216 then .ok .non (ρ.set i (some (.tup (xs.set n (.lst .own (zs ++ [.sc x])))))) else .stuck
        | _ => .stuck
      | none => .stuck
    | _, _ => .stuck
  | _ => .stuck
@[simp] theorem mAppT_ (i : Nat) (mb : Cm D) (x : Sc) (ρ : DE) : mAppT i mb x ρ = match ρ[i]? with
  | some (some (.tup _)) => (mb ρ).bind fun kx ρ => match ρ[i]?, kx with
    | some (some (.tup xs)), .sc (.int k) => match ixN xs.length k with
      | some n => match xs[n]? with
        | some (.lst .own zs) => if zs.length < 16777216 then .ok .non (ρ.set i (some (.tup (xs.set n (.lst .own (zs ++ [.sc x])))))) else .stuck
        | _ => .stuck
      | none => .stuck
    | _, _ => .stuck
  | _ => .stuck := rfl
theorem a_tup {H : Hp} {σ : L2.St} {sl : List (Option T)} {tm : List T} {i : Nat} {xs : List D} (s : SR g H σ sl tm) (h : (den sl)[i]? = some (some (.tup xs))) : ∃ P st ts, sl[i]? = some (some (T.tup P st ts)) ∧ Ts.d ts = xs ∧ (T.tup P st ts).ok g.c H ∧ σ[i]? = some (some (.ref P)) := by
  obtain ⟨t, e1, e2, e4, e3⟩ := s.val h
  cases t with
  | tup P st ts =>
    simp only [T.d, D.tup.injEq] at e2
    exact ⟨P, st, ts, e1, e2, e4, e3⟩
  | _ => simp [T.d] at e2
theorem e_appT {y : Str} {apos spos : Pos} {i : Nat} {x : Sc} (hK : X.K = g.c.K) (hp : PE X (.Call (.Attribute (.Subscript (.Name y p) b spos) "append" apos) [a] [] pos) (tBM X.K "list" rAppend (tOp (rIx X.K) (tVar i) (tE g W mb)) (tCons (tSm (.c x)) tNil)))
    (hx : x.good := by trivial) : PE X (.Call (.Attribute (.Subscript (.Name y p) b spos) "append" apos) [a] [] pos) (tE g W (mAppT i mb x)) :=
  hp.imp fun σ H Q ⟨sl, tm, s, h⟩ => by
    unfold mAppT at h
    split at h
    · rename_i xs0 e0
      obtain ⟨P0, st0, ts0, _, _, _, e3⟩ := a_tup s e0
      refine ⟨_, e3, tE.of s h fun H1 sl1 t s1 h1 => ?_⟩
      split at h1
      · rename_i xs k e1 ek
        split at h1
        · rename_i n hn
          split at h1
          · rename_i zs hz
            have s1' := s1.pop
            obtain ⟨P, st, ts, g1, rfl, g4, g7⟩ := a_tup s1' e1
            rw [e3] at g7
            cases g7
            obtain ⟨u, hu, hud⟩ := Ts.d_at hz
            cases u with
            | lst r o us =>
              simp only [T.d, D.lst.injEq] at hud
              obtain ⟨rfl, rfl⟩ := hud
              have sq := tup_sq g4
              have kr := Ts.ok_iff.mp sq.2.2 _ (List.mem_of_getElem? hu)
              simp only [T.ok] at kr
              cases t with
              | sc w =>
                simp only [T.d, D.sc.injEq] at ek
                subst ek
                have hl : atI (ts.map T.v) k = some (.ref r) := by
                  unfold atI
                  rw [List.length_map, ← Ts.d_len, hn]
                  show (ts.map T.v)[n]? = _
                  rw [List.getElem?_map, hu]
                  rfl
                refine .inr (.inl ⟨P0, _, k, .ref r, rfl, rfl, by rw [hK]; exact sq.1, hl, ?_⟩)
                show tyV X.K "list" (.ref r) H1 ∧ _
                refine ⟨.inl ⟨rfl, _, .of kr.1⟩, ?_⟩
                split at h1
                · rename_i hlen
                  rw [Ts.d_len] at hlen
                  refine ⟨hx, r, _, x.v, rfl, rfl, kr.1, by rw [SZ_eq]; simpa using hlen, ?_⟩
                  have s2 : SR g H1 σ sl1 ([T.sc x] ++ tm) := s1'.push x hx
                  have s3 := s2.writeTL (zs := us ++ [T.sc x]) g1 hu (by simp; omega) (by
                    rw [Ts.ok_iff]; intro u m
                    rcases List.mem_append.mp m with m | m
                    · exact Ts.ok_iff.mp kr.2.2 u m
                    · have e := List.mem_singleton.mp m; subst e; exact hx) (fun a => by simp [Ts.oc_append, Ts.oc]) (fun a => by simp [Ts.sh_append, Ts.sh])
                  rw [List.map_append] at s3
                  exact h1 _ _ (.sc .non) (s3.push _ trivial) (by rw [den_set]; simp [T.d, Ts.d_set, Ts.d_append, Ts.d]) rfl
                · exact h1.elim
              | _ => simp [T.d] at ek
            | _ => simp [T.d] at hud
          · exact h1.elim
        · exact h1.elim
      · exact h1.elim
    · exact h.elim
end
/-! ### text[::-1] -/
def tRevS (te : TE) : TE := fun σ H Q => te σ H fun x H1 => ∃ z : Str, x = .str z ∧ z.length ≤ sizeLine ∧ Q (.str ⟨z.cps.toList.reverse.toArray⟩) H1
section
variable {X : Cx} {g : Gh} {W : WX} {pos : Pos} {a : Expr}
theorem pe_revS {e : Expr} {te : TE} {k : Nat} {p1 p2 p3 pos : Pos} (he : PE X e te) : PE X (.Subscript e (.Slice none none (some (.UnaryOp .USub (.Constant (.int 1) k p1) p2)) p3) pos) (tRevS te) := by
  refine ⟨fun pins s σ H Q I h => ?_⟩
  refine Subscript_ (thn (he.run pins s σ H _ I h) fun v s1 ⟨x, H1, I1, r1, q1⟩ => ?_)
  obtain ⟨z, ex, hz, q⟩ := q1
  subst ex
  obtain ⟨t, rfl⟩ := r1
  have hst : PO X (some (.UnaryOp .USub (.Constant (.int 1) k p1) p2)) (tPart (tUn (rU fun i => .int (-i)) (tC (.int 1)))) := po_some (pe_un un_neg pe_int)
  refine wpAny_Slice (thn (po_none.run pins s1 σ H1 (fun o H2 => o = none ∧ H2 = H1) I1 ⟨rfl, rfl⟩) fun vl s2 ⟨l, H2, I2, pl, el, e2⟩ => ?_)
  subst el e2
  refine thn (po_none.run pins s2 σ H2 (fun o H3 => o = none ∧ H3 = H2) I2 ⟨rfl, rfl⟩) fun vu s3 ⟨u, H3, I3, pu, eu, e3⟩ => ?_
  subst eu e3
  refine thn (hst.run pins s3 σ H3 (fun o H4 => o = some (-1) ∧ H4 = H3) I3 ⟨1, rfl, -1, rfl, rfl, rfl⟩) fun vs s4 ⟨o, H4, I4, ps, eo, e4⟩ => ?_
  subst eo e4
  have I5 : Inv X pins σ H4 { s4 with heap := s4.heap.push { cls := .type "slice", data := .fields #[vl, vu, vs] } } := I4.kept (t' := s4.toks) fun b ob q => Heap.get?_push_of_some _ q
  show wpAny (model X.prog X.w) X.A (subscriptTail e (.Slice none none (some (.UnaryOp .USub (.Constant (.int 1) k p1) p2)) p3) (.str z t) (.ref s4.heap.objs.size)) (EP X pins σ Q) X.xe { s4 with heap := s4.heap.push { cls := .type "slice", data := .fields #[vl, vu, vs] } }
  refine tail_any (ops := [.ref s4.heap.objs.size, .str z t]) (typeIs_str _ _ _) PySem.F.slot_str_getitem.lookup ?_ (by with_unfolding_all rfl)
  obtain ⟨l', rfl, hl⟩ := IsPart.raw pl
  obtain ⟨u', rfl, hu⟩ := IsPart.raw pu
  obtain ⟨w', rfl, hw⟩ := IsPart.raw ps
  have hl2 : l' = none := by cases l' with
    | none => rfl
    | some y => cases hl
  have hu2 : u' = none := by cases u' with
    | none => rfl
    | some y => cases hu
  subst hl2 hu2
  obtain ⟨tw, rfl⟩ : ∃ tw, w' = some (-1, tw) := by cases w' with
    | none => cases hw
    | some y => obtain ⟨i, tw⟩ := y; cases hw; exact ⟨tw, rfl⟩
  refine wpAny_getItem_str_slice (l := none) (u := none) (st := some (-1, tw)) ⟨_, Heap.get?_push_size _ rfl, rfl, rfl⟩ rfl ?_
  have hpick : ((Builtin.Str.strSliceIndices none none (-1) z.length).filterMap (z.cps[·]?)) = z.cps.toList.reverse := by
    show ((sliceRange ((z.cps.size : Int) - 1) (-1) (-1)).filterMap (z.cps[·]?)) = _
    rw [PySem.W.krv_sliceRange, PySem.W.krv_range, List.filterMap_reverse, PySem.W.krv_all]
  show Made.post (if ((-1 : Int) == 1 && (Builtin.Str.strSliceIndices none none (-1) z.length).length == z.length) = true then Made.val (.str z t)
    else Made.str ⟨((Builtin.Str.strSliceIndices none none (-1) z.length).filterMap (z.cps[·]?)).toArray⟩) (EP X pins σ Q) _
  rw [if_neg (by simp), hpick]
  have hl : (⟨z.cps.toList.reverse.toArray⟩ : Str).length ≤ sizeLine := by
    show z.cps.toList.reverse.toArray.size ≤ _
    rw [List.size_toArray, List.length_reverse, Array.length_toList]
    exact hz
  exact ⟨hl, .str _, H4, I5.tok _, ⟨_, rfl⟩, q⟩
def revSD : D → Option Sc
  | .sc (.str l) => some (.str l.reverse)
  | _ => none
@[simp] theorem revSD_ (l : List Nat) : revSD (.str l) = some (.str l.reverse) := rfl
theorem e_revS {oa : Opd} {k : Nat} {p1 p2 p3 : Pos} (ha : PE X a (tO g W oa)) : PE X (.Subscript a (.Slice none none (some (.UnaryOp .USub (.Constant (.int 1) k p1) p2)) p3) pos) (tE g W (mP1 revSD oa)) :=
  (pe_revS ha).imp (p1_imp fun H u c Q kk h q => by
    cases u with
    | sc s =>
      cases s with
      | str l =>
        cases h
        have gd : (Sc.str l).good := kk
        refine ⟨⟨l.toArray⟩, rfl, ?_, ?_⟩
        · show l.toArray.size ≤ _
          rw [List.size_toArray]
          exact gd.1
        · exact q ⟨by rw [List.length_reverse]; exact gd.1, fun c hc => gd.2 c (List.mem_reverse.1 hc)⟩
      | _ => cases h
    | _ => cases h)
end
/-! ### text.lower(), text.upper() -/
def loC (c : Nat) : Nat := if 65 ≤ c ∧ c ≤ 90 then c + 32 else c
def upC (c : Nat) : Nat := if 97 ≤ c ∧ c ≤ 122 then c - 32 else c
theorem lo_tab : ∀ c : Nat, c < 128 → Unicode.lowerOf c = [loC c] := by decide +kernel
theorem up_tab : ∀ c : Nat, c < 128 → Unicode.upperOf c = [upC c] := by decide +kernel
theorem flat_single (g : Nat → Nat) (a : Array Nat) : (a.map fun c => #[g c]).flatten = a.map g := by
  apply Array.ext'
  rw [Array.toList_flatten]
  simp only [Array.toList_map, List.map_map]
  induction a.toList with
  | nil => rfl
  | cons x l ih => simp at ih ⊢; exact ih
theorem lower_ascii (l : List Nat) (h : ∀ c ∈ l, c < 128) : Txt.lower ⟨l.toArray⟩ = ⟨(l.map loC).toArray⟩ := by
  unfold Txt.lower placed
  have e : ((l.toArray.mapIdx fun i c => (Unicode.lowerAt l.toArray i).toArray)) = l.toArray.map fun c => #[loC c] := by
    apply Array.ext
    · simp
    · intro i h1 h2
      have hi : i < l.length := by simpa using h1
      have hc := h l[i] (List.getElem_mem _)
      have e1 : l.toArray[i]? = some l[i] := by simp [hi]
      simp only [Array.getElem_mapIdx, Array.getElem_map, List.getElem_toArray]
      unfold Unicode.lowerAt
      rw [e1]
      have ne : (l[i] == 0x3A3) = false := by simp; omega
      simp only [ne, Bool.false_and, Bool.false_eq_true, if_false, lo_tab _ hc]
  rw [e, flat_single]
  simp
theorem upper_ascii (l : List Nat) (h : ∀ c ∈ l, c < 128) : Txt.upper ⟨l.toArray⟩ = ⟨(l.map upC).toArray⟩ := by
  unfold Txt.upper placed
  have e : ((l.toArray.mapIdx fun i c => (Unicode.upperOf c).toArray)) = l.toArray.map fun c => #[upC c] := by
    apply Array.ext
    · simp
    · intro i h1 h2
      have hi : i < l.length := by simpa using h1
      have hc := h l[i] (List.getElem_mem _)
      simp only [Array.getElem_mapIdx, Array.getElem_map, List.getElem_toArray, up_tab _ hc]
  rw [e, flat_single]
  simp
section
variable {g : Gh}
def lowerM : D → Option Sc
  | .sc (.str l) => if l.all (fun c => decide (c < 128)) = true ∧ l.length ≤ 5592405 then some (.str (l.map loC)) else none
  | _ => none
@[simp] theorem lowerM_ (l : List Nat) : lowerM (.str l) = if l.all (fun c => decide (c < 128)) = true ∧ l.length ≤ 5592405 then some (.str (l.map loC)) else none := rfl
def upperM : D → Option Sc
  | .sc (.str l) => if l.all (fun c => decide (c < 128)) = true ∧ l.length ≤ 5592405 then some (.str (l.map upC)) else none
  | _ => none
@[simp] theorem upperM_ (l : List Nat) : upperM (.str l) = if l.all (fun c => decide (c < 128)) = true ∧ l.length ≤ 5592405 then some (.str (l.map upC)) else none := rfl
theorem lo_lt (c : Nat) (h : c < 128) : loC c < 1114112 := by unfold loC; split <;> omega
theorem up_lt (c : Nat) (h : c < 128) : upC c < 1114112 := by unfold upC; split <;> omega
theorem hs_lower : HM0 g lowerM (fun x xs H Q => ∃ a, x = .str a ∧ xs = [] ∧ a.length ≤ 5592405 ∧ Q (.str (Txt.lower a)) H) := fun H u d Q k h q => by
  cases u with
  | sc x =>
    cases x with
    | str l =>
      simp only [T.d, lowerM_] at h
      split at h
      · rename_i hl
        cases h
        have hc : ∀ c ∈ l, c < 128 := fun c hc => by simpa using List.all_eq_true.1 hl.1 c hc
        refine ⟨⟨_, rfl⟩, ⟨l.toArray⟩, rfl, rfl, by simpa [Str.length] using hl.2, ?_⟩
        rw [lower_ascii l hc]
        refine q ⟨by simp; omega, fun c hc2 => ?_⟩
        obtain ⟨c', hc', rfl⟩ := List.mem_map.1 hc2
        exact lo_lt _ (hc _ hc')
      · cases h
    | _ => cases h
  | _ => cases h
theorem hs_upper : HM0 g upperM (fun x xs H Q => ∃ a, x = .str a ∧ xs = [] ∧ a.length ≤ 5592405 ∧ Q (.str (Txt.upper a)) H) := fun H u d Q k h q => by
  cases u with
  | sc x =>
    cases x with
    | str l =>
      simp only [T.d, upperM_] at h
      split at h
      · rename_i hl
        cases h
        have hc : ∀ c ∈ l, c < 128 := fun c hc => by simpa using List.all_eq_true.1 hl.1 c hc
        refine ⟨⟨_, rfl⟩, ⟨l.toArray⟩, rfl, rfl, by simpa [Str.length] using hl.2, ?_⟩
        rw [upper_ascii l hc]
        refine q ⟨by simp; omega, fun c hc2 => ?_⟩
        obtain ⟨c', hc', rfl⟩ := List.mem_map.1 hc2
        exact up_lt _ (hc _ hc')
      · cases h
    | _ => cases h
  | _ => cases h
end
/-! ### a call without arguments; self.f.append((c, self.f1, self.f2)) -/
section
variable {X : Cx} {g : Gh} {W : WX} {pos p apos : Pos} {a e : Expr}
theorem e_call0 {f : Addr} {fd : FuncData} {ps : List Str} {x : Str} {c : Cfg} {M : List D → RF} {k : Nat} (F : FnOk X.prog X.w X.K X.mg X.base (L2.CX X.prog X.w) k f fd ps (spM c 0 [] M)) (hr : Room k X.A) (hg : Gl X x) (hm : X.mg x = some (.ref f)) (hk : PySem.W.keepIn X.K (.ref f) = true) (hb : Binds X.K fd ps []) (tk : Takes X W)
    (hc : g.c = c) (hdb : (x == ("__debug__" : Str)) = false := by decide) : PE X (.Call (.Name x p) [] [] pos) (tE g W (mCall M [])) := by
  refine ⟨fun pins s σ H Q I h => ?_⟩
  obtain ⟨sl, tm, s0, q⟩ := call_imp (np := 0) (io := []) hc rfl rfl (by decide) σ H Q h
  have q1 := q H sl [] [] s0 rfl rfl trivial
  refine wpAny_Call_Name_kw (ld_glob I hg hm ?_ hdb)
  exact PySem.W.callWith_K0 I.kIn hk (run_fnS F hr hb (passAt tk σ) I .nil q1)
/-- self.f.append((c, self.f1, self.f2)) -/
def mAppFT (i : Nat) (C f : String) (c : Sc) (f1 f2 : String) : Cm D := fun ρ => match ρ[i]? with
  | some (some (.obj .own C' ns xs)) => if C' = C then (match fIx f ns, fIx f1 ns, fIx f2 ns with
    | some j, some k1, some k2 => if k1 ≠ j ∧ k2 ≠ j then (match xs[j]?, xs[k1]? with
      | some (.lst .own ys), some d1 => match (xs.set k1 d1.fz)[k2]? with
        | some d2 => if ys.length < 16777216 then .ok .non (ρ.set i (some (.obj .own C ns (((xs.set k1 d1.fz).set k2 d2.fz).set j (.lst .own (ys ++ [.tup [.sc c, d1.fz, d2.fz]])))))) else .stuck
        | none => .stuck
      | _, _ => .stuck) else .stuck
    | _, _, _ => .stuck) else .stuck
  | _ => .stuck
theorem e_appFT {i : Nat} {C f f1 f2 : String} {c : Sc} (cl : Cls X.K (g.c.cls C)) (na : NoAttr X.K (g.c.cls C) (Str.ofString f)) (na1 : NoAttr X.K (g.c.cls C) (Str.ofString f1)) (na2 : NoAttr X.K (g.c.cls C) (Str.ofString f2)) (gc : c.good) (hK : X.K = g.c.K)
    (hp : PE X (.Call (.Attribute e "append" apos) [a] [] pos) (tBM X.K "list" rAppend (tFld X.K (tVar i) (Str.ofString f)) (tCons (tTup (tCons (tC c.v) (tCons (tFld X.K (tVar i) (Str.ofString f1)) (tCons (tFld X.K (tVar i) (Str.ofString f2)) tNil)))) tNil))) :
    PE X (.Call (.Attribute e "append" apos) [a] [] pos) (tE g W (mAppFT i C f c f1 f2)) :=
  hp.imp fun σ H Q ⟨sl, tm, s, h⟩ => by
    unfold mAppFT at h
    split at h
    · rename_i C' ns xs e0
      split at h
      · rename_i hC
        subst hC
        split at h
        · rename_i j k1 k2 hj hk1 hk2
          split at h
          · rename_i hne
            split at h
            · rename_i ys d1 hd hd1
              split at h
              · rename_i d2 hd2
                split at h
                · rename_i hz
                  obtain ⟨q, dx, ts, g1, rfl, g3, g4, g5, g6, g7, g8⟩ := obj_at s e0
                  obtain ⟨t, ht, htd⟩ := Ts.d_at hd
                  cases t with
                  | lst r o us =>
                    simp only [T.d, D.lst.injEq] at htd
                    obtain ⟨rfl, rfl⟩ := htd
                    obtain ⟨t1, ht1, rfl⟩ := Ts.d_at hd1
                    have lk : (fieldsV ns (ts.map T.v)).lookup (Str.ofString f) = some (V.ref r) := fIx_lookup hj (by rw [List.getElem?_map, ht]; rfl)
                    have lk1 : (fieldsV ns (ts.map T.v)).lookup (Str.ofString f1) = some t1.v := fIx_lookup hk1 (by rw [List.getElem?_map, ht1]; rfl)
                    have kr := Ts.ok_iff.mp g7 _ (List.mem_of_getElem? ht)
                    have krl := kr
                    simp only [T.ok] at kr
                    -- the first field read
                    have s1 := s.readF g1 ht1
                    have il : i < sl.length := (List.getElem?_eq_some_iff.1 g1).1
                    have gg1 : (sl.set i (some (T.obj q dx .own C' ns (ts.set k1 t1.fz))))[i]? = some (some (T.obj q dx .own C' ns (ts.set k1 t1.fz))) := List.getElem?_set_self il
                    have hd2' : (Ts.d (ts.set k1 t1.fz))[k2]? = some d2 := by rw [Ts.d_set, T.fz_d]; exact hd2
                    obtain ⟨t2, ht2, rfl⟩ := Ts.d_at hd2'
                    have vs1 : (ts.set k1 t1.fz).map T.v = ts.map T.v := by
                      rw [List.map_set, T.fz_v]
                      apply List.ext_getElem?
                      intro n
                      rw [List.getElem?_set]
                      split
                      · rename_i hkn
                        subst hkn
                        rw [List.getElem?_map, ht1]
                        have := (List.getElem?_eq_some_iff.1 ht1).1
                        simp [this]
                      · rfl
                    have lk2 : (fieldsV ns (ts.map T.v)).lookup (Str.ofString f2) = some t2.v := fIx_lookup hk2 (by rw [← vs1, List.getElem?_map, ht2]; rfl)
                    have s2 := s1.readF gg1 ht2
                    rw [List.set_set] at s2
                    refine ⟨.ref q, g8, q, _, dx, _, .ref r, rfl, g3, cl, na, lk, .inl ⟨rfl, _, by rw [hK]; exact (lst_sq krl).1⟩, ?_⟩
                    refine ⟨.ref q, g8, q, _, dx, _, t1.v, rfl, g3, cl, na1, lk1, ?_⟩
                    refine ⟨.ref q, g8, q, _, dx, _, t2.v, rfl, g3, cl, na2, lk2, ?_⟩
                    refine ⟨by rw [SZ_eq]; simp, fun p hp0 => ?_⟩
                    have xv : [c.v, t1.v, t2.v] = [T.sc c, t1.fz, t2.fz].map T.v := by
                      rw [List.map_cons, List.map_cons, List.map_cons, T.fz_v, T.fz_v]
                      rfl
                    show rAppend (.ref r) [.ref p] (upd H p (.tup [c.v, t1.v, t2.v])) Q
                    rw [xv]
                    have s2' : SR g H σ (sl.set i (some (T.obj q dx .own C' ns ((ts.set k1 t1.fz).set k2 t2.fz)))) ([t2.fz, t1.fz] ++ tm) := s2
                    have ok2 := (Ts.ok_iff.mp s2.okT) t2.fz (List.mem_cons_self ..)
                    have ok1 := (Ts.ok_iff.mp s2.okT) t1.fz (List.mem_cons_of_mem _ (List.mem_cons_self ..))
                    have s3 := s2'.newT (p := p) (ts := [T.sc c, t1.fz, t2.fz]) hp0 (by show 3 ≤ 16777216; decide) (by
                      rw [Ts.ok_iff]
                      intro u m
                      simp only [List.mem_cons, List.not_mem_nil, or_false] at m
                      rcases m with rfl | rfl | rfl
                      · exact gc
                      · exact ok1
                      · exact ok2) (fun a => by simp only [Ts.oc, Ts.sh, T.oc, T.sh]; omega)
                    have rp : r ≠ p := fun e => by rw [e] at kr; rw [hp0] at kr; exact absurd kr.1 (by simp)
                    have gi : (sl.set i (some (T.obj q dx .own C' ns ((ts.set k1 t1.fz).set k2 t2.fz))))[i]? = some (some (T.obj q dx .own C' ns ((ts.set k1 t1.fz).set k2 t2.fz))) := List.getElem?_set_self il
                    have gj : ((ts.set k1 t1.fz).set k2 t2.fz)[j]? = some (T.lst r .own us) := by
                      rw [List.getElem?_set_ne hne.2, List.getElem?_set_ne hne.1]
                      exact ht
                    have k3 := s3.okS _ (s3.slot gi)
                    simp only [T.ok] at k3
                    have kr3 := Ts.ok_iff.mp k3.2.2.2.2 _ (List.mem_of_getElem? gj)
                    simp only [T.ok] at kr3
                    rw [Ts.d_len] at hz
                    refine ⟨r, _, _, rfl, rfl, kr3.1, by rw [SZ_eq]; simpa using hz, ?_⟩
                    have s4 : SR g (upd H p (.tup ([T.sc c, t1.fz, t2.fz].map T.v))) σ (sl.set i (some (T.obj q dx .own C' ns ((ts.set k1 t1.fz).set k2 t2.fz)))) ([T.tup p false [T.sc c, t1.fz, t2.fz]] ++ tm) := s3
                    have w := s4.writeFL (zs := us ++ [T.tup p false [T.sc c, t1.fz, t2.fz]]) gi gj (by simp; omega) (by
                      rw [Ts.ok_iff]; intro u m
                      rcases List.mem_append.mp m with m | m
                      · exact Ts.ok_iff.mp kr3.2.2 u m
                      · have e := List.mem_singleton.mp m; subst e; exact s3.top) (fun a => by simp [Ts.oc_append, Ts.oc]) (fun a => by simp [Ts.sh_append, Ts.sh])
                    rw [List.map_append, List.set_set] at w
                    exact h _ _ (.sc .non) (w.push _ trivial) (by rw [den_set]; simp [T.d, Ts.d_set, Ts.d_append, Ts.d, T.fz_d]) rfl
                  | _ => simp [T.d] at htd
                · exact h.elim
              · exact h.elim
            · exact h.elim
          · exact h.elim
        · exact h.elim
      · exact h.elim
    · exact h.elim
theorem e_appFS {i : Nat} {C f f1 f2 : String} {l : List Nat} {cs : Str} (h1 : cs = ⟨l.toArray⟩) (gc : (Sc.str l).good) (cl : Cls X.K (g.c.cls C)) (na : NoAttr X.K (g.c.cls C) (Str.ofString f)) (na1 : NoAttr X.K (g.c.cls C) (Str.ofString f1)) (na2 : NoAttr X.K (g.c.cls C) (Str.ofString f2)) (hK : X.K = g.c.K)
    (hp : PE X (.Call (.Attribute e "append" apos) [a] [] pos) (tBM X.K "list" rAppend (tFld X.K (tVar i) (Str.ofString f)) (tCons (tTup (tCons (tC (.str cs)) (tCons (tFld X.K (tVar i) (Str.ofString f1)) (tCons (tFld X.K (tVar i) (Str.ofString f2)) tNil)))) tNil))) :
    PE X (.Call (.Attribute e "append" apos) [a] [] pos) (tE g W (mAppFT i C f (.str l) f1 f2)) := by
  subst h1
  exact e_appFT cl na na1 na2 gc hK hp
@[simp] theorem mAppFT_ (i : Nat) (C f : String) (c : Sc) (f1 f2 : String) (ρ : DE) : mAppFT i C f c f1 f2 ρ = match ρ[i]? with
  | some (some (.obj .own C' ns xs)) => if C' = C then (match fIx f ns, fIx f1 ns, fIx f2 ns with
    | some j, some k1, some k2 => if k1 ≠ j ∧ k2 ≠ j then (match xs[j]?, xs[k1]? with
      | some (.lst .own ys), some d1 => match (xs.set k1 d1.fz)[k2]? with
        | some d2 => if ys.length < 16777216 then .ok .non (ρ.set i (some (.obj .own C ns (((xs.set k1 d1.fz).set k2 d2.fz).set j (.lst .own (ys ++ [.tup [.sc c, d1.fz, d2.fz]])))))) else .stuck
        | none => .stuck
      | _, _ => .stuck) else .stuck
    | _, _, _ => .stuck) else .stuck
  | _ => .stuck := rfl
end
end VS

/-! VS, part F: isinstance of a caught exception and a tuple of own classes. -/
namespace VS
open PySem PySem.Spec PyProof.Rows L2
/-- what nobody holds may be laid anywhere -/
theorem SR.waste {g : Gh} {H : Hp} {σ : L2.St} {sl : List (Option T)} {tm : List T} {p : Addr} {o : HO} (s : SR g H σ sl tm) (hp : H p = none) : SR g (upd H p o) σ sl tm := by
  have fr := s.free hp
  refine s.go (s.stayS fun b q => upd_ne fun e => ?_) (s.stayT fun b q => upd_ne fun e => ?_) (fun b => .inl ⟨Nat.le_refl _, fun q => .inl q⟩) (fun b => ?_) s.len s.slen s.at_ s.io
  · subst e; omega
  · subst e; omega
  · by_cases e : b = p
    · exact .inr (.inl (by rw [e]; exact hp))
    · exact .inl (upd_ne e)
def anyX (exm : String → String → Option Bool) (c : String) : List String → Option Bool
  | [] => some false
  | d :: r => match exm c d with
    | none => none
    | some true => some true
    | some false => anyX exm c r
def mIsXs (exm : String → String → Option Bool) (x : Ex) (Ds : List String) : Cm D := match anyX exm x.cls Ds with
  | some b => mC (.bl b)
  | none => mStuckD
section
variable {X : Cx} {g : Gh} {W : WX} {p p1 p2 pos : Pos} {y : Str} {i : Nat} {a : Addr} {oe : Obj} {cls : Value} {d : Option Addr} {pn : List (Addr × Obj)} {x : Ex} {exm : String → String → Option Bool}
def rIsXT (K : PySem.W.Frag) (C a : Addr) (d : Option Addr) : List V → Hp → VK → Prop := fun xs H Q => ∃ (tp : Addr) (cs : List V) (us : List Value) (b : Bool), xs = [.ref a, .ref tp] ∧ H tp = some (.tup cs) ∧ Paired ClsV cs us ∧ PySem.W.kitAny K (.ref C) us = some b ∧ (match d with
  | none => True
  | some dd => ∃ fs, H dd = some (.xd fs)) ∧ Q (.bl b) H
theorem call_isXT {C : Addr} (T : CB X.K C) (hz : Zc (.ref C) d oe) (hf : ∃ vs, oe.data = .fields vs) : CallR (X.suite a ((a, oe) :: pn)) (.builtin "isinstance") (rIsXT X.K C a d) := by
  intro pins s σ H xs us Q I r h
  obtain ⟨tp, cs, ws, b, rfl, hT, hk, e, hd, q⟩ := h
  cases r with
  | cons rx rr =>
    cases rr with
    | cons rt rr =>
      cases rr
      cases rx
      rename_i u2
      cases (show u2 = Value.ref tp from rt)
      obtain ⟨_, its, rv, o, h1, h2, n, h3⟩ := (show ObjOk X.prog X.w H s.heap tp (.tup cs) from I.hok tp _ hT)
      have e3 := ClsV.all hk rv
      subst e3
      obtain ⟨oc, od, dt, sl⟩ := o
      simp only at h2 h3
      subst h2 h3
      obtain ⟨hget, _⟩ := I.pin (a, oe) (List.mem_append.mpr (.inl List.mem_cons_self))
      obtain ⟨vs, hv⟩ := hf
      have J : ∃ od, PySem.W.InstAt s.heap a oe C od := by
        cases d with
        | none => exact ⟨none, hget, hz.1, by unfold PySem.W.notCls; rw [hv] <;> rfl, by rw [hz.2]; trivial⟩
        | some dd =>
          obtain ⟨fs, hd⟩ := hd
          have hx : ObjOk X.prog X.w H s.heap dd (.xd fs) := I.hok dd _ hd
          obtain ⟨mA, hns, hr⟩ := hx
          obtain ⟨od, ho, hl⟩ := lookIn_ns hns
          exact ⟨some od, hget, hz.1, by unfold PySem.W.notCls; rw [hv] <;> rfl, by rw [hz.2]; exact ho⟩
      obtain ⟨od, J⟩ := J
      exact PySem.W.kia_tup (PySem.W.kitx_exc T.cl T.xf.ga T.xf.gg T.xf.exC T.ca T.sp T.tk T.mr) I.kIn J h1 e (fun z => nomatch z) fun tk => ⟨.bl b, H, I.kept (t' := tk) fun _ _ z => z, rfl, q⟩
/-- names of own classes, one behind the other -/
inductive PAC (X : Cx) (g : Gh) : List Expr → List String → TA → Prop where
  | nil : PAC X g [] [] tNil
  | cons {xD : Str} {p : Pos} {Dn : String} {es : List Expr} {ds : List String} {t : TA} (hgD : Gl X xD) (gD : X.mg xD = some (.ref (g.c.cls Dn))) (hdD : (xD == ("__debug__" : Str)) = false) (hs : starEach (.Name xD p :: es) X.env = (false, eval (.Name xD p) X.env) :: starEach es X.env) (r : PAC X g es ds t) :
      PAC X g (.Name xD p :: es) (Dn :: ds) (tCons (tC (.ref (g.c.cls Dn))) t)
theorem PAC.pa {es : List Expr} {ds : List String} {t : TA} (h : PAC X g es ds t) : PA X es t := by
  induction h with
  | nil => exact pa_nil
  | cons hgD gD hdD hs r ih => exact pa_cons (pe_glob hgD gD rfl hdD) ih hs
theorem PAC.run {es : List Expr} {ds : List String} {t : TA} (h : PAC X g es ds t) (σ : L2.St) (H : Hp) (Q : List V → Hp → Prop) (q : Q (ds.map fun D => V.ref (g.c.cls D)) H) : t σ H Q := by
  induction h generalizing Q with
  | nil => exact q
  | cons hgD gD hdD hs r ih => exact ih _ q
theorem cls_pair (l : List String) : Paired ClsV (l.map fun D => V.ref (g.c.cls D)) (l.map fun D => Value.ref (g.c.cls D)) := by
  induction l with
  | nil => exact .nil
  | cons d l ih => exact .cons (.own _) ih
theorem any_kit {K : PySem.W.Frag} {cl : String → Addr} {c : String} (hk : ∀ Dn b, exm c Dn = some b → PySem.W.kitOne K (.ref (cl c)) (.ref (cl Dn)) = some b) : ∀ (l : List String) (b : Bool), anyX exm c l = some b → PySem.W.kitAny K (.ref (cl c)) (l.map fun D => Value.ref (cl D)) = some b
  | [], b, h => by cases h; exact kitAny_nil
  | d :: r, b, h => by
    unfold anyX at h
    cases e : exm c d with
    | none => rw [e] at h; cases h
    | some v =>
      rw [e] at h
      cases v with
      | true => cases h; exact kitAny_cons (hk d true e) (fun z => nomatch z) (fun _ => rfl)
      | false => exact kitAny_cons (hk d false e) (fun _ => any_kit hk r b h) (fun z => nomatch z)
theorem e_isXT {k : Nat} {es : List Expr} {ds : List String} {t : TA} (hc : PAC (X.suite a ((a, oe) :: pn)) g es ds t) (hz : Zc cls d oe) (hf : ∃ vs, oe.data = .fields vs) (hx : XIs g cls d x) (T : CB X.K (g.c.cls x.cls)) (hk : ∀ Dn b, exm x.cls Dn = some b → PySem.W.kitOne X.K (.ref (g.c.cls x.cls)) (.ref (g.c.cls Dn)) = some b)
    (hl : ds.length ≤ 1000) (hm : X.mg "isinstance" = none) (hp : PE (X.suite a ((a, oe) :: pn)) (.Name y p1) (tVar i)) (hg : Gl X "isinstance" := by rfl)
    (hs1 : starEach [.Name y p1, .Tuple es k p2] (X.suite a ((a, oe) :: pn)).env = (false, eval (.Name y p1) (X.suite a ((a, oe) :: pn)).env) :: starEach [.Tuple es k p2] (X.suite a ((a, oe) :: pn)).env := by rfl) (hs2 : starEach [.Tuple es k p2] (X.suite a ((a, oe) :: pn)).env = (false, eval (.Tuple es k p2) (X.suite a ((a, oe) :: pn)).env) :: starEach [] (X.suite a ((a, oe) :: pn)).env := by rfl) (hpl : (backTo pos (starEach [.Tuple es k p2] (X.suite a ((a, oe) :: pn)).env)).any (·.1) = false := by rfl) :
    PE (X.suite a ((a, oe) :: pn)) (.Call (.Name "isinstance" p) [.Name y p1, .Tuple es k p2] [] pos) (tE (g.sx i a d x) W (mIsXs exm x ds)) := by
  have hz2 : Zc (.ref (g.c.cls x.cls)) d oe := by rw [← hx.is]; exact hz
  refine (pe_callB (call_isXT (X := X) T hz2 hf) hg hm (by decide +kernel) (pa_cons hp (pa_cons (pe_tup hc.pa) pa_nil hs2) hs1) (hpl := hpl) (he := hs1)).imp fun σ H Q h => ?_
  obtain ⟨sl, tm, s, h⟩ := h
  unfold mIsXs at h
  cases e : anyX exm x.cls ds with
  | none => rw [e] at h; exact h.elim
  | some b =>
    rw [e] at h
    refine ⟨.ref a, s.io (i, .ref a) (by simp [Gh.sx]), ?_⟩
    refine hc.run σ H _ ⟨by rw [SZ_eq, List.length_map]; omega, fun q hq => ?_⟩
    have s2 := s.waste (o := .tup (ds.map fun D => V.ref (g.c.cls D))) hq
    refine ⟨q, _, _, b, rfl, upd_same, cls_pair ds, any_kit hk ds b e, ?_, h _ sl (.sc (.bl b)) (s2.push _ trivial) rfl rfl⟩
    cases d with
    | none => trivial
    | some dd =>
      exact ⟨_, (s2.px (dd, HO.xd (fieldsV x.ns (x.xs.map Sc.v))) (by simp [Gh.sx])).1⟩
end
@[simp] theorem mIsXs_ (exm : String → String → Option Bool) (x : Ex) (Ds : List String) : mIsXs exm x Ds = match anyX exm x.cls Ds with
  | some b => mC (.bl b)
  | none => mStuckD := rfl
end VS

/-! VS, part G: repr of lists and tuples of data (in the law itself, where nothing is under way). -/
namespace VS
open PySem PySem.Spec PyProof.Rows L2
mutual
def D.pd : D → PyData
  | .sc s => s.pd
  | .lst _ xs => .list (Ds.pd xs)
  | .tup xs => .tuple (Ds.pd xs)
  | _ => .none
def Ds.pd : List D → List PyData
  | [] => []
  | t :: ts => t.pd :: Ds.pd ts
end
mutual
theorem T.pd_d : ∀ t : T, t.pd = t.d.pd
  | .sc s => by simp [T.pd, T.d, D.pd]
  | .lst a o xs => by simp [T.pd, T.d, D.pd, Ts.pd_d xs]
  | .tup a st xs => by simp [T.pd, T.d, D.pd, Ts.pd_d xs]
  | .obj _ _ _ _ _ _ => by simp [T.pd, T.d, D.pd]
  | .exn _ _ _ _ _ => by simp [T.pd, T.d, D.pd]
theorem Ts.pd_d : ∀ ts : List T, Ts.pd ts = Ds.pd (Ts.d ts)
  | [] => by simp [Ts.pd, Ts.d, Ds.pd]
  | t :: ts => by simp [Ts.pd, Ts.d, Ds.pd, T.pd_d t, Ts.pd_d ts]
end
mutual
theorem T.nodict : ∀ t : T, t.pd.hasDict = false
  | .sc s => by cases s <;> simp [T.pd, Sc.pd, PyData.hasDict]
  | .lst a o xs => by simp [T.pd, PyData.hasDict, Ts.nodict xs]
  | .tup a st xs => by simp [T.pd, PyData.hasDict, Ts.nodict xs]
  | .obj _ _ _ _ _ _ => by simp [T.pd, PyData.hasDict]
  | .exn _ _ _ _ _ => by simp [T.pd, PyData.hasDict]
theorem Ts.nodict : ∀ ts : List T, PyData.hasDictAll (Ts.pd ts) = false
  | [] => by simp [Ts.pd, PyData.hasDictAll]
  | t :: ts => by simp [Ts.pd, PyData.hasDictAll, T.nodict t, Ts.nodict ts]
end
/-! ### the signs of a repr -/
def CO (x : PySem.Str) : Prop := ∀ c ∈ x.cps.toList, c < 1114112
theorem co_char (c : Char) : c.toNat < 1114112 := by
  have h : c.val.toNat < 55296 ∨ (57343 < c.val.toNat ∧ c.val.toNat < 1114112) := c.valid
  show c.val.toNat < 1114112
  omega
theorem co_str (s : String) : CO (Str.ofString s) := by
  intro c hc
  rw [Str.ofString_eq_toList] at hc
  obtain ⟨x, _, rfl⟩ := List.mem_map.1 (show c ∈ s.toList.map Char.toNat from hc)
  exact co_char x
theorem CO.app {a b : PySem.Str} (ha : CO a) (hb : CO b) : CO (a ++ b) := by
  intro c hc
  have e : (a ++ b).cps = a.cps ++ b.cps := rfl
  rw [e, Array.toList_append] at hc
  exact (List.mem_append.1 hc).elim (ha c) (hb c)
theorem co_hex (n w : Nat) : ∀ c ∈ List.replicate w 48 ++ (Nat.toDigits 16 n).map Char.toNat, c < 1114112 := by
  intro c hc
  rcases List.mem_append.1 hc with hc | hc
  · rw [List.eq_of_mem_replicate hc]; decide
  · obtain ⟨x, _, rfl⟩ := List.mem_map.1 hc; exact co_char x
theorem co_rch (q c : Nat) (hc : c < 1114112) : ∀ d ∈ Builtin.Str.reprChar q c, d < 1114112 := by
  have hx := fun w => co_hex c w
  unfold Builtin.Str.reprChar
  dsimp only
  repeat' split
  all_goals intro d hd
  all_goals simp only [List.mem_append, List.mem_cons, List.not_mem_nil, or_false] at hd hx
  all_goals first
    | omega
    | (rcases hd with (hd | hd) | hd
       · omega
       · omega
       · exact hx _ d hd)
theorem co_fold (q : Nat) : ∀ (l : List Nat) (acc : Array Nat), (∀ c ∈ l, c < 1114112) → (∀ c ∈ acc.toList, c < 1114112) → ∀ c ∈ (l.foldl (fun out c => out ++ (Builtin.Str.reprChar q c).toArray) acc).toList, c < 1114112
  | [], acc, _, h => h
  | x :: l, acc, hl, h => by
    rw [List.foldl_cons]
    refine co_fold q l _ (fun c hc => hl c (by simp [hc])) fun c hc => ?_
    rw [Array.toList_append] at hc
    exact (List.mem_append.1 hc).elim (h c) fun z => co_rch q x (hl x (by simp)) c (by simpa using z)
theorem co_repr (x : PySem.Str) (hx : CO x) : CO (reprText x) := by
  have hq : reprQuote x < 1114112 := by unfold reprQuote; split <;> decide
  intro c hc
  unfold reprText at hc
  simp only [Array.toList_push, List.mem_append, List.mem_singleton] at hc
  rcases hc with hc | rfl
  · rw [← Array.foldl_toList] at hc
    exact co_fold _ _ _ hx (by simpa using hq) c hc
  · exact hq
theorem co_from : ∀ (ts : List PySem.Str) (k : Nat) (acc : PySem.Str), (∀ t ∈ ts, CO t) → CO acc → CO (textFrom k acc ts)
  | [], _, _, _, h => h
  | t :: ts, k, acc, ht, h => by
    unfold textFrom
    exact co_from ts (k + 1) _ (fun u hu => ht u (by simp [hu])) ((h.app (co_str _)).app (ht t (by simp)))
theorem co_list (ts : List PySem.Str) (h : ∀ t ∈ ts, CO t) : CO (listText ts) := (co_from ts 0 _ h (co_str _)).app (co_str _)
theorem co_join (sep : PySem.Str) (hs : CO sep) : ∀ ts : List PySem.Str, (∀ t ∈ ts, CO t) → CO (Str.join sep ts)
  | [], _ => fun c hc => by simp [Str.join, Str.empty] at hc
  | [x], h => h x (by simp)
  | x :: y :: r, h => by
    unfold Str.join
    exact ((h x (by simp)).app hs).app (co_join sep hs (y :: r) fun t ht => h t (by simp [ht]))
theorem co_tuple (ts : List PySem.Str) (h : ∀ t ∈ ts, CO t) : CO (tupleText ts) := by
  unfold tupleText
  exact ((co_str _).app (co_join _ (co_str _) ts h)).app (co_str _)
mutual
theorem T.cok {c : Cfg} {H : Hp} : ∀ t : T, t.ok c H → CO t.pd.shown
  | .sc s, k => by
    cases s with
    | str l =>
      simp only [T.ok] at k
      simp only [T.pd, Sc.pd, PyData.shown]
      exact co_repr _ fun c hc => k.2 c (by simpa using hc)
    | _ => simp only [T.pd, Sc.pd, PyData.shown]; (try split) <;> exact co_str _
  | .lst a o xs, k => by
    have k' : Ts.ok c H xs := by cases o <;> simp only [T.ok] at k <;> exact k.2.2
    simp only [T.pd, PyData.shown]
    exact co_list _ (Ts.cok xs k')
  | .tup a st xs, k => by
    have k' : Ts.ok c H xs := by cases st <;> simp only [T.ok] at k <;> exact k.2.2
    simp only [T.pd, PyData.shown]
    exact co_tuple _ (Ts.cok xs k')
  | .obj _ _ _ _ _ _, _ => by simp only [T.pd, PyData.shown]; exact co_str _
  | .exn _ _ _ _ _, _ => by simp only [T.pd, PyData.shown]; exact co_str _
theorem Ts.cok {c : Cfg} {H : Hp} : ∀ ts : List T, Ts.ok c H ts → ∀ x ∈ PyData.shownAll (Ts.pd ts), CO x
  | [], _ => fun x hx => by simp [Ts.pd, PyData.shownAll] at hx
  | t :: ts, k => by
    simp only [Ts.ok] at k
    intro x hx
    simp only [Ts.pd, PyData.shownAll, List.mem_cons] at hx
    rcases hx with rfl | hx
    · exact T.cok t k.1
    · exact Ts.cok ts k.2 x hx
end
def D.isSeq : D → Bool
  | .lst _ _ => true
  | .tup _ => true
  | _ => false
def reprOk (x : D) : Bool := D.flatN 8 x && x.isSeq && x.pd.showable && decide (x.pd.shown.length ≤ 16777216)
/-- repr(x) -/
def reprD (x : D) : Option Sc := if reprOk x then some (.str x.pd.shown.cps.toList) else none
section
variable {X : Cx} {g : Gh}
def rRepr (K : PySem.W.Frag) : List V → Hp → VK → Prop := fun xs H Q => ∃ (a : Addr) (d : PyData), xs = [.ref a] ∧ Dp K H (.ref a) d ∧ d.showable = true ∧ d.hasDict = false ∧ d.depth ≤ 8 ∧ d.shown.length ≤ sizeLine ∧ Q (.str d.shown) H
theorem call_repr (hG : X.A.guards = some []) (hu : X.A.units + 64 < cLine) : CallR X (.builtin "repr") (rRepr X.K) := by
  intro pins s σ H xs us Q I r h
  obtain ⟨a, d, rfl, hd, hs, hn, hp, hz, q⟩ := h
  cases r with
  | cons ru rr =>
    cases rr
    cases (show _ = Value.ref a from ru)
    obtain ⟨as, rd⟩ := Dp.reads I d (.ref a) (.ref a) hd rfl
    exact repr_of_reads' (h₀ := s.heap) rd hs (fun z => by rw [hn] at z; cases z) hG (by omega) (fun _ _ e => e) (fun h' u tk k => ⟨.str d.shown, H, I.kept (t' := tk) k, ⟨u, rfl⟩, q⟩) hz
theorem hr_repr {K : PySem.W.Frag} (hK : K = g.c.K) : HR1 g reprD (rRepr K) := fun H u c Q k h q => by
  subst hK
  unfold reprD at h
  split at h
  · rename_i ok
    cases h
    unfold reprOk at ok
    simp only [Bool.and_eq_true, decide_eq_true_eq] at ok
    obtain ⟨⟨⟨h1, h2⟩, h3⟩, h4⟩ := ok
    have h5 := T.cok u k
    rw [T.pd_d] at h5
    have dp := T.dp 8 u k h1
    have ly := (T.lay 8 u k h1).2
    have nd := T.nodict u
    rw [T.pd_d] at dp ly nd
    have hv : ∃ a, u.v = .ref a := by
      cases u with
      | lst a o xs => exact ⟨a, rfl⟩
      | tup a st xs => exact ⟨a, rfl⟩
      | _ => simp [T.d, D.isSeq] at h2
    obtain ⟨a, hv⟩ := hv
    rw [hv] at dp ⊢
    refine ⟨a, _, rfl, dp, h3, nd, ly, by rw [SZ_eq]; exact h4, ?_⟩
    have := q ⟨by simpa [Str.length] using h4, h5⟩
    simpa [Sc.v] using this
  · cases h
end
/-! ### the law's def, run where the law is asked: nothing is under way there -/
/-- the promise of a def at one place only -/
def RunAt (A : Around) (P : Program) (w : World) (K : PySem.W.Frag) (mg : Str → Option Value) (base : Heap) (f : Addr) (fd : FuncData) (ps : List Str) (sp : Sp) : Prop :=
  ∀ (outer : List Env) (s : Shared) (H : Hp) (args : Args) (us : List Value) (vs : List V) (Q : VK) (E : XK), Env0 P w K mg base A outer s H → BindsTo s fd args (ps.zip us) → Vals vs us → sp vs H Q E → codeAny (model P w) A (.call (.ref f) args) (CR (L2.CX P w) outer P w H s Q E) s
section
variable {P : Program} {w : World} {K : PySem.W.Frag} {mg : Str → Option Value} {base : Heap} {A : Around}
theorem run_at {c : Cfg} {x qual : Str} {params : Arguments} {sbody : List Stmt} {scope : Scope} {dvs : List V} {kws : List (Str × V)} {f : Addr} {fd : FuncData} {N ps : List Str} {k np : Nat} {io : List Nat} {m : Cm Out}
    (F : FunD K x qual params sbody scope dvs kws f fd) (S : FnScope N ps scope) (hps : ps.length = np) (hN : np ≤ N.length) (hio : ∀ i ∈ io, i < np) (hnd : io.Nodup) (hr : Room (k + 1) A)
    (body : ∀ (g : Gh) (cdv : Value) (outer : List Env) (s : Shared) (H : Hp) (E : XK), Room k (A.deeper (envOfC qual scope s.heap.objs.size f cdv)) → g.c = c → g.N = N.length → g.io.map (·.1) = io →
      PSs (cxOf (L2.CX P w) P w K mg base N qual scope f cdv A outer s H E) sbody (tS g (fun cls d _ H => E cls d H) m)) :
    RunAt A P w K mg base f fd ps (spM c np io (runF N.length io m)) := by
  intro outer s H args us vs Q E e0 hb r hsp
  obtain ⟨oc, od, dV, kV, doc, pm, an, cdv, ct, osl, rfl, lk, hcd, _, _⟩ := F.ex
  have vl : vs.length = ps.length := spM_len hps _ _ _ _ hsp
  have hin : K.In s.heap := e0.mod.kin.keeps fun b o e => (e0.bs b o e).1
  have nol : s.heap.NoLimit := e0.mod.nolimit.keeps fun b o e => (e0.bs b o e).1
  refine codeAny_call_function hr.depth (hin _ _ lk) rfl S.co S.gen rfl (PySem.W.codeRec_of hin hcd) (hb _ _ _ _ (wpAny_newFunctionEnv_cells S.kind (fun y hy => ?_) fun env he s1 st => ?_))
  · obtain ⟨n, v⟩ := y
    rcases S.par n (List.of_mem_zip hy).1 with q | q
    · exact .inl q
    · exact .inr ⟨q, PySem.W.cellsFrom_some _ _ _ (.inl q)⟩
  · subst he
    refine ⟨nol.keeps st.toInCall.keep, codeAny_func ?_⟩
    obtain ⟨t, ht, hq⟩ := body_ok (fun g => body g cdv outer s H E (hr.deeper _)) S hps hN hio hnd hsp
    refine wpAny_mono (ht.run [] s1 (L2.start N vs) H _ (inv_start S hr.hd e0 vl r st) hq) (fun fl s' hs => ?_) fun e s' hs => hs
    cases fl with
    | ret u =>
      obtain ⟨v, σ', H', J, rv, q⟩ := hs
      exact ⟨v, H', J.os, J.bare, J.base, J.hok, rv, q⟩
    | next =>
      obtain ⟨σ', H', J, q⟩ := hs
      exact ⟨V.non, H', J.os, J.bare, J.base, J.hok, rfl, q⟩
    | brk => obtain ⟨_, _, _, q⟩ := hs; exact False.elim q
    | cont => obtain ⟨_, _, _, q⟩ := hs; exact False.elim q
end
section
variable {P : Program} {w : World} {K : PySem.W.Frag} {mg mb : Str → Option Value} {fa a : Addr} {fd : FuncData} {x : Str} {sp : Sp} {s₁ : Shared} {vs : List Value} {ns : List Int}
/-- what the caller sees, where nothing but the script is tracked -/
theorem law_core (KX : K.In s₁.heap) (hns : s₁.heap.Ns mainGlobals mg) (hb : s₁.heap.Ns builtinsNs mb) (hbb : ∀ x : Str, x ≠ "__name__" → mb x = bootBuiltins x) (hlim : s₁.heap.NoLimit) (hg : s₁.gens = #[])
    (ha : s₁.heap.get? a = some { cls := .type "list", data := .seq vs.toArray })
    (F : ∀ base : Heap, K.In base → base.Ns mainGlobals mg → RunAt callerA P w K mg base fa fd [x] sp) (hbind : ∀ (s : Shared) (u : Value), BindsTo s fd ⟨[u], []⟩ [(x, u)])
    (H : Hp) (hO : Only H) (hsp : sp [.ref a] H (fun v _ => v = .bl true) fun _ _ _ => False) (hok : HOk P w H s₁.heap) (hA : ∀ b, H b ≠ none → b = a) (hK : H a ≠ none → K.lookup a = none)
    (hCX : ∀ e s', L2.CX P w [] H s₁ (fun _ _ _ => False) e s' → False) :
    codeAny (model P w) callerA (.call (.ref fa) ⟨[.ref a], []⟩) (fun r s' => r = .ok (.ret (.bool true)) ∧ OldK s₁.heap s'.heap ∧ s'.os = s₁.os ∧ AllBare s'.gens) s₁ := by
  have is_a : ∀ {b : Addr} {u : HO}, H b = some u → b = a := fun q => hA _ (by rw [q]; simp)
  have dict_free : ∀ {b : Addr} {o : Obj} {es : Array DictEntry} {n : Nat}, s₁.heap.get? b = some o → o.data = .dict es n → H b = none := by
    intro b o es n e d
    cases q : H b with
    | none => rfl
    | some u =>
      have eb := is_a q
      subst eb
      rw [ha] at e
      cases e
      cases (show Data.seq vs.toArray _ = Data.dict es n from d)
  have ns_hid : ∀ {b : Addr} {m : Str → Option Value}, s₁.heap.Ns b m → (hidT s₁.heap H).Ns b m := by
    rintro b m ⟨o, es, n, e, d, r⟩
    exact ⟨o, es, n, hidT_get e (dict_free e d), d, r⟩
  have k_hid : K.In (hidT s₁.heap H) := by
    intro b o e
    refine hidT_get (KX b o e) ?_
    cases q : H b with
    | none => rfl
    | some u =>
      have eb := is_a q
      subst eb
      rw [hK (by rw [q]; simp)] at e
      cases e
  obtain ⟨mc, l1, l2⟩ := hlim
  have e0 : Env0 P w K mg (hidT s₁.heap H) callerA [] s₁ H := ⟨rfl, ⟨k_hid, ns_hid hns, ⟨mb, ns_hid hb, hbb⟩, ⟨mc, ns_hid l1, l2⟩⟩, fun b o e => of_hidT e, Nat.le_of_eq (hidT_size _ _), trivial, fun b hb => absurd (show b ∈ ([] : List Addr) from hb) (by simp), hok, .of_eq hg⟩
  refine codeAny_mono (F _ k_hid (ns_hid hns) [] s₁ H ⟨[.ref a], []⟩ [.ref a] [.ref a] _ _ e0 (hbind s₁ (.ref a)) (.cons rfl .nil) hsp) fun r s' h => ?_
  match r, h with
  | .error e, h => exact (hCX e s' h).elim
  | .ok .next, h => exact False.elim h
  | .ok .brk, h => exact False.elim h
  | .ok .cont, h => exact False.elim h
  | .ok (.ret u), ⟨v, H', os, bare, un, hok', r', q⟩ =>
    have q : v = .bl true := q
    subst q
    obtain rfl : u = Value.bool true := r'
    refine ⟨rfl, OldK.of_keep fun b o e => ?_, os, bare⟩
    cases q : H b with
    | none => exact un.keep b o e q (fun z => nomatch (show b ∈ ([] : List Addr) from z)) (by simp)
    | some u =>
      rcases hO b with z | ⟨ob, xs, z⟩
      · rw [q] at z; cases z
      · obtain ⟨e1, _⟩ := hok b _ z
        obtain ⟨e2, _⟩ := hok' b _ (un.frzs b ob _ z)
        rw [e] at e1
        cases e1
        exact e2
/-- the law asked, with its def at its own place -/
theorem law_callA (KX : K.In s₁.heap) (hns : s₁.heap.Ns mainGlobals mg) (hb : s₁.heap.Ns builtinsNs mb) (hbb : ∀ x : Str, x ≠ "__name__" → mb x = bootBuiltins x) (hlim : s₁.heap.NoLimit) (hg : s₁.gens = #[])
    (ha : s₁.heap.get? a = some { cls := .type "list", data := .seq vs.toArray }) (hi : IntsAre vs ns) (hl : ns.length ≤ sizeLine)
    (F : ∀ base : Heap, K.In base → base.Ns mainGlobals mg → RunAt callerA P w K mg base fa fd [x] sp) (hbind : ∀ (s : Shared) (u : Value), BindsTo s fd ⟨[u], []⟩ [(x, u)])
    (hsp : ∀ H : Hp, Only H → SqL K H a (ns.map V.int) → sp [.ref a] H (fun v _ => v = .bl true) fun _ _ _ => False)
    (hCX : ∀ H e s', L2.CX P w [] H s₁ (fun _ _ _ => False) e s' → False) :
    codeAny (model P w) callerA (.call (.ref fa) ⟨[.ref a], []⟩) (fun r s' => r = .ok (.ret (.bool true)) ∧ OldK s₁.heap s'.heap ∧ s'.os = s₁.os ∧ AllBare s'.gens) s₁ := by
  have rv := vals_ints hi
  have lv := hi.length
  cases hk : K.lookup a with
  | some o =>
    have e := KX a o hk
    rw [ha] at e
    cases e
    have oh : Only fun _ => none := fun _ => .inl rfl
    exact law_core KX hns hb hbb hlim hg ha F hbind _ oh (hsp _ oh (.inr ⟨_, vs.toArray, _, hk, rfl, rfl, rfl, by rw [List.size_toArray, lv]; exact hl, by simpa using rv⟩)) (fun b u z => nomatch z) (fun b z => absurd rfl z) (fun z => absurd rfl z) (hCX _)
  | none =>
    let H : Hp := fun b => if b = a then some (.frz { cls := .type "list", data := .seq vs.toArray } (.lst (ns.map V.int))) else none
    have hH : H a = some (.frz { cls := .type "list", data := .seq vs.toArray } (.lst (ns.map V.int))) := if_pos rfl
    have hN : ∀ b, b ≠ a → H b = none := fun b q => if_neg q
    have oh : Only H := fun b => by
      by_cases q : b = a
      · subst q; exact .inr ⟨_, _, hH⟩
      · exact .inl (hN b q)
    refine law_core KX hns hb hbb hlim hg ha F hbind H oh (hsp H oh (.inl (.inr ⟨_, hH⟩))) (fun b u z => ?_) (fun b z => ?_) (fun _ => hk) (hCX _)
    · by_cases q : b = a
      · subst q
        rw [hH] at z
        cases z
        exact ⟨ha, by rw [List.length_map]; exact hl, vs, _, rv, ha⟩
      · rw [hN b q] at z; cases z
    · by_cases q : b = a
      · exact q
      · exact absurd (hN b q) z
end
/-- a law's end, with the law's def at its own place -/
theorem walk_ofEA {l : PySem.W.OpenLaw} {n : Nat} {q : Program} {loose : List Str} {XP : (Str → Option Value) → Heap → Prop} {YP : World → Heap → Prop} {d : DefRec} {x : Str}
    (hn : l.most = some n) (hn2 : n ≤ sizeLine) (hdf : d.params.defaults = []) 
    (F : ∀ (w : World) (mg : Str → Option Value) (fa : Addr) (h : Heap), YP w h → h.Ns mainGlobals mg → mg d.name = some (.ref fa) →
      ∃ (K : PySem.W.Frag) (fd : FuncData) (c : Cfg) (M : List D → RF), K.In h ∧ (c.K = K ∧ c.tb = []) ∧ (∀ (s : Shared) (u : Value), BindsTo s fd ⟨[u], []⟩ [(x, u)]) ∧
        (∀ (o : Ow) (ns : List Int), o = .frz ∨ o = .stc → ns.length ≤ n → M [.lst o (ns.map D.int)] = .ok (.bl true) []) ∧
        ∀ base : Heap, K.In base → base.Ns mainGlobals mg → RunAt callerA l.prog w K mg base fa fd [x] (spM c 1 [] M)) :
    PySem.W.WalkO q loose XP YP l.row.toRowW d [] (fun f vs => PySem.call f vs) := by
  refine Att.attach_call hn hdf fun w s₀ s₁ mg mb fa o pm cd doc a vs ns G Y ho hd hcd hmg hobj hints hlen hg => ?_
  obtain ⟨K, fd, c, M, KX, ⟨hcK, hct⟩, hb, hM, hF⟩ := F w mg fa _ Y G.T.g hmg
  refine law_callA KX G.T.g G.T.b G.T.builtins G.T.nolimit hg hobj hints (Nat.le_trans hlen hn2) hF hb (fun H hO hS => ?_) fun H e s' h => ?_
  · have gi : ∀ m : List Int, Ts.ok c H (m.map fun i => T.sc (.int i)) := fun m => by
      rw [Ts.ok_iff]; intro t ht
      obtain ⟨i, _, rfl⟩ := List.mem_map.mp ht
      exact trivial
    have dm : ∀ m : List Int, Ts.d (m.map fun i => T.sc (.int i)) = m.map D.int := fun m => by
      rw [Ts.d_map, List.map_map]; rfl
    have vm : ∀ m : List Int, (m.map fun i => T.sc (.int i)).map T.v = m.map V.int := fun m => by
      rw [List.map_map]; rfl
    have om : ∀ (a : Addr) (m : List Int), Ts.oc a (m.map fun i => T.sc (.int i)) = 0 ∧ Ts.sh a (m.map fun i => T.sc (.int i)) = 0 := fun a m => by
      induction m with
      | nil => simp [Ts.oc, Ts.sh]
      | cons i m ih => simp [Ts.oc, Ts.sh, T.oc, T.sh, ih]
    have hz : (ns.map fun i => T.sc (.int i)).length ≤ 16777216 := by
      rw [List.length_map]; have := Nat.le_trans hlen hn2; rw [SZ_eq] at this; exact this
    have key : ∀ o : Ow, o = .frz ∨ o = .stc → (T.lst a o (ns.map fun i => T.sc (.int i))).ok c H → spM c 1 [] M [.ref a] H (fun v _ => v = .bl true) fun _ _ _ => False := fun o ho k => by
      refine ⟨[T.lst a o (ns.map fun i => T.sc (.int i))], rfl, by simp [Ts.ok, k], (fun p hp => by rw [hct] at hp; cases hp), fun b => .inl ?_, rfl, ?_⟩
      · have := om b ns
        rcases ho with rfl | rfl <;> simp [Ts.oc, T.oc, b2, this]
      · rw [show Ts.d [T.lst a o (ns.map fun i => T.sc (.int i))] = [D.lst o (ns.map D.int)] by simp [Ts.d, T.d, dm], hM o ns ho hlen]
        intro H' t us _ ht _ _
        cases t with
        | sc s => simp [T.d] at ht; subst ht; rfl
        | _ => simp [T.d] at ht
    rcases hS with (h | ⟨o, h⟩) | h
    · rcases hO a with e | ⟨o, xs, e⟩
      · rw [h] at e; cases e
      · rw [h] at e; cases e
    · exact key .frz (.inl rfl) (by simp only [T.ok]; exact ⟨⟨o, by rw [vm]; exact h⟩, hz, gi ns⟩)
    · exact key .stc (.inr rfl) (by simp only [T.ok]; exact ⟨by rw [vm, hcK]; exact .inr h, hz, gi ns⟩)
  · obtain ⟨_, _, _, _, _, _, _, _, _, _, _, _, z⟩ := h
    exact z
/-! ### a list of one's own to several targets: what it holds goes over -/
def mTupLO (fs : List (D → Cm Unit)) : D → Cm Unit := fun d ρ => match d with
  | .lst .own ds => if ds.length = fs.length then putAll fs ds ρ else .stuck
  | _ => .stuck
section
variable {X : Cx} {g : Gh} {W : WX} {pos : Pos}
theorem g_tupLO {es : List Expr} {k n : Nat} {fs : List (D → Cm Unit)} (hc : X.calm = true) (h : PGs X es (tGs g W fs)) (hK : X.K = g.c.K)
    (hn : (assignEach es X.env).length = n := by rfl) (hst : (assignEach es X.env).findIdx? (·.1) = none := by rfl) (hfn : fs.length = n := by rfl) : PG X (.Tuple es k pos) (tG g W (mTupLO fs)) := (pg_unl hc h hn hst).imp fun v σ H Q ⟨sl, tm, t, s, e, h⟩ => by
  subst e
  cases t with
  | lst p o xs =>
   cases o with
   | own =>
    simp only [T.d, mTupLO] at h
    split at h
    · rename_i hl
      have q := lst_sq s.top
      refine ⟨p, _, rfl, by rw [hK]; exact q.1, by have := hl; rw [Ts.d_len] at this; simp; omega, sl, tm, xs, ?_, rfl, h⟩
      refine s.tmp ?_ fun a => ?_
      · have k := s.okT
        simp only [Ts.ok] at k
        rw [Ts.ok_iff]
        intro t ht
        rcases List.mem_append.mp ht with ht | ht
        · exact Ts.ok_iff.mp q.2.2 t ht
        · exact Ts.ok_iff.mp k.2 t ht
      · rw [Ts.oc_append, Ts.sh_append]
        simp only [Ts.oc, Ts.sh, T.oc, T.sh]
        refine ⟨by omega, fun z => .inl (by omega)⟩
    · exact h.elim
   | _ => exact h.elim
  | _ => exact h.elim
end
@[simp] theorem mTupLO_ {ρ : DE} (fs : List (D → Cm Unit)) (ds : List D) : mTupLO fs (.lst .own ds) ρ = if ds.length = fs.length then putAll fs ds ρ else .stuck := (rfl)
end VS

/-! VS, part H: lambdas without parameters, handed to a def that calls them once, in a try. -/
namespace VS
open PySem PySem.Spec PyProof.Rows L2

/-- slots that hold nothing, or no made thing -/
def scO : Option D → Bool
  | none => true
  | some (.sc _) => true
  | _ => false
/-- the def that calls: mp ahead of its try, ms the suite, mr behind; o: what the call raised -/
def wordO (n : Nat) (exm : String → String → Option Bool) (i : Nat) (Dn : String) (mp : Cm Out) (ms : Ex → Cm Out) (mr : Cm Out) (o : Option Ex) : R Out := match mp (List.replicate n none) with
  | .ok .nx ρ => if ρ.all scO = true then (match o with
    | none => mr ρ
    | some x => if x.cls = "dict" then .stuck else match exm x.cls Dn with
      | some true => (match ms x (List.replicate n none) with
        | .ok .nx ρ2 => mr (ρ2.set i none)
        | .ok (.ret d) ρ2 => .ok (.ret d) (ρ2.set i none)
        | _ => .stuck)
      | _ => .stuck) else .stuck
  | _ => .stuck
def wordF (n : Nat) (exm : String → String → Option Bool) (i : Nat) (Dn : String) (mp : Cm Out) (ms : Ex → Cm Out) (mr : Cm Out) (o : Option Ex) : RF := endF [] (wordO n exm i Dn mp ms mr o)
/-- no slot is filled that was empty -/
def subO (ρ ρ1 : DE) : Bool := decide (ρ.length = ρ1.length) && (ρ.zip ρ1).all fun p => p.1.isSome || p.2.isNone
def finL (r : RF) : Cm D := fun ρ => match r with
  | .ok d [] => .ok d ρ
  | _ => .stuck
/-- f(lambda: body) -/
def mLam (F : Option Ex → RF) (body : Cm D) : Cm D := fun ρ => match body ρ with
  | .ok _ ρ1 => if subO ρ ρ1 = true then finL (F none) ρ1 else .stuck
  | .exc x ρ1 => if x.cls ≠ "dict" ∧ subO ρ ρ1 = true then finL (F (some x)) ρ1 else .stuck
  | .stuck => .stuck
def exnT (d : Option Addr) (y : Ex) : T := .exn 0 d y.cls y.ns y.xs
def aftT (d : Option Addr) : Option Ex → List T
  | none => []
  | some y => [exnT d y]
def EndW (c : Cfg) (M : Option Ex → RF) (d : Option Addr) (o : Option Ex) (H : Hp) (Q : VK) : Prop := match M o with
  | .ok v [] => ∀ H3 t, Aft c H (aftT d o) H3 [t] → t.d = v → Q t.v H3
  | _ => False
def TTw (c : Cfg) (M : Option Ex → RF) : (XK → Hp → VK → Prop) → Hp → VK → Prop := fun tl H Q => LamX.Tabs c.tb H ∧ ∀ H1 : Hp, (∀ b o, H b = some o → NT o → H1 b = some o) → LamX.Tabs c.tb H1 → ∀ (E : XK) (Q' : VK),
  (∀ cls d H2, (∃ y : Ex, cls = .ref (c.cls y.cls) ∧ y.cls ≠ "dict" ∧ (exnT d y).ok c H2 ∧ LamX.Tabs c.tb H2 ∧ EndW c M d (some y) H2 Q) → E cls d H2) → (∀ v H2, LamX.Tabs c.tb H2 ∧ EndW c M none none H2 Q → Q' v H2) → tl E H1 Q'

/-! ### states to begin with -/
abbrev gh0 (c : Cfg) (H : Hp) (A0 : List T) (n : Nat) : Gh := ⟨c, H, A0, n, [], []⟩
theorem den_rep (n : Nat) : den (List.replicate n none) = List.replicate n none := by
  unfold den; simp
theorem So_rep (f : T → Nat) (n : Nat) : So f (List.replicate n none) = 0 := by
  induction n with
  | zero => rfl
  | succ n ih => rw [List.replicate_succ]; exact ih
theorem SR.fresh {c : Cfg} {H : Hp} {n : Nat} {σ : L2.St} {d : Option Addr} {o : Option Ex} (tb : LamX.Tabs c.tb H) (hl : σ.length = n) (ok : Ts.ok c H (aftT d o)) : SR (gh0 c H (aftT d o) n) H σ (List.replicate n none) (aftT d o) := by
  have z : ∀ a, Ts.oc a (aftT d o) = 0 := fun a => by cases o <;> simp [aftT, exnT, Ts.oc, T.oc]
  refine ⟨fun t m => ?_, ok, fun a => .inl ?_, fun a _ _ => ⟨?_, fun h => ?_⟩, fun a o h _ _ => h, hl, by simp, fun i t h => ?_, fun p hp => (List.not_mem_nil hp).elim, fun p hp => (List.not_mem_nil hp).elim, tb⟩
  · have := List.eq_of_mem_replicate m
    cases this
  · rw [So_rep, z]
  · rw [So_rep, z]
  · rw [So_rep]; simpa using h
  · rw [List.getElem?_replicate] at h
    split at h <;> cases h
/-- slots without made things: over any heap -/
theorem SR.over {g : Gh} {H H' : Hp} {σ : L2.St} {sl : List (Option T)} {tm : List T} {n : Nat} (s : SR g H σ sl tm) (hs : (den sl).all scO = true) (hn : g.N = n) (tb : LamX.Tabs g.c.tb H') : SR (gh0 g.c H' [] n) H' σ sl [] := by
  have each : ∀ t, some t ∈ sl → ∃ x, t = T.sc x := fun t m => by
    have := List.all_eq_true.mp hs (some t.d) (by unfold den; exact List.mem_map.mpr ⟨some t, m, rfl⟩)
    cases t with
    | sc x => exact ⟨x, rfl⟩
    | _ => simp [T.d, scO] at this
  have z1 : ∀ (f : T → Nat), (∀ x, f (T.sc x) = 0) → So f sl = 0 := fun f hf => by
    clear s hs
    induction sl with
    | nil => rfl
    | cons y r ih =>
      have ih := ih fun t m => each t (List.mem_cons_of_mem _ m)
      cases y with
      | none => exact ih
      | some t =>
        obtain ⟨x, rfl⟩ := each t (by simp)
        simp only [So, hf, ih]
  refine ⟨fun t m => ?_, by simp [Ts.ok], fun a => .inl ?_, fun a _ _ => ⟨?_, fun _ => ?_⟩, fun a o h _ _ => h, hn ▸ s.len, hn ▸ s.slen, s.at_, fun p hp => (List.not_mem_nil hp).elim, fun p hp => (List.not_mem_nil hp).elim, tb⟩
  · obtain ⟨x, rfl⟩ := each t m
    have := s.okS _ m
    simpa [T.ok] using this
  · rw [z1 _ fun x => by simp [T.oc]]; rfl
  · rw [z1 _ fun x => by simp [T.oc]]; rfl
  · rw [z1 _ fun x => by simp [T.sh]]; rfl
theorem _root_.L2.PSs.len {X : Cx} {sts : List Stmt} {t : TS} (h : PSs X sts t) : PSs X sts (fun De σ H => σ.length = X.N.length → t De σ H) := ⟨fun pins s σ H De I q => h.run pins s σ H De I (q I.len)⟩
theorem _root_.L2.PE.ex {α : Type} {X : Cx} {e : Expr} {P : α → Prop} {t : α → TE} (h : ∀ x, P x → PE X e (t x)) : PE X e (fun σ H Q => ∃ x, P x ∧ t x σ H Q) := ⟨fun pins s σ H Q I q => by
  obtain ⟨x, hx, q⟩ := q
  exact (h x hx).run pins s σ H Q I q⟩
/-- the ghosts of a def that calls a lambda -/
def ghP (c : Cfg) (n : Nat) (g : Gh) : Prop := g.c = c ∧ g.N = n ∧ g.io = []
theorem set_rep {α : Type} (n i : Nat) (x : α) : (List.replicate n x).set i x = List.replicate n x := by
  apply List.ext_getElem?
  intro j
  rw [List.getElem?_set, List.getElem?_replicate]
  by_cases e : i = j
  · subst e; simp
  · simp [e]
/-- an end that Q takes -/
theorem end_lands {c : Cfg} {H : Hp} {N : Nat} {d : Option Addr} {o : Option Ex} {Q : VK} {r : R Out} (h : match endF [] r with
    | .ok v [] => ∀ H3 t, Aft c H (aftT d o) H3 [t] → t.d = v → Q t.v H3
    | _ => False) : Lands (gh0 c H (aftT d o) N) (fun _ _ _ _ => False) [] r (Post (gh0 c H (aftT d o) N) [] { nx := fun _ H' => Q .non H', rt := Q }) := by
  cases r with
  | stuck => exact h.elim
  | exc x ρ => exact h.elim
  | ok k ρ =>
    cases k with
    | nx => exact fun H' σ' sl' s' _ => h H' (.sc .non) (Aft.of (s'.push .non trivial)) rfl
    | ret v => exact fun H' σ' sl' t s' _ ed => h H' t (Aft.of s') ed
    | brk => exact h.elim
    | ct => exact h.elim
section
variable {X : Cx}
abbrev CxW (X : Cx) (Ng : List Str) (x : Str) (sg : Scope) (gf : Addr) (cdg : Value) (s : Shared) (H : Hp) : Cx := (cxOf C8.CX0 X.prog X.w X.K X.mg X.base Ng x sg gf cdg X.A X.stack s H C8.E0).nox
theorem word_gives {Ng : List Str} {x a q e n : Str} {sg : Scope} {gf : Addr} {cdg : Value} {bg rs : List Stmt} {c : Cfg} {N i : Nat} {exm : String → String → Option Bool} {Dn : String} {mp : Cm Out} {ms : Ex → Cm Out} {mr : Cm Out}
    {b₀ : Stmt} {suite : List Stmt} {p1 p2 p3 p4 p5 p6 : Pos} {ρ0 : DE} (hN : Ng.length = N) (hnd : Ng.Nodup) (hi : Ng[i]? = some n) (hln : sg.names.lookup n = some .local) (hpos : 0 < N) (h0 : ∀ f : Addr, (L2.start Ng [V.ref f])[0]? = some (some (V.ref f)))
    (hge : sg.names.lookup e = some .globalImplicit) (hde : (e == ("__debug__" : Str)) = false) (hme : X.mg e = some (.ref (c.cls Dn))) (hx : ∀ C b, exm C Dn = some b → PySem.W.exmOne X.K (.ref (c.cls C)) (.ref (c.cls Dn)) = some b)
    (hmp : mp (List.replicate N none) = .ok .nx ρ0) (hsc : ρ0.all scO = true)
    (dpre : ∀ (s : Shared) (H : Hp) (u : TS), PSs (CxW X Ng x sg gf cdg s H) (.Try [.Expr (.Call (.Name a p1) [] [] p2) p3] [.ExceptHandler (some (.Name e p4)) (some n) (b₀ :: suite) p5] [] [] p6 :: rs) u →
      PSs (CxW X Ng x sg gf cdg s H) bg (fun De σ H => ∃ g : Gh, (g.c = c ∧ g.N = N ∧ g.io.map (·.1) = [0]) ∧ tS g (fun _ _ _ _ => False) mp { nx := u De, rt := fun _ _ => False } σ H))
    (dsu : ∀ (s : Shared) (H : Hp) (a : Addr) (oe : Obj) (cls : Value) (d : Option Addr) (pn : List (Addr × Obj)), Zc cls d oe → (∃ vs, oe.data = .fields vs) →
      ∀ (y : Ex) (g : Gh), ghP c N g → XIs g cls d y ∧ exm y.cls Dn = some true → PSs ((CxW X Ng x sg gf cdg s H).suite a ((a, oe) :: pn)) (b₀ :: suite) (tS (g.sx i a d y) (fun _ _ _ _ => False) (ms y)))
    (dre : ∀ (s : Shared) (H : Hp) (g : Gh), ghP c N g → PSs (CxW X Ng x sg gf cdg s H) rs (tS g (fun _ _ _ _ => False) mr)) :
    LamX.GivesTo X Ng x sg gf cdg bg a q (TTw c (wordF N exm i Dn mp ms mr)) := by
  intro f c' s H Q tl act hc h
  have hM : ∀ o, wordF N exm i Dn mp ms mr o = endF [] (wordO N exm i Dn mp ms mr o) := fun _ => rfl
  have hgl : Gl (CxW X Ng x sg gf cdg s H) e := hge
  obtain ⟨tb0, h⟩ := h
  refine ⟨_, dpre s H _ (pss_cons (ps_try_as (X := CxW X Ng x sg gf cdg s H) (c := .ref (c.cls Dn)) (i := i) (n := n) (Wout := fun _ _ _ _ => False)
    (ts := fun a cls d De σ H => σ.length = Ng.length → ∃ z : Ex × Gh, (ghP c N z.2 ∧ (XIs z.2 cls d z.1 ∧ exm z.1.cls Dn = some true)) ∧ tS (z.2.sx i a d z.1) (fun _ _ _ _ => False) (ms z.1) De σ H)
    (tb := fun W D σ H => ∃ Ech : XK, (∀ cls d σ' H', Ech cls d H' → W cls d σ' H') ∧ σ[0]? = some (some (.ref f)) ∧ H c' = some (LamX.CodeO c' q) ∧ tl Ech H fun _ H' => D.nx σ H')
    rfl rfl hnd hi hln ⟨hgl, hde, .inl hme⟩ LamX.takes0 (fun W pn xe tk _ => ?_) (fun a oe cls d pn hz hf => ?_)) (PSs.ex (P := ghP c N) fun g hg => dre s H g hg)), ?_⟩
  · refine ⟨fun pins s' σ H' D I h' => ?_⟩
    obtain ⟨Ech, hW, h1, h2, h3⟩ := h'
    exact (pss_one (ps_expr (pos := p3) (act W pn xe Ech p1 p2 tk hW))).run pins s' σ H' D I ⟨h1, h2, h3⟩
  · exact (PSs.ex (P := fun z : Ex × Gh => ghP c N z.2 ∧ (XIs z.2 cls d z.1 ∧ exm z.1.cls Dn = some true)) fun z hz2 => dsu s H a oe cls d pn hz hf z.1 z.2 hz2.1 hz2.2).len
  · have hst : (L2.start Ng [V.ref f]).length = N := by
      unfold L2.start
      simp; omega
    have s0 := SR.fresh (c := c) (H := H) (n := N) (σ := L2.start Ng [V.ref f]) (d := none) (o := none) tb0 hst (by simp [aftT, Ts.ok])
    have s0 : SR ⟨c, H, [], N, [(0, .ref f)], []⟩ H (L2.start Ng [V.ref f]) (List.replicate N none) [] := ⟨s0.okS, s0.okT, s0.inv, s0.prov, s0.frame, s0.len, s0.slen, s0.at_, fun p hp => by rw [List.mem_singleton.mp hp]; exact h0 f, s0.px, s0.tabs⟩
    refine ⟨⟨c, H, [], N, [(0, .ref f)], []⟩, ⟨rfl, rfl, rfl⟩, _, [], s0, ?_⟩
    rw [den_rep, hmp]
    intro H' σ' sl' s' e1
    have k0 := s'.io (0, .ref f) List.mem_cons_self
    have kc := s'.frame c' _ hc (LamX.codeO_ne) rfl
    refine ⟨fun cls d H2 => ∃ y : Ex, cls = .ref (c.cls y.cls) ∧ y.cls ≠ "dict" ∧ (exnT d y).ok c H2 ∧ LamX.Tabs c.tb H2 ∧ EndW c (wordF N exm i Dn mp ms mr) d (some y) H2 Q, ?_, k0, kc, ?_⟩
    · rintro cls d σ2 H2 ⟨y, rfl, hd, ok, tb2, ew⟩
      unfold EndW at ew
      rw [hM] at ew
      unfold wordO at ew
      rw [hmp] at ew
      simp only [hsc, if_true, hd, if_false] at ew
      cases ex : exm y.cls Dn with
      | none => rw [ex] at ew; exact ew.elim
      | some b =>
        cases b with
        | false => rw [ex] at ew; exact ew.elim
        | true =>
          rw [ex] at ew
          refine ⟨true, hx _ _ ex, fun _ a na hl => ?_, fun z => nomatch z⟩
          rw [List.length_set, hN] at hl
          have ok1 : Ts.ok c H2 (aftT d (some y)) := by simp only [aftT, Ts.ok]; exact ⟨ok, trivial⟩
          have k := ok
          simp only [exnT, T.ok] at k
          have s2 := SR.fresh (n := N) (σ := σ2) tb2 hl ok1
          have il : i < N := by
            rw [← hN]
            by_cases z : i < Ng.length
            · exact z
            · rw [List.getElem?_eq_none (by omega)] at hi; cases hi
          have s3 := SR.into (a := a) s2 il (fun p hp => (List.not_mem_nil hp).elim) hd
          rw [set_rep] at s3
          refine ⟨(y, gh0 c H2 (aftT d (some y)) N), ⟨⟨rfl, rfl, rfl⟩, ⟨rfl, fun z => ?_, k.1⟩, ex⟩, _, [], s3, ?_⟩
          · subst z; exact k.2.1
          · rw [den_rep]
            simp only at ew
            cases em : ms y (List.replicate N none) with
            | stuck => rw [em] at ew; exact ew.elim
            | exc _ _ => rw [em] at ew; exact ew.elim
            | ok o ρ2 =>
              rw [em] at ew
              cases o with
              | brk => exact ew.elim
              | ct => exact ew.elim
              | ret v => exact fun H4 σ4 sl4 t s4 _ ed => ew H4 t (Aft.of s4.outof) ed
              | nx =>
                intro H4 σ4 sl4 s4 e4
                refine ⟨gh0 c H2 (aftT d (some y)) N, ⟨rfl, rfl, rfl⟩, _, [], s4.outof.unslot (fun p hp => (List.not_mem_nil hp).elim) none, ?_⟩
                rw [den_set, e4]
                exact end_lands ew
    · refine h H' (fun b o hb nt => s'.frame b o hb nt rfl) s'.tabs _ _ (fun cls d H2 z => z) fun v H2 ⟨tb2, ew⟩ => ?_
      unfold EndW at ew
      rw [hM] at ew
      unfold wordO at ew
      rw [hmp] at ew
      simp only [hsc, if_true] at ew
      refine ⟨gh0 c H2 [] N, ⟨rfl, rfl, rfl⟩, sl', [], SR.over s' (by rw [e1]; exact hsc) rfl tb2, ?_⟩
      rw [e1]
      exact end_lands (d := none) (o := none) ew
/-! ### the one who hands it in -/
def allIo (σ : L2.St) : List (Nat × V) := (List.range σ.length).filterMap fun i => match σ[i]? with
  | some (some v) => some (i, v)
  | _ => none
theorem allIo_in {σ : L2.St} {i : Nat} {v : V} (h : σ[i]? = some (some v)) : (i, v) ∈ allIo σ := by
  refine List.mem_filterMap.mpr ⟨i, List.mem_range.mpr ?_, by rw [h]⟩
  by_cases z : i < σ.length
  · exact z
  · rw [List.getElem?_eq_none (by omega)] at h; cases h
theorem allIo_is {σ : L2.St} : ∀ p ∈ allIo σ, σ[p.1]? = some (some p.2) := fun p hp => by
  obtain ⟨i, _, e⟩ := List.mem_filterMap.mp hp
  split at e
  · rename_i v ev
    cases e
    exact ev
  · cases e
theorem subO_get {ρ ρ1 : DE} (h : subO ρ ρ1 = true) {i : Nat} {d : D} (e : ρ1[i]? = some (some d)) : ∃ d', ρ[i]? = some (some d') := by
  unfold subO at h
  obtain ⟨h1, h2⟩ := Bool.and_eq_true_iff.mp h
  have hl : ρ.length = ρ1.length := of_decide_eq_true h1
  have hi : i < ρ1.length := by
    by_cases z : i < ρ1.length
    · exact z
    · rw [List.getElem?_eq_none (by omega)] at e; cases e
  have hi' : i < ρ.length := by omega
  have z := List.all_eq_true.mp h2 (ρ[i], ρ1[i]) (by
    rw [List.mem_iff_getElem?]
    exact ⟨i, by rw [List.getElem?_zip_eq_some]; exact ⟨List.getElem?_eq_getElem hi', List.getElem?_eq_getElem hi⟩⟩)
  rw [List.getElem?_eq_getElem hi] at e
  rw [Option.some.inj e] at z
  simp only [Option.isNone_some, Bool.or_false] at z
  obtain ⟨d', e'⟩ := Option.isSome_iff_exists.mp z
  exact ⟨d', by rw [List.getElem?_eq_getElem hi', e']⟩
theorem lam_imp {g : Gh} {W : WX} {c : Cfg} {M : Option Ex → RF} {m : Cm D} (hc : g.c = c) (σ : L2.St) (H : Hp) (Q : VK) (q : tE g W (mLam M m) σ H Q) :
    LamX.tLam c.tb (TTw c M) (fun E σ H Q => ∃ g' : Gh, (g'.c = c ∧ g'.N = g.N) ∧ tE g' (fun cls d _ H => E cls d H) m σ H Q) σ H Q := by
  subst hc
  obtain ⟨sl, tm, s, h⟩ := q
  refine ⟨s.tabs, fun H1 eN T1 => ⟨T1, fun H2 keep T2 E' Q' hE hQ => ?_⟩⟩
  have s2 : SR g H2 σ sl tm := s.extK (fun b o hb nt => keep b o (eN b o hb nt) nt) T2
  have s3 : SR { g with io := allIo σ } H2 σ sl tm := ⟨s2.okS, s2.okT, s2.inv, s2.prov, s2.frame, s2.len, s2.slen, s2.at_, allIo_is, s2.px, s2.tabs⟩
  refine ⟨{ g with io := allIo σ }, ⟨rfl, rfl⟩, sl, tm, s3, ?_⟩
  -- back to the slots as they were
  have back : ∀ {H3 : Hp} {σ' : L2.St} {sl' : List (Option T)} {tm' : List T} {ρ1 : DE}, SR { g with io := allIo σ } H3 σ' sl' tm' → den sl' = ρ1 → subO (den sl) ρ1 = true → SR g H3 σ sl' tm' := fun {H3 σ' sl' tm' ρ1} s4 e4 hs => by
    refine ⟨s4.okS, s4.okT, s4.inv, s4.prov, s4.frame, s2.len, s4.slen, fun i t hi => ?_, s2.io, s4.px, s4.tabs⟩
    have z := s4.at_ i t hi
    obtain ⟨d', hd'⟩ := subO_get hs (i := i) (d := t.d) (by rw [← e4]; unfold den; rw [List.getElem?_map, hi]; rfl)
    obtain ⟨u, hu, _, _, hv⟩ := s2.val hd'
    have w := s4.io (i, u.v) (allIo_in hv)
    rw [w] at z
    rw [hv, Option.some.inj z]
  unfold mLam at h
  cases em : m (den sl) with
  | stuck => rw [em] at h; exact h.elim
  | ok d ρ1 =>
    rw [em] at h
    simp only at h
    split at h
    · rename_i hs
      intro H' sl' t s4 e1 e2
      refine hQ _ _ ⟨s4.tabs, ?_⟩
      unfold finL at h
      split at h
      · rename_i v hM
        unfold EndW
        rw [hM]
        intro H3 t3 af et
        have s5 : SR { g with io := allIo σ } H3 σ sl' ([t3] ++ tm) := SR.call (ts := []) s4.pop af
        exact h H3 sl' t3 (back s5 e1 hs) e1 et
      · exact h.elim
    · exact h.elim
  | exc y ρ1 =>
    rw [em] at h
    simp only at h
    split at h
    · rename_i hs
      obtain ⟨hd, hs⟩ := hs
      unfold finL at h
      split at h
      · rename_i v hM
        intro H' σ' sl' a dx s4 e1
        · have k := s4.top
          have k2 : (exnT dx y).ok g.c H' := by
            simp only [exnT, T.ok] at k ⊢
            refine ⟨k.1, ?_⟩
            have k := k.2
            cases dx with
            | none => exact k
            | some dd => exact ⟨k.1, fun z => absurd z hd⟩
          have s5 : SR { g with io := allIo σ } H' σ' sl' ([exnT dx y] ++ tm) := SR.part s4 k2 fun b => by simp [exnT, T.oc, T.sh]
          refine hE _ _ _ ⟨y, rfl, hd, k2, s4.tabs, ?_⟩
          unfold EndW
          rw [hM]
          intro H3 t3 af et
          have s6 : SR { g with io := allIo σ } H3 σ' sl' ([t3] ++ tm) := SR.call s5 af
          exact h H3 sl' t3 (back s6 e1 hs) e1 et
      · exact h.elim
    · exact h.elim
theorem e_lam {g : Gh} {W : WX} {x a : Str} {st : Stmt} {gf : Addr} {fd : FuncData} {Ng : List Str} {c : Cfg} {M : Option Ex → RF} {m : Cm D} {params : Arguments} {body : Expr} {scope : Scope} {p lpos pos : Pos} {k : Nat} {cc P : Addr}
    (A : At X.K X.mg x st [a] gf fd) (hg : Gl X x) (Sg : FnScope Ng [a] (defScope st)) (hNg : Ng[0]? = some a) (hva : Vis (defScope st) a) (hc : g.c = c)
    (hG : ∀ cdg, LamX.GivesTo X Ng x (defScope st) gf cdg (defBody st) a (X.env.qual ++ "<lambda>") (TTw c M))
    (TB : LamX.TabB X.base X.mg cc P) (hcode : X.env.code = .ref cc) (hmT : (P, X.env.qual ++ "<lambda>") ∈ c.tb) (hu : ∀ p ∈ c.tb, p.1 = P → p.2 = X.env.qual ++ "<lambda>") (hr : Room (k + 2) X.A) (L : LamX.LamS X.env.scope scope) (hdef : defaultsOf params X.env = ([], []))
    (hbind : ∀ (q : Str) (cl : List (Str × Addr)) (pm cv ctv : Value), bindArgs (PySem.W.kla_fn "<lambda>" q params body scope cl pm cv ctv) ⟨[], []⟩ = pure [])
    (hbody : ∀ (A : Around) (outer : List Env) (s : Shared) (H : Hp) (E : XK) (f c' : Addr), Room k (A.deeper (LamX.lamEnv X scope s.heap.objs.size f c')) → ∀ g' : Gh, g'.c = c ∧ g'.N = g.N → PE (LamX.lamCx X A outer s H E scope f c') body (tE g' (fun cls d _ H => E cls d H) m))
    (hdb : (x == ("__debug__" : Str)) = false := by decide) (hd : (a == ("__debug__" : Str)) = false := by decide) (hcd : (a == ("__classdict__" : Str)) = false := by decide) :
    PE X (.Call (.Name x p) [.Lambda params body scope lpos] [] pos) (tE g W (mLam M m)) := by
  obtain ⟨oc, od, dV, kV, doc, pm, an, cdv, ct, osl, e, lk, hcg, _, _⟩ := A.F.ex
  have hb := A.b
  subst e
  exact (LamX.pe_lamcall (T := c.tb) (TT := TTw c M) (t := fun E σ H Q => ∃ g' : Gh, (g'.c = c ∧ g'.N = g.N) ∧ tE g' (fun cls d _ H => E cls d H) m σ H Q) hg A.g A.F.kp lk hcg hb Sg hNg hva (hG cdv) TB hcode hmT hu hr L hdef hbind
    (fun A outer s H E f c' hr => PE.ex (P := fun g' : Gh => g'.c = c ∧ g'.N = g.N) fun g' hg' => hbody A outer s H E f c' hr g' hg') hdb hd hcd).imp (lam_imp hc)
end
/-- the def of the text, its code object known -/
theorem fn_okL {P : Program} {w : World} {K : PySem.W.Frag} {mg : Str → Option Value} {base : Heap} {c : Cfg} {x qual : Str} {params : Arguments} {sbody : List Stmt} {scope : Scope} {dvs : List V} {kws : List (Str × V)} {q : He.Defn} {fd : FuncData} {N ps : List Str} {k np : Nat} {io : List Nat} {m : Cm Out}
    (F : FunD K x qual params sbody scope dvs kws (He.fAd K q) fd) (S : FnScope N ps scope) (hps : ps.length = np) (hN : np ≤ N.length) (hio : ∀ i ∈ io, i < np) (hnd : io.Nodup)
    (body : ∀ (g : Gh) (cdv : Value) (A : Around) (outer : List Env) (s : Shared) (H : Hp) (E : XK), Room k (A.deeper (envOfC qual scope s.heap.objs.size (He.fAd K q) cdv)) → g.c = c → g.N = N.length → g.io.map (·.1) = io → cdv = .ref (He.codeOf K q) →
      PSs (cxOf (L2.CX P w) P w K mg base N qual scope (He.fAd K q) cdv A outer s H E) sbody (tS g (fun cls d _ H => E cls d H) m)) :
    FnOk P w K mg base (L2.CX P w) (k + 1) (He.fAd K q) fd ps (spM c np io (runF N.length io m)) := by
  obtain ⟨oc, od, dV, kV, doc, pm, an, cdv, ct, osl, rfl, lk, hcd, _, _⟩ := F.ex
  have e : cdv = .ref (He.codeOf K q) := by
    obtain ⟨cc, e⟩ := He.codeIn_ref hcd
    subst e
    rw [He.codeOf_eq lk rfl]
  refine fn_of lk hcd S (spM_len hps) fun A outer s H vs Q E hr h => ?_
  exact body_ok (fun g h1 h2 h3 => body g cdv A outer s H E hr h1 h2 h3 e) S hps hN hio hnd h
/-! ### the end of a law with tables -/
abbrev cfgT (K : PySem.W.Frag) (tf : List (He.Defn × Str)) : Cfg := ⟨K, fun x => He.ga K (Str.ofString x), tf.map fun p => ((He.cT K p.1).2, p.2)⟩
structure SaysTE (fa : List He.Fa) (fn : List He.DefD) (tf : List He.Defn) (ex : PySem.W.Frag → Bool) (h : Heap) (K : PySem.W.Frag) : Prop where
  t : He.SaysD fa fn K
  more : ex K = true
  hd : ∀ p ∈ tf, PySem.W.codeHdIn K (He.cT K p).1 (He.cT K p).2 = true
  out : ∀ p ∈ tf, K.lookup (He.cT K p).2 = none
  empty : ∀ p ∈ tf, h.get? (He.cT K p).2 = some { cls := .none, data := .fields #[] }
def obsTE (n : Nat) (fa : List He.Fa) (fn : List He.DefD) (tf : List He.Defn) (ex : PySem.W.Frag → Bool) (g : Addr → Option Obj) : He.AlD × Bool := (He.obsD fa fn (He.frT g (He.asD g n)), ex (He.frT g (He.asD g n)) && He.tabsB g tf (He.frT g (He.asD g n)))
theorem saysTE_of {n : Nat} {fa : List He.Fa} {fn : List He.DefD} {tf : List He.Defn} {ex : PySem.W.Frag → Bool} {h : Heap} (e : obsTE n fa fn tf ex h.get? = (He.valD fn, true)) : SaysTE fa fn tf ex h (He.frT h.get? (He.asD h.get? n)) := by
  have e1 := congrArg (fun z : He.AlD × Bool => z.1) e
  have e2 := congrArg (fun z : He.AlD × Bool => z.2) e
  obtain ⟨h1, h2⟩ := Bool.and_eq_true_iff.mp e2
  have key := fun p (hp : p ∈ tf) => Bool.and_eq_true_iff.mp (List.all_eq_true.mp h2 p hp)
  have k2 : ∀ p ∈ tf, ∃ o, h.get? (He.cT (He.frT h.get? (He.asD h.get? n)) p).2 = some o ∧ He.emptyTab o = true := fun p hp => by
    have := (key p hp).2
    split at this
    · rename_i o eo; exact ⟨o, eo, this⟩
    · cases this
  refine ⟨e1, h1, fun p hp => (key p hp).1, fun p hp => ?_, fun p hp => ?_⟩
  · obtain ⟨o, eo, ho⟩ := k2 p hp
    exact He.frT_none eo ho
  · obtain ⟨o, eo, ho⟩ := k2 p hp
    rw [eo, He.emptyTab_eq ho]
def hookTE (n : Nat) (fa : List He.Fa) (fn : List He.DefD) (tf : List He.Defn) (ex : PySem.W.Frag → Bool) : PySem.W.Hook where
  α := He.AlD × Bool
  obs := fun s => obsTE n fa fn tf ex s.heap.get?
  val := fun _ => (He.valD fn, true)
  says := fun _ h => ∃ K : PySem.W.Frag, K.In h ∧ SaysTE fa fn tf ex h K
  of := fun _ _ e => ⟨_, He.frT_in, saysTE_of e⟩
  keeps := fun _ _ _ ⟨K, hK, c⟩ k => ⟨K, PySem.W.Frag.In.keeps hK k, ⟨c.t, c.more, c.hd, c.out, fun p hp => k _ _ (c.empty p hp)⟩⟩
theorem obsTE_eq {n : Nat} {fa : List He.Fa} {fn : List He.DefD} {tf : List He.Defn} {ex : PySem.W.Frag → Bool} {g : Addr → Option Obj} {s : Shared} (h : ∀ a, g a = s.heap.get? a) : obsTE n fa fn tf ex g = (hookTE n fa fn tf ex).obs s := by
  have e : g = s.heap.get? := funext h
  rw [e] <;> rfl
theorem walk_ofTw {l : PySem.W.OpenLaw} {n k : Nat} {q : Program} {loose : List Str} {XP : (Str → Option Value) → Heap → Prop} {YP : World → Heap → Prop} {d : DefRec} {x : Str}
    (hn : l.most = some n) (hn2 : n ≤ sizeLine) (hdf : d.params.defaults = []) (hr : Room k callerA)
    (F : ∀ (w : World) (mg : Str → Option Value) (fa : Addr) (h : Heap), YP w h → h.Ns mainGlobals mg → mg d.name = some (.ref fa) →
      ∃ (K : PySem.W.Frag) (fd : FuncData) (c : Cfg) (M : List D → RF) (cs : List (Addr × Addr)), K.In h ∧ (c.K = K ∧ ∀ p ∈ c.tb, p.1 ∈ cs.map Prod.snd) ∧ (∀ p ∈ cs, h.get? p.2 = some { cls := .none, data := .fields #[] }) ∧ (∀ p ∈ cs, K.lookup p.2 = none) ∧ (∀ p ∈ cs, PySem.W.codeHdIn K p.1 p.2 = true) ∧ (∀ (s : Shared) (u : Value), BindsTo s fd ⟨[u], []⟩ [(x, u)]) ∧
        (∀ (o : Ow) (ns : List Int), o = .frz ∨ o = .stc ∨ o = .shr → ns.length ≤ n → M [.lst o (ns.map D.int)] = .ok (.bl true) []) ∧
        ∀ base : Heap, K.In base → base.Ns mainGlobals mg → (∀ p ∈ cs, LamX.TabB base mg p.1 p.2) → FnOk l.prog w K mg base (L2.CX l.prog w) k fa fd [x] (spM c 1 [] M)) :
    PySem.W.WalkO q loose XP YP l.row.toRowW d [] (fun f vs => PySem.call f vs) := by
  refine Att.attach_call hn hdf fun w s₀ s₁ mg mb fa o pm cd doc a vs ns G Y ho hd hcd hmg hobj hints hlen hg => ?_
  obtain ⟨K, fd, c, M, cs, KX, ⟨hcK, hct⟩, hT, nT, C, hb, hM, hF⟩ := F w mg fa _ Y G.T.g hmg
  refine LamX.law_callTs (cs := cs) KX G.T.g G.T.b G.T.builtins G.T.nolimit hg hT nT (fun p hp => PySem.W.codeHd_of_K KX (C p hp)) G.T.bmain hobj hints (Nat.le_trans hlen hn2) hr hF hb (fun H hH hS => ?_) fun H e s' h => ?_
  · have gi : ∀ m : List Int, Ts.ok c H (m.map fun i => T.sc (.int i)) := fun m => by
      rw [Ts.ok_iff]; intro t ht
      obtain ⟨i, _, rfl⟩ := List.mem_map.mp ht
      exact trivial
    have dm : ∀ m : List Int, Ts.d (m.map fun i => T.sc (.int i)) = m.map D.int := fun m => by
      rw [Ts.d_map, List.map_map]; rfl
    have vm : ∀ m : List Int, (m.map fun i => T.sc (.int i)).map T.v = m.map V.int := fun m => by
      rw [List.map_map]; rfl
    have om : ∀ (a : Addr) (m : List Int), Ts.oc a (m.map fun i => T.sc (.int i)) = 0 ∧ Ts.sh a (m.map fun i => T.sc (.int i)) = 0 := fun a m => by
      induction m with
      | nil => simp [Ts.oc, Ts.sh]
      | cons i m ih => simp [Ts.oc, Ts.sh, T.oc, T.sh, ih]
    have hz : (ns.map fun i => T.sc (.int i)).length ≤ 16777216 := by
      rw [List.length_map]; have := Nat.le_trans hlen hn2; rw [SZ_eq] at this; exact this
    have tbs : LamX.Tabs c.tb H := fun p hp => by
      obtain ⟨p2, h2, e2⟩ := List.mem_map.mp (hct p hp)
      have := hH p2 h2
      rw [e2] at this
      exact LamX.TabS.nil this
    have key : ∀ o : Ow, o = .frz ∨ o = .stc ∨ o = .shr → (T.lst a o (ns.map fun i => T.sc (.int i))).ok c H → spM c 1 [] M [.ref a] H (fun v _ => v = .bl true) fun _ _ _ => False := fun o ho k => by
      refine ⟨[T.lst a o (ns.map fun i => T.sc (.int i))], rfl, by simp [Ts.ok, k], tbs, fun b => .inl ?_, rfl, ?_⟩
      · have := om b ns
        rcases ho with rfl | rfl | rfl <;> simp [Ts.oc, T.oc, b2, this]
      · rw [show Ts.d [T.lst a o (ns.map fun i => T.sc (.int i))] = [D.lst o (ns.map D.int)] by simp [Ts.d, T.d, dm], hM o ns ho hlen]
        intro H' t us _ ht _ _
        cases t with
        | sc s => simp [T.d] at ht; subst ht; rfl
        | _ => simp [T.d] at ht
    rcases hS with (h | ⟨o, h⟩) | h
    · exact key .shr (.inr (.inr rfl)) (by simp only [T.ok]; exact ⟨by rw [vm]; exact h, hz, gi ns⟩)
    · exact key .frz (.inl rfl) (by simp only [T.ok]; exact ⟨⟨o, by rw [vm]; exact h⟩, hz, gi ns⟩)
    · exact key .stc (.inr (.inl rfl)) (by simp only [T.ok]; exact ⟨by rw [vm, hcK]; exact .inr h, hz, gi ns⟩)
  · obtain ⟨_, _, _, _, _, _, _, _, _, _, _, _, z⟩ := h
    exact z
end VS
namespace VS
open PySem PySem.Spec PyProof.Rows L2
section
variable {X : Cx} {c : Cfg} {N : Nat} {rest : List Stmt} {u : TS}
theorem pre_nil (h : PSs X rest u) : PSs X rest (fun De σ H => ∃ g : Gh, (g.c = c ∧ g.N = N ∧ g.io.map (·.1) = [0]) ∧ tS g (fun _ _ _ _ => False) mNext { nx := u De, rt := fun _ _ => False } σ H) := h.imp fun De σ H ⟨g, _, sl, tm, s, q⟩ => q H σ sl s rfl
theorem pre_cons {st : Stmt} {mp : Cm Out} (h1 : ∀ g : Gh, (g.c = c ∧ g.N = N ∧ g.io.map (·.1) = [0]) → PS X st (tS g (fun _ _ _ _ => False) mp)) (h : PSs X rest u) :
    PSs X (st :: rest) (fun De σ H => ∃ g : Gh, (g.c = c ∧ g.N = N ∧ g.io.map (·.1) = [0]) ∧ tS g (fun _ _ _ _ => False) mp { nx := u De, rt := fun _ _ => False } σ H) := by
  have h2 : PS X st (fun De σ H => ∃ g : Gh, (g.c = c ∧ g.N = N ∧ g.io.map (·.1) = [0]) ∧ tS g (fun _ _ _ _ => False) mp De σ H) := ⟨fun pins s σ H De I q => by
    obtain ⟨g, hg, q⟩ := q
    exact (h1 g hg).run pins s σ H De I q⟩
  refine (pss_cons h2 h).imp fun De σ H ⟨g, hg, sl, tm, s, q⟩ => ⟨g, hg, sl, tm, s, q.imp fun o ρ z => ?_⟩
  cases o with
  | nx => exact z
  | brk => exact fun H' σ' sl' s' e => (z H' σ' sl' s' e).elim
  | ct => exact fun H' σ' sl' s' e => (z H' σ' sl' s' e).elim
  | ret d => exact fun H' σ' sl' t s' e e2 => (z H' σ' sl' t s' e e2).elim
end
end VS

/-! VS, part I: list(range(n)), list.count. -/
namespace VS
open PySem PySem.Spec PyProof.Rows L2

/-! ### xs.count(y), flat things -/
def rCntF (K : PySem.W.Frag) : V → List V → Hp → VK → Prop := fun x xs H Q => ∃ (p : Addr) (ys : List V) (y : V), x = .ref p ∧ xs = [y] ∧ SqL K H p ys ∧ flatV y = true ∧ ys.all flatV = true ∧ Q (.int (ys.countP fun z => eqV z y : Nat)) H
theorem count_vals {y : V} : ∀ {ys : List V} {us : List Value}, Vals ys us → ys.all flatV = true → us.countP (eqU y) = ys.countP fun z => eqV z y
  | _, _, .nil, _ => rfl
  | z :: ys, u :: us, .cons r t, f => by
    rw [List.all_cons, Bool.and_eq_true] at f
    rw [List.countP_cons, List.countP_cons, count_vals t f.2, eqU_of r f.1]
section
variable {X : Cx}
theorem mt_countF : MtR X "list.count" (rCntF X.K) := by
  intro pins s σ H x xs v us Q I rx rxs h
  obtain ⟨p, ys, y, rfl, rfl, hs, fy, fys, q⟩ := h
  cases rx
  cases rxs with
  | cons ry rt =>
    rename_i uy ut
    cases rt
    obtain ⟨its, rv, ⟨⟨cls, dd, data, sl⟩, n, ho, hc, hdn, hd⟩, hlen⟩ := I.list hs
    simp only at hc hd
    subst hc hd
    have at_ := fun A s => mem_eqAt (A := A) (s := s) ry fy rv fys
    refine call_meets PySem.F.slot_list_count ⟨_, ho, rfl⟩ PySem.F.entry_list_count (PySem.F.args_list_count_2 _ _) (SeqAt.list_countAt p its.toArray n dd sl uy (eqU y)) ⟨ho, fun u hu => at_ _ _ u (by simpa using hu), ?_⟩
    exact ⟨.int (ys.countP fun z => eqV z y : Nat), H, I.tok _, ⟨s.toks, by rw [show its.toArray.toList = its from rfl, count_vals rv fys]⟩, q⟩
end
section
variable {X : Cx} {g : Gh} {W : WX} {pos p p2 p3 : Pos} {a : Expr} {ma : Cm D} {oa : Opd}
/-- x.count(y) -/
def mCntL (i : Nat) (ma : Cm D) : Cm D := fun ρ => match ρ[i]? with
  | some (some (.lst _ _)) => (ma ρ).bind fun d ρ => match (ρ[i]?).join, d with
    | some (.lst _ xs), .sc z => match scs xs with
      | some l => .ok (.int (l.countP fun y => y.eqB z : Nat)) ρ
      | none => .stuck
    | _, _ => .stuck
  | _ => .stuck
@[simp] theorem mCntL_ (i : Nat) (ma : Cm D) (ρ : DE) : mCntL i ma ρ = match ρ[i]? with
  | some (some (.lst _ _)) => (ma ρ).bind fun d ρ => match (ρ[i]?).join, d with
    | some (.lst _ xs), .sc z => match scs xs with
      | some l => .ok (.int (l.countP fun y => y.eqB z : Nat)) ρ
      | none => .stuck
    | _, _ => .stuck
  | _ => .stuck := rfl
theorem e_cntL {y : Str} {apos : Pos} {i : Nat} (hK : X.K = g.c.K) (hp : PE X (.Call (.Attribute (.Name y p) "count" apos) [a] [] pos) (tBM X.K "list" (rCntF X.K) (tVar i) (tA g W [ma]))) : PE X (.Call (.Attribute (.Name y p) "count" apos) [a] [] pos) (tE g W (mCntL i ma)) :=
  hp.imp fun σ H Q ⟨sl, tm, s, h⟩ => by
    unfold mCntL at h
    split at h
    · rename_i o xs e0
      obtain ⟨p, e3, hty⟩ := some_list hK s e0
      refine ⟨_, e3, hty, tA1 s h fun H1 sl1 t s1 h1 => ?_⟩
      split at h1
      · rename_i zo ys z e1 e2
        have e1' : (den sl1)[i]? = some (some (.lst zo ys)) := by
          cases q : (den sl1)[i]? with
          | none => rw [q] at e1; simp at e1
          | some o => rw [q] at e1; simp at e1; rw [e1]
        obtain ⟨u, g1, g2, g4, g3⟩ := s1.val e1'
        cases u with
        | lst p' o' ts =>
          simp only [T.d, D.lst.injEq] at g2
          obtain ⟨rfl, rfl⟩ := g2
          rw [e3] at g3
          cases g3
          split at h1
          · rename_i l hl
            obtain ⟨k1, k2⟩ := scs_ok hl
            cases t with
            | sc w =>
              simp only [T.d, D.sc.injEq] at e2
              subst e2
              have fw : flatV (T.sc w).v = true := by cases w <;> rfl
              refine ⟨p, ts.map T.v, (T.sc w).v, rfl, rfl, by rw [hK]; exact (lst_sq g4).1, fw, k2, ?_⟩
              have ec : ((ts.map T.v).countP fun z => eqV z (T.sc w).v) = l.countP fun y => y.eqB w := by
                rw [k1, List.countP_map]
                congr 1
                funext y
                exact eqV_sc y w
              rw [ec]
              exact h1 H1 sl1 (.sc (.int _)) (s1.pop.push _ trivial) rfl rfl
            | _ => simp [T.d] at e2
          · exact h1.elim
        | _ => simp [T.d] at g2
      · exact h1.elim
    · exact h.elim
/-! ### list(range(n)) -/
theorem cr_range1 : CallR X (.type "range") (fun vs H Q => ∃ j, vs = [V.int j] ∧ ∀ p, H p = none → Q (.ref p) (upd H p (.rng 0 j))) := by
  intro pins s σ H vs us Q I r h
  obtain ⟨j, rfl, q⟩ := h
  cases r with
  | cons r rr =>
    cases rr
    obtain ⟨t, rfl⟩ := r
    exact call_range_1 ⟨.ref s.heap.objs.size, upd H s.heap.objs.size (.rng 0 j), I.laid (t' := s.toks + 1 + 1) (fun b o e => Heap.get?_push_of_some _ e) (Nat.le_refl _) ⟨s.toks, t, s.toks + 1, Heap.get?_push_size _ rfl⟩, rfl, q _ (I.hok.fresh (Nat.le_refl _))⟩
theorem vals_list {ys : List V} {us : List Value} (hl : ys.length = us.length) (h : ∀ (j : Nat) (y : V) (u : Value), ys[j]? = some y → us[j]? = some u → RelV y u) : Vals ys us := by
  induction ys generalizing us with
  | nil =>
    cases us with
    | nil => exact .nil
    | cons u us => simp at hl
  | cons y ys ih =>
    cases us with
    | nil => simp at hl
    | cons u us => exact .cons (h 0 y u rfl rfl) (ih (by simpa using hl) fun j y u h1 h2 => h (j + 1) y u (by simpa using h1) (by simpa using h2))
theorem call_list_rng (hcalm : X.calm = true) : CallR X (.type "list") (fun xs H Q => ∃ (a : Addr) (j : Int), xs = [.ref a] ∧ H a = some (.rng 0 j) ∧ smallR j ∧ j.toNat ≤ 16777216 ∧ ∀ l, H l = none → Q (.ref l) (upd H l (.lst ((List.range j.toNat).map fun k : Nat => V.int (k : Int))))) := by
  intro pins s σ H xs us Q I r h
  obtain ⟨a, j, rfl, ha, hj, hz, q⟩ := h
  cases r with
  | cons r rr =>
    cases rr
    cases r
    obtain ⟨t, u, v, ho⟩ := I.hok a _ ha
    obtain ⟨b1, b2⟩ := small62 hj
    have e16 : (2 : Nat) ^ 24 = 16777216 := by decide
    refine PySem.call_list_range (n := j.toNat) (I.ok.hd hcalm) (t := t) (u := u) (v := v) (a := 0) (b := j) (c := 1) ho (small_one (by omega) (by omega) b1 b2) (by rw [rangeSize_one]; split <;> omega) (by omega) fun h' tk acc c' hk hS hacc => ?_
    obtain ⟨hsz, hit⟩ := hacc
    refine ⟨.ref s.heap.objs.size, _, I.laid (t' := tk) hk (Nat.le_refl _) (show ObjOk X.prog X.w _ h' _ (.lst _) from ⟨by rw [sizeLine_eq]; simpa using hz, acc.toList, c', ?_, hS⟩), rfl, q _ (I.hok.fresh (Nat.le_refl _))⟩
    refine vals_list (by simp [hsz]) fun k y u h1 h2 => ?_
    rw [List.getElem?_map, Option.map_eq_some_iff] at h1
    obtain ⟨m, hm, rfl⟩ := h1
    have hk2 : k < j.toNat := by
      by_cases z : k < j.toNat
      · exact z
      · rw [List.getElem?_eq_none (by simp; omega)] at hm; cases hm
    rw [List.getElem?_range hk2] at hm
    cases hm
    obtain ⟨t2, e⟩ := hit k u (by simpa using h2)
    exact ⟨t2, by rw [e]; congr 1; omega⟩
def mListR (ma : Cm D) : Cm D := fun ρ => (ma ρ).bind fun d ρ => match d with
  | .sc (.int j) => if smallR j ∧ j.toNat ≤ 16777216 then .ok (.lst .own (rangeD 0 j.toNat)) ρ else .stuck
  | _ => .stuck
@[simp] theorem mListR_ (ma : Cm D) (ρ : DE) : mListR ma ρ = (ma ρ).bind fun d ρ => match d with
  | .sc (.int j) => if smallR j ∧ j.toNat ≤ 16777216 then .ok (.lst .own (rangeD 0 j.toNat)) ρ else .stuck
  | _ => .stuck := rfl
theorem e_listR (hcalm : X.calm = true) (hgl : Gl X "list") (hml : X.mg "list" = none) (hgr : Gl X "range") (hmr : X.mg "range" = none) (ha : PE X a (tE g W ma)) (he : starEach (a :: []) X.env = (false, eval a X.env) :: starEach [] X.env := by rfl)
    (he2 : starEach (.Call (.Name "range" p2) [a] [] p3 :: []) X.env = (false, eval (.Call (.Name "range" p2) [a] [] p3) X.env) :: starEach [] X.env := by rfl) :
    PE X (.Call (.Name "list" p) [.Call (.Name "range" p2) [a] [] p3] [] pos) (tE g W (mListR ma)) := by
  have h1 := pe_callTy (pos := p3) (p := p2) cr_range1 hgr hmr (by decide +kernel) (pa_cons ha pa_nil he) (he := he)
  refine (pe_callTy (call_list_rng hcalm) hgl hml (by decide +kernel) (pa_cons h1 pa_nil he2) (he := he2)).imp fun σ H Q ⟨sl, tm, s, h⟩ => ?_
  unfold tCB tCons
  refine tE.of s h fun H1 sl1 t s1 h' => ?_
  cases t with
  | sc x =>
    cases x with
    | int j =>
      simp only [T.d] at h'
      split at h'
      · rename_i hj
        refine ⟨j, rfl, fun q hq => ⟨q, j, rfl, upd_same, hj.1, hj.2, fun l hl => ?_⟩⟩
        have s2 : SR g (upd H1 q (.rng 0 j)) σ sl1 tm := (have k : ∀ a o, H1 a = some o → upd H1 q (.rng 0 j) a = some o := fun a o e => (upd_ne fun z => by subst z; rw [hq] at e; cases e).trans e; s1.pop.extK (fun a o e _ => k a o e) (tabs_keep s1.tabs fun a o e _ => k a o e))
        have s3 := s2.newL (p := l) (xs := []) (ts := (List.range j.toNat).map fun k : Nat => T.sc (.int (k : Int))) hl (by simpa using hj.2) (Ts.ok_iff.mpr fun t m => by
          obtain ⟨k, _, rfl⟩ := List.mem_map.mp m; trivial) (fun a => by
          have z := isSc_cnt (a := a) (ts := (List.range j.toNat).map fun k : Nat => T.sc (.int (k : Int))) (by rw [Ts.d_map]; simp [T.d, D.isSc])
          omega)
        rw [List.map_map] at s3
        exact h' _ _ _ s3 rfl (by simp [T.d, Ts.d_map, rangeD])
      · exact h'.elim
    | _ => exact h'.elim
  | _ => exact h'.elim
end
end VS

/-! VS, part J: an own list walked, its items taken out; x[m].clear(). -/
namespace VS
open PySem PySem.Spec PyProof.Rows L2

/-- what stays in a list where an item was taken out -/
def phT : T → T
  | .sc s => .sc s
  | .lst a _ _ => .exn a none "?" [] []
  | .tup a _ _ => .exn a none "?" [] []
  | .obj a _ _ _ _ _ => .exn a none "?" [] []
  | .exn a _ _ _ _ => .exn a none "?" [] []
def phD : D → D
  | .sc s => .sc s
  | _ => .exn "?" [] []
theorem phT_v (t : T) : (phT t).v = t.v := by cases t <;> rfl
theorem phT_d (t : T) : (phT t).d = phD t.d := by cases t <;> rfl
theorem phT_cnt (a : Addr) (t : T) : (phT t).oc a = 0 ∧ (phT t).sh a = 0 := by cases t <;> simp [phT, T.oc, T.sh, b2]
theorem phT_ok {c : Cfg} {H : Hp} (t : T) (h : t.ok c H) : (phT t).ok c H := by
  cases t with
  | sc s => simpa [phT] using h
  | _ => simp [phT, T.ok]
theorem ph_cnt (a : Addr) : ∀ ts : List T, Ts.oc a (ts.map phT) = 0 ∧ Ts.sh a (ts.map phT) = 0
  | [] => by simp [Ts.oc, Ts.sh]
  | t :: ts => by
    have h1 := phT_cnt a t
    have h2 := ph_cnt a ts
    simp only [List.map_cons, Ts.oc, Ts.sh]
    omega
def takeL (v : Nat) (m : Cm Out) : List D → Cm Unit
  | [] => fun ρ => .ok () ρ
  | d :: ds => fun ρ => match m (ρ.set v (some d)) with
    | .ok .nx ρ' => takeL v m ds ρ'
    | _ => .stuck
/-- for v in i: the list i alone holds its items, which go over to v, one by one -/
def mForT (i v : Nat) (m : Cm Out) : Cm Out := fun ρ => match ρ[i]? with
  | some (some (.lst .own ds)) => match takeL v m ds (ρ.set i none) with
    | .ok _ ρ' => .ok .nx (ρ'.set i (some (.lst .own (ds.map phD))))
    | _ => .stuck
  | _ => .stuck
@[simp] theorem mForT_ (i v : Nat) (m : Cm Out) (ρ : DE) : mForT i v m ρ = match ρ[i]? with
  | some (some (.lst .own ds)) => match takeL v m ds (ρ.set i none) with
    | .ok _ ρ' => .ok .nx (ρ'.set i (some (.lst .own (ds.map phD))))
    | _ => .stuck
  | _ => .stuck := rfl
abbrev Gh.si (g : Gh) (i : Nat) (a : Addr) : Gh := { g with io := (i, .ref a) :: g.io }
theorem si_io {g : Gh} {i : Nat} {a : Addr} {l : List Nat} (h : g.io.map (·.1) = l) : (g.si i a).io.map (·.1) = i :: l := by simp [Gh.si, h]
section
variable {g : Gh} {W : WX} {H : Hp} {σ : L2.St} {sl : List (Option T)} {tm : List T}
theorem SR.inI {i : Nat} {a : Addr} (s : SR g H σ sl tm) (h : σ[i]? = some (some (.ref a))) : SR (g.si i a) H σ sl tm :=
  ⟨s.okS, s.okT, s.inv, s.prov, s.frame, s.len, s.slen, s.at_, fun p hp => by
    rcases List.mem_cons.mp hp with rfl | hp
    · exact h
    · exact s.io p hp, s.px, s.tabs⟩
theorem SR.outI {i : Nat} {a : Addr} (s : SR (g.si i a) H σ sl tm) : SR g H σ sl tm :=
  ⟨s.okS, s.okT, s.inv, s.prov, s.frame, s.len, s.slen, s.at_, fun p hp => s.io p (List.mem_cons_of_mem _ hp), s.px, s.tabs⟩
theorem _root_.L2.PG.ex {α : Type} {X : Cx} {tg : Expr} {t : α → TG} (h : ∀ x, PG X tg (t x)) : PG X tg (fun v σ H Q => ∃ x, t x v σ H Q) := ⟨fun pins s σ H v u Q I r q => by
  obtain ⟨x, q⟩ := q
  exact (h x).run pins s σ H v u Q I r q⟩
/-- an item is taken out of the list that is held -/
theorem SR.take1 {p : Addr} {t : T} {as bs : List T} (s : SR g H σ sl (T.lst p .own (as.map phT ++ t :: bs) :: tm)) : SR g H σ sl (t :: T.lst p .own ((as ++ [t]).map phT ++ bs) :: tm) := by
  have k := s.okT
  simp only [Ts.ok, T.ok] at k
  obtain ⟨⟨k1, k2, k3⟩, k4⟩ := k
  rw [Ts.ok_iff] at k3
  have kt : t.ok g.c H := k3 t (by simp)
  refine s.tmp ?_ fun a => ?_
  · simp only [Ts.ok, T.ok]
    refine ⟨kt, ⟨?_, by simpa using k2, Ts.ok_iff.mpr fun u m => ?_⟩, k4⟩
    · rw [k1]
      simp [List.map_map, phT_v]
    · simp only [List.map_append, List.map_cons, List.map_nil, List.append_assoc, List.mem_append, List.mem_singleton, List.mem_cons, List.cons_append, List.nil_append] at m
      rcases m with m | m | m
      · exact k3 u (by simp only [List.mem_append]; exact .inl m)
      · subst m; exact phT_ok t kt
      · exact k3 u (by simp [m])
  · have h1 := ph_cnt a as
    have h2 := phT_cnt a t
    simp only [Ts.oc, Ts.sh, T.oc, T.sh, Ts.oc_append, Ts.sh_append, List.map_append, List.map_cons, List.map_nil]
    omega
end
section
variable {X : Cx} {g : Gh} {W : WX} {pos : Pos} {iter tg : Expr} {body : List Stmt} {m : Cm Out} {i v : Nat}
theorem forT_imp (hK : X.K = g.c.K) (hi : i < g.N) (hio : ∀ p ∈ g.io, p.1 ≠ i) (De : Ends) (σ : L2.St) (H : Hp) (q : tS g W (mForT i v m) De σ H) :
    tFor (iList X.K (tVar i)) (fun x σ H Q => ∃ a, tG (g.si i a) W (mPut v) x σ H Q) (fun De σ H => ∃ a, tS (g.si i a) W m De σ H) De σ H := by
  obtain ⟨sl, tm, s, h⟩ := q
  unfold mForT at h
  split at h
  · rename_i ds e0
    obtain ⟨p, ts, g1, rfl, g3, g4, g5⟩ := own_list s e0
    cases et : takeL v m (Ts.d ts) ((den sl).set i none) with
    | exc _ _ => rw [et] at h; exact h.elim
    | stuck => rw [et] at h; exact h.elim
    | ok u ρ' =>
      rw [et] at h
      have s1 : SR (g.si i p) H σ (sl.set i none) (T.lst p .own ts :: tm) := (s.move g1).inI g5
      have e1 : den (sl.set i none) = (den sl).set i none := by rw [den_set]; rfl
      refine ⟨.ref p, g5, p, rfl, ⟨_, .of g3⟩, fun k n σ H => ∃ sl as bs, SR (g.si i p) H σ sl (T.lst p .own (as.map phT ++ bs) :: tm) ∧ as ++ bs = ts ∧ as.length = k ∧ n = bs.length ∧ takeL v m (Ts.d bs) (den sl) = .ok u ρ', ⟨ts.length, sl.set i none, [], ts, by simpa using s1, rfl, rfl, rfl, by rw [e1]; exact et⟩, ?_⟩
      rintro k n σ2 H2 ⟨sl2, as, bs, s2, eab, ek, en, el⟩
      have q2 := lst_sq s2.top
      cases bs with
      | nil =>
        simp only [Ts.d, takeL, R.ok.injEq] at el
        rw [List.append_nil] at eab
        subst eab
        refine .inl ⟨⟨_, by rw [hK]; exact q2.1, by simp; omega⟩, ?_⟩
        have p2 := s2.io (i, .ref p) List.mem_cons_self
        have s3 := s2.outI.store hi hio
        have es : σ2.set i (some (T.lst p .own (as.map phT ++ [])).v) = σ2 := by
          apply List.ext_getElem?
          intro j
          rw [List.getElem?_set]
          by_cases z : i = j
          · subst z
            have hl : i < σ2.length := by rw [s2.len]; exact hi
            rw [if_pos rfl, if_pos hl]
            exact p2.symm
          · rw [if_neg z]
        rw [es] at s3
        exact h H2 σ2 _ s3 (by rw [den_set, el.2]; simp [T.d, Ts.d_map, List.map_map, Function.comp_def, phT_d])
      | cons t bs =>
        simp only [Ts.d, takeL] at el
        refine .inr ⟨⟨_, t.v, by rw [hK]; exact q2.1, by subst ek; simp [List.map_append]⟩, fun σ3 H3 => ∃ sl3, SR (g.si i p) H3 σ3 sl3 (T.lst p .own ((as ++ [t]).map phT ++ bs) :: tm) ∧ takeL v m (Ts.d bs) (den sl3) = .ok u ρ', fun σ3 H3 ⟨sl3, s3, h3⟩ => ⟨bs.length, by simp at en; omega, sl3, as ++ [t], bs, s3, by rw [← eab]; simp, by simp [ek], rfl, h3⟩, fun x H3 hy => ?_⟩
        obtain ⟨rfl, hy⟩ := hy
        have ex := hy _ (by rw [hK]; exact q2.1)
        have ex2 : t.v = x := by subst ek; simpa [List.map_append] using ex
        refine ⟨p, sl2, _, t, s2.take1, ex2, ?_⟩
        show ∀ H' σ' sl', SR _ H' σ' sl' _ → den sl' = (den sl2).set v (some t.d) → _
        intro H4 σ4 sl4 s4 e4
        refine ⟨p, sl4, _, s4, ?_⟩
        rw [e4]
        cases em : m ((den sl2).set v (some t.d)) with
        | exc _ _ => rw [em] at el; cases el
        | stuck => rw [em] at el; cases el
        | ok o ρ4 =>
          rw [em] at el
          cases o with
          | nx => exact fun H5 σ5 sl5 s5 e5 => ⟨sl5, s5, by rw [e5]; exact el⟩
          | brk => cases el
          | ct => cases el
          | ret _ => cases el
  · exact h.elim
theorem s_forT (hp : PassesOwn (model X.prog X.w) X.A X.env X.xe) (hc : X.calm = true) (hK : X.K = g.c.K) (hi : i < g.N) (hio : ∀ p ∈ g.io, p.1 ≠ i) (he : PE X iter (tVar i)) (hg : ∀ a, PG X tg (tG (g.si i a) W (mPut v))) (hb : ∀ a, PSs X body (tS (g.si i a) W m))
    (hs : ∀ x, foldedSetIterable iter X.env x = pure x := by intro _; rfl) : PS X (.For tg iter body [] pos) (tS g W (mForT i v m)) :=
  (ps_for hp hc (pi_list he) (PG.ex hg) ((PSs.ex (P := fun _ : Addr => True) (t := fun a => tS (g.si i a) W m) fun a _ => hb a).imp fun De σ H ⟨a, q⟩ => ⟨a, trivial, q⟩) hs).imp (forT_imp hK hi hio)
/-! ### x[m].clear(), x a tuple -/
def mClrT (i : Nat) (mb : Cm D) : Cm D := fun ρ => match ρ[i]? with
  | some (some (.tup _)) => (mb ρ).bind fun j ρ => match ρ[i]?, j with
    | some (some (.tup xs)), .sc (.int k) => match ixN xs.length k with
      | some n => match xs[n]? with
        | some (.lst .own _) => .ok .non (ρ.set i (some (.tup (xs.set n (.lst .own [])))))
        | _ => .stuck
      | none => .stuck
    | _, _ => .stuck
  | _ => .stuck
@[simp] theorem mClrT_ (i : Nat) (mb : Cm D) (ρ : DE) : mClrT i mb ρ = match ρ[i]? with
  | some (some (.tup _)) => (mb ρ).bind fun j ρ => match ρ[i]?, j with
    | some (some (.tup xs)), .sc (.int k) => match ixN xs.length k with
      | some n => match xs[n]? with
        | some (.lst .own _) => .ok .non (ρ.set i (some (.tup (xs.set n (.lst .own [])))))
        | _ => .stuck
      | none => .stuck
    | _, _ => .stuck
  | _ => .stuck := rfl
theorem e_clrT {y : Str} {b : Expr} {p apos spos : Pos} {mb : Cm D} (hK : X.K = g.c.K) (hp : PE X (.Call (.Attribute (.Subscript (.Name y p) b spos) "clear" apos) [] [] pos) (tBM0 X.K "list" rClear (tOp (rIx X.K) (tVar i) (tE g W mb)))) :
    PE X (.Call (.Attribute (.Subscript (.Name y p) b spos) "clear" apos) [] [] pos) (tE g W (mClrT i mb)) :=
  hp.imp fun σ H Q ⟨sl, tm, s, h⟩ => by
    unfold mClrT at h
    split at h
    · rename_i xs0 e0
      obtain ⟨P0, st0, ts0, _, _, _, e3⟩ := a_tup s e0
      refine ⟨_, e3, tE.of s h fun H1 sl1 t s1 h1 => ?_⟩
      split at h1
      · rename_i xs k e1 ek
        split at h1
        · rename_i n hn
          split at h1
          · rename_i zs hz
            have s1' := s1.pop
            obtain ⟨P, st, ts, g1, rfl, g4, g7⟩ := a_tup s1' e1
            rw [e3] at g7
            cases g7
            obtain ⟨u, hu, hud⟩ := Ts.d_at hz
            cases u with
            | lst r o us =>
              simp only [T.d, D.lst.injEq] at hud
              obtain ⟨rfl, rfl⟩ := hud
              have sq := tup_sq g4
              have kr := Ts.ok_iff.mp sq.2.2 _ (List.mem_of_getElem? hu)
              simp only [T.ok] at kr
              cases t with
              | sc w =>
                simp only [T.d, D.sc.injEq] at ek
                subst ek
                have hl : atI (ts.map T.v) k = some (.ref r) := by
                  unfold atI
                  rw [List.length_map, ← Ts.d_len, hn]
                  show (ts.map T.v)[n]? = _
                  rw [List.getElem?_map, hu]
                  rfl
                refine .inr (.inl ⟨P0, _, k, .ref r, rfl, rfl, by rw [hK]; exact sq.1, hl, ?_⟩)
                show tyV X.K "list" (.ref r) H1 ∧ _
                refine ⟨.inl ⟨rfl, _, .of kr.1⟩, ?_⟩
                refine ⟨r, _, rfl, rfl, kr.1, ?_⟩
                have s3 := SR.writeTL (tm := tm) (es := []) (zs := []) s1' g1 hu (by simp) (by simp [Ts.ok]) (fun a => by simp [Ts.oc]) (fun a => by simp [Ts.sh])
                exact h1 _ _ (.sc .non) (s3.push _ trivial) (by rw [den_set]; simp [T.d, Ts.d_set, Ts.d]) rfl
              | _ => simp [T.d] at ek
            | _ => simp [T.d] at hud
          · exact h1.elim
        · exact h1.elim
      · exact h1.elim
    · exact h.elim
end
end VS

/-! VS, part K: a test that gives a token out; replace behind it. -/
namespace VS
open PySem PySem.Spec PyProof.Rows L2

/-- an expression behind which a token is out -/
def PEK (X : Cx) (e : Expr) (t : TE) : Prop :=
  ∀ (pins : List (Addr × Obj)) (s : Shared) (σ : L2.St) (H : Hp) (Q : VK), Inv X pins σ H s → t σ H Q → wpAny (model X.prog X.w) X.A (eval e X.env) (fun v s' => 1 ≤ s'.toks ∧ EP X pins σ Q v s') X.xe s
def PTK (X : Cx) (e : Expr) (t : TT) : Prop :=
  ∀ (pins : List (Addr × Obj)) (s : Shared) (σ : L2.St) (H : Hp) (Q : Bool → Hp → Prop), Inv X pins σ H s → t σ H Q → wpAny (model X.prog X.w) X.A (isTrue e X.env (eval e X.env)) (fun b s' => 1 ≤ s'.toks ∧ TP X pins σ Q b s') X.xe s
def PSK (X : Cx) (st : Stmt) (t : TS) : Prop :=
  ∀ (pins : List (Addr × Obj)) (s : Shared) (σ : L2.St) (H : Hp) (D : Ends), Inv X pins σ H s → t D σ H → wpAny (model X.prog X.w) X.A (exec st X.env) (fun f s' => 1 ≤ s'.toks ∧ SP X pins D f s') X.xe s
section
variable {X : Cx} {st : Stmt} {sts rest : List Stmt} {t u : TS} {e f : Expr} {te tf : TE} {tc : TT} {pos : Pos}
theorem pek_int {i : Int} {j : Nat} : PEK X (.Constant (.int i) j pos) (tC (.int i)) := fun _ s _ H _ I h => wpAny_Constant_int ⟨by show 1 ≤ s.toks + 1; omega, .int i, H, I.tok _, ⟨_, rfl⟩, h⟩
theorem pek_str {x : Str} {j : Nat} : PEK X (.Constant (.str x) j pos) (tC (.str x)) := fun _ s _ H _ I h => Calls.Constant_str ⟨by show 1 ≤ s.toks + 1; omega, .str x, H, I.tok _, ⟨_, rfl⟩, h⟩
theorem PEK.imp {t' : TE} (h : PEK X e te) (w : ∀ σ H Q, t' σ H Q → te σ H Q) : PEK X e t' := fun pins s σ H Q I q => h pins s σ H Q I (w σ H Q q)
theorem PTK.imp {t' : TT} (h : PTK X e tc) (w : ∀ σ H Q, t' σ H Q → tc σ H Q) : PTK X e t' := fun pins s σ H Q I q => h pins s σ H Q I (w σ H Q q)
theorem PSK.imp {t' : TS} (h : PSK X st t) (w : ∀ D σ H, t' D σ H → t D σ H) : PSK X st t' := fun pins s σ H D I q => h pins s σ H D I (w D σ H q)
theorem _root_.L2.PST.imp {t' : TS} (h : PST X st t) (w : ∀ D σ H, t' D σ H → t D σ H) : PST X st t' := fun pins s σ H D h0 I q => h pins s σ H D h0 I (w D σ H q)
theorem _root_.L2.PSsT.imp {t' : TS} (h : PSsT X sts t) (w : ∀ D σ H, t' D σ H → t D σ H) : PSsT X sts t' := fun pins s σ H D h0 I q => h pins s σ H D h0 I (w D σ H q)
theorem ptk_cmp {op : CmpOp} {r : R2} (ho : OpR X (compareOp op) r) (ha : PE X e te) (hb : PEK X f tf) (hm : behindInMarks op f = false) : PTK X (.Compare e [op] [f] pos) (tTest (tOp r te tf)) := by
  intro pins s σ H Q I h
  refine wpAny_isTrue_Compare1 (thn (ha.run pins s σ H _ I h) fun v s1 ⟨x, H1, I1, r1, q1⟩ => thn (hb pins s1 σ H1 _ I1 q1) fun u s2 ⟨hk, y, H2, I2, r2, q2⟩ => ?_) hm
  refine wpAny_mono (PySem.wpAny_toks (ho pins s2 σ H2 x y v u _ I2 r1 r2 q2)) (fun c s3 ⟨hk3, z, H3, I3, r3, k, e, q3⟩ => ?_) fun _ _ z => z.2
  subst e
  cases r3
  exact wpAny_truthy_bool ⟨Nat.le_trans hk hk3, H3, I3, q3⟩
theorem psk_if {a b : List Stmt} (hc : PTK X e tc) (ha : PSsT X a t) (hb : PSsT X b u) : PSK X (.If e a b pos) (tIfS tc t u) := by
  intro pins s σ H D I h
  refine wpAny_If (thn (hc pins s σ H _ I h) fun d s1 ⟨hk, H1, I1, q1⟩ => ?_)
  cases d with
  | true => exact wpAny_mono (PySem.wpAny_toks (ha pins s1 σ H1 D hk I1 q1)) (fun f s2 q => ⟨Nat.le_trans hk q.1, q.2⟩) fun _ _ z => z.2
  | false => exact wpAny_mono (PySem.wpAny_toks (hb pins s1 σ H1 D hk I1 q1)) (fun f s2 q => ⟨Nat.le_trans hk q.1, q.2⟩) fun _ _ z => z.2
theorem PSK.ps (h : PSK X st t) : PS X st t := ⟨fun pins s σ H D I q => thn (h pins s σ H D I q) fun _ _ z => z.2⟩
theorem pssk_cons (h1 : PSK X st t) (h2 : PSsT X rest u) : PSs X (st :: rest) (tSeq t u) := by
  refine ⟨fun pins s σ H D I h => ?_⟩
  refine wpAny_execs_cons (thn (h1 pins s σ H { D with nx := u D } I h) fun f s1 q => ?_)
  obtain ⟨hk, q⟩ := q
  cases f with
  | next =>
    obtain ⟨σ', H', I', q⟩ := q
    exact h2 pins s1 σ' H' D hk I' q
  | ret v => exact q
  | brk => exact q
  | cont => exact q
theorem pst_set {i : Nat} {x : Str} {pos' : Pos} (hN : X.N.Nodup) (hi : X.N[i]? = some x) (hx : Loc X.env.scope x) (he : PET X e te) (hs : swapsWith e (some (.Name x pos')) pos.line X.env = pure false := by rfl)
    (hf : X.fn x = true ∨ X.env.scope.names.lookup x = some .local := by first | exact .inl rfl | exact .inr rfl | assumption) : PST X (.Assign [.Name x pos'] e pos) (tAsg te (gName i)) := by
  intro pins s σ H D h0 I h
  refine wpAny_Assign_Name (thn (he pins s σ H _ h0 I h) fun v s1 ⟨y, H1, I1, r1, q1⟩ => ?_) hs
  exact store_ok I1 hN hi hx r1 (fun s2 I2 => ⟨_, H1, I2, q1⟩) hf
theorem pet_callS {CX : CXT} {k : Nat} {fa : Addr} {fd : FuncData} {ps : List Str} {sp : Sp} {x : Str} {p : Pos} {es : List Expr} {ta : TA} {E : L2.St → XK}
    (F : FnOk X.prog X.w X.K X.mg X.base CX k fa fd ps sp) (hr : Room k X.A) (hg : Gl X x) (hm : X.mg x = some (.ref fa)) (hk : PySem.W.keepIn X.K (.ref fa) = true) (hb : Binds X.K fd ps []) (hx : ∀ σ, PassesAt CX X σ (E σ))
    (ha : PAT X (e :: es) ta) (hdb : (x == ("__debug__" : Str)) = false := by decide) (he : starEach (e :: es) X.env = (false, eval e X.env) :: starEach es X.env := by rfl) (hpl : (backTo pos (starEach es X.env)).any (·.1) = false := by rfl) :
    PET X (.Call (.Name x p) (e :: es) [] pos) (tCallS sp E ta) := by
  intro pins s σ H Q h0 I h
  refine wpAny_Call_Name_kw (ld_glob I hg hm ?_ hdb)
  refine PySem.W.callWith_K (h₀ := X.base) I.ok.mod.kin hk (thn (ha pos pins s σ H _ h0 I h) fun us s1 ⟨vs, H1, I1, r, q⟩ => ⟨I1.kIn, ?_⟩) he hpl
  exact run_fnS F hr hb (hx σ) I1 r q
end

/-! ### the words -/
section
variable {X : Cx} {g : Gh} {W : WX} {pos : Pos} {a b c e : Expr} {es : List Expr} {ma mb mo : Cm D} {oa ob : Opd} {m m' : Cm Out} {mc : Cm Bool} {sa sb sts : List Stmt} {st : Stmt} {as : List (Cm D)}
theorem o_intK {i : Int} {j : Nat} : PEK X (.Constant (.int i) j pos) (tO g W (.e (mC (.int i)))) := pek_int.imp fun σ H Q ⟨sl, tm, s, h⟩ => h H sl (.sc (.int i)) (s.push _ trivial) rfl rfl
theorem o_strK {z : Str} {l : List Nat} {j : Nat} (h : z = ⟨l.toArray⟩) (hg : (Sc.str l).good) : PEK X (.Constant (.str z) j pos) (tO g W (.e (mC (.str l)))) := by
  subst h
  exact pek_str.imp fun σ H Q ⟨sl, tm, s, h⟩ => h H sl (.sc (.str l)) (s.push _ hg) rfl rfl
theorem t_cmpK {op : CmpOp} {r : R2} {f : D → D → Option Sc} (ho : OpR X (compareOp op) r) (hr : HR2 g f r) (ha : PE X a (tO g W oa)) (hb : PEK X b (tO g W ob)) (hm : behindInMarks op b = false) :
    PTK X (.Compare a [op] [b] pos) (tT g W (mTest (mP2 f oa ob))) := (ptk_cmp ho ha hb hm).imp fun σ H Q q => p2_imp hr σ H _ (test_imp q)
theorem s_ifK (hc : PTK X c (tT g W mc)) (ha : PSsT X sa (tS g W m)) (hb : PSsT X sb (tS g W m')) : PSK X (.If c sa sb pos) (tS g W (mIf mc m m')) := (psk_if hc ha hb).imp fun De σ H ⟨sl, tm, s, h⟩ => by
  refine tT.of s h fun H' sl' k s' h' => ?_
  cases k with
  | true => rw [if_pos rfl]; exact ⟨sl', tm, s', h'⟩
  | false => rw [if_neg Bool.false_ne_true]; exact ⟨sl', tm, s', h'⟩
theorem ss_consK (h1 : PSK X st (tS g W m)) (h2 : PSsT X sts (tS g W m')) : PSs X (st :: sts) (tS g W (mSeq m m')) := (pssk_cons h1 h2).imp seq_imp
theorem sT_nil : PSsT X [] (tS g W mNext) := PSsT.of ss_nil
theorem sT_cons (h1 : PST X st (tS g W m)) (h2 : PSsT X sts (tS g W m')) : PSsT X (st :: sts) (tS g W (mSeq m m')) := (psst_cons h1 h2).imp seq_imp
theorem sT_one (h1 : PST X st (tS g W m)) : PSsT X [st] (tS g W m) := CwR.psst_one h1 |>.imp fun De σ H q => by
  obtain ⟨sl, tm, s, h⟩ := q
  exact ⟨sl, tm, s, h⟩
theorem sT_set {i : Nat} {x : Str} {pos' : Pos} (hp : PST X (.Assign [.Name x pos'] e pos) (tAsg (tE g W ma) (gName i))) (hi : i < g.N) (hio : ∀ p ∈ g.io, p.1 ≠ i) : PST X (.Assign [.Name x pos'] e pos) (tS g W (mSet i ma)) :=
  hp.imp (set_imp hi hio)
theorem sT_ret (h : PET X e (tE g W ma)) : PST X (.Return (some e) pos) (tS g W (mRet ma)) := (CwR.pst_ret h).imp fun De σ H ⟨sl, tm, s, h⟩ => by
  refine tE.of s h fun H' sl' t s' h' => ?_
  exact h' H' σ sl' t s' rfl rfl
/-- text + text, the left one behind a token -/
def addSD : D → D → Option D
  | .sc (.str x), .sc (.str y) => addD (.sc (.str x)) (.sc (.str y))
  | _, _ => none
theorem eT_add (ha : PET X a (tE g W ma)) (hb : PET X b (tE g W mb)) : PET X (.BinOp a .Add b pos) (tE g W (mBin addSD ma mb)) := by
  refine (CwR.pet_op op_add_str ha hb).imp (bin_imp fun H σ sl tm t1 t2 d Q s h k => ?_)
  have k1 : t1.ok g.c H := by have := s.okT; simp only [Ts.ok] at this; exact this.2.1
  have k2 := s.top
  cases t1 with
  | sc x =>
    cases t2 with
    | sc y =>
      cases x <;> cases y <;> simp [T.d, addSD, addD] at h
      rename_i x y
      obtain ⟨h1, rfl⟩ := h
      simp only [T.ok] at k1 k2
      refine ⟨_, _, rfl, rfl, by rw [SZ_eq]; simpa [Str.length] using h1, ?_⟩
      rw [Str.app]
      exact k H (.sc (.str (x ++ y))) (s.pop.pop.push _ (good_append k1 k2 h1)) rfl
    | _ => cases x <;> simp [T.d, addSD] at h
  | _ => simp [T.d, addSD] at h
theorem _root_.L2.PAT.imp {t t' : TA} (h : PAT X es t) (w : ∀ σ H Q, t' σ H Q → t σ H Q) : PAT X es t' := fun pos pins s σ H Q h0 I q => h pos pins s σ H Q h0 I (w σ H Q q)
theorem _root_.L2.PAT.of {t : TA} (h : PA X es t) : PAT X es t := fun pos pins s σ H Q _ I q => h.run pos pins s σ H Q I q
section
variable {as : List Ag} {m : Cm D}
theorem asT_e (ha : PET X e (tE g W m)) (hr : PAT X es (tAs g W as)) (hs : starEach (e :: es) X.env = (false, eval e X.env) :: starEach es X.env := by rfl) : PAT X (e :: es) (tAs g W (.e m :: as)) :=
  (pat_cons ha hr hs).imp fun σ H Q ⟨sl, tm, s, h⟩ => by
    simp only [agRun] at h
    refine tE.of s h fun H1 sl1 t1 s1 h1 => ?_
    refine tAs.go s1 (Lands.drop h1) fun H2 sl2 us vs s2 hv h2 => ?_
    exact h2 H2 sl2 (some t1 :: us) (t1.v :: vs) (by simpa [live] using s2) rfl rfl ⟨rfl, hv⟩
theorem eT_call {f : Addr} {fd : FuncData} {ps : List Str} {x : Str} {p : Pos} {c : Cfg} {M : List D → RF} {k np : Nat} {io : List Nat} (F : FnOk X.prog X.w X.K X.mg X.base (L2.CX X.prog X.w) k f fd ps (spM c np io M)) (hr : Room k X.A) (hg : Gl X x) (hm : X.mg x = some (.ref f)) (hk : PySem.W.keepIn X.K (.ref f) = true) (hb : Binds X.K fd ps []) (tk : Takes X W)
    (ha : PAT X (e :: es) (tAs g W as)) (hc : g.c = c) (hio : agIo 0 as = io) (hl : as.length = np) (hnd : (agSlots as).Nodup) (hdb : (x == ("__debug__" : Str)) = false := by decide) (he : starEach (e :: es) X.env = (false, eval e X.env) :: starEach es X.env := by rfl) (hpl : (backTo pos (starEach es X.env)).any (·.1) = false := by rfl) :
    PET X (.Call (.Name x p) (e :: es) [] pos) (tE g W (mCall M as)) := (pet_callS (E := WE W) F hr hg hm hk hb (fun σ => passAt tk σ) ha hdb he hpl).imp (call_imp hc hio hl hnd)
end

/-! ### replace by a text that is put together of two -/
/-- its own token: none that was out ahead -/
def PEF (X : Cx) (e : Expr) (t : TE) : Prop :=
  ∀ (n : Nat) (pins : List (Addr × Obj)) (s : Shared) (σ : L2.St) (H : Hp) (Q : VK), n ≤ s.toks → Inv X pins σ H s → t σ H Q →
    wpAny (model X.prog X.w) X.A (eval e X.env) (fun v s' => ∃ z tk H', v = .str z tk ∧ n ≤ tk ∧ Inv X pins σ H' s' ∧ Q (.str z) H') X.xe s
def tAddF (ta tb : TE) : TE := fun σ H Q => ta σ H fun x H1 => tb σ H1 fun y H2 => ∃ l r, x = .str l ∧ y = .str r ∧ l.length ≠ 0 ∧ r.length ≠ 0 ∧ l.length + r.length ≤ sizeLine ∧ Q (.str (l ++ r)) H2
def tReplF (to : TE) (y : Str) (tz : TE) : TE := fun σ H Q => to σ H fun v H1 => ∃ x, v = .str x ∧ tz σ H1 fun w H2 => ∃ z, w = .str z ∧ (y == z) = false ∧ x.length + (x.length + 1) * z.length ≤ 16777216 ∧ Q (.str (Txt.replace x y z)) H2
theorem pef_add {ta tb : TE} (ha : PE X a ta) (hb : PE X b tb) : PEF X (.BinOp a .Add b pos) (tAddF ta tb) := by
  intro n pins s σ H Q h0 I h
  refine wpAny_BinOp (wpAny_mono (PySem.wpAny_toks (ha.run pins s σ H _ I h)) (fun v s1 q => ?_) fun _ _ z => z.2)
  obtain ⟨hk, x, H1, I1, r1, q1⟩ := q
  refine wpAny_mono (PySem.wpAny_toks (hb.run pins s1 σ H1 _ I1 q1)) (fun u s2 q2 => ?_) fun _ _ z => z.2
  obtain ⟨hk2, y, H2, I2, r2, l, r, e1, e2, hl, hr, hs, q2⟩ := q2
  subst e1 e2
  obtain ⟨t1, rfl⟩ := r1
  obtain ⟨t2, rfl⟩ := r2
  refine PySem.P.add_str ?_
  rw [if_neg (by simpa using hl), if_neg (by simpa using hr)]
  exact ⟨by rw [show (l ++ r).length = l.length + r.length from by show (l.cps ++ r.cps).size = _; simp [Str.length]]; exact hs, _, _, H2, rfl, by omega, I2.tok _, q2⟩
theorem pet_replF {y : Str} {j : Nat} {c0 apos : Pos} {to tz : TE} (ho : PE X a to) (hz : PEF X b tz)
    (hst : starEach [.Constant (.str y) j c0, b] X.env = [(false, eval (.Constant (.str y) j c0) X.env), (false, eval b X.env)] := by rfl)
    (hbase : attributeBase a "replace" X.env (eval a X.env) = eval a X.env := by rfl) (hline : (apos.endLine == pos.line) = true := by rfl) :
    PET X (.Call (.Attribute a "replace" apos) [.Constant (.str y) j c0, b] [] pos) (tReplF to y tz) := by
  intro pins s σ H Q h0 I h
  refine PySem.Call_method2 hbase hst hline (wpAny_mono (PySem.wpAny_toks (ho.run pins s σ H _ I h)) (fun v s1 q => ?_) fun _ _ z => z.2)
  obtain ⟨hk, v', H1, I1, r1, x, e1, q⟩ := q
  subst e1
  obtain ⟨tx, rfl⟩ := r1
  refine ⟨"str", _, PySem.F.plainAttrs_str, PySem.F.slot_str_replace, PySem.F.type_str_replace, typeIs_str _ _ _, (fun _ e => nomatch e), Calls.callWith_builtin rfl (Calls.evalArgs_plain (Calls.spliced_cons ?_))⟩
  refine Calls.Constant_str (Calls.spliced_cons (thn (hz (s1.toks + 1) pins _ σ H1 _ (Nat.le_refl _) (I1.tok _) q) fun u s2 ⟨z, tk, H2, e, hk2, I2, z', e', hyz, hb, q2⟩ => ?_))
  subst e
  cases e'
  refine Calls.spliced_nil ?_
  have hk3 : s1.toks + 1 ≤ tk := hk2
  have hk0 : s.toks ≤ s1.toks := hk
  exact PySem.SC.replace (show s1.toks ≠ 0 by omega) (Nat.ne_of_gt (Nat.lt_of_lt_of_le (Nat.succ_pos _) hk3)) (Nat.ne_of_lt hk3) hyz hb fun t' k => ⟨.str (Txt.replace x y z), H2, I2.tok k, ⟨t', rfl⟩, q2⟩
def mReplF (y : List Nat) (mo ma mb : Cm D) : Cm D := fun ρ => (mo ρ).bind fun d ρ => match d with
  | .sc (.str x) => (ma ρ).bind fun l ρ => match l with
    | .sc (.str l) => (mb ρ).bind fun r ρ => match r with
      | .sc (.str r) => if (1 ≤ l.length ∧ 1 ≤ r.length ∧ l.length + r.length ≤ 16777216 ∧ y ≠ l ++ r) ∧ x.length + (x.length + 1) * (l ++ r).length ≤ 16777216 ∧ (StrLaws.replL y (l ++ r) x).all (fun c => decide (c < 1114112)) = true then .ok (.str (StrLaws.replL y (l ++ r) x)) ρ else .stuck
      | _ => .stuck
    | _ => .stuck
  | _ => .stuck
theorem replF_imp {y : List Nat} (hy : 1 ≤ y.length) : ∀ σ H Q, tE g W (mReplF y mo ma mb) σ H Q → tReplF (tE g W mo) ⟨y.toArray⟩ (tAddF (tE g W ma) (tE g W mb)) σ H Q := fun σ H Q ⟨sl, tm, s, h⟩ => by
  refine tE.of s h fun H1 sl1 t1 s1 h1 => ?_
  cases t1 with
  | sc x =>
    cases x with
    | str x =>
      simp only [T.d] at h1
      refine ⟨⟨x.toArray⟩, rfl, ?_⟩
      refine tE.of s1.pop h1 fun H2 sl2 t2 s2 h2 => ?_
      cases t2 with
      | sc l =>
        cases l with
        | str l =>
          simp only [T.d] at h2
          refine tE.of s2.pop h2 fun H3 sl3 t3 s3 h3 => ?_
          cases t3 with
          | sc r =>
            cases r with
            | str r =>
              simp only [T.d] at h3
              split at h3
              · rename_i hc
                obtain ⟨⟨c1, c2, c3, c4⟩, c5, c6⟩ := hc
                refine ⟨⟨l.toArray⟩, ⟨r.toArray⟩, rfl, rfl, by simp [Str.length]; intro q; simp [q] at c1, by simp [Str.length]; intro q; simp [q] at c2, by rw [SZ_eq]; simpa [Str.length] using c3, ?_⟩
                rw [Str.app]
                refine ⟨⟨(l ++ r).toArray⟩, rfl, ?_, by simpa [Str.length] using c5, ?_⟩
                · refine Bool.eq_false_iff.2 fun q => c4 ?_
                  have q := eq_of_beq q
                  simpa using congrArg (fun s : Str => s.cps.toList) q
                · have e : Txt.replace ⟨x.toArray⟩ ⟨y.toArray⟩ ⟨(l ++ r).toArray⟩ = ⟨(StrLaws.replL y (l ++ r) x).toArray⟩ := str_eq (by rw [StrLaws.replace_list (by simpa [Str.length] using hy)])
                  have gl : (StrLaws.replL y (l ++ r) x).length ≤ 16777216 := by
                    have := TK.replace_len ⟨x.toArray⟩ ⟨y.toArray⟩ ⟨(l ++ r).toArray⟩
                    rw [e] at this
                    simp [Str.length] at this c5
                    omega
                  rw [e]
                  exact h3 H3 sl3 (.sc (.str _)) (s3.pop.push _ ⟨gl, fun c hc => by simpa using List.all_eq_true.1 c6 c hc⟩) rfl rfl
              · exact h3.elim
            | _ => exact h3.elim
          | _ => exact h3.elim
        | _ => exact h2.elim
      | _ => exact h2.elim
    | _ => exact h1.elim
  | _ => exact h1.elim
theorem eT_replF {y : List Nat} {ys : Str} {j : Nat} {c0 apos apos' : Pos} (h1 : ys = ⟨y.toArray⟩) (hy : 1 ≤ y.length) (ho : PE X e (tE g W mo)) (ha : PE X a (tE g W ma)) (hb : PE X b (tE g W mb))
    (hst : starEach [.Constant (.str ys) j c0, .BinOp a .Add b apos'] X.env = [(false, eval (.Constant (.str ys) j c0) X.env), (false, eval (.BinOp a .Add b apos') X.env)] := by rfl)
    (hbase : attributeBase e "replace" X.env (eval e X.env) = eval e X.env := by rfl) (hline : (apos.endLine == pos.line) = true := by rfl) :
    PET X (.Call (.Attribute e "replace" apos) [.Constant (.str ys) j c0, .BinOp a .Add b apos'] [] pos) (tE g W (mReplF y mo ma mb)) := by
  subst h1
  exact (pet_replF ho (pef_add ha hb) hst hbase hline).imp (replF_imp hy)
end

/-! ### lstrip of signs -/
def lstripM : D → D → Option Sc
  | .sc (.str a), .sc (.str b) => some (.str (ldrop b.contains a))
  | _, _ => none
@[simp] theorem lstripM_ (a b : List Nat) : lstripM (.str a) (.str b) = some (.str (ldrop b.contains a)) := rfl
theorem lstrip_eq (a b : List Nat) : Txt.lstripChars ⟨a.toArray⟩ ⟨b.toArray⟩ = ⟨(ldrop b.contains a).toArray⟩ := by
  have e1 : stripLo b.contains true ⟨a.toArray⟩ = (a.takeWhile b.contains).length := by simp [stripLo]
  have e2 : stripHi b.contains false ⟨a.toArray⟩ (a.takeWhile b.contains).length = a.length := by simp [stripHi, Str.length]
  have hs : Builtin.Str.strSub ⟨a.toArray⟩ (a.takeWhile b.contains).length a.length = ⟨(ldrop b.contains a).toArray⟩ := by
    refine str_eq ?_
    unfold Builtin.Str.strSub ldrop
    simp only [Array.toList_extract]
    rw [List.extract_eq_take_drop, ← drop_tw]
    refine List.take_of_length_le ?_
    simp
  unfold Txt.lstripChars Txt.stripBy
  rw [contains_arr]
  unfold stripSame stripped
  rw [e1, e2, hs]
  split
  · rename_i h
    rw [Bool.and_eq_true] at h
    have h1 : (a.takeWhile b.contains).length = 0 := by simpa using h.1
    rw [← hs, h1]
    refine (str_eq ?_).symm
    simp [Builtin.Str.strSub]
  · rfl
theorem hs_lstrip {g : Gh} : HM1 g lstripM (fun x xs H Q => ∃ a b, x = .str a ∧ xs = [.str b] ∧ a.length ≤ sizeLine ∧ Q (.str (Txt.lstripChars a b)) H) := fun H u1 u2 c Q k1 k2 h q => by
  cases u1 with
  | sc x =>
    cases u2 with
    | sc y =>
      cases x <;> cases y <;> simp [T.d, lstripM] at h
      rename_i a b
      subst h
      simp only [T.ok] at k1
      refine ⟨_, _, rfl, rfl, ?_, ?_⟩
      · rw [sizeLine_eq]; simpa [Str.length] using k1.1
      · rw [lstrip_eq]
        exact q ⟨Nat.le_trans (List.dropWhile_sublist _).length_le k1.1, fun c hc => k1.2 c ((List.dropWhile_sublist _).subset hc)⟩
    | _ => cases x <;> simp [T.d, lstripM] at h
  | _ => simp [T.d, lstripM] at h

/-! ### text > text, text < text -/
def gtS : D → D → Option Sc
  | .sc (.str x), .sc (.str y) => some (.bl (decide (y < x)))
  | _, _ => none
def ltS : D → D → Option Sc
  | .sc (.str x), .sc (.str y) => some (.bl (decide (x < y)))
  | _, _ => none
@[simp] theorem gtS_ (x y : List Nat) : gtS (.str x) (.str y) = some (.bl (decide (y < x))) := rfl
@[simp] theorem ltS_ (x y : List Nat) : ltS (.str x) (.str y) = some (.bl (decide (x < y))) := rfl
theorem hr_gtS {g : Gh} : HR2 g gtS (fun x y H Q => ∃ i j, x = .str i ∧ y = .str j ∧ Q (.bl (decide (j.cps.toList < i.cps.toList))) H) := fun H u1 u2 c Q k1 k2 h q => by
  cases u1 with
  | sc x =>
    cases u2 with
    | sc y =>
      cases x <;> cases y <;> simp [T.d, gtS] at h
      subst h
      exact ⟨_, _, rfl, rfl, q trivial⟩
    | _ => cases x <;> simp [T.d, gtS] at h
  | _ => simp [T.d, gtS] at h
theorem hr_ltS {g : Gh} : HR2 g ltS (fun x y H Q => ∃ i j, x = .str i ∧ y = .str j ∧ Q (.bl (decide (i.cps.toList < j.cps.toList))) H) := fun H u1 u2 c Q k1 k2 h q => by
  cases u1 with
  | sc x =>
    cases u2 with
    | sc y =>
      cases x <;> cases y <;> simp [T.d, ltS] at h
      subst h
      exact ⟨_, _, rfl, rfl, q trivial⟩
    | _ => cases x <;> simp [T.d, ltS] at h
  | _ => simp [T.d, ltS] at h
end VS

/-! VS, part L: a text, or another; one of two defs called, picked by its place. -/
namespace VS
open PySem PySem.Spec PyProof.Rows L2
section
variable {X : Cx} {g : Gh} {W : WX} {pos : Pos} {a b e ie : Expr} {es rest : List Expr} {ma mb mi : Cm D} {as : List Ag}
/-- a text (or nothing), or another value -/
def mOrN (ma mb : Cm D) : Cm D := fun ρ => (ma ρ).bind fun d ρ => match d with
  | .sc (.str l) => if l.isEmpty then mb ρ else .ok (.str l) ρ
  | .sc .non => mb ρ
  | _ => .stuck
@[simp] theorem mOrN_ {ρ : DE} : mOrN ma mb ρ = (ma ρ).bind fun d ρ => match d with
  | .sc (.str l) => if l.isEmpty then mb ρ else .ok (.str l) ρ
  | .sc .non => mb ρ
  | _ => .stuck := rfl
theorem orN_imp : ∀ σ H Q, tE g W (mOrN ma mb) σ H Q → tOrT X.K (tE g W ma) (tE g W mb) σ H Q := fun σ H Q ⟨sl, tm, s, h⟩ => by
  refine tE.of s h fun H' sl' t s' h' => ?_
  cases t with
  | sc x =>
    cases x with
    | str l =>
      simp only [T.d] at h'
      have gl := s'.top
      simp only [T.ok] at gl
      cases k : l.isEmpty with
      | true =>
        rw [k, if_pos rfl] at h'
        refine ⟨false, ⟨?_, ?_⟩, sl', tm, s'.pop, h'⟩
        · rw [sizeLine_eq]; simpa [Str.length] using gl.1
        · cases l with
          | nil => rfl
          | cons _ _ => cases k
      | false =>
        rw [k, if_neg Bool.false_ne_true] at h'
        refine ⟨true, ⟨?_, ?_⟩, h' H' sl' (.sc (.str l)) s' rfl rfl⟩
        · rw [sizeLine_eq]; simpa [Str.length] using gl.1
        · cases l with
          | nil => cases k
          | cons x l =>
            have : ((x :: l).length : Int) ≠ 0 := by simp; omega
            simpa [Str.length] using this
    | non => exact ⟨false, rfl, sl', tm, s'.pop, h'⟩
    | _ => exact h'.elim
  | _ => exact h'.elim
theorem e_orN (ha : PE X a (tE g W ma)) (hb : PE X (.BoolOp .Or (b :: rest) pos) (tE g W mb)) : PE X (.BoolOp .Or (a :: b :: rest) pos) (tE g W (mOrN ma mb)) := (pe_orT ha hb).imp orN_imp
theorem pet_orT {ta tb : TE} (ha : PET X a ta) (hb : PE X (.BoolOp .Or (b :: rest) pos) tb) : PET X (.BoolOp .Or (a :: b :: rest) pos) (tOrT X.K ta tb) := by
  intro pins s σ H Q h0 I h
  refine BoolOp_or (thn (ha pins s σ H _ h0 I h) fun v s1 ⟨x, H1, I1, r1, q1⟩ => ?_)
  obtain ⟨k, e, q1⟩ := q1
  refine thn (tru_ok pins s1 σ H1 x v (fun c H2 => c = k ∧ H2 = H1) I1 r1 ⟨k, e, rfl, rfl⟩) fun c s2 hc => ?_
  obtain ⟨H2, I2, e1, e2⟩ := hc
  rw [e2] at I2
  rw [← e1] at q1
  cases c with
  | true => exact ⟨x, H1, I2, r1, q1⟩
  | false => exact hb.run pins s2 σ H1 Q I2 q1
theorem eT_orN (ha : PET X a (tE g W ma)) (hb : PE X (.BoolOp .Or (b :: rest) pos) (tE g W mb)) : PET X (.BoolOp .Or (a :: b :: rest) pos) (tE g W (mOrN ma mb)) := (pet_orT ha hb).imp orN_imp

/-! ### [f, g][i](..) -/
def mCallIx (MF MG : List D → RF) (mi : Cm D) (as : List Ag) : Cm D := fun ρ => (mi ρ).bind fun d ρ => match d with
  | .sc (.int i) => if i = 0 then mCall MF as ρ else if i = 1 then mCall MG as ρ else .stuck
  | _ => .stuck
@[simp] theorem mCallIx_ {MF MG : List D → RF} {ρ : DE} : mCallIx MF MG mi as ρ = (mi ρ).bind fun d ρ => match d with
  | .sc (.int i) => if i = 0 then mCall MF as ρ else if i = 1 then mCall MG as ρ else .stuck
  | _ => .stuck := rfl
/-- a def's own name, as a value -/
def tFn (f : Addr) : TE := fun _ H Q => Q (.ref f) H
theorem pe_fn {f : Addr} {x : Str} {p : Pos} (hg : Gl X x) (hm : X.mg x = some (.ref f)) (hdb : (x == ("__debug__" : Str)) = false := by decide) : PE X (.Name x p) (tFn f) :=
  ⟨fun _ _ _ H _ I h => ld_glob I hg hm ⟨.ref f, H, I, rfl, h⟩ hdb⟩
/-- it stands for what no data tells -/
def phF (a : Addr) : T := .exn a none "?" [] []
theorem e_callIx {fa ga : Addr} {fd gd : FuncData} {ps qs : List Str} {x y : Str} {p1 p2 lp sp : Pos} {c : Cfg} {MF MG : List D → RF} {k k2 np : Nat} {io : List Nat}
    (F : FnOk X.prog X.w X.K X.mg X.base (L2.CX X.prog X.w) k fa fd ps (spM c np io MF)) (G : FnOk X.prog X.w X.K X.mg X.base (L2.CX X.prog X.w) k2 ga gd qs (spM c np io MG)) (hr : Room k X.A) (hr2 : Room k2 X.A)
    (hgf : Gl X x) (hmf : X.mg x = some (.ref fa)) (hkf : PySem.W.keepIn X.K (.ref fa) = true) (hbf : Binds X.K fd ps []) (hgg : Gl X y) (hmg : X.mg y = some (.ref ga)) (hkg : PySem.W.keepIn X.K (.ref ga) = true) (hbg : Binds X.K gd qs []) (tk : Takes X W)
    (hK : X.K = g.c.K) (hi : PE X ie (tE g W mi)) (ha : PA X (e :: es) (tAs g W as)) (hc : g.c = c) (hio : agIo 0 as = io) (hl : as.length = np) (hnd : (agSlots as).Nodup)
    (hix : PlainIx ie := by exact fun _ _ => rfl) (hdx : (x == ("__debug__" : Str)) = false := by decide) (hdy : (y == ("__debug__" : Str)) = false := by decide)
    (ht : eval (.Call (.Subscript (.List [.Name x p1, .Name y p2] lp) ie sp) (e :: es) [] pos) X.env = (do callWith pos (← eval (.Subscript (.List [.Name x p1, .Name y p2] lp) ie sp) X.env) [] (backTo pos (starEach (e :: es) X.env)) (backToKw pos (keywordEach [] X.env))) := by rfl)
    (hs : starEach [.Name x p1, .Name y p2] X.env = (false, eval (.Name x p1) X.env) :: starEach [.Name y p2] X.env := by rfl) (hs2 : starEach [.Name y p2] X.env = (false, eval (.Name y p2) X.env) :: starEach [] X.env := by rfl)
    (he : starEach (e :: es) X.env = (false, eval e X.env) :: starEach es X.env := by rfl) (hpl : (backTo pos (starEach es X.env)).any (·.1) = false := by rfl) :
    PE X (.Call (.Subscript (.List [.Name x p1, .Name y p2] lp) ie sp) (e :: es) [] pos) (tE g W (mCallIx MF MG mi as)) := by
  have cal := pe_ix (pos := sp) ix_list (pe_lst (pos := lp) (pa_cons (pe_fn (p := p1) hgf hmf hdx) (pa_cons (pe_fn (p := p2) hgg hmg hdy) pa_nil hs2) hs)) hi hix
  refine ⟨fun pins s σ H Q I h => ?_⟩
  obtain ⟨sl, tm, s0, h⟩ := h
  refine Call_ (thn (cal.run pins s σ H (fun v H1 => (v = .ref fa ∧ tE g W (mCall MF as) σ H1 Q) ∨ (v = .ref ga ∧ tE g W (mCall MG as) σ H1 Q)) I ?_) fun u s1 ⟨v, H1, I1, rv, q⟩ => ?_) ht
  · refine ⟨show 2 ≤ sizeLine by decide, fun p hp => ?_⟩
    have s1 : SR g (upd H p (.lst ([phF fa, phF ga].map T.v))) σ sl (.lst p .own [phF fa, phF ga] :: tm) := SR.newL (xs := []) s0 hp (by simp) (by simp [Ts.ok, phF, T.ok]) fun a => by simp [Ts.oc, Ts.sh, phF, T.oc, T.sh, b2]
    refine ⟨sl, .lst p .own [phF fa, phF ga] :: tm, s1, ?_⟩
    unfold mCallIx at h
    cases hm : mi (den sl) with
    | stuck => rw [hm] at h; exact h.elim
    | exc x ρ => rw [hm] at h; exact exP.drop h
    | ok d ρ =>
      rw [hm] at h
      intro H2 sl2 t2 s2 e1 e2
      subst e1 e2
      have k1 : (T.lst p .own [phF fa, phF ga]).ok g.c H2 := by have := s2.okT; simp only [Ts.ok] at this; exact this.2.1
      have sq := lst_sq k1
      cases t2 with
      | sc z =>
        cases z with
        | int i =>
          simp only [T.d, R.bind_ok] at h
          by_cases q0 : i = 0
          · subst q0
            rw [if_pos rfl] at h
            exact ⟨p, _, 0, .ref fa, rfl, rfl, by rw [hK]; exact sq.1, rfl, .inl ⟨rfl, sl2, tm, s2.pop.pop, h⟩⟩
          · rw [if_neg q0] at h
            by_cases q1 : i = 1
            · subst q1
              rw [if_pos rfl] at h
              exact ⟨p, _, 1, .ref ga, rfl, rfl, by rw [hK]; exact sq.1, rfl, .inr ⟨rfl, sl2, tm, s2.pop.pop, h⟩⟩
            · rw [if_neg q1] at h
              exact h.elim
        | _ => exact h.elim
      | _ => exact h.elim
  · rcases q with ⟨rfl, q⟩ | ⟨rfl, q⟩
    · cases rv
      refine PySem.W.callWith_K (h₀ := X.base) I1.ok.mod.kin hkf (thn (ha.run pos pins s1 σ H1 _ I1 (call_imp hc hio hl hnd σ H1 Q q)) fun us s2 ⟨vs, H2, I2, r, q2⟩ => ⟨I2.kIn, ?_⟩) he hpl
      exact run_fnS F hr hbf (passAt tk σ) I2 r q2
    · cases rv
      refine PySem.W.callWith_K (h₀ := X.base) I1.ok.mod.kin hkg (thn (ha.run pos pins s1 σ H1 _ I1 (call_imp hc hio hl hnd σ H1 Q q)) fun us s2 ⟨vs, H2, I2, r, q2⟩ => ⟨I2.kIn, ?_⟩) he hpl
      exact run_fnS G hr2 hbg (passAt tk σ) I2 r q2
end
end VS

/-! VS, part M: len(set(texts)), enumerate(range(a, b, c)). -/
namespace VS
open PySem PySem.Spec PyProof.Rows L2

/-! ### how many unlike things a list has -/
def dnA {α : Type} [DecidableEq α] : List α → List α → Nat
  | _, [] => 0
  | ys, x :: r => (if x ∈ ys then 0 else 1) + dnA (x :: ys) r
theorem dnA_le {α : Type} [DecidableEq α] : ∀ (l ys : List α), dnA ys l ≤ l.length
  | [], _ => Nat.le_refl _
  | x :: r, ys => by
    have := dnA_le r (x :: ys)
    simp only [dnA, List.length_cons]
    split <;> omega
theorem dnA_map {α β : Type} [DecidableEq α] [DecidableEq β] (f : α → β) (hf : ∀ a b, f a = f b → a = b) : ∀ (l ys : List α), dnA (ys.map f) (l.map f) = dnA ys l
  | [], _ => rfl
  | x :: r, ys => by
    have m : f x ∈ ys.map f ↔ x ∈ ys := ⟨fun h => by
      obtain ⟨y, hy, e⟩ := List.mem_map.1 h
      rw [← hf _ _ e]; exact hy, List.mem_map_of_mem⟩
    have ih := dnA_map f hf r (x :: ys)
    rw [List.map_cons] at ih
    simp only [dnA, List.map_cons, ih, m]
theorem dnA_all {α : Type} [DecidableEq α] : ∀ (l ys : List α), l.Nodup → (∀ x ∈ l, x ∉ ys) → dnA ys l = l.length
  | [], _, _, _ => rfl
  | x :: r, ys, h, q => by
    rw [List.nodup_cons] at h
    have ih := dnA_all r (x :: ys) h.2 fun y hy hz => by
      rcases List.mem_cons.1 hz with rfl | hz
      · exact h.1 hy
      · exact q y (by simp [hy]) hz
    rw [dnA, if_neg (q x (by simp)), ih, List.length_cons]
    omega

section
variable {prog : Program} {w : World} {A : Around} {R : Result → Shared → Prop} {I : Addr} {fp wr : List Addr} {G : Array GenState → Array GenState → Prop} {n : Nat} {P : Nat → Value → Prop} {St : Nat → Shared → Prop}
abbrev TxS (prog : Program) (w : World) (S : Addr) (l : List Str) (c : Nat) (h : Heap) : Prop := h.SetOf (PySem.strKind prog w) S (fun z => decide (z ∈ l)) c
theorem TxS.over {S : Addr} {l : List Str} {c : Nat} {h h2 : Heap} (x : TxS prog w S l c h) (k : ∀ o, h.get? S = some o → h2.get? S = some o) : TxS prog w S l c h2 := by
  obtain ⟨o, es, ep, tb, ho, r⟩ := x
  exact ⟨o, es, ep, tb, k o ho, r⟩
/-- the set at S takes what the iterator tells -/
theorem set_takes (wk : WalksS prog w A.in1 I fp wr G n P St) (S : Addr) (hS : S ∉ fp) (xs : List Str) (hx : xs.length = n) (hn : n ≤ 3000)
    (hv : ∀ i v, P i v → ∃ t, v = .str (xs.getD i Str.empty) t) :
    ∀ (rest done : List Str) (i c : Nat) (s : Shared), xs.drop i = rest → i ≤ n → n - i = rest.length → c + rest.length ≤ 3000 → St i s → TxS prog w S done c s.heap →
      (∀ s' l, Moved (S :: wr) G s s' → TxS prog w S l (c + dnA done rest) s'.heap → R (.ok (.ret .none)) s') →
      codeAny (model prog w) A (.builtin "set.update.loop" ⟨[.ref S, .ref I], []⟩) R s := by
  have nw : S ∉ wr := fun z => hS (wk.sub _ z)
  have sb : ∀ b ∈ wr, b ∈ S :: wr := fun b hb => List.mem_cons_of_mem _ hb
  intro rest
  induction rest with
  | nil =>
    intro done i c s er hi hl hc st x fin
    have : i = n := by simp only [List.length_nil] at hl; omega
    subst this
    refine codeAny_builtin PyProof.Rows.F.entry_set_update_loop ?_
    rw [Around.under_plainId PyProof.Rows.F.plain_set_update_loop _]
    show wpAny _ A.in1 (pyNext (.ref I) >>= _) _ _ s
    refine wpAny_bind (wk.done s _ _ st fun s2 mv => ?_)
    show wpAny _ A.in1 (ret Value.none) _ _ s2
    exact wpAny_pure (fin s2 done (mv.mono sb) (x.over fun o ho => mv.heap S o nw ho))
  | cons y rest ih =>
    intro done i c s er hi hl hc st x fin
    simp only [List.length_cons] at hl hc
    have lt : i < n := by omega
    have ey : xs.getD i Str.empty = y := by
      have z : xs[i]? = some y := by
        have := congrArg (fun l => l[0]?) er
        simpa using this
      rw [List.getD_eq_getElem?_getD, z]; rfl
    have er2 : xs.drop (i + 1) = rest := by
      have := congrArg (List.drop 1) er
      simpa using this
    refine codeAny_builtin PyProof.Rows.F.entry_set_update_loop ?_
    rw [Around.under_plainId PyProof.Rows.F.plain_set_update_loop _]
    show wpAny _ A.in1 (pyNext (.ref I) >>= _) _ _ s
    refine wpAny_bind (wk.item i s _ _ lt st fun v s2 pv st2 mv => ?_)
    obtain ⟨t, rfl⟩ := hv i v pv
    rw [ey]
    have x2 : TxS prog w S done c s2.heap := x.over fun o ho => mv.heap S o nw ho
    show wpAny _ A.in1 (holding [Value.str y t] (setAdd S (.str y t)) >>= _) _ _ s2
    refine wpAny_bind (wpAny_holding ?_)
    unfold setAdd
    refine wpAny_holding (wpAny_bind ((PySem.strKind prog w).pyHash (k := y) (strKind_is _ _ _ _) ?_))
    refine wpAny_setAddHashed_of (knd := PySem.strKind prog w) (s := { s2 with toks := s2.toks + 1 }) (strKind_is _ _ _ _) rfl x2 (by unfold scanBound; omega) fun h3 bt x3 => ?_
    have x4 : TxS prog w S (y :: done) (c + if y ∈ done then 0 else 1) h3 := SetOf_congr x3 (fun z => by by_cases e : z = y <;> by_cases e2 : z ∈ done <;> simp [e, e2]) (by by_cases e : y ∈ done <;> simp [e])
    refine wpAny_pure ⟨plainId_quiet PyProof.Rows.F.plain_set_update_loop _, ih (y :: done) (i + 1) (c + if y ∈ done then 0 else 1) _ er2 lt (by omega) (by split <;> omega) (wk.frame _ s2 _ _ st2 (Nat.le_succ _) fun b hb o e => ?_) x4 fun s4 l m4 x5 => ?_⟩
    · rw [bt.2 b fun z => hS (z ▸ hb)]; exact e
    · refine fin s4 l (Moved.trans wk.gtrans ((mv.mono sb).then_heap (Nat.le_succ _) fun b o hb e => ?_) m4) (by rw [dnA, ← Nat.add_assoc]; exact x5)
      rw [bt.2 b fun z => hb (z ▸ List.mem_cons_self)]; exact e
end
section
variable {prog : Program} {w : World} {A : Around} {E : Value → Shared → Prop} {s : Shared}
/-- the empty set just made, and the list's iterator behind it -/
abbrev sE (led : Bool) : Obj := { cls := .type "set", dict := none, data := .set #[] 0 (.fresh 0 0 led) }
set_option maxHeartbeats 3200000 in
theorem call_set_texts {l : Addr} {items : Array Value} {xs : List Str} {Q : Value → Shared → Prop} (hh : A.handled = none) (hl : s.heap.IsList l items) (hi : PyProof.Rows.StrsAre items.toList xs) (hn : xs.length ≤ 3000)
    (h : ∀ (h2 : Heap) (tk : Nat) (m : List Str), TxS prog w s.heap.objs.size m (dnA [] xs) h2 → (∀ b o, b < s.heap.objs.size → s.heap.get? b = some o → h2.get? b = some o) → Q (.ref s.heap.objs.size) { s with heap := h2, toks := tk }) :
    wpAny (model prog w) A (call (.type "set") [.ref l]) Q E s := by
  have made := PySem.F.called_set.made
  have sub := PySem.F.called_set.sub
  have nty := PySem.F.called_set.notType
  have can := PySem.F.called_set.canCreate
  have tyc := PySem.F.typeCall_set_1 (.ref l)
  obtain ⟨mc, mt, mro⟩ := PySem.F.called_set.mro
  refine wpAny_call (codeAny_of_tree ?_)
  show wpAny _ _ (callAny (.type "set") _) _ _ _
  refine wpAny_pure ⟨Code.quiet_builtin _ (by decide +kernel), codeAny_builtin PySem.F.entry_type_call ?_⟩
  rw [Around.under_plain (weight_type_call_type "set" [.ref l] []) rfl]
  repeat (any_goals (first | assumption | wp_step))
  refine codeAny_mono (code_set_new_1 (.ref l) (E := E) (Q₁ := fun ob s2 => ∃ led, ob = .ref s.heap.objs.size ∧ s2 = { s with heap := s.heap.push (sE led) }) fun led => ⟨led, rfl, rfl⟩) fun r s2 hr => ?_
  match r, hr with
  | .error e, hr => exact hr
  | .ok .next, hr => exact hr.elim
  | .ok .brk, hr => exact hr.elim
  | .ok .cont, hr => exact hr.elim
  | .ok (.ret ob), hr =>
    obtain ⟨led, rfl, rfl⟩ := hr
    have gS : (s.heap.push (sE led)).get? s.heap.objs.size = some (sE led) := Heap.get?_push_size _ rfl
    have tS : Shared.TypeIs { s with heap := s.heap.push (sE led) } (.ref s.heap.objs.size) "set" := ⟨_, gS, rfl⟩
    have il := PySem.F.called_set.init.lookup
    have ib := PySem.F.called_set.init.bind (.ref s.heap.objs.size)
    repeat (any_goals (first | assumption | wp_step))
    refine codeAny_mono (codeAny_call_builtin (R := wants (fun r s3 => r = .none ∧ ∃ h2 tk m, s3 = { s with heap := h2, toks := tk } ∧ TxS prog w s.heap.objs.size m (dnA [] xs) h2 ∧ ∀ b o, b < s.heap.objs.size → s.heap.get? b = some o → h2.get? b = some o) E)
      PySem.F.called_set.init.plain PySem.F.entry_set_init (check_set_init_1 tS ?_)) fun r2 s3 hr2 => ?_
    · obtain ⟨⟨oc, od, oa, os⟩, ho, e1, nl, e2⟩ := hl
      simp only at e1 e2
      subst e1 e2
      have lS : l < s.heap.objs.size := Heap.lt_size ho
      have ho2 : (s.heap.push (sE led)).get? l = some { cls := .type "list", dict := od, data := .seq items nl, slots := os } := Heap.get?_push_of_some _ ho
      have n1 := PySem.F.sub_list_set
      have n2 := PySem.F.sub_list_frozenset
      have n3 : (Value.type "list" == Value.type "dict") = false := by decide
      have il2 : (s.heap.push (sE led)).IsList l items := ⟨_, ho2, rfl, nl, rfl⟩
      unfold Builtin.«set.__init__» noKeywords Builtin.Frozenset.updateFrom
      generalize hp : pyIter = pI
      wp_walk
      subst hp
      refine wpAny_pyIter_list il2 (wpAny_bind (wpAny_runValue ?_))
      have ne : l ≠ (s.heap.push (sE led)).objs.size := by rw [Heap.size_push]; exact Nat.ne_of_lt (Nat.lt_succ_of_lt lS)
      have nf : s.heap.objs.size ∉ [(s.heap.push (sE led)).objs.size, l] := by
        rw [Heap.size_push]
        simp only [List.mem_cons, List.not_mem_nil, or_false, not_or]
        exact ⟨Nat.ne_of_lt (Nat.lt_succ_self _), Nat.ne_of_gt lS⟩
      have sz : xs.length = items.size := by rw [← StrsAre.len_eq hi, Array.length_toList]
      refine set_takes ((Walks.list (show A.in1.in1.in1.handled = none by simp [hh]) _ l ne items).toS) s.heap.objs.size nf xs sz (by omega) (fun i v hv => SS.strs_at hi i v (by rw [Array.getElem?_toList]; exact hv))
        xs [] 0 0 _ rfl (Nat.zero_le _) (by omega) (by omega) ⟨⟨_, Heap.get?_push_size _ rfl, rfl, rfl⟩, il2.push _⟩ ?_ ?_
      · exact SetOf_congr ((setObjOf_fresh (knd := PySem.strKind prog w) led).setOf (Heap.get?_push_of_some _ gS) (by unfold scanBound; omega)) (fun _ => by simp) rfl
      · rintro ⟨h2, g2, d2, tk, o2⟩ m mv x
        obtain rfl : g2 = s.gens := mv.gens
        obtain rfl : d2 = s.drawn := mv.drawn
        obtain rfl : o2 = s.os := mv.os
        rw [Nat.zero_add] at x
        show wpAny _ _ _ _ _ _
        refine wpAny_pure ?_
        show wpAny _ _ (ret Value.none) _ _ _
        refine wpAny_pure ⟨rfl, h2, tk, m, rfl, x, fun b o hb e => mv.heap b o ?_ (Heap.get?_push_of_some _ (Heap.get?_push_of_some _ e))⟩
        rw [Heap.size_push]
        simp only [List.mem_cons, List.not_mem_nil, or_false, not_or]
        exact ⟨Nat.ne_of_lt hb, Nat.ne_of_lt (Nat.lt_succ_of_lt hb)⟩
    · match r2, hr2 with
      | .error e, hr2 => exact hr2
      | .ok .next, hr2 => exact hr2.elim
      | .ok .brk, hr2 => exact hr2.elim
      | .ok .cont, hr2 => exact hr2.elim
      | .ok (.ret z), hr2 =>
        obtain ⟨rfl, h2, tk, m, rfl, x, k⟩ := hr2
        repeat (any_goals (first | assumption | wp_step))
        exact h _ _ m x k
end
end VS

/-! VS, part N: the words of part M. -/
namespace VS
open PySem PySem.Spec PyProof.Rows L2
section
variable {X : Cx}
def tDist (K : PySem.W.Frag) (ta : TE) : TE := fun σ H Q => ta σ H fun x H1 => ∃ l, ∃ xs : List Str, x = .ref l ∧ SqL K H1 l (xs.map V.str) ∧ xs.length ≤ 3000 ∧ Q (.int (dnA [] xs : Nat)) H1
theorem pe_dist {a : Expr} {ta : TE} {p p2 q pos : Pos} (hc : X.calm = true) (gl : Gl X "len") (ml : X.mg "len" = none) (gs : Gl X "set") (ms : X.mg "set" = none) (ha : PE X a ta)
    (na : starEach [a] X.env = (false, eval a X.env) :: starEach [] X.env := by rfl) : PE X (.Call (.Name "len" p) [.Call (.Name "set" p2) [a] [] q] [] pos) (tDist X.K ta) := by
  refine ⟨fun pins s σ H Q I h => Call_ (ld_blt I gl ml boot_len (PyProof.Rows.callWith_builtin1 (PyProof.Rows.args_cons (Call_ (ld_blt I gs ms boot_set ?_)) rfl) rfl rfl))⟩
  refine PyProof.Rows.callWith_type1 (PyProof.Rows.args_cons (thn (ha.run pins s σ H _ I h) fun v s2 ⟨x, H2, I2, rx, qx⟩ => PyProof.Rows.args_nil ?_) na) na rfl
  obtain ⟨l, xs, rfl, hq, lx, qx⟩ := qx
  cases rx
  obtain ⟨its, rv, pl, hz⟩ := I2.list hq
  refine call_set_texts (I2.ok.hd hc) pl.isList (by simpa using strsAre_of rv) lx fun h3 tk m x k => PyProof.Rows.args_nil ?_
  obtain ⟨o, es, ep, t, ho, hex, hd, _, _, _, hf, hn⟩ := x
  have le := dnA_le xs []
  have I3 : Inv X pins σ H2 { s2 with heap := h3, toks := tk } := I2.kept fun b o e => k b o (Heap.lt_size e) e
  exact call_len_set ho hex hd hf (by rw [hn]; omega) ⟨.int (dnA [] xs : Nat), H2, I3.tok _, ⟨_, by rw [hn]⟩, qx⟩
end
section
variable {X : Cx} {g : Gh} {W : WX} {pos : Pos} {a : Expr} {ma : Cm D}
/-- len(set(a)) of texts -/
def mDist (ma : Cm D) : Cm D := fun ρ => (ma ρ).bind fun d ρ => match d with
  | .lst _ xs => match strL xs with
    | some l => if l.length ≤ 3000 then .ok (.int (dnA [] l : Nat)) ρ else .stuck
    | none => .stuck
  | _ => .stuck
@[simp] theorem mDist_ (ma : Cm D) (ρ : DE) : mDist ma ρ = (ma ρ).bind fun d ρ => match d with
  | .lst _ xs => match strL xs with
    | some l => if l.length ≤ 3000 then .ok (.int (dnA [] l : Nat)) ρ else .stuck
    | none => .stuck
  | _ => .stuck := rfl
theorem e_dist {p p2 q : Pos} (hK : X.K = g.c.K) (hc : X.calm = true) (gl : Gl X "len") (ml : X.mg "len" = none) (gs : Gl X "set") (ms : X.mg "set" = none) (ha : PE X a (tE g W ma))
    (na : starEach [a] X.env = (false, eval a X.env) :: starEach [] X.env := by rfl) : PE X (.Call (.Name "len" p) [.Call (.Name "set" p2) [a] [] q] [] pos) (tE g W (mDist ma)) := (pe_dist hc gl ml gs ms ha na).imp fun σ H Q ⟨sl, tm, s, h⟩ => by
  refine tE.of s h fun H1 sl1 t s1 h1 => ?_
  cases t with
  | lst p o xs =>
    simp only [T.d] at h1
    split at h1
    · rename_i l hl
      split at h1
      · rename_i hz
        have kk := lst_sq s1.top
        obtain ⟨e1, e2⟩ := strL_ok kk.2.2 hl
        refine ⟨p, l.map fun z => ⟨z.toArray⟩, rfl, ?_, by simpa using hz, ?_⟩
        · rw [hK, ← e1]; exact kk.1
        · have e3 : dnA [] (l.map fun z => (⟨z.toArray⟩ : Str)) = dnA [] l := dnA_map (fun z : List Nat => (⟨z.toArray⟩ : Str)) (fun a b e => by
            have := congrArg (fun s : Str => s.cps.toList) e
            simpa using this) l []
          rw [e3]
          exact h1 H1 sl1 _ (s1.pop.push (.int (dnA [] l : Nat)) trivial) rfl rfl
      · exact h1.elim
    · exact h1.elim
  | _ => exact h1.elim
end
/-! ### enumerate(range(a, b, c)) -/
theorem Draws.rangeC {prog : Program} {w : World} {A : Around} (hh : A.handled = none) (it : Addr) (lo c : Int) (n : Nat) :
    Draws prog w A it [it] n (fun i v => ∃ t, v = .int (lo + (i : Nat) * c) t) (fun i h => IsRangeIter h it (lo + (i : Nat) * c) ((n : Int) - (i : Nat)) c) where
  live := fun i h st => ⟨_, st⟩
  frame := fun i h h2 st k => k it (by simp) _ st
  item := fun i s Q E hi st hQ => by
    unfold Builtin.SmallTypes.nextOf
    refine wpAny_bind (CpRep.range_item st (by omega) fun h2 st2 sb => wpAny_pure (hQ _ h2 (s.toks + 1) ⟨s.toks, rfl⟩ ?_ sb))
    rw [show lo + ((i + 1 : Nat) : Int) * c = lo + (i : Int) * c + c by rw [Int.natCast_add, Int.add_mul]; simp [Int.add_assoc], show (n : Int) - ((i + 1 : Nat) : Int) = (n : Int) - (i : Int) - 1 by omega]
    exact st2
  done := fun s Q E st hE => by
    unfold Builtin.SmallTypes.nextOf
    refine wpAny_bind (CpRep.range_end hh st (by omega) fun e h2 se eb => ?_)
    obtain ⟨a, o, vs, rfl, ho, hc, _⟩ := se
    exact hE h2 a eb ⟨o, ho, hc⟩
theorem begins_rangeC (r : Addr) (a b c : Int) (t u v : Tok) (sm : Builtin.Range.small a b c = true) : Begins (.ref r) { cls := .type "range_iterator", data := .fields #[rawInt a, rawInt (Builtin.Range.rangeSize a b c), rawInt c] } fun h => IsRange h r a b c t u v where
  iter := fun prog w A E s Q hr h => wpAny_pyIter_range hr sm h
  keeps := fun h h2 x k => k r _ x
  free := rfl
def IteC (lo c : Int) (n : Nat) : It :=
  ⟨fun i _ => i < n, fun i H v H2 => ∃ T, v = .ref T ∧ H T = none ∧ H2 = upd H T (.tup [.int (i : Nat), .int (lo + (i : Nat) * c)]), fun i _ => n ≤ i⟩
theorem turn_enumC {P : Program} {w : World} {K : PySem.W.Frag} {elts : List Expr} {kk : Nat} {tpos : Pos} (lo c : Int) (n : Nat) (e it : Addr) :
    Turn P w K (.Tuple elts kk tpos) (IteC lo c n) [e, it] e (fun i h => i ≤ n ∧ (∃ old, IsEnum h e it ((i : Nat) : Int) old) ∧ IsRangeIter h it (lo + (i : Nat) * c) ((n : Int) - (i : Nat)) c ∧ e ≠ it) where
  mem := by simp
  obj := fun i h st b hb => by
    obtain ⟨_, ⟨old, he⟩, hr, _⟩ := st
    simp only [List.mem_cons, List.not_mem_nil, or_false] at hb
    rcases hb with rfl | rfl
    · exact ⟨_, he, fun v q => nomatch q⟩
    · exact ⟨_, hr, fun v q => nomatch q⟩
  keep := fun i h h2 st k => ⟨st.1, let ⟨old, he⟩ := st.2.1; ⟨old, k e (by simp) _ he⟩, k it (by simp) _ st.2.2.1, st.2.2.2⟩
  item := by
    intro X hP hw hK hc i pins s σ H E I hf st hg
    subst hP hw hK
    obtain ⟨hi, ⟨old, he⟩, hr, hne⟩ := st
    have hlt : i < n := hg
    have le : e < s.heap.objs.size := Heap.lt_size he
    have li : it < s.heap.objs.size := Heap.lt_size hr
    refine wpAny_pyNext_enum_itemD (Draws.rangeC (A := X.A.in1) (I.ok.hd hc) it lo c n) he hr hlt hne (by simp [hne]) fun y h2 tk hy ho st2 hT hsz hk => ?_
    obtain ⟨u, rfl⟩ := hy
    refine ⟨_, rfl, wpAny_letOwnedTupleGo_enum (s := { s with heap := h2, toks := tk + 1 }) ho fun h3 he3 sb => ?_⟩
    have hT3 : h3.get? s.heap.objs.size = some { cls := .type "tuple", data := .seq #[.int i tk, .int (lo + (i : Nat) * c) u] } := (sb.2 _ (Nat.ne_of_gt le)).trans hT
    have new : ObjOk X.prog X.w (upd H s.heap.objs.size (.tup [.int (i : Nat), .int (lo + (i : Nat) * c)])) h3 s.heap.objs.size (.tup [.int (i : Nat), .int (lo + (i : Nat) * c)]) :=
      ⟨by show 2 ≤ sizeLine; decide, [.int i tk, .int (lo + (i : Nat) * c) u], .cons ⟨_, rfl⟩ (.cons ⟨_, rfl⟩ .nil), ⟨_, hT3, rfl, _, rfl⟩⟩
    have I1 : Inv X pins σ (upd H s.heap.objs.size (.tup [.int (i : Nat), .int (lo + (i : Nat) * c)])) { s with heap := h3, toks := tk + 1 } :=
      I.turnedNew (ch := [e, it]) (fun b ob hb q => (sb.2 b fun z => hb (by simp [z])).trans (hk b ob (fun z => hb (by simp [z])) (fun z => hb (by simp [z])) q)) hf (Nat.le_refl _) new
    refine ⟨.ref s.heap.objs.size, _, I1, rfl, ⟨_, rfl, I.hok.fresh (Nat.le_refl _), rfl⟩, ⟨hlt, ⟨.int (lo + (i : Nat) * c) u, ?_⟩, (sb.2 it (Ne.symm hne)).trans st2, hne⟩, fun b hb => ?_⟩
    · rw [show ((i + 1 : Nat) : Int) = (i : Int) + 1 by omega]; exact he3
    · have lb : b < s.heap.objs.size := by
        simp only [List.mem_cons, List.not_mem_nil, or_false] at hb
        rcases hb with rfl | rfl
        · exact le
        · exact li
      rw [upd_ne (Nat.ne_of_lt lb)]
      exact (hf b hb).1
  done := by
    intro X hP hw hK hc i pins s σ H E I hf st hg
    subst hP hw hK
    obtain ⟨hi, ⟨old, he⟩, hr, hne⟩ := st
    obtain ⟨f0, f1, f2, f3, f4, f5⟩ := hf it (by simp)
    have e2 : i = n := Nat.le_antisymm hi hg
    subst e2
    exact wpAny_pyNext_enum_endD (Draws.rangeC (A := X.A.in1) (I.ok.hd hc) it lo c i) he hr fun h2 eb => ⟨rfl, I.turned (t' := s.toks) (fun b o hb q => eb b o hb q) f0 f1 f3 f4 f5⟩
  self := fun A i s Q E st h => let ⟨_, ⟨_, he⟩, _⟩ := st; wpAny_pyIter_enum he h
def iEnumC (ta : TA) : TI := fun σ H R => ta σ H fun vs H1 => ∃ (i j c : Int) (n : Nat), vs = [.int i, .int j, .int c] ∧ RgC i j c n ∧ R (IteC i c n) H1
theorem pi_enumC {X : Cx} {a b c : Expr} {ta : TA} {p p2 pos pos2 tpos : Pos} {elts : List Expr} {kk : Nat} (he : Gl X "enumerate") (me : X.mg "enumerate" = none) (hg : Gl X "range") (hm : X.mg "range" = none) (ha : PA X [a, b, c] ta)
    (hs : starEach [a, b, c] X.env = (false, eval a X.env) :: starEach [b, c] X.env := by rfl) (hpl : (backTo pos2 (starEach [b, c] X.env)).any (·.1) = false := by rfl)
    (na : starEach [.Call (.Name "range" p2) [a, b, c] [] pos2] X.env = (false, eval (.Call (.Name "range" p2) [a, b, c] [] pos2) X.env) :: starEach [] X.env := by rfl) :
    PI X (.Tuple elts kk tpos) (.Call (.Name "enumerate" p) [.Call (.Name "range" p2) [a, b, c] [] pos2] [] pos) (iEnumC ta) := by
  refine ⟨fun pins s σ H R I h => Call_ (ld_blt I he me boot_enumerate (PyProof.Rows.callWith_type1 (PyProof.Rows.args_cons (Call_ (ld_blt I hg hm boot_range ?_)) na) na rfl))⟩
  refine PyProof.Rows.callWith_type1 (thn (ha.run pos2 pins s σ H _ I h) fun us s1 ⟨vs, H1, I1, r1, q1⟩ => ?_) hs hpl
  obtain ⟨i, j, k, n, rfl, ⟨c0, c1, c2, c3⟩, q⟩ := q1
  obtain ⟨u1, u2, u3, ⟨t, rfl⟩, ⟨t2, rfl⟩, ⟨t3, rfl⟩, rfl⟩ : ∃ u1 u2 u3, RelV (.int i) u1 ∧ RelV (.int j) u2 ∧ RelV (.int k) u3 ∧ us = [u1, u2, u3] := by
    cases r1 with
    | cons r rr =>
      cases rr with
      | cons r2 rr =>
        cases rr with
        | cons r3 rr =>
          cases rr
          exact ⟨_, _, _, r, r2, r3, rfl⟩
  · skip
    refine call_range_3 c0 (PyProof.Rows.args_nil ?_) (.inl (PyProof.noPylong_small c1))
    have kp : ∀ b o, s1.heap.get? b = some o → (s1.heap.push { cls := .type "range", data := .fields #[.int i t, .int j t2, .int k t3] }).get? b = some o := fun b o e => Heap.get?_push_of_some _ e
    have hr : IsRange (s1.heap.push { cls := .type "range", data := .fields #[.int i t, .int j t2, .int k t3] }) s1.heap.objs.size i j k t t2 t3 := Heap.get?_push_size _ rfl
    have I2 : Inv X pins σ H1 { s1 with heap := s1.heap.push { cls := .type "range", data := .fields #[.int i t, .int j t2, .int k t3] } } := I1.kept (t' := s1.toks) kp
    generalize s1.heap.push { cls := .type "range", data := .fields #[.int i t, .int j t2, .int k t3] } = h2 at *
    refine call_enumT (s := { s1 with heap := h2 }) (begins_rangeC s1.heap.objs.size i j k t t2 t3 c2) hr fun h3 he3 hit hsz hk => wpAny_pyIter_enum he3 ?_
    have I3 : Inv X pins σ H1 { s1 with heap := h3 } := I2.kept (t' := s1.toks) hk
    refine ⟨h2.objs.size + 1, [h2.objs.size + 1, h2.objs.size], _, _, H1, rfl, I3, turn_enumC i k n (h2.objs.size + 1) h2.objs.size, ⟨Nat.zero_le _, ⟨.none, he3⟩, ?_, Nat.succ_ne_self _⟩, fun b hb => ?_, q⟩
    · show IsRangeIter _ _ (i + ((0 : Nat) : Int) * k) ((n : Int) - ((0 : Nat) : Int)) k
      rw [show i + ((0 : Nat) : Int) * k = i by simp, show (n : Int) - ((0 : Nat) : Int) = Builtin.Range.rangeSize i j k by rw [c3]; simp]
      exact hit
    · have hle : h2.objs.size ≤ b := by
        simp only [List.mem_cons, List.not_mem_nil, or_false] at hb
        rcases hb with rfl | rfl
        · exact Nat.le_add_right _ _
        · exact Nat.le_refl _
      exact I2.fpOk hle (I2.hok.fresh hle)
section
variable {X : Cx} {g : Gh} {W : WX} {pos : Pos} {a b c e : Expr} {ma mb mc : Cm D}
theorem it_enumC {lo c : Int} {n : Nat} : ItOk g (IteC lo c n) [] (enumD (stepD lo c n)) where
  stop := fun H σ sl tm s => by simp [IteC, enumD_len, stepD]
  go := fun i d H σ sl tm s h => by
    unfold enumD stepD at h
    rw [List.getElem?_mapIdx, List.getElem?_map, Option.map_map, Option.map_eq_some_iff] at h
    obtain ⟨k, hk, rfl⟩ := h
    have hlt : i < n := by
      by_cases q : i < n
      · exact q
      · rw [List.getElem?_eq_none (by simp; omega)] at hk; cases hk
    rw [List.getElem?_range hlt] at hk
    cases hk
    refine ⟨hlt, fun x H2 hy => ?_⟩
    obtain ⟨T2, rfl, hT, rfl⟩ := hy
    exact enum_pair s (s.push (.int (lo + (i : Int) * c)) trivial) hT
def mEnumR (ma mb mc : Cm D) : Cm (List D) := fun ρ => (ma ρ).bind fun d ρ => (mb ρ).bind fun d2 ρ => (mc ρ).bind fun d3 ρ => match d, d2, d3 with
  | .sc (.int i), .sc (.int j), .sc (.int c) => if c ≠ 0 ∧ c.natAbs < 1073741824 ∧ Builtin.Range.small i j c = true then .ok (enumD (stepD i c (Builtin.Range.rangeSize i j c).toNat)) ρ else .stuck
  | _, _, _ => .stuck
theorem i_enumR {elts : List Expr} {kk : Nat} {tpos p p2 pos2 : Pos} (he : Gl X "enumerate") (me : X.mg "enumerate" = none) (hg : Gl X "range") (hm : X.mg "range" = none) (ha : PA X [a, b, c] (tA g W [ma, mb, mc]))
    (hs : starEach [a, b, c] X.env = (false, eval a X.env) :: starEach [b, c] X.env := by rfl) (hpl : (backTo pos2 (starEach [b, c] X.env)).any (·.1) = false := by rfl)
    (na : starEach [.Call (.Name "range" p2) [a, b, c] [] pos2] X.env = (false, eval (.Call (.Name "range" p2) [a, b, c] [] pos2) X.env) :: starEach [] X.env := by rfl) :
    PI X (.Tuple elts kk tpos) (.Call (.Name "enumerate" p) [.Call (.Name "range" p2) [a, b, c] [] pos2] [] pos) (tI g W (mEnumR ma mb mc)) := (pi_enumC he me hg hm ha hs hpl na).imp fun σ H R ⟨sl, tm, s, q⟩ => by
  refine tA3 s q fun H2 sl2 t u v s2 h2 => ?_
  cases t with
  | sc x =>
    cases x with
    | int i =>
      cases u with
      | sc y =>
        cases y with
        | int j =>
          cases v with
          | sc z =>
            cases z with
            | int k =>
              simp only [T.d] at h2
              split at h2
              · rename_i hc
                have nn := PyProof.Rows.rangeSize_toNat i j k
                refine ⟨i, j, k, _, rfl, ⟨hc.1, hc.2.1, hc.2.2, nn⟩, ?_⟩
                exact h2 H2 sl2 [] _ (s2.pop.pop.pop) rfl it_enumC
              · exact h2.elim
            | _ => exact h2.elim
          | _ => exact h2.elim
        | _ => exact h2.elim
      | _ => exact h2.elim
    | _ => exact h2.elim
  | _ => exact h2.elim
end
theorem enumR_ok {ma mb mc : Cm D} {ρ ρ1 ρ2 ρ3 : DE} {n c N : Nat} (h1 : ma ρ = .ok (.int 0) ρ1) (h2 : mb ρ1 = .ok (.int n) ρ2) (h3 : mc ρ2 = .ok (.int c) ρ3) (hc : 0 < c) (hc2 : c ≤ 1000) (hn : n ≤ 500000) (hN : (n + c - 1) / c = N) : mEnumR ma mb mc ρ = .ok (enumD (stepD 0 c N)) ρ3 := by
  have q := range3_ok h1 h2 h3 hc hc2 hn hN
  unfold mRange3 at q
  unfold mEnumR
  rw [h1, VS.R.bind_ok, h2, VS.R.bind_ok, h3, VS.R.bind_ok] at q ⊢
  simp only at q ⊢
  split at q
  · rename_i hh
    rw [if_pos hh]
    injection q with q
    rw [q]
  · cases q
end VS

/-! VS, part O: a comprehension over an own list, which is held the while. -/
namespace VS
open PySem PySem.Spec PyProof.Rows L2
section
variable {g : Gh} {W : WX}
theorem lc_held {f : D → Cm Unit} {t : Cm Bool} {e : Cm D} {vs : List Nat} (hnd : vs.Nodup) (hio : ∀ p ∈ g.io, p.1 ∉ vs) {gt : TG} {tt : TT} {te : TE}
    (hg : ∀ (v : V) (σ : L2.St) (H : Hp) (Q : L2.St → Hp → Prop), tG g W0 f v (L2.wipe σ vs) H (fun σ2 H2 => L2.wipe σ2 vs = L2.wipe σ vs → Q σ2 H2) → gt v (L2.wipe σ vs) H fun σ2 H2 => L2.wipe σ2 vs = L2.wipe σ vs ∧ Q σ2 H2)
    (ht : ∀ σ H Q, tT g W0 t σ H Q → tt σ H Q) (he : ∀ σ H Q, tE g W0 e σ H Q → te σ H Q)
    {J : It} {hd tm : List T} {ds : List D} {H1 : Hp} {σ : L2.St} {sl1 : List (Option T)} {Q : VK} (hJ : ItOk g J hd ds) (s1 : SR g H1 σ sl1 (hd ++ tm)) {ss : List (Option Sc)} (hss : saved (den sl1) vs = some ss) (hz : ds.length ≤ 16777216)
    (h : Lands g W tm ((unexc (lcL f t e vs ds (wipeD (den sl1) vs))).bind fun r ρ => R.ok (D.lst .own r) (restD ρ vs ss)) (fun d ρ' => ∀ H' sl' t, SR g H' σ sl' (t :: (hd ++ tm)) → den sl' = ρ' → t.d = d → Q t.v H'))
    (Dd : Addr) (hD : H1 Dd = none) : ∃ Wn : Nat → Nat → Hp → Prop, (∃ m, Wn 0 m (upd H1 Dd (.lst []))) ∧ ∀ i m H, Wn i m H →
      (J.stop i H ∧ Q (.ref Dd) H) ∨ (J.go i H ∧ ∃ Nx : Hp → Prop, (∀ H', Nx H' → ∃ m', m' < m ∧ Wn (i + 1) m' H') ∧ ∀ x H', J.yld i H x H' → gt x (L2.wipe σ vs) H' fun σ2 H2 => L2.wipe σ2 vs = L2.wipe σ vs ∧ tt σ2 H2 fun b H3 =>
        if b = true then te σ2 H3 fun y H4 => ∃ acc, H4 Dd = some (.lst acc) ∧ acc.length < sizeLine ∧ Nx (upd H4 Dd (.lst (acc ++ [y]))) else Nx H3) := by
  obtain ⟨hl, hsv⟩ := saved_ok s1 hss
  -- the new list, held
  have s2 : SR g (upd H1 Dd (.lst [])) σ sl1 (T.lst Dd .own [] :: (hd ++ tm)) := by
    have := s1.newL (xs := []) (tm := hd ++ tm) (ts := []) hD (by simp) (by simp [Ts.ok]) (fun a => by simp [Ts.oc, Ts.sh])
    simpa using this
  have reorder : ∀ {H σ sl} {acc : List T}, SR g H σ sl (T.lst Dd .own acc :: (hd ++ tm)) → SR g H σ sl (hd ++ (T.lst Dd .own acc :: tm)) := fun {H σ sl acc} s => s.tmp (by
    have := s.okT
    rw [Ts.ok_iff] at this ⊢
    intro u m
    exact this u (by simp at m ⊢; rcases m with m | m | m <;> simp [m])) fun a => by simp only [Ts.oc, Ts.sh, Ts.oc_append, Ts.sh_append]; omega
  have reorder' : ∀ {H σ sl} {acc : List T} {u : T}, SR g H σ sl (u :: (hd ++ (T.lst Dd .own acc :: tm))) → SR g H σ sl (u :: T.lst Dd .own acc :: (hd ++ tm)) := fun {H σ sl acc u} s => s.tmp (by
    have := s.okT
    rw [Ts.ok_iff] at this ⊢
    intro u m
    exact this u (by simp at m ⊢; rcases m with m | m | m | m <;> simp [m])) fun a => by simp only [Ts.oc, Ts.sh, Ts.oc_append, Ts.sh_append]; omega
  have reorder1 : ∀ {H σ sl} {acc : List T}, SR g H σ sl (hd ++ (T.lst Dd .own acc :: tm)) → SR g H σ sl (T.lst Dd .own acc :: (hd ++ tm)) := fun {H σ sl acc} s => s.tmp (by
    have := s.okT
    rw [Ts.ok_iff] at this ⊢
    intro u m
    exact this u (by simp at m ⊢; rcases m with m | m | m <;> simp [m])) fun a => by simp only [Ts.oc, Ts.sh, Ts.oc_append, Ts.sh_append]; omega
  -- what the rest of the walk makes
  have Rest : ∀ (i : Nat) (acc : List T) (ρ : DE), Prop := fun i acc ρ => True
  refine ⟨fun i n H => ∃ sl acc, SR g H (L2.wipe σ vs) (wipeS sl vs) (T.lst Dd .own acc :: (hd ++ tm)) ∧ n = ds.length - i ∧ i ≤ ds.length ∧ acc.length ≤ i ∧
    Lands g W tm ((unexc (lcL f t e vs (ds.drop i) (den (wipeS sl vs)))).bind fun r ρ => R.ok (D.lst .own (Ts.d acc ++ r)) (restD ρ vs ss)) (fun d ρ' => ∀ H' sl' t, SR g H' σ sl' (t :: (hd ++ tm)) → den sl' = ρ' → t.d = d → Q t.v H'),
    ⟨ds.length, sl1, [], s2.wipe hio, by omega, by omega, by simp, by simpa [den_wipe, Ts.d] using h⟩, ?_⟩
  rintro i n H ⟨sl, acc, s, rfl, hi, hacc, hl'⟩
  by_cases hlt : i < ds.length
  · obtain ⟨d, hd'⟩ : ∃ d, ds[i]? = some d := ⟨ds[i], List.getElem?_eq_getElem hlt⟩
    have hdrop : ds.drop i = d :: ds.drop (i + 1) := by
      rw [List.drop_eq_getElem_cons hlt]
      rw [List.getElem?_eq_getElem hlt] at hd'
      rw [Option.some.inj hd']
    rw [hdrop] at hl'
    obtain ⟨go, yl⟩ := hJ.go i d H _ _ (T.lst Dd .own acc :: tm) (reorder s) hd'
    refine .inr ⟨go, fun H' => ∃ sl acc, SR g H' (L2.wipe σ vs) (wipeS sl vs) (T.lst Dd .own acc :: (hd ++ tm)) ∧ acc.length ≤ i + 1 ∧
      Lands g W tm ((unexc (lcL f t e vs (ds.drop (i + 1)) (den (wipeS sl vs)))).bind fun r ρ => R.ok (D.lst .own (Ts.d acc ++ r)) (restD ρ vs ss)) (fun d ρ' => ∀ H' sl' t, SR g H' σ sl' (t :: (hd ++ tm)) → den sl' = ρ' → t.d = d → Q t.v H'),
      fun H' ⟨sl', acc', s', ha, h'⟩ => ⟨ds.length - (i + 1), by omega, sl', acc', s', rfl, by omega, ha, h'⟩, fun x H' hy => ?_⟩
    obtain ⟨tt, s2, rfl, rfl⟩ := yl x H' hy
    refine hg _ _ _ _ ⟨wipeS sl vs, hd ++ (T.lst Dd .own acc :: tm), tt, s2, rfl, ?_⟩
    simp only [lcL] at hl'
    cases q1 : f tt.d (den (wipeS sl vs)) with
    | exc x ρ => rw [q1] at hl'; exact hl'.elim
    | stuck => rw [q1] at hl'; exact hl'.elim
    | ok u ρ =>
      rw [q1] at hl'
      simp only [R.bind_ok] at hl'
      intro H3 σ3 sl3 s3 e3 hwp
      subst e3
      refine ht _ _ _ ⟨sl3, hd ++ (T.lst Dd .own acc :: tm), s3, ?_⟩
      cases q2 : t (den sl3) with
      | exc x ρ => rw [q2] at hl'; exact hl'.elim
      | stuck => rw [q2] at hl'; exact hl'.elim
      | ok b ρ =>
        rw [q2] at hl'
        simp only [R.bind_ok] at hl'
        intro H4 sl4 s4 e4
        subst e4
        cases b with
        | false =>
          rw [if_neg Bool.false_ne_true]
          simp only [Bool.false_eq_true, if_false] at hl'
          have hσ : L2.wipe σ3 vs = L2.wipe σ vs := hwp
          refine ⟨sl4, acc, (reorder1 s4).rewipe hσ hio, by omega, ?_⟩
          rw [den_wipe]
          exact hl'
        | true =>
          rw [if_pos rfl]
          simp only [if_true] at hl'
          refine he _ _ _ ⟨sl4, hd ++ (T.lst Dd .own acc :: tm), s4, ?_⟩
          cases q3 : e (den sl4) with
          | exc x ρ => rw [q3] at hl'; exact hl'.elim
          | stuck => rw [q3] at hl'; exact hl'.elim
          | ok y ρ =>
            rw [q3] at hl'
            simp only [R.bind_ok] at hl'
            intro H5 sl5 u s5 e5 ey
            subst e5 ey
            have s6 := reorder' s5
            have ko := s6.okT
            simp only [Ts.ok, T.ok] at ko
            refine ⟨acc.map T.v, ko.2.1.1, by rw [SZ_eq, List.length_map]; omega, ?_⟩
            have s7 := s6.grow (by omega)
            rw [List.map_append] at s7
            have hσ : L2.wipe σ3 vs = L2.wipe σ vs := hwp
            refine ⟨sl5, acc ++ [u], s7.rewipe hσ hio, by simp; omega, ?_⟩
            rw [den_wipe]
            cases q4 : lcL f t e vs (ds.drop (i + 1)) (wipeD (den sl5) vs) with
            | exc x ρ => rw [q4] at hl'; exact hl'.elim
            | stuck => rw [q4] at hl'; exact hl'.elim
            | ok r ρ =>
              rw [q4] at hl'
              simpa [Ts.d_append, Ts.d] using hl'
  · have e : i = ds.length := by omega
    subst e
    rw [List.drop_length] at hl'
    refine .inl ⟨hJ.stop H _ _ (T.lst Dd .own acc :: tm) (reorder s), ?_⟩
    simp only [lcL, unexc_ok, R.bind_ok, List.append_nil] at hl'
    obtain ⟨sl', e1, e2, e3, e4, e5⟩ := SR.unwipe (sl := sl) s1.len hnd (fun v h => h) hio hsv hl s
    have s3 : SR g H σ sl' (T.lst Dd .own acc :: (hd ++ tm)) := by
      refine s.go e2 s.okT (fun a => .inl ?_) (fun _ => .inl rfl) s1.len e4 e5 s1.io
      have := e3 a; omega
    exact hl' H sl' _ s3 e1 (by simp [T.d])
end

/-- [e for f in i if t], the list i its own holder, not touched the while -/
def mLcI (i : Nat) (f : D → Cm Unit) (t : Cm Bool) (e : Cm D) (vs : List Nat) : Cm D := fun ρ => match ρ[i]? with
  | some (some (.lst .own ds)) => if Ds.pur ds = true ∧ ds.length ≤ 16777216 then (match saved (ρ.set i none) vs with
    | some ss => (match lcL f t e vs ds (wipeD (ρ.set i none) vs) with
      | .ok r ρ' => .ok (.lst .own r) ((restD ρ' vs ss).set i (some (.lst .own ds)))
      | _ => .stuck)
    | none => .stuck) else .stuck
  | _ => .stuck
@[simp] theorem mLcI_ (i : Nat) (f : D → Cm Unit) (t : Cm Bool) (e : Cm D) (vs : List Nat) (ρ : DE) : mLcI i f t e vs ρ = match ρ[i]? with
  | some (some (.lst .own ds)) => if Ds.pur ds = true ∧ ds.length ≤ 16777216 then (match saved (ρ.set i none) vs with
    | some ss => (match lcL f t e vs ds (wipeD (ρ.set i none) vs) with
      | .ok r ρ' => .ok (.lst .own r) ((restD ρ' vs ss).set i (some (.lst .own ds)))
      | _ => .stuck)
    | none => .stuck) else .stuck
  | _ => .stuck := rfl
theorem _root_.L2.PTs.ex {α : Type} {X : Cx} {cs : List Expr} {t : α → TT} (h : ∀ x, PTs X cs (t x)) : PTs X cs (fun σ H Q => ∃ x, t x σ H Q) := ⟨fun pins s σ H Q I q => by
  obtain ⟨x, q⟩ := q
  exact (h x).run pins s σ H Q I q⟩
section
variable {X : Cx} {g : Gh} {W : WX} {pos : Pos} {elt tg iter : Expr} {ifs : List Expr} {scope : Scope} {own : List (Str × Nat)} {t : Cm Bool} {e : Cm D} {i : Nat}
theorem e_lcI {gt : Addr → TG} {f : D → Cm Unit} (hc : X.calm = true) (hN : X.N.Nodup) (hK : X.K = g.c.K) (hi : i < g.N) (hn : ∀ p ∈ g.io, p.1 ≠ i) (hp : PE X iter (tVar i)) (ok : BlkOk X.N X.env.scope scope own)
    (hg : ∀ (a : Addr) (s : Shared) (H : Hp) (C : Addr) (cl : List (Str × Addr)) (fp : List Addr), PG (X.blk s H scope (compEnvC scope cl C X.env) fp) tg (gt a))
    (ht : ∀ (a : Addr) (s : Shared) (H : Hp) (C : Addr) (cl : List (Str × Addr)) (fp : List Addr), PTs (X.blk s H scope (compEnvC scope cl C X.env) fp) ifs (tT (g.si i a) W0 t))
    (he : ∀ (a : Addr) (s : Shared) (H : Hp) (C : Addr) (cl : List (Str × Addr)) (fp : List Addr), PE (X.blk s H scope (compEnvC scope cl C X.env) fp) elt (tE (g.si i a) W0 e))
    (hnd : (own.map (·.2)).Nodup) (hio : ∀ a, ∀ p ∈ (g.si i a).io, p.1 ∉ own.map (·.2))
    (hgt : ∀ (a : Addr) (v : V) (σ : L2.St) (H : Hp) (Q : L2.St → Hp → Prop), tG (g.si i a) W0 f v (L2.wipe σ (own.map (·.2))) H (fun σ2 H2 => L2.wipe σ2 (own.map (·.2)) = L2.wipe σ (own.map (·.2)) → Q σ2 H2) → gt a v (L2.wipe σ (own.map (·.2))) H fun σ2 H2 => L2.wipe σ2 (own.map (·.2)) = L2.wipe σ (own.map (·.2)) ∧ Q σ2 H2)
    (hs : ∀ x, foldedSetIterable iter X.env x = pure x := by intro _; rfl) :
    PE X (.ListComp elt [⟨tg, iter, ifs, 0⟩] scope pos) (tE g W (mLcI i f t e (own.map (·.2)))) :=
  (pe_lc hc hN (pi_list hp) ok (fun s H C cl fp => PG.ex fun a => hg a s H C cl fp) (fun s H C cl fp => PTs.ex fun a => ht a s H C cl fp)
    (fun s H C cl fp => PE.ex (P := fun _ : Addr => True) fun a _ => he a s H C cl fp) hs).imp fun σ H Q ⟨sl, tm, s, h⟩ => by
    unfold mLcI at h
    split at h
    · rename_i ds e0
      split at h
      · rename_i hz
        split at h
        · rename_i ss hss
          split at h
          · rename_i r ρ' er
            obtain ⟨p, ts, g1, rfl, g3, g4, g5⟩ := own_list s e0
            have s1 : SR (g.si i p) H σ (sl.set i none) (T.lst p .own ts :: tm) := (s.move g1).inI g5
            have e1 : den (sl.set i none) = (den sl).set i none := by rw [den_set]; rfl
            rw [← e1] at hss er
            refine ⟨.ref p, g5, p, rfl, ⟨_, .of g3⟩, ?_⟩
            refine lc_held (W := W) (g := g.si i p) (hd := [T.lst p .own ts]) (gt := fun v σ H Q => ∃ a, gt a v σ H Q) (tt := fun σ H Q => ∃ a, tT (g.si i a) W0 t σ H Q) (te := fun σ H Q => ∃ a : Addr, True ∧ tE (g.si i a) W0 e σ H Q) hnd (hio p) (fun v σ H Q q => ⟨p, hgt p v σ H Q q⟩) (fun σ H Q q => ⟨p, q⟩) (fun σ H Q q => ⟨p, trivial, q⟩) (it_list (g := g.si i p) (show X.K = (g.si i p).c.K from hK) (fun a => Ts.pur_oc a ts hz.1)) s1 hss hz.2 ?_
            rw [er]
            simp only [unexc_ok, VS.R.bind_ok]
            intro H2 sl2 t2 s2 e2 ed
            have p2 := s2.io (i, .ref p) List.mem_cons_self
            have s3 : SR (g.si i p) H2 σ sl2 (T.lst p .own ts :: t2 :: tm) := s2.tmp (by
              have := s2.okT
              simp only [Ts.ok, List.cons_append, List.nil_append] at this ⊢
              exact ⟨this.2.1, this.1, this.2.2⟩) fun a => by simp only [Ts.oc, Ts.sh, List.cons_append, List.nil_append]; omega
            have s4 := s3.outI.store hi hn
            have es : σ.set i (some (T.lst p .own ts).v) = σ := by
              apply List.ext_getElem?
              intro j
              rw [List.getElem?_set]
              by_cases z : i = j
              · subst z
                have hl : i < σ.length := by rw [s2.len]; exact hi
                rw [if_pos rfl, if_pos hl]
                exact p2.symm
              · rw [if_neg z]
            rw [es] at s4
            exact h H2 _ t2 s4 (by rw [den_set, e2]; rfl) ed
          · exact h.elim
        · exact h.elim
      · exact h.elim
    · exact h.elim
end
end VS

namespace K31
open VS
def k_FIGURES : List Nat := [48, 49, 50, 51, 52, 53, 54, 55, 56, 57]
def k_SMALL : List Nat := [97, 98, 99, 100, 101, 102, 103, 104, 105, 106, 107, 108, 109, 110, 111, 112, 113, 114, 115, 116, 117, 118, 119, 120, 121, 122]
def k_LETTERS : List Nat := [97, 98, 99, 100, 101, 102, 103, 104, 105, 106, 107, 108, 109, 110, 111, 112, 113, 114, 115, 116, 117, 118, 119, 120, 121, 122, 65, 66, 67, 68, 69, 70, 71, 72, 73, 74, 75, 76, 77, 78, 79, 80, 81, 82, 83, 84, 85, 86, 87, 88, 89, 90]
def k_ATOM_SIGNS : List Nat := [97, 98, 99, 100, 101, 102, 103, 104, 105, 106, 107, 108, 109, 110, 111, 112, 113, 114, 115, 116, 117, 118, 119, 120, 121, 122, 65, 66, 67, 68, 69, 70, 71, 72, 73, 74, 75, 76, 77, 78, 79, 80, 81, 82, 83, 84, 85, 86, 87, 88, 89, 90, 48, 49, 50, 51, 52, 53, 54, 55, 56, 57, 33, 35, 36, 38, 39, 42, 43, 45, 46, 47, 61, 63, 94, 95, 96, 123, 124, 125, 126]
def k_KEY_SIGNS : List Nat := [97, 98, 99, 100, 101, 102, 103, 104, 105, 106, 107, 108, 109, 110, 111, 112, 113, 114, 115, 116, 117, 118, 119, 120, 121, 122, 48, 49, 50, 51, 52, 53, 54, 55, 56, 57, 45]
def m_is_line : Cm Out := (mRet (mAndV (mP1 (isTy .str) (.v 0)) (mP2 (inD true) (.e (mC (.str [10]))) (.v 0))))
def F_is_line : List D → RF := runF 1 [] m_is_line
def m_is_of : Cm Out := (mRet (mP1 allD (.e (mLc (mItemsS (mVar 0)) (mPut 2) mYes (mP2 (inD false) (.v 2) (.v 1)) [2]))))
def F_is_of : List D → RF := runF 3 [] m_is_of
def m_is_atom : Cm Out := (mRet (mAndV (mP2 neD (.v 0) (.e (mC (.str [])))) (mCall F_is_of [.p 0, .e (mC (.str k_ATOM_SIGNS))])))
def F_is_atom : List D → RF := runF 1 [] m_is_atom
def m_quoted_in : Cm Out := (mSeq (mIf (mTest (mCall F_is_atom [.p 0]))
  (mRet (mMove 0))
  mNext)
  (mRet (mBin addD (mBin addD (mC (.str [34])) (mRepl [34] [92, 34] (mRepl [92] [92, 92] (mMove 0)))) (mC (.str [34])))))
def F_quoted_in : List D → RF := runF 1 [] m_quoted_in
def m_is_title : Cm Out := (mSeq (mIf (mOr (mNot (mTest (mP1 (isTy .str) (.v 0)))) (mNot (mTest (mChain leD leD (mC (.int 1)) (mP1 lenD (.v 0)) (mC (.int 20))))))
  (mRet (mC (.bl false)))
  mNext)
  (mRet (mAndV (mP2 (inD false) (.e (mIdx (.v 0) (mC (.int 0)))) (.e (mC (.str k_SMALL)))) (mCall F_is_of [.p 0, .e (mMove 1)]))))
def F_is_title : List D → RF := runF 2 [] m_is_title
def m_is_pair : Cm Out := (mRet (mAndV (mP1 (isTy .tuple) (.v 0)) (mAndV (mP2 eqD (.e (mP1 lenD (.v 0))) (.e (mC (.int 2)))) (mAndV (mCall F_is_title [.e (mIdx (.v 0) (mC (.int 0))), .e (mC (.str k_KEY_SIGNS))]) (mCall F_is_line [.e (mIdx (.v 0) (mC (.int 1)))])))))
def F_is_pair : List D → RF := runF 1 [] m_is_pair
def m_is_kind : Cm Out := (mSeq (mIf (mOr (mNot (mTest (mP1 (isTy .tuple) (.v 0)))) (mOr (mTest (mP2 neD (.e (mP1 lenD (.v 0))) (.e (mC (.int 3))))) (mNot (mTest (mP1 (isTy .list) (.e (mIdx (.v 0) (mC (.int 2)))))))))
  (mRet (mC (.bl false)))
  mNext)
  (mSeq (mIf (mOr (mNot (mTest (mCall F_is_title [.e (mIdx (.v 0) (mC (.int 0))), .e (mBin addD (mC (.str k_KEY_SIGNS)) (mC (.str [43])))]))) (mNot (mTest (mCall F_is_title [.e (mIdx (.v 0) (mC (.int 1))), .e (mBin addD (mC (.str k_KEY_SIGNS)) (mC (.str [43])))]))))
  (mRet (mC (.bl false)))
  mNext)
  (mSeq (mIf (mNot (mTest (mP1 allD (.e (mLc (mItemsL (mIdx (.v 0) (mC (.int 2)))) (mPut 1) mYes (mCall F_is_pair [.p 1]) [1])))))
  (mRet (mC (.bl false)))
  mNext)
  (mRet (mP2 eqD (.e (mDist (mLc (mItemsL (mIdx (.v 0) (mC (.int 2)))) (mPut 1) mYes (mIdx (.v 1) (mC (.int 0))) [1]))) (.e (mP1 lenD (.e (mIdx (.v 0) (mC (.int 2)))))))))))
def F_is_kind : List D → RF := runF 2 [] m_is_kind
def m_show_pair : Cm Out := (mSeq (mIf (mTest (mP2 leD (.e (mP1 lenD (.v 1))) (.e (mC (.int 40)))))
  (mRet (mBin addD (mBin addD (mBin addD (mC (.str [59, 32])) (mMove 0)) (mC (.str [61]))) (mCall F_quoted_in [.e (mMove 1)])))
  mNext)
  (mSeq (mSet 2 (mC (.str [])))
  (mSeq (mFor (mEnumR (mC (.int 0)) (mP1 lenD (.v 1)) (mC (.int 40))) (mTupT [(mPut 3), (mPut 4)])
  (mAug augA 2 (mBin addD (mBin addD (mBin addD (mBin addD (mBin addD (mC (.str [59, 32])) (mVar 0)) (mC (.str [42]))) (mP1 strD (.v 3))) (mC (.str [61]))) (mCall F_quoted_in [.e (mSlc (.v 1) (some (mVar 4)) (some (mBin addD (mVar 4) (mC (.int 40)))))]))))
  (mRet (mMove 2)))))
def F_show_pair : List D → RF := runF 5 [] m_show_pair
def m_show_kind : Cm Out := (mSeq (mIf (mNot (mTest (mCall F_is_kind [.p 0])))
  mStuckO
  mNext)
  (mSeq (mAsg (mVar 0) (mTupT [(mPut 1), (mPut 2), (mPut 3)]))
  (mRet (mBin addD (mBin addD (mBin addD (mMove 1) (mC (.str [47]))) (mMove 2)) (mM joinD (.e (mC (.str []))) (.e (mLc (mItemsL (mVar 3)) (mUnp [mPut 4, mPut 5]) mYes (mCall F_show_pair [.p 4, .p 5]) [4, 5])))))))
def F_show_kind : List D → RF := runF 6 [] m_show_kind
def m__law_cell_at : Cm Out := (mSeq (mIf (mTest (mP2 ltD (.v 1) (.e (mP1 lenD (.v 0)))))
  (mRet (mIdx (.v 0) (mMove 1)))
  mNext)
  (mRet (mC (.int 0))))
def F__law_cell_at : List D → RF := runF 2 [] m__law_cell_at
def m__law_mixed : Cm Out := (mSeq (mSet 2 (mBin addD (mBin modD (mVar 0) (mC (.int 2147483629))) (mBin mulD (mBin fdivD (mVar 0) (mC (.int 2147483629))) (mC (.int 30011)))))
  (mSeq (mSet 2 (mBin modD (mBin mulD (mBin addD (mBin addD (mVar 2) (mBin mulD (mC (.int 69621)) (mVar 1))) (mC (.int 1))) (mC (.int 48271))) (mC (.int 2147483629))))
  (mSeq (mSet 2 (mBin modD (mBin mulD (mVar 2) (mBin addD (mBin addD (mBin fdivD (mVar 2) (mC (.int 907))) (mC (.int 16831))) (mVar 1))) (mC (.int 2147483587))))
  (mRet (mBin modD (mBin mulD (mVar 2) (mBin addD (mBin fdivD (mVar 2) (mC (.int 1201))) (mC (.int 30011)))) (mC (.int 2147483563)))))))
def F__law_mixed : List D → RF := runF 3 [] m__law_mixed
def m__law_source : Cm Out := (mSeq (mIf (mTest (mP2 ltD (.v 1) (.e (mP1 lenD (.v 0)))))
  (mRet (mLst [(mIdx (.v 0) (mVar 1)), (mIdx (.v 0) (mVar 1)), (mC (.int 0))]))
  mNext)
  (mSeq (mSet 2 (mCall F__law_mixed [.e (mCall F__law_cell_at [.p 0, .e (mC (.int 0))]), .e (mBin addD (mC (.int 1000)) (mVar 1))]))
  (mRet (mLst [(mVar 2), (mVar 2), (mC (.int 0))]))))
def F__law_source : List D → RF := runF 3 [] m__law_source
def m__law_next : Cm Out := (mSeq (mIf (mTest (mP2 geD (.e (mIdx (.v 0) (mC (.int 0)))) (.e (mBin powD (mC (.int 10)) (mC (.int 18))))))
  (mSeq (mSet 2 (mBin modD (mIdx (.v 0) (mC (.int 0))) (mVar 1)))
  (mSeq (mAsg (mBin fdivD (mIdx (.v 0) (mC (.int 0))) (mVar 1)) (mSetI 0 (mC (.int 0))))
  (mRet (mMove 2))))
  mNext)
  (mSeq (mAsg (mBin addD (mIdx (.v 0) (mC (.int 2))) (mC (.int 1))) (mSetI 0 (mC (.int 2))))
  (mRet (mBin modD (mCall F__law_mixed [.e (mIdx (.v 0) (mC (.int 1))), .e (mIdx (.v 0) (mC (.int 2)))]) (mMove 1)))))
def F__law_next : List D → RF := runF 3 [0] m__law_next
def m__law_signs : Cm Out := (mRet (mM joinD (.e (mC (.str []))) (.e (mLc (mRange1 (mVar 2)) (mPut 3) mYes (mIdx (.v 1) (mCall F__law_next [.s 0, .e (mP1 lenD (.v 1))])) [3]))))
def F__law_signs : List D → RF := runF 4 [0] m__law_signs
def m__law_is_atom : Cm Out := (mSeq (mSet 1 (mC (.str [33, 35, 36, 38, 39, 42, 43, 45, 46, 47, 61, 63, 94, 95, 96, 123, 124, 125, 126, 48, 49, 50, 51, 52, 53, 54, 55, 56, 57, 97, 98, 99, 100, 101, 102, 103, 104, 105, 106, 107, 108, 109, 110, 111, 112, 113, 114, 115, 116, 117, 118, 119, 120, 121, 122, 65, 66, 67, 68, 69, 70, 71, 72, 73, 74, 75, 76, 77, 78, 79, 80, 81, 82, 83, 84, 85, 86, 87, 88, 89, 90])))
  (mRet (mAndV (mP2 neD (.v 0) (.e (mC (.str [])))) (mP2 eqD (.e (mLc (mItemsS (mVar 0)) (mPut 2) (mTest (mP2 (inD true) (.v 2) (.v 1))) (mVar 2) [2])) (.e (mLst []))))))
def F__law_is_atom : List D → RF := runF 3 [] m__law_is_atom
def m__law_quoted : Cm Out := (mRet (mBin addD (mBin addD (mC (.str [34])) (mM joinD (.e (mC (.str []))) (.e (mLc (mItemsS (mVar 0)) (mPut 1) mYes (mBin addD (mBin mulD (mC (.str [92])) (mP1 intBD (.e (mP2 (inD false) (.v 1) (.e (mC (.str [34, 92]))))))) (mVar 1)) [1])))) (mC (.str [34]))))
def F__law_quoted : List D → RF := runF 2 [] m__law_quoted
def m__law_plain : Cm Out := (mSeq (mIf (mTest (mCall F__law_is_atom [.p 0]))
  (mRet (mMove 0))
  mNext)
  (mRet (mCall F__law_quoted [.e (mMove 0)])))
def F__law_plain : List D → RF := runF 1 [] m__law_plain
def m__law_title : Cm Out := (mSeq (mSet 3 (mIdx (.e (mLst [(mC (.int 0)), (mC (.int 2)), (mC (.int 7)), (mC (.int 18)), (mC (.int 19))])) (mCall F__law_next [.s 0, .e (mC (.int 5))])))
  (mRet (mBin addD (mCall F__law_signs [.s 0, .e (mMove 1), .e (mC (.int 1))]) (mCall F__law_signs [.s 0, .e (mBin addD (mC (.str [97, 98, 121, 122, 48, 53, 57, 45])) (mMove 2)), .e (mMove 3)]))))
def F__law_title : List D → RF := runF 4 [0] m__law_title
def m__law_kind : Cm Out := (mSeq (mSet 2 (mLst []))
  (mSeq (mFor (mRange1 (mCall F__law_next [.s 0, .e (mBin addD (mVar 1) (mC (.int 1)))])) (mPut 3)
  (mSeq (mSet 4 (mCall F__law_title [.s 0, .e (mIdx (.e (mC (.str [97, 98, 99, 100, 101, 102, 103, 104]))) (mVar 3)), .e (mC (.str []))]))
  (mSeq (mSet 5 (mIdx (.e (mLst [(mC (.str [97, 98, 90, 57, 46, 47, 61, 63, 39, 95])), (mC (.str [97, 98, 32, 34, 92, 59, 61, 42, 40, 41])), (mC (.str [97, 66, 57, 32]))])) (mCall F__law_next [.s 0, .e (mC (.int 3))])))
  (mSeq (mSet 6 (mIdx (.e (mLst [(mC (.int 0)), (mC (.int 1)), (mC (.int 5)), (mC (.int 39)), (mC (.int 40)), (mC (.int 41)), (mC (.int 79)), (mC (.int 80)), (mC (.int 81)), (mCall F__law_next [.s 0, .e (mC (.int 140))])])) (mCall F__law_next [.s 0, .e (mC (.int 10))])))
  (mSeq (mIf (mAnd (mTest (mP2 eqD (.e (mCall F__law_next [.s 0, .e (mC (.int 24))])) (.e (mC (.int 0))))) (mTest (mP2 ltD (.e (mP1 sumD (.e (mLcI 2 (mUnp [mPut 7, mPut 8]) mYes (mP1 lenD (.v 8)) [7, 8])))) (.e (mC (.int 300))))))
  (mSet 6 (mBin addD (mC (.int 400)) (mCall F__law_next [.s 0, .e (mC (.int 130))])))
  mNext)
  (mDrop (mApp 2 (mTup [(mVar 4), (mCall F__law_signs [.s 0, .p 5, .p 6])]))))))))
  (mRet (mTup [(mCall F__law_title [.s 0, .e (mC (.str [97, 98, 100, 116])), .e (mC (.str [43]))]), (mCall F__law_title [.s 0, .e (mC (.str [97, 98, 120, 121])), .e (mC (.str [43]))]), (mMove 2)]))))
def F__law_kind : List D → RF := runF 9 [0] m__law_kind
def m__law_due : Cm Out := (mSeq (mAsg (mVar 0) (mTupT [(mPut 1), (mPut 2), (mPut 3)]))
  (mSeq (mSet 4 (mBin addD (mBin addD (mVar 1) (mC (.str [47]))) (mVar 2)))
  (mSeq (mFor (mItemsL (mVar 3)) (mTupT [(mPut 5), (mPut 6)])
  (mIf (mTest (mP2 leD (.e (mP1 lenD (.v 6))) (.e (mC (.int 40)))))
  (mSet 4 (mBin addD (mBin addD (mBin addD (mBin addD (mVar 4) (mC (.str [59, 32]))) (mVar 5)) (mC (.str [61]))) (mCall F__law_plain [.p 6])))
  (mFor (mRange3 (mC (.int 0)) (mP1 lenD (.v 6)) (mC (.int 40))) (mPut 7)
  (mSeq (mSet 4 (mBin addD (mBin addD (mBin addD (mBin addD (mBin addD (mVar 4) (mC (.str [59, 32]))) (mVar 5)) (mC (.str [42]))) (mP1 strD (.e (mBin fdivD (mVar 7) (mC (.int 40)))))) (mC (.str [61]))))
  (mSet 4 (mBin addD (mVar 4) (mCall F__law_plain [.e (mSlc (.v 6) (some (mVar 7)) (some (mBin addD (mVar 7) (mC (.int 40)))))])))))))
  (mRet (mMove 4)))))
def F__law_due : List D → RF := runF 8 [] m__law_due
def m_law : Cm Out := (mSeq (mFor (mRange1 (mBin maxD (mC (.int 1)) (mBin minD (mC (.int 10)) (mP1 lenD (.v 0))))) (mPut 1)
  (mSeq (mSet 2 (mCall F__law_source [.p 0, .p 1]))
  (mSeq (mSet 3 (mCall F__law_kind [.s 2, .e (mC (.int 6))]))
  (mSeq (mSet 4 (mP1 reprD (.v 3)))
  (mFor (mRange1 (mC (.int 2))) (mPut 5)
  (mSeq (mSet 6 (mCall F_show_kind [.p 3]))
  (mIf (mOr (mNot (mTest (mP1 (isTy .str) (.v 6)))) (mOr (mTest (mP2 neD (.v 6) (.e (mCall F__law_due [.p 3])))) (mTest (mP2 neD (.e (mP1 reprD (.v 3))) (.v 4)))))
  (mRet (mC (.bl false)))
  mNext)))))))
  (mRet (mP2 eqD (.e (mCall F_show_kind [.e (mTup [(mC (.str [97])), (mC (.str [98])), (mLst [])])])) (.e (mC (.str [97, 47, 98]))))))
def F_law : List D → RF := runF 7 [] m_law
end K31


namespace K31
open PySem PySem.Spec PyProof.Rows L2 VS
def topS (i : Nat) : Stmt := PySem.Challenge.pw_foldletter_k31_kinds_shown.main.body.getD i (.Pass ⟨0, 0, 0, 0⟩)
theorem g_ATOM_SIGNS : (Sc.str k_ATOM_SIGNS).good := ⟨by decide +kernel, by decide +kernel⟩
theorem g_KEY_SIGNS : (Sc.str k_KEY_SIGNS).good := ⟨by decide +kernel, by decide +kernel⟩
theorem g_SMALL : (Sc.str k_SMALL).good := ⟨by decide +kernel, by decide +kernel⟩
structure Tx (K : PySem.W.Frag) (mg : Str → Option Value) (c : Cfg) : Prop where
  hK : c.K = K
  f_all : mg "all" = none
  f_enumerate : mg "enumerate" = none
  f_int : mg "int" = none
  f_isinstance : mg "isinstance" = none
  f_len : mg "len" = none
  f_list : mg "list" = none
  f_max : mg "max" = none
  f_min : mg "min" = none
  f_range : mg "range" = none
  f_repr : mg "repr" = none
  f_set : mg "set" = none
  f_str : mg "str" = none
  f_sum : mg "sum" = none
  f_tuple : mg "tuple" = none
  c_ATOM_SIGNS : ∃ t, mg "ATOM_SIGNS" = some (.str ⟨k_ATOM_SIGNS.toArray⟩ t)
  c_KEY_SIGNS : ∃ t, mg "KEY_SIGNS" = some (.str ⟨k_KEY_SIGNS.toArray⟩ t)
  c_MOST_OF_TITLE : ∃ t, mg "MOST_OF_TITLE" = some (.int 20 t)
  c_PIECE : ∃ t, mg "PIECE" = some (.int 40 t)
  c_SMALL : ∃ t, mg "SMALL" = some (.str ⟨k_SMALL.toArray⟩ t)
section
variable {P : Program} {w : World} {K : PySem.W.Frag} {mg : Str → Option Value} {base : Heap} {c : Cfg}
def N_is_line : List Str := ["thing"]
abbrev s_is_line : Stmt := topS 4
theorem sc_is_line : FnScope N_is_line ["thing"] (defScope s_is_line) := ⟨rfl, rfl, rfl, by decide +kernel, rfl, by decide +kernel, by decide +kernel⟩
def N_is_of : List Str := ["text", "signs", "sign"]
abbrev s_is_of : Stmt := topS 5
theorem sc_is_of : FnScope N_is_of ["text", "signs"] (defScope s_is_of) := ⟨rfl, rfl, rfl, by decide +kernel, rfl, by decide +kernel, by decide +kernel⟩
def N_is_atom : List Str := ["text"]
abbrev s_is_atom : Stmt := topS 11
theorem sc_is_atom : FnScope N_is_atom ["text"] (defScope s_is_atom) := ⟨rfl, rfl, rfl, by decide +kernel, rfl, by decide +kernel, by decide +kernel⟩
def N_quoted_in : List Str := ["text"]
abbrev s_quoted_in : Stmt := topS 12
theorem sc_quoted_in : FnScope N_quoted_in ["text"] (defScope s_quoted_in) := ⟨rfl, rfl, rfl, by decide +kernel, rfl, by decide +kernel, by decide +kernel⟩
def N_is_title : List Str := ["thing", "signs"]
abbrev s_is_title : Stmt := topS 17
theorem sc_is_title : FnScope N_is_title ["thing", "signs"] (defScope s_is_title) := ⟨rfl, rfl, rfl, by decide +kernel, rfl, by decide +kernel, by decide +kernel⟩
def N_is_pair : List Str := ["thing"]
abbrev s_is_pair : Stmt := topS 18
theorem sc_is_pair : FnScope N_is_pair ["thing"] (defScope s_is_pair) := ⟨rfl, rfl, rfl, by decide +kernel, rfl, by decide +kernel, by decide +kernel⟩
def N_is_kind : List Str := ["thing", "pair"]
abbrev s_is_kind : Stmt := topS 19
theorem sc_is_kind : FnScope N_is_kind ["thing"] (defScope s_is_kind) := ⟨rfl, rfl, rfl, by decide +kernel, rfl, by decide +kernel, by decide +kernel⟩
def N_show_pair : List Str := ["name", "value", "found", "number", "at"]
abbrev s_show_pair : Stmt := topS 20
theorem sc_show_pair : FnScope N_show_pair ["name", "value"] (defScope s_show_pair) := ⟨rfl, rfl, rfl, by decide +kernel, rfl, by decide +kernel, by decide +kernel⟩
def N_show_kind : List Str := ["kind", "main", "sub", "pairs", "name", "value"]
abbrev s_show_kind : Stmt := topS 21
theorem sc_show_kind : FnScope N_show_kind ["kind"] (defScope s_show_kind) := ⟨rfl, rfl, rfl, by decide +kernel, rfl, by decide +kernel, by decide +kernel⟩
def N__law_cell_at : List Str := ["_law_script", "_law_k"]
abbrev s__law_cell_at : Stmt := topS 23
theorem sc__law_cell_at : FnScope N__law_cell_at ["_law_script", "_law_k"] (defScope s__law_cell_at) := ⟨rfl, rfl, rfl, by decide +kernel, rfl, by decide +kernel, by decide +kernel⟩
def N__law_mixed : List Str := ["_law_cell", "_law_k", "_law_low"]
abbrev s__law_mixed : Stmt := topS 24
theorem sc__law_mixed : FnScope N__law_mixed ["_law_cell", "_law_k"] (defScope s__law_mixed) := ⟨rfl, rfl, rfl, by decide +kernel, rfl, by decide +kernel, by decide +kernel⟩
def N__law_source : List Str := ["_law_script", "_law_k", "_law_cell"]
abbrev s__law_source : Stmt := topS 25
theorem sc__law_source : FnScope N__law_source ["_law_script", "_law_k"] (defScope s__law_source) := ⟨rfl, rfl, rfl, by decide +kernel, rfl, by decide +kernel, by decide +kernel⟩
def N__law_next : List Str := ["_law_source_here", "_law_many", "_law_found"]
abbrev s__law_next : Stmt := topS 26
theorem sc__law_next : FnScope N__law_next ["_law_source_here", "_law_many"] (defScope s__law_next) := ⟨rfl, rfl, rfl, by decide +kernel, rfl, by decide +kernel, by decide +kernel⟩
def N__law_signs : List Str := ["_law_source_here", "_law_signs_here", "_law_many", "_law_k"]
abbrev s__law_signs : Stmt := topS 27
theorem sc__law_signs : FnScope N__law_signs ["_law_source_here", "_law_signs_here", "_law_many"] (defScope s__law_signs) := ⟨rfl, rfl, rfl, by decide +kernel, rfl, by decide +kernel, by decide +kernel⟩
def N__law_is_atom : List Str := ["_law_text", "_law_signs_here", "_law_sign"]
abbrev s__law_is_atom : Stmt := topS 28
theorem sc__law_is_atom : FnScope N__law_is_atom ["_law_text"] (defScope s__law_is_atom) := ⟨rfl, rfl, rfl, by decide +kernel, rfl, by decide +kernel, by decide +kernel⟩
def N__law_quoted : List Str := ["_law_text", "_law_sign"]
abbrev s__law_quoted : Stmt := topS 29
theorem sc__law_quoted : FnScope N__law_quoted ["_law_text"] (defScope s__law_quoted) := ⟨rfl, rfl, rfl, by decide +kernel, rfl, by decide +kernel, by decide +kernel⟩
def N__law_plain : List Str := ["_law_text"]
abbrev s__law_plain : Stmt := topS 30
theorem sc__law_plain : FnScope N__law_plain ["_law_text"] (defScope s__law_plain) := ⟨rfl, rfl, rfl, by decide +kernel, rfl, by decide +kernel, by decide +kernel⟩
def N__law_title : List Str := ["_law_source_here", "_law_first", "_law_signs_here", "_law_many"]
abbrev s__law_title : Stmt := topS 31
theorem sc__law_title : FnScope N__law_title ["_law_source_here", "_law_first", "_law_signs_here"] (defScope s__law_title) := ⟨rfl, rfl, rfl, by decide +kernel, rfl, by decide +kernel, by decide +kernel⟩
def N__law_kind : List Str := ["_law_source_here", "_law_most", "_law_pairs", "_law_k", "_law_name", "_law_signs_here", "_law_many", "_law_one", "_law_value"]
abbrev s__law_kind : Stmt := topS 32
theorem sc__law_kind : FnScope N__law_kind ["_law_source_here", "_law_most"] (defScope s__law_kind) := ⟨rfl, rfl, rfl, by decide +kernel, rfl, by decide +kernel, by decide +kernel⟩
def N__law_due : List Str := ["_law_given", "_law_main", "_law_side", "_law_pairs", "_law_found", "_law_name", "_law_value", "_law_at"]
abbrev s__law_due : Stmt := topS 33
theorem sc__law_due : FnScope N__law_due ["_law_given"] (defScope s__law_due) := ⟨rfl, rfl, rfl, by decide +kernel, rfl, by decide +kernel, by decide +kernel⟩
def N_law : List Str := ["_law_script", "_law_k", "_law_source_here", "_law_kind_here", "_law_kept", "_law_turn", "_law_found"]
abbrev s_law : Stmt := topS 34
theorem sc_law : FnScope N_law ["_law_script"] (defScope s_law) := ⟨rfl, rfl, rfl, by decide +kernel, rfl, by decide +kernel, by decide +kernel⟩
theorem ok_is_line (T : Tx K mg c) {fa : Addr} {fd : FuncData} (A : At K mg "is_line" s_is_line ["thing"] fa fd) :
    FnOk P w K mg base (L2.CX P w) 1 fa fd ["thing"] (spM c 1 [] F_is_line) := by
  refine fn_okD (N := N_is_line) (m := m_is_line) A.F sc_is_line rfl (by decide) (by decide) (by decide) fun g cdv Ar outer s H E hr hc0 hN hio => ?_
  have hc : g.c = c := hc0
  subst hc0
  have hK : K = g.c.K := T.hK.symm
  exact (ss_one (s_ret (e_and (e_isi (y := .str) (by decide +kernel) hK (by rfl) T.f_isinstance (by rfl) T.f_str (o_var (pv 0)) (by decide) (by decide)) (pe_one (e_cmp (OpR.or op_notin_str op_notIn_seq) (hq_notin hK) (o_e (e_str (by decide +kernel) ⟨by decide, by decide⟩)) (o_var (pv 0)) (by rfl))))))
theorem ok_is_of (T : Tx K mg c) {fa : Addr} {fd : FuncData} (A : At K mg "is_of" s_is_of ["text", "signs"] fa fd) :
    FnOk P w K mg base (L2.CX P w) 1 fa fd ["text", "signs"] (spM c 2 [] F_is_of) := by
  refine fn_okD (N := N_is_of) (m := m_is_of) A.F sc_is_of rfl (by decide) (by decide) (by decide) fun g cdv Ar outer s H E hr hc0 hN hio => ?_
  have hc : g.c = c := hc0
  subst hc0
  have hK : K = g.c.K := T.hK.symm
  exact (ss_one (s_ret (e_b1 (cr_all rfl) (hr_all hK) (by rfl) T.f_all (by decide +kernel) (o_e (e_lc (own := [("sign", 2)]) rfl sc_is_of.nd (i_str (e_var (pv 0))) (blkOk_by (own := [("sign", 2)]) (N := N_is_of) (sc := defScope s_is_of) (by decide +kernel)) (fun _ _ _ _ _ => pg_name (i := 2) sc_is_of.nd rfl (by first | exact .inl rfl | exact .inr rfl)) (fun _ _ _ _ _ => ts_nil) (fun _ _ _ _ _ => (e_cmp (OpR.or op_in_str op_in_seq) (hq_in hK) (o_var (pv 2)) (o_var (pv 1)) (by rfl))) (by decide) (comp_io hio (by decide)) (hg_name (by rw [hN]; decide) (not_io hio (by decide))))))))
theorem ok_is_atom (T : Tx K mg c) {fa : Addr} {fd : FuncData} (A : At K mg "is_atom" s_is_atom ["text"] fa fd)
    {a_is_of : Addr} {fd_is_of : FuncData} (A_is_of : At K mg "is_of" s_is_of ["text", "signs"] a_is_of fd_is_of) (G_is_of : FnOk P w K mg base (L2.CX P w) 1 a_is_of fd_is_of ["text", "signs"] (spM c 2 [] F_is_of)) :
    FnOk P w K mg base (L2.CX P w) 2 fa fd ["text"] (spM c 1 [] F_is_atom) := by
  refine fn_okD (N := N_is_atom) (m := m_is_atom) A.F sc_is_atom rfl (by decide) (by decide) (by decide) fun g cdv Ar outer s H E hr hc0 hN hio => ?_
  have hc : g.c = c := hc0
  subst hc0
  have hK : K = g.c.K := T.hK.symm
  exact (ss_one (s_ret (e_and (e_cmp (op_neD hr.units) (hq_ne hK) (o_var (pv 0)) (o_e (e_str (by decide +kernel) ⟨by decide, by decide⟩)) (nomark _)) (pe_one (e_call G_is_of (hr.mono (by decide)) (by rfl) A_is_of.g A_is_of.F.kp A_is_of.b (takes_of rfl rfl rfl rfl) (as_p (pv 0) (as_e (e_gS2 rfl g_ATOM_SIGNS T.c_ATOM_SIGNS) as_nil)) hc rfl rfl (by decide))))))
theorem ok_quoted_in (T : Tx K mg c) {fa : Addr} {fd : FuncData} (A : At K mg "quoted_in" s_quoted_in ["text"] fa fd)
    {a_is_atom : Addr} {fd_is_atom : FuncData} (A_is_atom : At K mg "is_atom" s_is_atom ["text"] a_is_atom fd_is_atom) (G_is_atom : FnOk P w K mg base (L2.CX P w) 2 a_is_atom fd_is_atom ["text"] (spM c 1 [] F_is_atom)) :
    FnOk P w K mg base (L2.CX P w) 3 fa fd ["text"] (spM c 1 [] F_quoted_in) := by
  refine fn_okD (N := N_quoted_in) (m := m_quoted_in) A.F sc_quoted_in rfl (by decide) (by decide) (by decide) fun g cdv Ar outer s H E hr hc0 hN hio => ?_
  have hc : g.c = c := hc0
  subst hc0
  have hK : K = g.c.K := T.hK.symm
  exact (ss_cons (s_if (t_val (e_call G_is_atom (hr.mono (by decide)) (by rfl) A_is_atom.g A_is_atom.F.kp A_is_atom.b (takes_of rfl rfl rfl rfl) (as_p (pv 0) as_nil) hc rfl rfl (by decide)))
  (ss_one (s_ret (e_move (pv 0))))
  ss_nil)
  (ss_one (s_ret (e_add (e_addT (by rfl) ⟨by decide +kernel, by decide +kernel⟩ (e_repl2 (y := [34]) (z := [92, 34]) (by rfl) (by rfl) (by decide) (e_repl1 (y := [92]) (z := [92, 92]) (by rfl) (by rfl) (by decide) (e_move (pv 0))))) (e_str (by decide +kernel) ⟨by decide, by decide⟩)))))
theorem ok_is_title (T : Tx K mg c) {fa : Addr} {fd : FuncData} (A : At K mg "is_title" s_is_title ["thing", "signs"] fa fd)
    {a_is_of : Addr} {fd_is_of : FuncData} (A_is_of : At K mg "is_of" s_is_of ["text", "signs"] a_is_of fd_is_of) (G_is_of : FnOk P w K mg base (L2.CX P w) 1 a_is_of fd_is_of ["text", "signs"] (spM c 2 [] F_is_of)) :
    FnOk P w K mg base (L2.CX P w) 2 fa fd ["thing", "signs"] (spM c 2 [] F_is_title) := by
  refine fn_okD (N := N_is_title) (m := m_is_title) A.F sc_is_title rfl (by decide) (by decide) (by decide) fun g cdv Ar outer s H E hr hc0 hN hio => ?_
  have hc : g.c = c := hc0
  subst hc0
  have hK : K = g.c.K := T.hK.symm
  exact (ss_cons (s_if (PW.pt (w_or (t_not (t_val (e_isi (y := .str) (by decide +kernel) hK (by rfl) T.f_isinstance (by rfl) T.f_str (o_var (pv 0)) (by decide) (by decide)))) (pw_or1 (t_not (t_chain op_le op_le hr_int hr_int e_int (e_b1 call_len (hr_len hK) (by rfl) T.f_len (by decide +kernel) (o_var (pv 0))) (e_gI2 rfl T.c_MOST_OF_TITLE))))))
  (ss_one (s_ret e_bl))
  ss_nil)
  (ss_one (s_ret (e_and (e_cmp (OpR.or op_in_str op_in_seq) (hq_in hK) (o_e (e_idx (o_var (pv 0)) e_int hK)) (o_e (e_gS2 rfl g_SMALL T.c_SMALL)) (by rfl)) (pe_one (e_call G_is_of (hr.mono (by decide)) (by rfl) A_is_of.g A_is_of.F.kp A_is_of.b (takes_of rfl rfl rfl rfl) (as_p (pv 0) (as_e (e_move (pv 1)) as_nil)) hc rfl rfl (by decide)))))))
theorem ok_is_pair (T : Tx K mg c) {fa : Addr} {fd : FuncData} (A : At K mg "is_pair" s_is_pair ["thing"] fa fd)
    {a_is_title : Addr} {fd_is_title : FuncData} (A_is_title : At K mg "is_title" s_is_title ["thing", "signs"] a_is_title fd_is_title) (G_is_title : FnOk P w K mg base (L2.CX P w) 2 a_is_title fd_is_title ["thing", "signs"] (spM c 2 [] F_is_title))
    {a_is_line : Addr} {fd_is_line : FuncData} (A_is_line : At K mg "is_line" s_is_line ["thing"] a_is_line fd_is_line) (G_is_line : FnOk P w K mg base (L2.CX P w) 1 a_is_line fd_is_line ["thing"] (spM c 1 [] F_is_line)) :
    FnOk P w K mg base (L2.CX P w) 3 fa fd ["thing"] (spM c 1 [] F_is_pair) := by
  refine fn_okD (N := N_is_pair) (m := m_is_pair) A.F sc_is_pair rfl (by decide) (by decide) (by decide) fun g cdv Ar outer s H E hr hc0 hN hio => ?_
  have hc : g.c = c := hc0
  subst hc0
  have hK : K = g.c.K := T.hK.symm
  exact (ss_one (s_ret (e_and (e_isi (y := .tuple) (by decide +kernel) hK (by rfl) T.f_isinstance (by rfl) T.f_tuple (o_var (pv 0)) (by decide) (by decide)) (e_and (e_cmp (op_eqD hr.units) (hq_eq hK) (o_e (e_b1 call_len (hr_len hK) (by rfl) T.f_len (by decide +kernel) (o_var (pv 0)))) (o_e e_int) (nomark _)) (e_and (e_call G_is_title (hr.mono (by decide)) (by rfl) A_is_title.g A_is_title.F.kp A_is_title.b (takes_of rfl rfl rfl rfl) (as_e (e_idx (o_var (pv 0)) e_int hK) (as_e (e_gS2 rfl g_KEY_SIGNS T.c_KEY_SIGNS) as_nil)) hc rfl rfl (by decide)) (pe_one (e_call G_is_line (hr.mono (by decide)) (by rfl) A_is_line.g A_is_line.F.kp A_is_line.b (takes_of rfl rfl rfl rfl) (as_e (e_idx (o_var (pv 0)) e_int hK) as_nil) hc rfl rfl (by decide))))))))
theorem ok_is_kind (T : Tx K mg c) {fa : Addr} {fd : FuncData} (A : At K mg "is_kind" s_is_kind ["thing"] fa fd)
    {a_is_title : Addr} {fd_is_title : FuncData} (A_is_title : At K mg "is_title" s_is_title ["thing", "signs"] a_is_title fd_is_title) (G_is_title : FnOk P w K mg base (L2.CX P w) 2 a_is_title fd_is_title ["thing", "signs"] (spM c 2 [] F_is_title))
    {a_is_pair : Addr} {fd_is_pair : FuncData} (A_is_pair : At K mg "is_pair" s_is_pair ["thing"] a_is_pair fd_is_pair) (G_is_pair : FnOk P w K mg base (L2.CX P w) 3 a_is_pair fd_is_pair ["thing"] (spM c 1 [] F_is_pair)) :
    FnOk P w K mg base (L2.CX P w) 4 fa fd ["thing"] (spM c 1 [] F_is_kind) := by
  refine fn_okD (N := N_is_kind) (m := m_is_kind) A.F sc_is_kind rfl (by decide) (by decide) (by decide) fun g cdv Ar outer s H E hr hc0 hN hio => ?_
  have hc : g.c = c := hc0
  subst hc0
  have hK : K = g.c.K := T.hK.symm
  exact (ss_cons (s_if (PW.pt (w_or (t_not (t_val (e_isi (y := .tuple) (by decide +kernel) hK (by rfl) T.f_isinstance (by rfl) T.f_tuple (o_var (pv 0)) (by decide) (by decide)))) (w_or (t_cmp (op_neD hr.units) (hq_ne hK) (o_e (e_b1 call_len (hr_len hK) (by rfl) T.f_len (by decide +kernel) (o_var (pv 0)))) (o_e e_int) (nomark _)) (pw_or1 (t_not (t_val (e_isi (y := .list) (by decide +kernel) hK (by rfl) T.f_isinstance (by rfl) T.f_list (o_e (e_idx (o_var (pv 0)) e_int hK)) (by decide) (by decide))))))))
  (ss_one (s_ret e_bl))
  ss_nil)
  (ss_cons (s_if (PW.pt (w_or (t_not (t_val (e_call G_is_title (hr.mono (by decide)) (by rfl) A_is_title.g A_is_title.F.kp A_is_title.b (takes_of rfl rfl rfl rfl) (as_e (e_idx (o_var (pv 0)) e_int hK) (as_e (e_add (e_gS2 rfl g_KEY_SIGNS T.c_KEY_SIGNS) (e_str (by decide +kernel) ⟨by decide, by decide⟩)) as_nil)) hc rfl rfl (by decide)))) (pw_or1 (t_not (t_val (e_call G_is_title (hr.mono (by decide)) (by rfl) A_is_title.g A_is_title.F.kp A_is_title.b (takes_of rfl rfl rfl rfl) (as_e (e_idx (o_var (pv 0)) e_int hK) (as_e (e_add (e_gS2 rfl g_KEY_SIGNS T.c_KEY_SIGNS) (e_str (by decide +kernel) ⟨by decide, by decide⟩)) as_nil)) hc rfl rfl (by decide)))))))
  (ss_one (s_ret e_bl))
  ss_nil)
  (ss_cons (s_if (t_not (t_val (e_b1 (cr_all rfl) (hr_all hK) (by rfl) T.f_all (by decide +kernel) (o_e (e_lc (own := [("pair", 1)]) rfl sc_is_kind.nd (i_list hK (e_idx (o_var (pv 0)) e_int hK)) (blkOk_by (own := [("pair", 1)]) (N := N_is_kind) (sc := defScope s_is_kind) (by decide +kernel)) (fun _ _ _ _ _ => pg_name (i := 1) sc_is_kind.nd rfl (by first | exact .inl rfl | exact .inr rfl)) (fun _ _ _ _ _ => ts_nil) (fun _ _ _ _ _ => (e_call G_is_pair (hr.mono (by decide)) (by rfl) A_is_pair.g A_is_pair.F.kp A_is_pair.b takes0 (as_p (pv 1) as_nil) hc rfl rfl (by decide))) (by decide) (comp_io hio (by decide)) (hg_name (by rw [hN]; decide) (not_io hio (by decide))))))))
  (ss_one (s_ret e_bl))
  ss_nil)
  (ss_one (s_ret (e_cmp (op_eqD hr.units) (hq_eq hK) (o_e (e_dist hK rfl (by rfl) T.f_len (by rfl) T.f_set (e_lc (own := [("pair", 1)]) rfl sc_is_kind.nd (i_list hK (e_idx (o_var (pv 0)) e_int hK)) (blkOk_by (own := [("pair", 1)]) (N := N_is_kind) (sc := defScope s_is_kind) (by decide +kernel)) (fun _ _ _ _ _ => pg_name (i := 1) sc_is_kind.nd rfl (by first | exact .inl rfl | exact .inr rfl)) (fun _ _ _ _ _ => ts_nil) (fun _ _ _ _ _ => (e_idx (o_var (pv 1)) e_int hK)) (by decide) (comp_io hio (by decide)) (hg_name (by rw [hN]; decide) (not_io hio (by decide)))))) (o_e (e_b1 call_len (hr_len hK) (by rfl) T.f_len (by decide +kernel) (o_e (e_idx (o_var (pv 0)) e_int hK)))) (nomark _)))))))
theorem ok_show_pair (T : Tx K mg c) {fa : Addr} {fd : FuncData} (A : At K mg "show_pair" s_show_pair ["name", "value"] fa fd)
    {a_quoted_in : Addr} {fd_quoted_in : FuncData} (A_quoted_in : At K mg "quoted_in" s_quoted_in ["text"] a_quoted_in fd_quoted_in) (G_quoted_in : FnOk P w K mg base (L2.CX P w) 3 a_quoted_in fd_quoted_in ["text"] (spM c 1 [] F_quoted_in)) :
    FnOk P w K mg base (L2.CX P w) 4 fa fd ["name", "value"] (spM c 2 [] F_show_pair) := by
  refine fn_okD (N := N_show_pair) (m := m_show_pair) A.F sc_show_pair rfl (by decide) (by decide) (by decide) fun g cdv Ar outer s H E hr hc0 hN hio => ?_
  have hc : g.c = c := hc0
  subst hc0
  have hK : K = g.c.K := T.hK.symm
  exact (ss_cons (s_if (t_cmp op_le hr_int (o_e (e_b1 call_len (hr_len hK) (by rfl) T.f_len (by decide +kernel) (o_var (pv 1)))) (o_e (e_gI2 rfl T.c_PIECE)) (nomark _))
  (ss_one (s_ret (e_add (e_add (e_add (e_str (by decide +kernel) ⟨by decide, by decide⟩) (e_move (pv 0))) (e_str (by decide +kernel) ⟨by decide, by decide⟩)) (e_call G_quoted_in (hr.mono (by decide)) (by rfl) A_quoted_in.g A_quoted_in.F.kp A_quoted_in.b (takes_of rfl rfl rfl rfl) (as_e (e_move (pv 1)) as_nil) hc rfl rfl (by decide)))))
  ss_nil)
  (ss_cons (s_set (ps_set (i := 2) sc_show_pair.nd rfl (by first | exact .inl rfl | exact .inr rfl) (e_str (by decide +kernel) ⟨by decide, by decide⟩)) (by rw [hN]; decide) (not_io hio (by decide)))
  (ss_cons (s_for (passes_of rfl) rfl (i_enumR (by rfl) T.f_enumerate (by rfl) T.f_range (a_cons e_int (a_cons (e_b1 call_len (hr_len hK) (by rfl) T.f_len (by decide +kernel) (o_var (pv 1))) (a_cons (e_gI2 rfl T.c_PIECE) a_nil)))) (g_tupT rfl (gs_cons (g_name (pg_name (i := 3) sc_show_pair.nd rfl (by first | exact .inl rfl | exact .inr rfl)) (by rw [hN]; decide) (not_io hio (by decide))) (gs_cons (g_name (pg_name (i := 4) sc_show_pair.nd rfl (by first | exact .inl rfl | exact .inr rfl)) (by rw [hN]; decide) (not_io hio (by decide))) gs_nil)) hK)
  (ss_one (s_augA (ps_aug (i := 2) sc_show_pair.nd rfl (by first | exact .inl rfl | exact .inr rfl) (e_add (e_add (e_add (e_add (e_add (e_str (by decide +kernel) ⟨by decide, by decide⟩) (e_var (pv 0))) (e_str (by decide +kernel) ⟨by decide, by decide⟩)) (e_t1 call_strA hr_strA (by rfl) T.f_str (by decide +kernel) (o_var (pv 3)))) (e_str (by decide +kernel) ⟨by decide, by decide⟩)) (e_call G_quoted_in (hr.mono (by decide)) (by rfl) A_quoted_in.g A_quoted_in.F.kp A_quoted_in.b (takes_of rfl rfl rfl rfl) (as_e (e_slc (o_var (pv 1)) (p_some (e_var (pv 4))) (p_some (e_add (e_var (pv 4)) (e_gI2 rfl T.c_PIECE))) hK.symm.symm) as_nil) hc rfl rfl (by decide))) ip_addA) (by rw [hN]; decide) (not_io hio (by decide)))))
  (ss_one (s_ret (e_move (pv 2)))))))
theorem ok_show_kind (T : Tx K mg c) {fa : Addr} {fd : FuncData} (A : At K mg "show_kind" s_show_kind ["kind"] fa fd)
    {a_is_kind : Addr} {fd_is_kind : FuncData} (A_is_kind : At K mg "is_kind" s_is_kind ["thing"] a_is_kind fd_is_kind) (G_is_kind : FnOk P w K mg base (L2.CX P w) 4 a_is_kind fd_is_kind ["thing"] (spM c 1 [] F_is_kind))
    {a_show_pair : Addr} {fd_show_pair : FuncData} (A_show_pair : At K mg "show_pair" s_show_pair ["name", "value"] a_show_pair fd_show_pair) (G_show_pair : FnOk P w K mg base (L2.CX P w) 4 a_show_pair fd_show_pair ["name", "value"] (spM c 2 [] F_show_pair)) :
    FnOk P w K mg base (L2.CX P w) 5 fa fd ["kind"] (spM c 1 [] F_show_kind) := by
  refine fn_okD (N := N_show_kind) (m := m_show_kind) A.F sc_show_kind rfl (by decide) (by decide) (by decide) fun g cdv Ar outer s H E hr hc0 hN hio => ?_
  have hc : g.c = c := hc0
  subst hc0
  have hK : K = g.c.K := T.hK.symm
  exact (ss_cons (s_if (t_not (t_val (e_call G_is_kind (hr.mono (by decide)) (by rfl) A_is_kind.g A_is_kind.F.kp A_is_kind.b (takes_of rfl rfl rfl rfl) (as_p (pv 0) as_nil) hc rfl rfl (by decide))))
  (ss_one s_never)
  ss_nil)
  (ss_cons (s_asg (e_var (pv 0)) (g_tupT rfl (gs_cons (g_name (pg_name (i := 1) sc_show_kind.nd rfl (by first | exact .inl rfl | exact .inr rfl)) (by rw [hN]; decide) (not_io hio (by decide))) (gs_cons (g_name (pg_name (i := 2) sc_show_kind.nd rfl (by first | exact .inl rfl | exact .inr rfl)) (by rw [hN]; decide) (not_io hio (by decide))) (gs_cons (g_name (pg_name (i := 3) sc_show_kind.nd rfl (by first | exact .inl rfl | exact .inr rfl)) (by rw [hN]; decide) (not_io hio (by decide))) gs_nil))) hK))
  (ss_one (s_ret (e_add (e_add (e_add (e_move (pv 1)) (e_str (by decide +kernel) ⟨by decide, by decide⟩)) (e_move (pv 2))) (e_m PySem.F.slot_str_join PySem.F.type_str_join mt_join (hs_join hK) (o_e (e_str (by decide +kernel) ⟨by decide, by decide⟩)) (o_e (e_lc (own := [("name", 4), ("value", 5)]) rfl sc_show_kind.nd (i_list hK (e_var (pv 3))) (blkOk_by (own := [("name", 4), ("value", 5)]) (N := N_show_kind) (sc := defScope s_show_kind) (by decide +kernel)) (fun _ _ _ _ _ => pg_tup rfl (pgs_cons (pg_name (i := 4) sc_show_kind.nd rfl (by first | exact .inl rfl | exact .inr rfl)) (pgs_cons (pg_name (i := 5) sc_show_kind.nd rfl (by first | exact .inl rfl | exact .inr rfl)) pgs_nil))) (fun _ _ _ _ _ => ts_nil) (fun _ _ _ _ _ => (e_call G_show_pair (hr.mono (by decide)) (by rfl) A_show_pair.g A_show_pair.F.kp A_show_pair.b takes0 (as_p (pv 4) (as_p (pv 5) as_nil)) hc rfl rfl (by decide))) (by decide) (comp_io hio (by decide)) (hg_pair (by decide) (by rw [hN]; decide) (not_io hio (by decide)) (by rw [hN]; decide) (not_io hio (by decide)) hK)))))))))
theorem ok__law_cell_at (T : Tx K mg c) {fa : Addr} {fd : FuncData} (A : At K mg "_law_cell_at" s__law_cell_at ["_law_script", "_law_k"] fa fd) :
    FnOk P w K mg base (L2.CX P w) 1 fa fd ["_law_script", "_law_k"] (spM c 2 [] F__law_cell_at) := by
  refine fn_okD (N := N__law_cell_at) (m := m__law_cell_at) A.F sc__law_cell_at rfl (by decide) (by decide) (by decide) fun g cdv Ar outer s H E hr hc0 hN hio => ?_
  have hc : g.c = c := hc0
  subst hc0
  have hK : K = g.c.K := T.hK.symm
  exact (ss_cons (s_if (t_cmp op_lt hr_int (o_var (pv 1)) (o_e (e_b1 call_len (hr_len hK) (by rfl) T.f_len (by decide +kernel) (o_var (pv 0)))) (nomark _))
  (ss_one (s_ret (e_idx (o_var (pv 0)) (e_move (pv 1)) hK)))
  ss_nil)
  (ss_one (s_ret e_int)))
theorem ok__law_mixed (T : Tx K mg c) {fa : Addr} {fd : FuncData} (A : At K mg "_law_mixed" s__law_mixed ["_law_cell", "_law_k"] fa fd) :
    FnOk P w K mg base (L2.CX P w) 1 fa fd ["_law_cell", "_law_k"] (spM c 2 [] F__law_mixed) := by
  refine fn_okD (N := N__law_mixed) (m := m__law_mixed) A.F sc__law_mixed rfl (by decide) (by decide) (by decide) fun g cdv Ar outer s H E hr hc0 hN hio => ?_
  have hc : g.c = c := hc0
  subst hc0
  have hK : K = g.c.K := T.hK.symm
  exact (ss_cons (s_set (ps_set (i := 2) sc__law_mixed.nd rfl (by first | exact .inl rfl | exact .inr rfl) (e_add (e_mod (e_var (pv 0)) e_int) (e_mul (e_fdiv (e_var (pv 0)) e_int) e_int))) (by rw [hN]; decide) (not_io hio (by decide)))
  (ss_cons (s_set (ps_set (i := 2) sc__law_mixed.nd rfl (by first | exact .inl rfl | exact .inr rfl) (e_mod (e_mul (e_add (e_add (e_var (pv 2)) (e_mul e_int (e_var (pv 1)))) e_int) e_int) e_int)) (by rw [hN]; decide) (not_io hio (by decide)))
  (ss_cons (s_set (ps_set (i := 2) sc__law_mixed.nd rfl (by first | exact .inl rfl | exact .inr rfl) (e_mod (e_mul (e_var (pv 2)) (e_add (e_add (e_fdiv (e_var (pv 2)) e_int) e_int) (e_var (pv 1)))) e_int)) (by rw [hN]; decide) (not_io hio (by decide)))
  (ss_one (s_ret (e_mod (e_mul (e_var (pv 2)) (e_add (e_fdiv (e_var (pv 2)) e_int) e_int)) e_int))))))
theorem ok__law_source (T : Tx K mg c) {fa : Addr} {fd : FuncData} (A : At K mg "_law_source" s__law_source ["_law_script", "_law_k"] fa fd)
    {a__law_mixed : Addr} {fd__law_mixed : FuncData} (A__law_mixed : At K mg "_law_mixed" s__law_mixed ["_law_cell", "_law_k"] a__law_mixed fd__law_mixed) (G__law_mixed : FnOk P w K mg base (L2.CX P w) 1 a__law_mixed fd__law_mixed ["_law_cell", "_law_k"] (spM c 2 [] F__law_mixed))
    {a__law_cell_at : Addr} {fd__law_cell_at : FuncData} (A__law_cell_at : At K mg "_law_cell_at" s__law_cell_at ["_law_script", "_law_k"] a__law_cell_at fd__law_cell_at) (G__law_cell_at : FnOk P w K mg base (L2.CX P w) 1 a__law_cell_at fd__law_cell_at ["_law_script", "_law_k"] (spM c 2 [] F__law_cell_at)) :
    FnOk P w K mg base (L2.CX P w) 2 fa fd ["_law_script", "_law_k"] (spM c 2 [] F__law_source) := by
  refine fn_okD (N := N__law_source) (m := m__law_source) A.F sc__law_source rfl (by decide) (by decide) (by decide) fun g cdv Ar outer s H E hr hc0 hN hio => ?_
  have hc : g.c = c := hc0
  subst hc0
  have hK : K = g.c.K := T.hK.symm
  exact (ss_cons (s_if (t_cmp op_lt hr_int (o_var (pv 1)) (o_e (e_b1 call_len (hr_len hK) (by rfl) T.f_len (by decide +kernel) (o_var (pv 0)))) (nomark _))
  (ss_one (s_ret (e_lst (a_cons (e_idx (o_var (pv 0)) (e_var (pv 1)) hK) (a_cons (e_idx (o_var (pv 0)) (e_var (pv 1)) hK) (a_cons e_int a_nil))))))
  ss_nil)
  (ss_cons (s_set (ps_set (i := 2) sc__law_source.nd rfl (by first | exact .inl rfl | exact .inr rfl) (e_call G__law_mixed (hr.mono (by decide)) (by rfl) A__law_mixed.g A__law_mixed.F.kp A__law_mixed.b (takes_of rfl rfl rfl rfl) (as_e (e_call G__law_cell_at (hr.mono (by decide)) (by rfl) A__law_cell_at.g A__law_cell_at.F.kp A__law_cell_at.b (takes_of rfl rfl rfl rfl) (as_p (pv 0) (as_e e_int as_nil)) hc rfl rfl (by decide)) (as_e (e_add e_int (e_var (pv 1))) as_nil)) hc rfl rfl (by decide))) (by rw [hN]; decide) (not_io hio (by decide)))
  (ss_one (s_ret (e_lst (a_cons (e_var (pv 2)) (a_cons (e_var (pv 2)) (a_cons e_int a_nil))))))))
theorem ok__law_next (T : Tx K mg c) {fa : Addr} {fd : FuncData} (A : At K mg "_law_next" s__law_next ["_law_source_here", "_law_many"] fa fd)
    {a__law_mixed : Addr} {fd__law_mixed : FuncData} (A__law_mixed : At K mg "_law_mixed" s__law_mixed ["_law_cell", "_law_k"] a__law_mixed fd__law_mixed) (G__law_mixed : FnOk P w K mg base (L2.CX P w) 1 a__law_mixed fd__law_mixed ["_law_cell", "_law_k"] (spM c 2 [] F__law_mixed)) :
    FnOk P w K mg base (L2.CX P w) 2 fa fd ["_law_source_here", "_law_many"] (spM c 2 [0] F__law_next) := by
  refine fn_okD (N := N__law_next) (m := m__law_next) A.F sc__law_next rfl (by decide) (by decide) (by decide) fun g cdv Ar outer s H E hr hc0 hN hio => ?_
  have hc : g.c = c := hc0
  subst hc0
  have hK : K = g.c.K := T.hK.symm
  exact (ss_cons (s_if (t_cmp op_ge hr_int (o_e (e_idx (o_var (pv 0)) e_int hK)) (o_e (e_pow e_int e_int)) (nomark _))
  (ss_cons (s_set (ps_set (i := 2) sc__law_next.nd rfl (by first | exact .inl rfl | exact .inr rfl) (e_mod (e_idx (o_var (pv 0)) e_int hK) (e_var (pv 1)))) (by rw [hN]; decide) (not_io hio (by decide)))
  (ss_cons (s_asg (e_fdiv (e_idx (o_var (pv 0)) e_int hK) (e_var (pv 1))) (g_set (pg_sub (pv 0) e_int set_list)))
  (ss_one (s_ret (e_move (pv 2))))))
  ss_nil)
  (ss_cons (s_asg (e_add (e_idx (o_var (pv 0)) e_int hK) e_int) (g_set (pg_sub (pv 0) e_int set_list)))
  (ss_one (s_ret (e_mod (e_call G__law_mixed (hr.mono (by decide)) (by rfl) A__law_mixed.g A__law_mixed.F.kp A__law_mixed.b (takes_of rfl rfl rfl rfl) (as_e (e_idx (o_var (pv 0)) e_int hK) (as_e (e_idx (o_var (pv 0)) e_int hK) as_nil)) hc rfl rfl (by decide)) (e_move (pv 1)))))))
theorem ok__law_signs (T : Tx K mg c) {fa : Addr} {fd : FuncData} (A : At K mg "_law_signs" s__law_signs ["_law_source_here", "_law_signs_here", "_law_many"] fa fd)
    {a__law_next : Addr} {fd__law_next : FuncData} (A__law_next : At K mg "_law_next" s__law_next ["_law_source_here", "_law_many"] a__law_next fd__law_next) (G__law_next : FnOk P w K mg base (L2.CX P w) 2 a__law_next fd__law_next ["_law_source_here", "_law_many"] (spM c 2 [0] F__law_next)) :
    FnOk P w K mg base (L2.CX P w) 3 fa fd ["_law_source_here", "_law_signs_here", "_law_many"] (spM c 3 [0] F__law_signs) := by
  refine fn_okD (N := N__law_signs) (m := m__law_signs) A.F sc__law_signs rfl (by decide) (by decide) (by decide) fun g cdv Ar outer s H E hr hc0 hN hio => ?_
  have hc : g.c = c := hc0
  subst hc0
  have hK : K = g.c.K := T.hK.symm
  exact (ss_one (s_ret (e_m PySem.F.slot_str_join PySem.F.type_str_join mt_join (hs_join hK) (o_e (e_str (by decide +kernel) ⟨by decide, by decide⟩)) (o_e (e_lc (own := [("_law_k", 3)]) rfl sc__law_signs.nd (i_range1 (by rfl) T.f_range (a_cons (e_var (pv 2)) a_nil)) (blkOk_by (own := [("_law_k", 3)]) (N := N__law_signs) (sc := defScope s__law_signs) (by decide +kernel)) (fun _ _ _ _ _ => pg_name (i := 3) sc__law_signs.nd rfl (by first | exact .inl rfl | exact .inr rfl)) (fun _ _ _ _ _ => ts_nil) (fun _ _ _ _ _ => (e_idx (o_var (pv 1)) (e_call G__law_next (hr.mono (by decide)) (by rfl) A__law_next.g A__law_next.F.kp A__law_next.b takes0 (as_s (pv 0) (as_e (e_b1 call_len (hr_len hK) (by rfl) T.f_len (by decide +kernel) (o_var (pv 1))) as_nil)) hc rfl rfl (by decide)) hK)) (by decide) (comp_io hio (by decide)) (hg_name (by rw [hN]; decide) (not_io hio (by decide))))))))
theorem ok__law_is_atom (T : Tx K mg c) {fa : Addr} {fd : FuncData} (A : At K mg "_law_is_atom" s__law_is_atom ["_law_text"] fa fd) :
    FnOk P w K mg base (L2.CX P w) 1 fa fd ["_law_text"] (spM c 1 [] F__law_is_atom) := by
  refine fn_okD (N := N__law_is_atom) (m := m__law_is_atom) A.F sc__law_is_atom rfl (by decide) (by decide) (by decide) fun g cdv Ar outer s H E hr hc0 hN hio => ?_
  have hc : g.c = c := hc0
  subst hc0
  have hK : K = g.c.K := T.hK.symm
  exact (ss_cons (s_set (ps_set (i := 1) sc__law_is_atom.nd rfl (by first | exact .inl rfl | exact .inr rfl) (e_str (by decide +kernel) ⟨by decide, by decide⟩)) (by rw [hN]; decide) (not_io hio (by decide)))
  (ss_one (s_ret (e_and (e_cmp (op_neD hr.units) (hq_ne hK) (o_var (pv 0)) (o_e (e_str (by decide +kernel) ⟨by decide, by decide⟩)) (nomark _)) (pe_one (e_cmp (op_eqD hr.units) (hq_eq hK) (o_e (e_lc (own := [("_law_sign", 2)]) rfl sc__law_is_atom.nd (i_str (e_var (pv 0))) (blkOk_by (own := [("_law_sign", 2)]) (N := N__law_is_atom) (sc := defScope s__law_is_atom) (by decide +kernel)) (fun _ _ _ _ _ => pg_name (i := 2) sc__law_is_atom.nd rfl (by first | exact .inl rfl | exact .inr rfl)) (fun _ _ _ _ _ => ts_one (t_cmp (OpR.or op_notin_str op_notIn_seq) (hq_notin hK) (o_var (pv 2)) (o_var (pv 1)) (by rfl))) (fun _ _ _ _ _ => (e_var (pv 2))) (by decide) (comp_io hio (by decide)) (hg_name (by rw [hN]; decide) (not_io hio (by decide))))) (o_e (e_lst a_nil)) (nomark _)))))))
theorem ok__law_quoted (T : Tx K mg c) {fa : Addr} {fd : FuncData} (A : At K mg "_law_quoted" s__law_quoted ["_law_text"] fa fd) :
    FnOk P w K mg base (L2.CX P w) 1 fa fd ["_law_text"] (spM c 1 [] F__law_quoted) := by
  refine fn_okD (N := N__law_quoted) (m := m__law_quoted) A.F sc__law_quoted rfl (by decide) (by decide) (by decide) fun g cdv Ar outer s H E hr hc0 hN hio => ?_
  have hc : g.c = c := hc0
  subst hc0
  have hK : K = g.c.K := T.hK.symm
  exact (ss_one (s_ret (e_add (e_add (e_str (by decide +kernel) ⟨by decide, by decide⟩) (e_m PySem.F.slot_str_join PySem.F.type_str_join mt_join (hs_join hK) (o_e (e_str (by decide +kernel) ⟨by decide, by decide⟩)) (o_e (e_lc (own := [("_law_sign", 1)]) rfl sc__law_quoted.nd (i_str (e_var (pv 0))) (blkOk_by (own := [("_law_sign", 1)]) (N := N__law_quoted) (sc := defScope s__law_quoted) (by decide +kernel)) (fun _ _ _ _ _ => pg_name (i := 1) sc__law_quoted.nd rfl (by first | exact .inl rfl | exact .inr rfl)) (fun _ _ _ _ _ => ts_nil) (fun _ _ _ _ _ => (e_add (e_mul (e_str (by decide +kernel) ⟨by decide, by decide⟩) (e_t1 call_intC hr_intC (by rfl) T.f_int (by decide +kernel) (o_e (e_cmp (OpR.or op_in_str op_in_seq) (hq_in hK) (o_var (pv 1)) (o_e (e_str (by decide +kernel) ⟨by decide, by decide⟩)) (by rfl))))) (e_var (pv 1)))) (by decide) (comp_io hio (by decide)) (hg_name (by rw [hN]; decide) (not_io hio (by decide))))))) (e_str (by decide +kernel) ⟨by decide, by decide⟩))))
theorem ok__law_plain (T : Tx K mg c) {fa : Addr} {fd : FuncData} (A : At K mg "_law_plain" s__law_plain ["_law_text"] fa fd)
    {a__law_is_atom : Addr} {fd__law_is_atom : FuncData} (A__law_is_atom : At K mg "_law_is_atom" s__law_is_atom ["_law_text"] a__law_is_atom fd__law_is_atom) (G__law_is_atom : FnOk P w K mg base (L2.CX P w) 1 a__law_is_atom fd__law_is_atom ["_law_text"] (spM c 1 [] F__law_is_atom))
    {a__law_quoted : Addr} {fd__law_quoted : FuncData} (A__law_quoted : At K mg "_law_quoted" s__law_quoted ["_law_text"] a__law_quoted fd__law_quoted) (G__law_quoted : FnOk P w K mg base (L2.CX P w) 1 a__law_quoted fd__law_quoted ["_law_text"] (spM c 1 [] F__law_quoted)) :
    FnOk P w K mg base (L2.CX P w) 2 fa fd ["_law_text"] (spM c 1 [] F__law_plain) := by
  refine fn_okD (N := N__law_plain) (m := m__law_plain) A.F sc__law_plain rfl (by decide) (by decide) (by decide) fun g cdv Ar outer s H E hr hc0 hN hio => ?_
  have hc : g.c = c := hc0
  subst hc0
  have hK : K = g.c.K := T.hK.symm
  exact (ss_cons (s_if (t_val (e_call G__law_is_atom (hr.mono (by decide)) (by rfl) A__law_is_atom.g A__law_is_atom.F.kp A__law_is_atom.b (takes_of rfl rfl rfl rfl) (as_p (pv 0) as_nil) hc rfl rfl (by decide)))
  (ss_one (s_ret (e_move (pv 0))))
  ss_nil)
  (ss_one (s_ret (e_call G__law_quoted (hr.mono (by decide)) (by rfl) A__law_quoted.g A__law_quoted.F.kp A__law_quoted.b (takes_of rfl rfl rfl rfl) (as_e (e_move (pv 0)) as_nil) hc rfl rfl (by decide)))))
theorem ok__law_title (T : Tx K mg c) {fa : Addr} {fd : FuncData} (A : At K mg "_law_title" s__law_title ["_law_source_here", "_law_first", "_law_signs_here"] fa fd)
    {a__law_next : Addr} {fd__law_next : FuncData} (A__law_next : At K mg "_law_next" s__law_next ["_law_source_here", "_law_many"] a__law_next fd__law_next) (G__law_next : FnOk P w K mg base (L2.CX P w) 2 a__law_next fd__law_next ["_law_source_here", "_law_many"] (spM c 2 [0] F__law_next))
    {a__law_signs : Addr} {fd__law_signs : FuncData} (A__law_signs : At K mg "_law_signs" s__law_signs ["_law_source_here", "_law_signs_here", "_law_many"] a__law_signs fd__law_signs) (G__law_signs : FnOk P w K mg base (L2.CX P w) 3 a__law_signs fd__law_signs ["_law_source_here", "_law_signs_here", "_law_many"] (spM c 3 [0] F__law_signs)) :
    FnOk P w K mg base (L2.CX P w) 4 fa fd ["_law_source_here", "_law_first", "_law_signs_here"] (spM c 3 [0] F__law_title) := by
  refine fn_okD (N := N__law_title) (m := m__law_title) A.F sc__law_title rfl (by decide) (by decide) (by decide) fun g cdv Ar outer s H E hr hc0 hN hio => ?_
  have hc : g.c = c := hc0
  subst hc0
  have hK : K = g.c.K := T.hK.symm
  exact (ss_cons (s_set (ps_set (i := 3) sc__law_title.nd rfl (by first | exact .inl rfl | exact .inr rfl) (e_idx (o_e (e_lst (a_cons e_int (a_cons e_int (a_cons e_int (a_cons e_int (a_cons e_int a_nil))))))) (e_call G__law_next (hr.mono (by decide)) (by rfl) A__law_next.g A__law_next.F.kp A__law_next.b (takes_of rfl rfl rfl rfl) (as_s (pv 0) (as_e e_int as_nil)) hc rfl rfl (by decide)) hK)) (by rw [hN]; decide) (not_io hio (by decide)))
  (ss_one (s_ret (e_add (e_call G__law_signs (hr.mono (by decide)) (by rfl) A__law_signs.g A__law_signs.F.kp A__law_signs.b (takes_of rfl rfl rfl rfl) (as_s (pv 0) (as_e (e_move (pv 1)) (as_e e_int as_nil))) hc rfl rfl (by decide)) (e_call G__law_signs (hr.mono (by decide)) (by rfl) A__law_signs.g A__law_signs.F.kp A__law_signs.b (takes_of rfl rfl rfl rfl) (as_s (pv 0) (as_e (e_add (e_str (by decide +kernel) ⟨by decide, by decide⟩) (e_move (pv 2))) (as_e (e_move (pv 3)) as_nil))) hc rfl rfl (by decide))))))
theorem ok__law_kind (T : Tx K mg c) {fa : Addr} {fd : FuncData} (A : At K mg "_law_kind" s__law_kind ["_law_source_here", "_law_most"] fa fd)
    {a__law_next : Addr} {fd__law_next : FuncData} (A__law_next : At K mg "_law_next" s__law_next ["_law_source_here", "_law_many"] a__law_next fd__law_next) (G__law_next : FnOk P w K mg base (L2.CX P w) 2 a__law_next fd__law_next ["_law_source_here", "_law_many"] (spM c 2 [0] F__law_next))
    {a__law_title : Addr} {fd__law_title : FuncData} (A__law_title : At K mg "_law_title" s__law_title ["_law_source_here", "_law_first", "_law_signs_here"] a__law_title fd__law_title) (G__law_title : FnOk P w K mg base (L2.CX P w) 4 a__law_title fd__law_title ["_law_source_here", "_law_first", "_law_signs_here"] (spM c 3 [0] F__law_title))
    {a__law_signs : Addr} {fd__law_signs : FuncData} (A__law_signs : At K mg "_law_signs" s__law_signs ["_law_source_here", "_law_signs_here", "_law_many"] a__law_signs fd__law_signs) (G__law_signs : FnOk P w K mg base (L2.CX P w) 3 a__law_signs fd__law_signs ["_law_source_here", "_law_signs_here", "_law_many"] (spM c 3 [0] F__law_signs)) :
    FnOk P w K mg base (L2.CX P w) 5 fa fd ["_law_source_here", "_law_most"] (spM c 2 [0] F__law_kind) := by
  refine fn_okD (N := N__law_kind) (m := m__law_kind) A.F sc__law_kind rfl (by decide) (by decide) (by decide) fun g cdv Ar outer s H E hr hc0 hN hio => ?_
  have hc : g.c = c := hc0
  subst hc0
  have hK : K = g.c.K := T.hK.symm
  exact (ss_cons (s_set (ps_set (i := 2) sc__law_kind.nd rfl (by first | exact .inl rfl | exact .inr rfl) (e_lst a_nil)) (by rw [hN]; decide) (not_io hio (by decide)))
  (ss_cons (s_for (passes_of rfl) rfl (i_range1 (by rfl) T.f_range (a_cons (e_call G__law_next (hr.mono (by decide)) (by rfl) A__law_next.g A__law_next.F.kp A__law_next.b (takes_of rfl rfl rfl rfl) (as_s (pv 0) (as_e (e_add (e_var (pv 1)) e_int) as_nil)) hc rfl rfl (by decide)) a_nil)) (g_name (pg_name (i := 3) sc__law_kind.nd rfl (by first | exact .inl rfl | exact .inr rfl)) (by rw [hN]; decide) (not_io hio (by decide)))
  (ss_cons (s_set (ps_set (i := 4) sc__law_kind.nd rfl (by first | exact .inl rfl | exact .inr rfl) (e_call G__law_title (hr.mono (by decide)) (by rfl) A__law_title.g A__law_title.F.kp A__law_title.b (takes_of rfl rfl rfl rfl) (as_s (pv 0) (as_e (e_idx (o_e (e_str (by decide +kernel) ⟨by decide, by decide⟩)) (e_var (pv 3)) hK) (as_e (e_str (by decide +kernel) ⟨by decide, by decide⟩) as_nil))) hc rfl rfl (by decide))) (by rw [hN]; decide) (not_io hio (by decide)))
  (ss_cons (s_set (ps_set (i := 5) sc__law_kind.nd rfl (by first | exact .inl rfl | exact .inr rfl) (e_idx (o_e (e_lst (a_cons (e_str (by decide +kernel) ⟨by decide, by decide⟩) (a_cons (e_str (by decide +kernel) ⟨by decide, by decide⟩) (a_cons (e_str (by decide +kernel) ⟨by decide, by decide⟩) a_nil))))) (e_call G__law_next (hr.mono (by decide)) (by rfl) A__law_next.g A__law_next.F.kp A__law_next.b (takes_of rfl rfl rfl rfl) (as_s (pv 0) (as_e e_int as_nil)) hc rfl rfl (by decide)) hK)) (by rw [hN]; decide) (not_io hio (by decide)))
  (ss_cons (s_set (ps_set (i := 6) sc__law_kind.nd rfl (by first | exact .inl rfl | exact .inr rfl) (e_idx (o_e (e_lst (a_cons e_int (a_cons e_int (a_cons e_int (a_cons e_int (a_cons e_int (a_cons e_int (a_cons e_int (a_cons e_int (a_cons e_int (a_cons (e_call G__law_next (hr.mono (by decide)) (by rfl) A__law_next.g A__law_next.F.kp A__law_next.b (takes_of rfl rfl rfl rfl) (as_s (pv 0) (as_e e_int as_nil)) hc rfl rfl (by decide)) a_nil)))))))))))) (e_call G__law_next (hr.mono (by decide)) (by rfl) A__law_next.g A__law_next.F.kp A__law_next.b (takes_of rfl rfl rfl rfl) (as_s (pv 0) (as_e e_int as_nil)) hc rfl rfl (by decide)) hK)) (by rw [hN]; decide) (not_io hio (by decide)))
  (ss_cons (s_if (PW.pt (w_and (t_cmp (op_eqD hr.units) (hq_eq hK) (o_e (e_call G__law_next (hr.mono (by decide)) (by rfl) A__law_next.g A__law_next.F.kp A__law_next.b (takes_of rfl rfl rfl rfl) (as_s (pv 0) (as_e e_int as_nil)) hc rfl rfl (by decide))) (o_e e_int) (nomark _)) (pw_and1 (t_cmp op_lt hr_int (o_e (e_b1 (cr_sum rfl) (hr_sum hK) (by rfl) T.f_sum (by decide +kernel) (o_e (e_lcI (own := [("_law_one", 7), ("_law_value", 8)]) rfl sc__law_kind.nd hK (by rw [hN]; decide) (not_io hio (by decide)) (pv 2) (blkOk_by (own := [("_law_one", 7), ("_law_value", 8)]) (N := N__law_kind) (sc := defScope s__law_kind) (by decide +kernel)) (fun a => (fun _ _ _ _ _ => pg_tup rfl (pgs_cons (pg_name (i := 7) sc__law_kind.nd rfl (by first | exact .inl rfl | exact .inr rfl)) (pgs_cons (pg_name (i := 8) sc__law_kind.nd rfl (by first | exact .inl rfl | exact .inr rfl)) pgs_nil)))) (fun a => (fun _ _ _ _ _ => ts_nil)) (fun a => (fun _ _ _ _ _ => (e_b1 call_len (hr_len hK) (by rfl) T.f_len (by decide +kernel) (o_var (pv 8))))) (by decide) (fun a => comp_io (si_io hio) (by decide)) (fun a => (hg_pair (by decide) (by show _ < Gh.N g; rw [hN]; decide) (not_io (si_io hio) (by decide)) (by show _ < Gh.N g; rw [hN]; decide) (not_io (si_io hio) (by decide)) hK)))))) (o_e e_int) (nomark _)))))
  (ss_one (s_set (ps_set (i := 6) sc__law_kind.nd rfl (by first | exact .inl rfl | exact .inr rfl) (e_add e_int (e_call G__law_next (hr.mono (by decide)) (by rfl) A__law_next.g A__law_next.F.kp A__law_next.b (takes_of rfl rfl rfl rfl) (as_s (pv 0) (as_e e_int as_nil)) hc rfl rfl (by decide)))) (by rw [hN]; decide) (not_io hio (by decide))))
  ss_nil)
  (ss_one (s_expr (e_app hK (pe_bm PySem.F.plainAttrs_list PySem.F.slot_list_append PySem.F.type_list_append mt_append (pv 2) (a_cons (e_tup (a_cons (e_var (pv 4)) (a_cons (e_call G__law_signs (hr.mono (by decide)) (by rfl) A__law_signs.g A__law_signs.F.kp A__law_signs.b (takes_of rfl rfl rfl rfl) (as_s (pv 0) (as_p (pv 5) (as_p (pv 6) as_nil))) hc rfl rfl (by decide)) a_nil))) a_nil))))))))))
  (ss_one (s_ret (e_tup (a_cons (e_call G__law_title (hr.mono (by decide)) (by rfl) A__law_title.g A__law_title.F.kp A__law_title.b (takes_of rfl rfl rfl rfl) (as_s (pv 0) (as_e (e_str (by decide +kernel) ⟨by decide, by decide⟩) (as_e (e_str (by decide +kernel) ⟨by decide, by decide⟩) as_nil))) hc rfl rfl (by decide)) (a_cons (e_call G__law_title (hr.mono (by decide)) (by rfl) A__law_title.g A__law_title.F.kp A__law_title.b (takes_of rfl rfl rfl rfl) (as_s (pv 0) (as_e (e_str (by decide +kernel) ⟨by decide, by decide⟩) (as_e (e_str (by decide +kernel) ⟨by decide, by decide⟩) as_nil))) hc rfl rfl (by decide)) (a_cons (e_move (pv 2)) a_nil))))))))
theorem ok__law_due (T : Tx K mg c) {fa : Addr} {fd : FuncData} (A : At K mg "_law_due" s__law_due ["_law_given"] fa fd)
    {a__law_plain : Addr} {fd__law_plain : FuncData} (A__law_plain : At K mg "_law_plain" s__law_plain ["_law_text"] a__law_plain fd__law_plain) (G__law_plain : FnOk P w K mg base (L2.CX P w) 2 a__law_plain fd__law_plain ["_law_text"] (spM c 1 [] F__law_plain)) :
    FnOk P w K mg base (L2.CX P w) 3 fa fd ["_law_given"] (spM c 1 [] F__law_due) := by
  refine fn_okD (N := N__law_due) (m := m__law_due) A.F sc__law_due rfl (by decide) (by decide) (by decide) fun g cdv Ar outer s H E hr hc0 hN hio => ?_
  have hc : g.c = c := hc0
  subst hc0
  have hK : K = g.c.K := T.hK.symm
  exact (ss_cons (s_asg (e_var (pv 0)) (g_tupT rfl (gs_cons (g_name (pg_name (i := 1) sc__law_due.nd rfl (by first | exact .inl rfl | exact .inr rfl)) (by rw [hN]; decide) (not_io hio (by decide))) (gs_cons (g_name (pg_name (i := 2) sc__law_due.nd rfl (by first | exact .inl rfl | exact .inr rfl)) (by rw [hN]; decide) (not_io hio (by decide))) (gs_cons (g_name (pg_name (i := 3) sc__law_due.nd rfl (by first | exact .inl rfl | exact .inr rfl)) (by rw [hN]; decide) (not_io hio (by decide))) gs_nil))) hK))
  (ss_cons (s_set (ps_set (i := 4) sc__law_due.nd rfl (by first | exact .inl rfl | exact .inr rfl) (e_add (e_add (e_var (pv 1)) (e_str (by decide +kernel) ⟨by decide, by decide⟩)) (e_var (pv 2)))) (by rw [hN]; decide) (not_io hio (by decide)))
  (ss_cons (s_for (passes_of rfl) rfl (i_list hK (e_var (pv 3))) (g_tupT rfl (gs_cons (g_name (pg_name (i := 5) sc__law_due.nd rfl (by first | exact .inl rfl | exact .inr rfl)) (by rw [hN]; decide) (not_io hio (by decide))) (gs_cons (g_name (pg_name (i := 6) sc__law_due.nd rfl (by first | exact .inl rfl | exact .inr rfl)) (by rw [hN]; decide) (not_io hio (by decide))) gs_nil)) hK)
  (ss_one (s_if (t_cmp op_le hr_int (o_e (e_b1 call_len (hr_len hK) (by rfl) T.f_len (by decide +kernel) (o_var (pv 6)))) (o_e e_int) (nomark _))
  (ss_one (s_set (ps_set (i := 4) sc__law_due.nd rfl (by first | exact .inl rfl | exact .inr rfl) (e_add (e_add (e_add (e_add (e_var (pv 4)) (e_str (by decide +kernel) ⟨by decide, by decide⟩)) (e_var (pv 5))) (e_str (by decide +kernel) ⟨by decide, by decide⟩)) (e_call G__law_plain (hr.mono (by decide)) (by rfl) A__law_plain.g A__law_plain.F.kp A__law_plain.b (takes_of rfl rfl rfl rfl) (as_p (pv 6) as_nil) hc rfl rfl (by decide)))) (by rw [hN]; decide) (not_io hio (by decide))))
  (ss_one (s_for (passes_of rfl) rfl (i_range3 (by rfl) T.f_range (a_cons e_int (a_cons (e_b1 call_len (hr_len hK) (by rfl) T.f_len (by decide +kernel) (o_var (pv 6))) (a_cons e_int a_nil)))) (g_name (pg_name (i := 7) sc__law_due.nd rfl (by first | exact .inl rfl | exact .inr rfl)) (by rw [hN]; decide) (not_io hio (by decide)))
  (ss_cons (s_set (ps_set (i := 4) sc__law_due.nd rfl (by first | exact .inl rfl | exact .inr rfl) (e_add (e_add (e_add (e_add (e_add (e_var (pv 4)) (e_str (by decide +kernel) ⟨by decide, by decide⟩)) (e_var (pv 5))) (e_str (by decide +kernel) ⟨by decide, by decide⟩)) (e_t1 call_strA hr_strA (by rfl) T.f_str (by decide +kernel) (o_e (e_fdiv (e_var (pv 7)) e_int)))) (e_str (by decide +kernel) ⟨by decide, by decide⟩))) (by rw [hN]; decide) (not_io hio (by decide)))
  (ss_one (s_set (ps_set (i := 4) sc__law_due.nd rfl (by first | exact .inl rfl | exact .inr rfl) (e_add (e_var (pv 4)) (e_call G__law_plain (hr.mono (by decide)) (by rfl) A__law_plain.g A__law_plain.F.kp A__law_plain.b (takes_of rfl rfl rfl rfl) (as_e (e_slc (o_var (pv 6)) (p_some (e_var (pv 7))) (p_some (e_add (e_var (pv 7)) e_int)) hK.symm.symm) as_nil) hc rfl rfl (by decide)))) (by rw [hN]; decide) (not_io hio (by decide))))))))))
  (ss_one (s_ret (e_move (pv 4)))))))
theorem ok_law (T : Tx K mg c) {fa : Addr} {fd : FuncData} (A : At K mg "law" s_law ["_law_script"] fa fd)
    {a__law_source : Addr} {fd__law_source : FuncData} (A__law_source : At K mg "_law_source" s__law_source ["_law_script", "_law_k"] a__law_source fd__law_source) (G__law_source : FnOk P w K mg base (L2.CX P w) 2 a__law_source fd__law_source ["_law_script", "_law_k"] (spM c 2 [] F__law_source))
    {a__law_kind : Addr} {fd__law_kind : FuncData} (A__law_kind : At K mg "_law_kind" s__law_kind ["_law_source_here", "_law_most"] a__law_kind fd__law_kind) (G__law_kind : FnOk P w K mg base (L2.CX P w) 5 a__law_kind fd__law_kind ["_law_source_here", "_law_most"] (spM c 2 [0] F__law_kind))
    {a_show_kind : Addr} {fd_show_kind : FuncData} (A_show_kind : At K mg "show_kind" s_show_kind ["kind"] a_show_kind fd_show_kind) (G_show_kind : FnOk P w K mg base (L2.CX P w) 5 a_show_kind fd_show_kind ["kind"] (spM c 1 [] F_show_kind))
    {a__law_due : Addr} {fd__law_due : FuncData} (A__law_due : At K mg "_law_due" s__law_due ["_law_given"] a__law_due fd__law_due) (G__law_due : FnOk P w K mg base (L2.CX P w) 3 a__law_due fd__law_due ["_law_given"] (spM c 1 [] F__law_due)) :
    RunAt callerA P w K mg base fa fd ["_law_script"] (spM c 1 [] F_law) := by
  refine run_at (N := N_law) (m := m_law) (k := 5) A.F sc_law rfl (by decide) (by decide) (by decide) ⟨rfl, by decide, by decide⟩ fun g cdv outer s H E hr hc0 hN hio => ?_
  have hc : g.c = c := hc0
  subst hc0
  have hK : K = g.c.K := T.hK.symm
  exact (ss_cons (s_for (passes_of rfl) rfl (i_range1 (by rfl) T.f_range (a_cons (e_b2 (call_max2 rfl) (by rfl) T.f_max (by decide +kernel) (a_cons e_int (a_cons (e_b2 (call_min2 rfl) (by rfl) T.f_min (by decide +kernel) (a_cons e_int (a_cons (e_b1 call_len (hr_len hK) (by rfl) T.f_len (by decide +kernel) (o_var (pv 0))) a_nil)) br_min) a_nil)) br_max) a_nil)) (g_name (pg_name (i := 1) sc_law.nd rfl (by first | exact .inl rfl | exact .inr rfl)) (by rw [hN]; decide) (not_io hio (by decide)))
  (ss_cons (s_set (ps_set (i := 2) sc_law.nd rfl (by first | exact .inl rfl | exact .inr rfl) (e_call G__law_source (hr.mono (by decide)) (by rfl) A__law_source.g A__law_source.F.kp A__law_source.b (takes_of rfl rfl rfl rfl) (as_p (pv 0) (as_p (pv 1) as_nil)) hc rfl rfl (by decide))) (by rw [hN]; decide) (not_io hio (by decide)))
  (ss_cons (s_set (ps_set (i := 3) sc_law.nd rfl (by first | exact .inl rfl | exact .inr rfl) (e_call G__law_kind (hr.mono (by decide)) (by rfl) A__law_kind.g A__law_kind.F.kp A__law_kind.b (takes_of rfl rfl rfl rfl) (as_s (pv 2) (as_e e_int as_nil)) hc rfl rfl (by decide))) (by rw [hN]; decide) (not_io hio (by decide)))
  (ss_cons (s_set (ps_set (i := 4) sc_law.nd rfl (by first | exact .inl rfl | exact .inr rfl) (e_b1 (call_repr rfl hr.units) (hr_repr hK) (by rfl) T.f_repr (by decide +kernel) (o_var (pv 3)))) (by rw [hN]; decide) (not_io hio (by decide)))
  (ss_one (s_for (passes_of rfl) rfl (i_range1 (by rfl) T.f_range (a_cons e_int a_nil)) (g_name (pg_name (i := 5) sc_law.nd rfl (by first | exact .inl rfl | exact .inr rfl)) (by rw [hN]; decide) (not_io hio (by decide)))
  (ss_cons (s_set (ps_set (i := 6) sc_law.nd rfl (by first | exact .inl rfl | exact .inr rfl) (e_call G_show_kind (hr.mono (by decide)) (by rfl) A_show_kind.g A_show_kind.F.kp A_show_kind.b (takes_of rfl rfl rfl rfl) (as_p (pv 3) as_nil) hc rfl rfl (by decide))) (by rw [hN]; decide) (not_io hio (by decide)))
  (ss_one (s_if (PW.pt (w_or (t_not (t_val (e_isi (y := .str) (by decide +kernel) hK (by rfl) T.f_isinstance (by rfl) T.f_str (o_var (pv 6)) (by decide) (by decide)))) (w_or (t_cmp (op_neD hr.units) (hq_ne hK) (o_var (pv 6)) (o_e (e_call G__law_due (hr.mono (by decide)) (by rfl) A__law_due.g A__law_due.F.kp A__law_due.b (takes_of rfl rfl rfl rfl) (as_p (pv 3) as_nil) hc rfl rfl (by decide))) (nomark _)) (pw_or1 (t_cmp (op_neD hr.units) (hq_ne hK) (o_e (e_b1 (call_repr rfl hr.units) (hr_repr hK) (by rfl) T.f_repr (by decide +kernel) (o_var (pv 3)))) (o_var (pv 4)) (nomark _))))))
  (ss_one (s_ret e_bl))
  ss_nil)))))))))
  (ss_one (s_ret (e_cmp (op_eqD hr.units) (hq_eq hK) (o_e (e_call G_show_kind (hr.mono (by decide)) (by rfl) A_show_kind.g A_show_kind.F.kp A_show_kind.b (takes_of rfl rfl rfl rfl) (as_e (e_tup (a_cons (e_str (by decide +kernel) ⟨by decide, by decide⟩) (a_cons (e_str (by decide +kernel) ⟨by decide, by decide⟩) (a_cons (e_lst a_nil) a_nil)))) as_nil) hc rfl rfl (by decide))) (o_e (e_str (by decide +kernel) ⟨by decide, by decide⟩)) (nomark _)))))
end
end K31


namespace K31
open VS L2
theorem cell_ok (o : Ow) (ns : List Int) (k : Nat) : ∃ i : Int, F__law_cell_at [.lst o (ns.map D.int), .int k] = .ok (.int i) [] := by
  by_cases h : k < ns.length
  · refine ⟨ns[k], ?_⟩
    simp [F__law_cell_at, m__law_cell_at, h, atI_nn]
  · refine ⟨0, ?_⟩
    simp [F__law_cell_at, m__law_cell_at, h]
theorem mixed_ok (i k : Int) : ∃ r : Int, 0 ≤ r ∧ r < 2147483563 ∧ F__law_mixed [.int i, .int k] = .ok (.int r) [] := by
  have q1 : ∀ e : Int, (e % 2147483629).natAbs < 18446744073709551616 := by omega
  have q2 : ∀ e : Int, (e % 2147483587).natAbs < 18446744073709551616 := by omega
  refine ⟨_, ?_, ?_, by
    simp [F__law_mixed, m__law_mixed, q1, q2]
    rfl⟩
  · omega
  · omega
def encS (s : Int × Int × Int) : D := .lst .own [.int s.1, .int s.2.1, .int s.2.2]
theorem source_ok (o : Ow) (ns : List Int) (k : Nat) : ∃ s, F__law_source [.lst o (ns.map D.int), .int k] = .ok (encS s) [] := by
  by_cases h : k < ns.length
  · refine ⟨(ns[k], ns[k], 0), ?_⟩
    cases o <;> simp [F__law_source, m__law_source, h, atI_nn, encS]
  · obtain ⟨i, hi⟩ := cell_ok (if o = .own then .shr else o) ns 0
    obtain ⟨r, h1, h2, hr⟩ := mixed_ok i (1000 + k)
    refine ⟨(r, r, 0), ?_⟩
    cases o <;> simp at hi <;> simp [F__law_source, m__law_source, h, hi, hr, encS]
theorem next_ok (s : Int × Int × Int) (m : Int) : ∃ r : Int × Int × Int × Int, (0 < m → m < 4611686018427387904 → (0 ≤ r.1 ∧ r.1 < m) ∧ F__law_next [encS s, .int m] = .ok (.int r.1) [encS r.2]) := by
  obtain ⟨a, b, c⟩ := s
  by_cases q : (1000000000000000000 : Int) ≤ a
  · refine ⟨(a % m, a / m, b, c), fun h h2 => ⟨⟨Int.emod_nonneg _ (by omega), Int.emod_lt_of_pos _ h⟩, ?_⟩⟩
    simp [F__law_next, m__law_next, q, h, h2, atI_s, L2.ixN, encS]
  · obtain ⟨r, h1, h2, hr⟩ := mixed_ok b (c + 1)
    refine ⟨(r % m, a, b, c + 1), fun h h2 => ⟨⟨Int.emod_nonneg _ (by omega), Int.emod_lt_of_pos _ h⟩, ?_⟩⟩
    simp [F__law_next, m__law_next, q, h, h2, atI_s, L2.ixN, hr, encS]
noncomputable def nx (s : Int × Int × Int) (m : Int) : Int := (next_ok s m).choose.1
noncomputable def sn (s : Int × Int × Int) (m : Int) : Int × Int × Int := (next_ok s m).choose.2
theorem next_f (s : Int × Int × Int) (m : Int) (h : 0 < m) (h2 : m < 4611686018427387904) : F__law_next [encS s, .int m] = .ok (.int (nx s m)) [encS (sn s m)] := ((next_ok s m).choose_spec h h2).2
theorem nx_nn (s : Int × Int × Int) (m : Int) (h : 0 < m) (h2 : m < 4611686018427387904) : 0 ≤ nx s m := ((next_ok s m).choose_spec h h2).1.1
theorem nx_lt (s : Int × Int × Int) (m : Int) (h : 0 < m) (h2 : m < 4611686018427387904) : nx s m < m := ((next_ok s m).choose_spec h h2).1.2

def Sign (x : Int) : Prop := 32 ≤ x ∧ x ≤ 65535
theorem pkS (l : List Int) (i m : Int) (h : 0 ≤ i) (h2 : i < m) (hm : m.toNat = l.length) (q : ∀ x ∈ l, Sign x) : Sign (pk l i) := pk_P l i h (by omega) q
theorem sg_add (a : Int) (s : Int × Int × Int) (m : Int) (h : 0 < m) (h2 : m < 4611686018427387904) (h3 : 32 ≤ a) (h4 : a + m ≤ 65536) : Sign (a + nx s m) := by
  have := nx_nn s m h h2
  have := nx_lt s m h h2
  exact ⟨by omega, by omega⟩
theorem sg_nil : ∀ x ∈ ([] : List Int), Sign x := fun _ h => absurd h (by simp)
theorem sg_cons (a : Int) (l : List Int) (h : Sign a) (h2 : ∀ x ∈ l, Sign x) : ∀ x ∈ a :: l, Sign x := fun x hx => by
  rcases List.mem_cons.1 hx with rfl | hx
  · exact h
  · exact h2 x hx
def bodyS : Cm Out := (mSeq (mSet 4 (mIdx (.e (mLst [(mC (.int 32)), (mC (.int 37)), (mC (.int 61)), (mC (.int 63)), (mC (.int 95)), (mC (.int 126)), (mC (.int 127)), (mC (.int 128)), (mC (.int 2047)), (mC (.int 2048)), (mC (.int 4096)), (mC (.int 65535))])) (mCall F__law_next [.s 0, .e (mC (.int 12))])))
  (mSeq (mSet 5 (mLst [(mBin addD (mC (.int 97)) (mCall F__law_next [.s 0, .e (mC (.int 26))])), (mC (.int 32)), (mBin addD (mC (.int 48)) (mCall F__law_next [.s 0, .e (mC (.int 10))])), (mBin addD (mC (.int 38)) (mCall F__law_next [.s 0, .e (mC (.int 4))]))]))
  (mSeq (mSet 6 (mIdx (.v 5) (mCall F__law_next [.s 0, .e (mC (.int 4))])))
  (mSeq (mSet 7 (mIdx (.e (mLst [(mBin addD (mC (.int 200)) (mCall F__law_next [.s 0, .e (mC (.int 1800))])), (mBin addD (mC (.int 2048)) (mCall F__law_next [.s 0, .e (mC (.int 63488))]))])) (mCall F__law_next [.s 0, .e (mC (.int 2))])))
  (mSeq (mSet 8 (mLst [(mVar 6), (mVar 4), (mVar 7), (mIdx (.e (mLst [(mVar 6), (mVar 6), (mVar 6), (mVar 4)])) (mCall F__law_next [.s 0, .e (mC (.int 4))]))]))
  (mDrop (mApp 2 (mIdx (.e (mBin addD (mVar 8) (mLst [(mIdx (.e (mLst [(mVar 6), (mVar 7)])) (mCall F__law_next [.s 0, .e (mC (.int 2))])), (mVar 6)]))) (mVar 1)))))))))
theorem bodyS_ok (s : Int × Int × Int) (w : Int) (xs : List Int) (hw : 0 ≤ w ∧ w < 6) (hx : ∀ x ∈ xs, Sign x) (hl : xs.length < 16777216) (x3 x4 x5 x6 x7 x8 : Option D) :
    ∃ s' y x4' x5' x6' x7' x8', Sign y ∧ bodyS [some (encS s), some (.int w), some (.lst .own (xs.map D.int)), x3, x4, x5, x6, x7, x8, none] = .ok .nx [some (encS s'), some (.int w), some (.lst .own ((xs ++ [y]).map D.int)), x3, x4', x5', x6', x7', x8', none] := by
  refine ⟨_, _, _, _, _, _, _, ?_, by
    simp [bodyS, next_f, nx_nn, nx_lt, atI_pk12, atI_pk4, atI_pk2, atI_pk6, hw, hl]
    exact ⟨rfl, rfl, rfl, rfl, rfl, rfl, rfl⟩⟩
  refine pkS _ _ 6 hw.1 hw.2 rfl ?_
  repeat' first
    | exact sg_nil
    | refine sg_cons _ _ ?_ ?_
    | exact sg_add _ _ _ (by decide) (by decide) (by decide) (by decide)
    | exact ⟨by decide, by decide⟩
    | refine pkS _ _ _ (nx_nn _ _ (by decide) (by decide)) (nx_lt _ _ (by decide) (by decide)) rfl ?_
def so (x : Int) : List Int := if x < 128 then [x] else if x < 2048 then [192 + x / 64, 128 + x % 64] else [224 + x / 4096, 128 + x / 64 % 64, 128 + x % 64]
theorem so_len (x : Int) : (so x).length ≤ 3 := by unfold so; split; simp; split <;> simp
theorem all_len (xs : List Int) : (xs.flatMap so).length ≤ 3 * xs.length := by
  induction xs with
  | nil => simp
  | cons x xs ih => have := so_len x; rw [List.flatMap_cons, List.length_append, List.length_cons]; omega
theorem stepD_cons (lo c : Int) (n : Nat) : stepD lo c (n + 1) = D.int lo :: stepD (lo + c) c n := by
  unfold stepD
  rw [List.range_succ_eq_map, List.map_cons, List.map_map]
  congr 1
  · simp
  · apply List.map_congr_left
    intro k _
    simp [Function.comp_def, Int.add_mul]
    omega
def isSg (x : Int) : Bool := (decide (32 ≤ x) && decide (x ≤ 126)) && !decide (x = 37)
theorem isSg_iff (x : Int) : isSg x = true ↔ 32 ≤ x ∧ x ≤ 126 ∧ x ≠ 37 := by
  simp [isSg, and_assoc]
theorem atI_in {α : Type} (l : List α) (i : Int) (h : 0 ≤ i) (h2 : i < l.length) : ∃ c, atI l i = some c ∧ c ∈ l := by
  obtain ⟨n, rfl⟩ := Int.eq_ofNat_of_zero_le h
  have : n < l.length := by omega
  exact ⟨l[n], by rw [atI_nn _ _ this]; simp [this], by simp⟩
theorem signs_ok (s : Int × Int × Int) (S : List Nat) (n : Nat) (hS : S ≠ []) (hl : S.length ≤ 1000) (hn : n ≤ 1000) : ∃ (cs : List Nat) (s' : Int × Int × Int), F__law_signs [encS s, .str S, .int n] = .ok (.str cs) [encS s'] ∧ cs.length = n ∧ ∀ c ∈ cs, c ∈ S := by
  have hp : 0 < (S.length : Int) := by
    have := List.length_pos_iff.2 hS
    omega
  have hp2 : (S.length : Int) < 4611686018427387904 := by omega
  obtain ⟨cs, s', e, e1, e2⟩ := lcL_draw (g := mPut 3) (e := mIdx (.v 1) (mCall F__law_next [.s 0, .e (mP1 lenD (.v 1))])) (vs := [3]) (fun s => [some (encS s), some (.str S), some (.int n), none]) (fun c => c ∈ S)
    (fun s d => by
      obtain ⟨c, h1, h2⟩ := atI_in S (nx s S.length) (nx_nn s _ hp hp2) (nx_lt s _ hp hp2)
      refine ⟨_, [some (encS (sn s S.length)), some (.str S), some (.int n), some d], c, sn s S.length, rfl, ?_, rfl, h2⟩
      have nf := next_f s S.length hp hp2
      simp [nf, h1]) (rangeD 0 n) s
  have hs : smallR (n : Int) := by unfold smallR; omega
  simp at e1
  have hj := fun o => join_signs o cs (by omega)
  refine ⟨cs, s', ?_, e1, e2⟩
  have hl2 : n ≤ 16777216 := by omega
  simp [F__law_signs, m__law_signs, hs, saved, wipeD, e, restD, hl2, hj]
def esc (l : List Nat) : List Nat := l.flatMap fun c => if c = 34 ∨ c = 92 then [92, c] else [c]
def isAt (l : List Nat) : Bool := (!l.isEmpty) && l.all fun c => decide (c ∈ k_ATOM_SIGNS)
def due (l : List Nat) : List Nat := if isAt l then l else 34 :: (esc l ++ [34])
theorem esc_len (l : List Nat) : (esc l).length ≤ 2 * l.length := by
  induction l with
  | nil => simp [esc]
  | cons x l ih =>
    have : esc (x :: l) = (if x = 34 ∨ x = 92 then [92, x] else [x]) ++ esc l := rfl
    rw [this]
    split <;> simp <;> omega
theorem line_ok (l : List Nat) (h : 10 ∉ l) : F_is_line [.str l] = .ok (.bl true) [] := by
  simp [F_is_line, m_is_line, h]
theorem of_ok (l s : List Nat) (hl : l.length ≤ 16777216) : F_is_of [.str l, .str s] = .ok (.bl (l.all fun c => decide (c ∈ s))) [] := by
  have e := lcL_map (g := mPut 2) (e := mP2 (inD false) (.v 2) (.v 1)) (vs := [2]) (ρ := [some (.str l), some (.str s), none]) (fun c => D.str [c]) (fun c => .bl (decide (c ∈ s))) rfl (fun x => ⟨_, _, rfl, by simp; rfl, rfl⟩) l
  have k := fun o => allD_map o (fun c : Nat => decide (c ∈ s)) l
  simp [F_is_of, m_is_of, saved, wipeD, e, hl, restD, k]
theorem atom_ok (l : List Nat) (hl : l.length ≤ 16777216) : F_is_atom [.str l] = .ok (.bl (isAt l)) [] := by
  cases l with
  | nil => simp [F_is_atom, m_is_atom, isAt]
  | cons c l => simp [F_is_atom, m_is_atom, isAt, of_ok _ _ hl]
theorem repl_esc (l : List Nat) : PySem.StrLaws.replL [34] [92, 34] (PySem.StrLaws.replL [92] [92, 92] l) = esc l := by
  rw [repl_one, repl_one, List.flatMap_assoc]
  unfold esc
  congr 1
  funext x
  by_cases h : x = 92
  · subst h; rfl
  · by_cases h2 : x = 34
    · subst h2; rfl
    · simp [h, h2]
theorem quoted_in_ok (l : List Nat) (hl : l.length ≤ 1000) (hc : ∀ c ∈ l, c < 1114112) : F_quoted_in [.str l] = .ok (.str (due l)) [] := by
  have a := atom_ok l (by omega)
  cases q : isAt l with
  | true =>
    rw [q] at a
    simp [F_quoted_in, m_quoted_in, a, due, q]
  | false =>
    rw [q] at a
    have r1 : (PySem.StrLaws.replL [92] [92, 92] l).length ≤ 2 * l.length := by
      rw [repl_one]
      clear a q hl hc
      induction l with
      | nil => simp
      | cons x l ih => rw [List.flatMap_cons]; split <;> simp at ih ⊢ <;> omega
    have m1 : ∀ c ∈ PySem.StrLaws.replL [92] [92, 92] l, c < 1114112 := by
      intro c h
      rw [repl_one] at h
      obtain ⟨x, hx, h⟩ := List.mem_flatMap.1 h
      split at h
      · simp at h; omega
      · simp at h; subst h; exact hc _ hx
    have m2 : ∀ c ∈ esc l, c < 1114112 := by
      intro c h
      obtain ⟨x, hx, h⟩ := List.mem_flatMap.1 h
      split at h
      · simp at h; rcases h with rfl | rfl
        · omega
        · exact hc _ hx
      · simp at h; subst h; exact hc _ hx
    have l1 : l.length + (l.length + 1) * 2 ≤ 16777216 := by omega
    have l2 : (PySem.StrLaws.replL [92] [92, 92] l).length + ((PySem.StrLaws.replL [92] [92, 92] l).length + 1) * 2 ≤ 16777216 := by omega
    have e := repl_esc l
    have l3 := esc_len l
    have l4 : 1 + (esc l).length ≤ 16777216 := by omega
    have l5 : (esc l).length + 1 ≤ 16777216 := by omega
    have l6 : (esc l).length + 1 + 1 ≤ 16777216 := by omega
    have m1' : ((PySem.StrLaws.replL [92] [92, 92] l).all fun c => decide (c < 1114112)) = true := by simpa [List.all_eq_true] using m1
    have m2' : ((esc l).all fun c => decide (c < 1114112)) = true := by simpa [List.all_eq_true] using m2
    have e1 : F_quoted_in [.str l] = runF 1 [] m_quoted_in [.str l] := rfl
    rw [e1]
    simp -implicitDefEqProofs only [m_quoted_in, runF_, startD_, mSeq_, mIf_, mTest_, mCall_, mRet_, mBin_, mRepl_, mMove_, mC_, mNext_]
    have m1e := eq_true m1
    have m2e := eq_true m2
    simp [a, due, q, l1, l2, l4, l5, l6, e, m1e, m2e]
theorem lcL_mapM {α : Type} {g : D → Cm Unit} {e : Cm D} {vs : List Nat} {ρ : DE} (el : α → D) (f : α → D) : ∀ xs : List α, (∀ x ∈ xs, ∃ ρ1 ρ2, g (el x) ρ = .ok () ρ1 ∧ e ρ1 = .ok (f x) ρ2 ∧ wipeD ρ2 vs = ρ) → lcL g mYes e vs (xs.map el) ρ = .ok (xs.map f) ρ
  | [], _ => rfl
  | x :: xs, h => by
    obtain ⟨ρ1, ρ2, h1, h2, h3⟩ := h x (by simp)
    have ih := lcL_mapM el f xs fun y hy => h y (by simp [hy])
    simp only [List.map_cons, lcL, h1, R.bind_ok, mYes_, if_true, h2, h3, ih]
def isA (c : Nat) : Bool := decide (c ∈ k_ATOM_SIGNS)
def LA : List Nat := [33, 35, 36, 38, 39, 42, 43, 45, 46, 47, 61, 63, 94, 95, 96, 123, 124, 125, 126, 48, 49, 50, 51, 52, 53, 54, 55, 56, 57, 97, 98, 99, 100, 101, 102, 103, 104, 105, 106, 107, 108, 109, 110, 111, 112, 113, 114, 115, 116, 117, 118, 119, 120, 121, 122, 65, 66, 67, 68, 69, 70, 71, 72, 73, 74, 75, 76, 77, 78, 79, 80, 81, 82, 83, 84, 85, 86, 87, 88, 89, 90]
theorem la_iff (c : Nat) : c ∈ LA ↔ c ∈ k_ATOM_SIGNS :=
  ⟨fun h => (by decide : ∀ c ∈ LA, c ∈ k_ATOM_SIGNS) c h, fun h => (by decide : ∀ c ∈ k_ATOM_SIGNS, c ∈ LA) c h⟩
def cIA : Cm Bool := (mTest (mP2 (inD true) (.v 2) (.v 1)))
theorem lc_ia (x0 : Option D) : ∀ t : List Nat, lcL (mPut 2) cIA (mVar 2) [2] (t.map fun c => D.str [c]) [x0, some (.str LA), none] = .ok ((t.filter fun c => !isA c).map fun c => D.str [c]) [x0, some (.str LA), none]
  | [] => rfl
  | c :: t => by
    have ih := lc_ia x0 t
    have e : cIA [x0, some (.str LA), some (.str [c])] = .ok (!isA c) [x0, some (.str LA), some (.str [c])] := by
      have h := la_iff c
      unfold isA
      generalize k_ATOM_SIGNS = K at *
      generalize LA = L at *
      by_cases q : c ∈ K
      · simp [cIA, inD, inStr_one, q, h.2 q]
      · have hn : c ∉ L := fun z => q (h.1 z)
        simp [cIA, inD, inStr_one, q, hn]
    rw [List.map_cons, List.filter_cons]
    simp only [lcL]
    generalize cIA = C at *
    generalize LA = L at *
    cases k : isA c with
    | true => rw [k] at e; simp at e; simp [e, wipeD, ih]
    | false => rw [k] at e; simp at e; simp [e, wipeD, ih]
theorem ia_core (t L : List Nat) (R : List D) (C : Cm Bool) (fl : R.all (D.flatN 7) = true) (hz : t.length ≤ 16777216) (e : lcL (mPut 2) C (mVar 2) [2] (t.map fun c => D.str [c]) [some (.str t), some (.str L), none] = .ok R [some (.str t), some (.str L), none]) :
    runF 3 [] (mSeq (mSet 1 (mC (.str L))) (mRet (mAndV (mP2 neD (.v 0) (.e (mC (.str [])))) (mP2 eqD (.e (mLc (mItemsS (mVar 0)) (mPut 2) C (mVar 2) [2])) (.e (mLst [])))))) [.str t] = .ok (.bl (!t.isEmpty && R.isEmpty)) [] := by
  cases t with
  | nil => simp
  | cons c t =>
    simp only [List.length_cons] at hz
    have hz2 : t.length + 1 ≤ 16777216 := hz
    simp only [List.map_cons] at e
    cases k : R.isEmpty <;> simp [saved, wipeD, restD, unexc, e, fl, k, hz2, -List.all_eq_true]
theorem law_atom_ok (t : List Nat) (hz : t.length ≤ 16777216) : F__law_is_atom [.str t] = .ok (.bl (isAt t)) [] := by
  have e := lc_ia (some (.str t)) t
  have fl : ((t.filter fun c => !isA c).map fun c => D.str [c]).all (D.flatN 7) = true := by simp
  have h := ia_core t LA _ cIA fl hz e
  have r : ((t.filter fun c => !isA c).map fun c => D.str [c]).isEmpty = t.all isA := by
    clear e fl h hz
    induction t with
    | nil => rfl
    | cons c t ih =>
      rw [List.filter_cons, List.all_cons]
      cases k : isA c with
      | true => simpa using ih
      | false => rfl
  rw [r] at h
  exact h
def eQu : Cm D := (mBin addD (mBin mulD (mC (.str [92])) (mP1 intBD (.e (mP2 (inD false) (.v 1) (.e (mC (.str [34, 92]))))))) (mVar 1))
theorem eQu_ok (x0 : Option D) (c : Nat) : eQu [x0, some (.str [c])] = .ok (.str (if c = 34 ∨ c = 92 then [92, c] else [c])) [x0, some (.str [c])] := by
  have m0 : mulD (.str [92]) (.int 0) = some (.str []) := by simp
  have m1 : mulD (.str [92]) (.int 1) = some (.str [92]) := by simp
  by_cases q : c = 34 ∨ c = 92
  · rw [if_pos q]
    have i : inD false (.str [c]) (.str [34, 92]) = some (.bl true) := by simp [inD, inStr_one]; exact q
    simp [eQu, i, -mulD_str, m1]
  · rw [if_neg q]
    have i : inD false (.str [c]) (.str [34, 92]) = some (.bl false) := by simp [inD, inStr_one]; exact ⟨fun z => q (.inl z), fun z => q (.inr z)⟩
    simp [eQu, i, -mulD_str, m0]
theorem qu_core (t : List Nat) (R : List D) (E : Cm D) (J : List Nat) (hz : t.length ≤ 16777216) (hj : J.length ≤ 16777000) (e : lcL (mPut 1) mYes E [1] (t.map fun c => D.str [c]) [some (.str t), none] = .ok R [some (.str t), none]) (j : ∀ o, joinD (.str []) (.lst o R) = some (.str J)) :
    runF 2 [] (mRet (mBin addD (mBin addD (mC (.str [34])) (mM joinD (.e (mC (.str []))) (.e (mLc (mItemsS (mVar 0)) (mPut 1) mYes E [1])))) (mC (.str [34])))) [.str t] = .ok (.str (34 :: (J ++ [34]))) [] := by
  have z1 : 1 + J.length ≤ 16777216 := by omega
  have z2 : J.length + 1 ≤ 16777216 := by omega
  have z3 : J.length + 1 + 1 ≤ 16777216 := by omega
  simp [saved, wipeD, restD, unexc, e, j, hz, z1, z2, z3]
theorem join_e (o : Ow) (ws : List (List Nat)) (h : (ws.map List.length).sum ≤ 16777216) : joinD (.str []) (.lst o (ws.map D.str)) = some (.str ws.flatten) := by
  have jl : joinL [] ws = ws.flatten := by
    have g : ∀ r : List (List Nat), glL [] r = r.flatten := by
      intro r
      induction r with
      | nil => rfl
      | cons x r ih => unfold glL; rw [ih]; simp
    cases ws with
    | nil => rfl
    | cons x r =>
      show x ++ glL [] r = _
      rw [g]
      simp
  rw [← jl]
  show (match strL (ws.map D.str) with
    | some ys => if (ys.map List.length).sum + ys.length * ([] : List Nat).length ≤ 16777216 then some (Sc.str (joinL [] ys)) else none
    | none => none) = _
  rw [strL_map]
  exact if_pos (by simpa using h)
theorem law_quoted_ok (t : List Nat) (hz : t.length ≤ 1000000) : F__law_quoted [.str t] = .ok (.str (34 :: (esc t ++ [34]))) [] := by
  have l := lcL_mapM (g := mPut 1) (e := eQu) (vs := [1]) (ρ := [some (.str t), none]) (fun c => D.str [c]) (fun c => D.str (if c = 34 ∨ c = 92 then [92, c] else [c])) t fun c _ => ⟨[some (.str t), some (.str [c])], [some (.str t), some (.str [c])], by simp, eQu_ok _ c, by simp [wipeD]⟩
  have el := esc_len t
  have jf : (t.map fun c => if c = 34 ∨ c = 92 then [92, c] else [c]).flatten = esc t := by unfold esc; rw [List.flatMap_def]
  have j := fun o => join_e o (t.map fun c => if c = 34 ∨ c = 92 then [92, c] else [c]) (by rw [← List.length_flatten, jf]; omega)
  rw [jf] at j
  rw [List.map_map] at j
  exact qu_core t _ eQu _ (by omega) (by omega) l j
theorem law_plain_ok (t : List Nat) (hz : t.length ≤ 1000000) : F__law_plain [.str t] = .ok (.str (due t)) [] := by
  have a := law_atom_ok t (by omega)
  have q := law_quoted_ok t hz
  unfold due
  cases k : isAt t with
  | true => rw [k] at a; simp [F__law_plain, m__law_plain, a]
  | false => rw [k] at a; simp [F__law_plain, m__law_plain, a, q]
theorem cut_to {α : Type} (xs : List α) (a k : Nat) (h : a ≤ xs.length) : cutL xs (some (a : Int)) (some ((a : Int) + (k : Int))) = (xs.drop a).take k := by
  have e : ((a : Int) + (k : Int)) = ((a + k : Nat) : Int) := by omega
  unfold cutL
  rw [e, HT.sIx_nat, HT.sIx_nat, Nat.min_eq_left h]
  by_cases q : a + k ≤ xs.length
  · rw [Nat.min_eq_left q]
    congr 1
    omega
  · rw [Nat.min_eq_right (by omega), List.take_of_length_le (by simp), List.take_of_length_le (by simp; omega)]
theorem atI_strs (L : List (List Nat)) (c : Int) (h : 0 ≤ c) (h2 : c < (L.length : Nat)) : ∃ w, atI (L.map D.str) c = some (.str w) ∧ w ∈ L := by
  obtain ⟨n, rfl⟩ := Int.eq_ofNat_of_zero_le h
  have hn : n < L.length := by omega
  refine ⟨L[n], ?_, List.getElem_mem _⟩
  rw [atI_nn _ _ (by simpa using h2)]
  simp [hn]
theorem atI_nats (L : List Nat) (c : Int) (h : 0 ≤ c) (h2 : c < (L.length : Nat)) : ∃ w, atI L c = some w ∧ w ∈ L := by
  obtain ⟨n, rfl⟩ := Int.eq_ofNat_of_zero_le h
  have hn : n < L.length := by omega
  refine ⟨L[n], ?_, List.getElem_mem _⟩
  rw [atI_nn _ _ (by omega)]
  simp [hn]
theorem add_tx (a b : List Nat) (h : a.length + b.length ≤ 100000) : addD (.str a) (.str b) = some (.str (a ++ b)) := by
  rw [addD_str, if_pos (by omega)]
theorem cut_btw_len (T : List Nat) (m j : Nat) (h : m ≤ T.length) : (cutL T (some (m : Int)) (some ((m : Int) + (j : Int)))).length ≤ j := by
  rw [cut_to T m j h, List.length_take]
  omega
end K31


namespace K31
open VS L2
/-! ### kinds, looked at -/
structure TitK (S t : List Nat) : Prop where
  len : t.length ≤ 20
  hd : ∃ c r, t = c :: r ∧ c ∈ k_SMALL
  at_ : ∀ c ∈ t, c ∈ S
theorem title_ok (S t : List Nat) (h : TitK S t) : F_is_title [.str t, .str S] = .ok (.bl true) [] := by
  obtain ⟨l, ⟨c, r, rfl, hc⟩, ha⟩ := h
  have o := of_ok (c :: r) S (by omega)
  have a : ((c :: r).all fun c => decide (c ∈ S)) = true := List.all_eq_true.2 fun x hx => by simpa using ha x hx
  rw [a] at o
  have i : inD false (.str [c]) (.str k_SMALL) = some (.bl true) := by
    have : inD false (.str [c]) (.str k_SMALL) = some (.bl (false ^^ inStr [c] k_SMALL)) := rfl
    rw [this, inStr_one, decide_eq_true hc]
    rfl
  have ix : atI (c :: r) 0 = some c := by
    have := atI_nn (c :: r) 0 (by simp)
    simpa using this
  have z1 : (1 : Int) ≤ ((c :: r).length : Nat) := by simp; omega
  have z2 : ((c :: r).length : Nat) ≤ (20 : Int) := by omega
  generalize c :: r = T at *
  have e : F_is_title [.str T, .str S] = runF 2 [] m_is_title [.str T, .str S] := rfl
  generalize hK : k_SMALL = K at *
  rw [e]
  unfold m_is_title
  rw [hK]
  simp [o, i, ix, z1, z2, mChain]
abbrev Pr := List Nat × List Nat
def prD (p : Pr) : D := .tup [.str p.1, .str p.2]
structure PrK (p : Pr) : Prop where
  ti : TitK k_KEY_SIGNS p.1
  lf : 10 ∉ p.2
  len : p.2.length ≤ 530
  sg : ∀ c ∈ p.2, c < 127
theorem pair_ok (p : Pr) (h : PrK p) : F_is_pair [prD p] = .ok (.bl true) [] := by
  have t := title_ok k_KEY_SIGNS p.1 h.ti
  have l := line_ok p.2 h.lf
  have e : F_is_pair [prD p] = runF 1 [] m_is_pair [prD p] := rfl
  rw [e]
  unfold prD m_is_pair
  generalize k_KEY_SIGNS = K at *
  have i0 : atI [D.str p.1, D.str p.2] 0 = some (.str p.1) := rfl
  have i1 : atI [D.str p.1, D.str p.2] 1 = some (.str p.2) := rfl
  have tt : isTy .tuple (.tup [D.str p.1, D.str p.2]) = some (.bl true) := rfl
  simp [tt, i0, i1, t, l]
def kdD (o : Ow) (m s : List Nat) (ps : List Pr) : D := .tup [.str m, .str s, .lst o (ps.map prD)]
theorem pr_fz (ps : List Pr) : (ps.map prD).map D.fz = ps.map prD := by simp [prD]
theorem pr_pur (ps : List Pr) : ∀ x ∈ ps.map prD, x.pur = true := fun x hx => by
  obtain ⟨p, _, rfl⟩ := List.mem_map.1 hx
  rfl
theorem lc_pairs (ρ0 : Option D) (ps : List Pr) (h : ∀ p ∈ ps, PrK p) : lcL (mPut 1) mYes (mCall F_is_pair [.p 1]) [1] (ps.map prD) [ρ0, none] = .ok (ps.map fun _ => D.bl true) [ρ0, none] := by
  refine lcL_mapM prD (fun _ => D.bl true) ps fun p hp => ⟨[ρ0, some (prD p)], [ρ0, some (prD p)], rfl, ?_, rfl⟩
  have e := pair_ok p (h p hp)
  have f : (prD p).fz = prD p := by simp [prD]
  unfold prD at *
  simp [e]
theorem lc_names (ρ0 : Option D) (ps : List Pr) : lcL (mPut 1) mYes (mIdx (.v 1) (mC (.int 0))) [1] (ps.map prD) [ρ0, none] = .ok ((ps.map (·.1)).map D.str) [ρ0, none] := by
  have := lcL_mapM (g := mPut 1) (e := mIdx (.v 1) (mC (.int 0))) (vs := [1]) (ρ := [ρ0, none]) prD (fun p => D.str p.1) ps fun p hp => ⟨[ρ0, some (prD p)], [ρ0, some (prD p)], rfl, by
    have i0 : atI [D.str p.1, D.str p.2] 0 = some (.str p.1) := rfl
    unfold prD
    simp [i0], rfl⟩
  rw [this, List.map_map]
  rfl
structure KdK (m s : List Nat) (ps : List Pr) : Prop where
  m : TitK (k_KEY_SIGNS ++ [43]) m
  s : TitK (k_KEY_SIGNS ++ [43]) s
  pk : ∀ p ∈ ps, PrK p
  nd : (ps.map (·.1)).Nodup
  len : ps.length ≤ 8
theorem is_kind_core (o : Ow) (m s S : List Nat) (P B N : List D) (n : Nat) (FT FP : List D → RF) (hK : k_KEY_SIGNS ++ [43] = S) (a1 : addD (.str k_KEY_SIGNS) (.str [43]) = some (.str S)) (t1 : FT [.str m, .str S] = .ok (.bl true) []) (t2 : FT [.str s, .str S] = .ok (.bl true) [])
    (fz : P.map D.fz = P) (lP : P.length = n) (zP : n ≤ 16777216) (zB : B.length ≤ 16777216) (zN : N.length ≤ 16777216) (x0 : D) (hx : x0 = .tup [.str m, .str s, .lst o P])
    (e1 : ∀ y, lcL (mPut 1) mYes (mCall FP [.p 1]) [1] P [y, none] = .ok B [y, none]) (b : ∀ o, allD (.lst o B) = some (.bl true)) (e2 : ∀ y, lcL (mPut 1) mYes (mIdx (.v 1) (mC (.int 0))) [1] P [y, none] = .ok N [y, none]) (ns : List (List Nat)) (hN : strL N = some ns) (ln : ns.length ≤ 3000) (dn : dnA [] ns = n) :
    runF 2 [] (mSeq (mIf (mOr (mNot (mTest (mP1 (isTy .tuple) (.v 0)))) (mOr (mTest (mP2 neD (.e (mP1 lenD (.v 0))) (.e (mC (.int 3))))) (mNot (mTest (mP1 (isTy .list) (.e (mIdx (.v 0) (mC (.int 2)))))))))
  (mRet (mC (.bl false)))
  mNext)
  (mSeq (mIf (mOr (mNot (mTest (mCall FT [.e (mIdx (.v 0) (mC (.int 0))), .e (mBin addD (mC (.str k_KEY_SIGNS)) (mC (.str [43])))]))) (mNot (mTest (mCall FT [.e (mIdx (.v 0) (mC (.int 1))), .e (mBin addD (mC (.str k_KEY_SIGNS)) (mC (.str [43])))]))))
  (mRet (mC (.bl false)))
  mNext)
  (mSeq (mIf (mNot (mTest (mP1 allD (.e (mLc (mItemsL (mIdx (.v 0) (mC (.int 2)))) (mPut 1) mYes (mCall FP [.p 1]) [1])))))
  (mRet (mC (.bl false)))
  mNext)
  (mRet (mP2 eqD (.e (mDist (mLc (mItemsL (mIdx (.v 0) (mC (.int 2)))) (mPut 1) mYes (mIdx (.v 1) (mC (.int 0))) [1]))) (.e (mP1 lenD (.e (mIdx (.v 0) (mC (.int 2)))))))))) ) [x0] = .ok (.bl true) [] := by
  subst hx
  have i0 : ∀ o, atI [D.str m, D.str s, D.lst o P] 0 = some (.str m) := fun _ => rfl
  have i1 : ∀ o, atI [D.str m, D.str s, D.lst o P] 1 = some (.str s) := fun _ => rfl
  have i2 : ∀ o, atI [D.str m, D.str s, D.lst o P] 2 = some (.lst o P) := fun _ => rfl
  have tt : ∀ o, isTy .tuple (.tup [D.str m, D.str s, D.lst o P]) = some (.bl true) := fun _ => rfl
  have tl : ∀ o, isTy .list (.lst o P) = some (.bl true) := fun _ => rfl
  generalize k_KEY_SIGNS = K at *
  cases o <;> simp [tt, tl, i0, i1, i2, -addD_str, a1, t1, t2, fz, lP, zP, zB, zN, e1, b, e2, hN, ln, dn, saved, wipeD, restD]
theorem is_kind_ok (o : Ow) (m s : List Nat) (ps : List Pr) (h : KdK m s ps) : F_is_kind [kdD o m s ps] = .ok (.bl true) [] := by
  have el : F_is_kind [kdD o m s ps] = runF 2 [] m_is_kind [kdD o m s ps] := rfl
  have a1 : addD (.str k_KEY_SIGNS) (.str [43]) = some (.str (k_KEY_SIGNS ++ [43])) := add_tx _ _ (by decide)
  have dn : dnA [] (ps.map (·.1)) = ps.length := by rw [dnA_all _ _ h.nd (by simp), List.length_map]
  have b : ∀ o, allD (.lst o (ps.map fun _ => D.bl true)) = some (.bl true) := fun o => by
    have := allD_map o (fun _ : Pr => true) ps
    rw [this]
    simp
  exact el.trans (is_kind_core o m s _ (ps.map prD) (ps.map fun _ => D.bl true) ((ps.map (·.1)).map D.str) ps.length F_is_title F_is_pair rfl a1 (title_ok _ _ h.m) (title_ok _ _ h.s) (pr_fz ps) (by simp) (by have := h.len; omega) (by simp; have := h.len; omega) (by simp; have := h.len; omega) _ rfl
    (fun y => lc_pairs y ps h.pk) b (fun y => lc_names y ps) (ps.map (·.1)) (strL_map _) (by simp; have := h.len; omega) dn)
/-! ### a pair, written -/
def pcK (v : List Nat) (k : Nat) : List Nat := cutL v (some ((k : Int) * 40)) (some ((k : Int) * 40 + 40))
def ncK (v : List Nat) : Nat := (v.length + 40 - 1) / 40
def wpK (n v : List Nat) (k : Nat) : List Nat := [59, 32] ++ n ++ [42] ++ numL (k : Int) ++ [61] ++ due (pcK v k)
def pairT (p : Pr) : List Nat := if p.2.length ≤ 40 then [59, 32] ++ p.1 ++ [61] ++ due p.2 else (List.range (ncK p.2)).flatMap (wpK p.1 p.2)
theorem num_small : ∀ k : Nat, k < 20 → (numL (k : Int)).length ≤ 2 := by
  intro k hk
  rw [numL_nat]
  have : ∀ k : Nat, k < 20 → ((Nat.toDigits 10 k).map Char.toNat).length ≤ 2 := by decide
  exact this k hk
theorem nc_le (v : List Nat) (h : v.length ≤ 530) : ncK v ≤ 14 := by unfold ncK; omega
theorem pc_len (v : List Nat) (k : Nat) (h : k < ncK v) : (pcK v k).length ≤ 40 := by
  unfold ncK at h
  have := cut_btw_len v (k * 40) 40 (by omega)
  unfold pcK
  rw [show ((k : Int) * 40) = ((k * 40 : Nat) : Int) by omega]
  exact this
theorem pc_sub (v : List Nat) (k : Nat) : ∀ c ∈ pcK v k, c ∈ v := fun c hc => cut_sub _ _ _ c hc
theorem due_len (v : List Nat) : (due v).length ≤ 2 * v.length + 2 := by
  have := esc_len v
  unfold due
  split
  · omega
  · simp; omega
theorem wp_len (n v : List Nat) (k : Nat) (hn : n.length ≤ 20) (h : k < ncK v) (hv : v.length ≤ 530) : (wpK n v k).length ≤ 108 := by
  have a := due_len (pcK v k)
  have b := pc_len v k h
  have c := num_small k (by have := nc_le v hv; omega)
  unfold wpK
  simp only [List.length_append, List.length_cons, List.length_nil]
  omega
def bSh (FQ : List D → RF) : Cm Out := (mAug augA 2 (mBin addD (mBin addD (mBin addD (mBin addD (mBin addD (mC (.str [59, 32])) (mVar 0)) (mC (.str [42]))) (mP1 strD (.v 3))) (mC (.str [61]))) (mCall FQ [.e (mSlc (.v 1) (some (mVar 4)) (some (mBin addD (mVar 4) (mC (.int 40)))))])))
theorem bSh_core (FQ : List D → RF) (n v f P Q M a1 a2 a3 a4 a5 a6 : List Nat) (k i : Int) (e1 : addD (.str [59, 32]) (.str n) = some (.str a1)) (e2 : addD (.str a1) (.str [42]) = some (.str a2)) (sn : strD (.int k) = some (.str M)) (e3 : addD (.str a2) (.str M) = some (.str a3)) (e4 : addD (.str a3) (.str [61]) = some (.str a4))
    (cu : cutL v (some i) (some (i + 40)) = P) (q : FQ [.str P] = .ok (.str Q) []) (e5 : addD (.str a4) (.str Q) = some (.str a5)) (e6 : augA (.str f) (.str a5) = some (.str a6)) :
    bSh FQ [some (.str n), some (.str v), some (.str f), some (.int k), some (.int i)] = .ok .nx [some (.str n), some (.str v), some (.str a6), some (.int k), some (.int i)] := by
  unfold bSh
  simp [-addD_str, -augA_str, e1, e2, sn, e3, e4, cu, q, e5, e6]
theorem aug_tx (a b : List Nat) (h : a.length + b.length ≤ 100000) : augA (.str a) (.str b) = some (.str (a ++ b)) := by rw [augA_str, if_pos (by omega)]
theorem bSh_ok (n v f : List Nat) (k : Nat) (hn : n.length ≤ 20) (hk : k < ncK v) (hv : v.length ≤ 530) (sg : ∀ c ∈ v, c < 127) (hf : f.length ≤ 50000) : bSh F_quoted_in [some (.str n), some (.str v), some (.str f), some (.int (k : Nat)), some (.int ((k : Int) * 40))] = .ok .nx [some (.str n), some (.str v), some (.str (f ++ wpK n v k)), some (.int (k : Nat)), some (.int ((k : Int) * 40))] := by
  have b := pc_len v k hk
  have q := quoted_in_ok (pcK v k) (by omega) fun c hc => by have := sg c (pc_sub v k c hc); omega
  have a := due_len (pcK v k)
  have c := num_small k (by have := nc_le v hv; omega)
  have kk : k < 20 := by have := nc_le v hv; omega
  refine bSh_core F_quoted_in n v f (pcK v k) (due (pcK v k)) (numL (k : Int)) ([59, 32] ++ n) ([59, 32] ++ n ++ [42]) ([59, 32] ++ n ++ [42] ++ numL (k : Int)) ([59, 32] ++ n ++ [42] ++ numL (k : Int) ++ [61]) (wpK n v k) _ k _ (add_tx _ _ ?_) (add_tx _ _ ?_) (strD_int _ (by omega)) (add_tx _ _ ?_) (add_tx _ _ ?_) rfl q (add_tx _ _ ?_) (aug_tx _ _ ?_)
  · simp; omega
  · simp; omega
  · simp; omega
  · simp; omega
  · simp; omega
  · have := wp_len n v k hn hk hv; omega
theorem enum_at (N i : Nat) (d : D) (h : (enumD (stepD 0 40 N))[i]? = some d) : i < N ∧ d = .tup [.int (i : Nat), .int ((i : Int) * 40)] := by
  unfold enumD stepD at h
  rw [List.getElem?_mapIdx, List.getElem?_map, Option.map_map, Option.map_eq_some_iff] at h
  obtain ⟨k, hk, rfl⟩ := h
  have hlt : i < N := by
    by_cases q : i < N
    · exact q
    · rw [List.getElem?_eq_none (by simp; omega)] at hk; cases hk
  rw [List.getElem?_range hlt] at hk
  cases hk
  exact ⟨hlt, by simp⟩
theorem sh_loop (n v : List Nat) (hn : n.length ≤ 20) (hv : v.length ≤ 530) (sg : ∀ c ∈ v, c < 127) (x3 x4 : Option D) : ∃ y3 y4, forL (mTupT [(mPut 3), (mPut 4)]) (bSh F_quoted_in) (enumD (stepD 0 40 (ncK v))) [some (.str n), some (.str v), some (.str []), x3, x4] = .ok .nx [some (.str n), some (.str v), some (.str ((List.range (ncK v)).flatMap (wpK n v))), y3, y4] := by
  let I : Nat → DE → Prop := fun k ρ => ∃ y3 y4, k ≤ ncK v ∧ ((List.range k).flatMap (wpK n v)).length ≤ 108 * k ∧ ρ = [some (.str n), some (.str v), some (.str ((List.range k).flatMap (wpK n v))), y3, y4]
  have hf : ∃ ρ', forL (mTupT [(mPut 3), (mPut 4)]) (bSh F_quoted_in) (enumD (stepD 0 40 (ncK v))) [some (.str n), some (.str v), some (.str []), x3, x4] = .ok .nx ρ' ∧ I (enumD (stepD 0 40 (ncK v))).length ρ' := by
    refine forL_inv0 I ⟨_, _, Nat.zero_le _, by simp, rfl⟩ ?_
    rintro i d ρ hd ⟨y3, y4, hi, hl, rfl⟩
    obtain ⟨hlt, rfl⟩ := enum_at _ _ _ hd
    have nl := nc_le v hv
    have wl := wp_len n v i hn hlt hv
    have b := bSh_ok n v ((List.range i).flatMap (wpK n v)) i hn hlt hv sg (by omega)
    refine ⟨[some (.str n), some (.str v), some (.str ((List.range i).flatMap (wpK n v))), some (.int (i : Nat)), some (.int ((i : Int) * 40))], rfl, .nx, _, b, Or.inl rfl, some (.int (i : Nat)), some (.int ((i : Int) * 40)), hlt, ?_, ?_⟩
    · rw [List.range_succ, List.flatMap_append, List.length_append]
      simp only [List.flatMap_cons, List.flatMap_nil, List.append_nil]
      omega
    · rw [List.range_succ, List.flatMap_append]
      simp only [List.flatMap_cons, List.flatMap_nil, List.append_nil]
  obtain ⟨ρ', e, y3, y4, _, _, rfl⟩ := hf
  have ln : (enumD (stepD 0 40 (ncK v))).length = ncK v := by simp [enumD_len, stepD]
  rw [ln] at e
  exact ⟨y3, y4, e⟩
theorem sp_short (n v Q a1 a2 a3 : List Nat) (FQ : List D → RF) (L : Cm Out) (hv : v.length ≤ 40) (q : FQ [.str v] = .ok (.str Q) []) (e1 : addD (.str [59, 32]) (.str n) = some (.str a1)) (e2 : addD (.str a1) (.str [61]) = some (.str a2)) (e3 : addD (.str a2) (.str Q) = some (.str a3)) :
    runF 5 [] (mSeq (mIf (mTest (mP2 leD (.e (mP1 lenD (.v 1))) (.e (mC (.int 40)))))
  (mRet (mBin addD (mBin addD (mBin addD (mC (.str [59, 32])) (mMove 0)) (mC (.str [61]))) (mCall FQ [.e (mMove 1)])))
  mNext) L) [.str n, .str v] = .ok (.str a3) [] := by
  have z : (v.length : Int) ≤ 40 := by omega
  simp [z, -addD_str, e1, e2, q, e3]
theorem sp_long (n v R : List Nat) (FQ : List D → RF) (M : Cm Out) (x0 x1 y0 y1 y3 y4 : Option D) (hv : ¬ v.length ≤ 40) (e : M [some (.str n), some (.str v), some (.str []), none, none] = .ok .nx [y0, y1, some (.str R), y3, y4]) :
    runF 5 [] (mSeq (mIf (mTest (mP2 leD (.e (mP1 lenD (.v 1))) (.e (mC (.int 40)))))
  (mRet (mBin addD (mBin addD (mBin addD (mC (.str [59, 32])) (mMove 0)) (mC (.str [61]))) (mCall FQ [.e (mMove 1)])))
  mNext) (mSeq (mSet 2 (mC (.str []))) (mSeq M (mRet (mMove 2))))) [.str n, .str v] = .ok (.str R) [] := by
  have z : ¬ (v.length : Int) ≤ 40 := by omega
  simp [z, e]
theorem show_pair_ok (p : Pr) (hn : p.1.length ≤ 20) (hv : p.2.length ≤ 530) (sg : ∀ c ∈ p.2, c < 127) : F_show_pair [.str p.1, .str p.2] = .ok (.str (pairT p)) [] := by
  obtain ⟨n, v⟩ := p
  simp only at hn hv sg
  have el : F_show_pair [.str n, .str v] = runF 5 [] (mSeq (mIf (mTest (mP2 leD (.e (mP1 lenD (.v 1))) (.e (mC (.int 40)))))
  (mRet (mBin addD (mBin addD (mBin addD (mC (.str [59, 32])) (mMove 0)) (mC (.str [61]))) (mCall F_quoted_in [.e (mMove 1)])))
  mNext) (mSeq (mSet 2 (mC (.str []))) (mSeq (mFor (mEnumR (mC (.int 0)) (mP1 lenD (.v 1)) (mC (.int 40))) (mTupT [(mPut 3), (mPut 4)]) (bSh F_quoted_in)) (mRet (mMove 2))))) [.str n, .str v] := rfl
  unfold pairT
  by_cases q : v.length ≤ 40
  · rw [if_pos q]
    have qi := quoted_in_ok v (by omega) fun c hc => by have := sg c hc; omega
    have a := due_len v
    exact el.trans (sp_short n v _ _ _ _ _ _ q qi (add_tx _ _ (by simp; omega)) (add_tx _ _ (by simp; omega)) (add_tx _ _ (by simp; omega)))
  · rw [if_neg q]
    obtain ⟨y3, y4, e⟩ := sh_loop n v hn hv sg none none
    refine el.trans (sp_long n v _ F_quoted_in _ none none (some (.str n)) (some (.str v)) y3 y4 q ?_)
    have er := enumR_ok (ma := mC (.int 0)) (mb := mP1 lenD (.v 1)) (mc := mC (.int 40)) (ρ := [some (.str n), some (.str v), some (.str []), none, none]) (ρ1 := [some (.str n), some (.str v), some (.str []), none, none]) (ρ2 := [some (.str n), some (.str v), some (.str []), none, none]) (ρ3 := [some (.str n), some (.str v), some (.str []), none, none]) (n := v.length) (c := 40) (N := ncK v) rfl (by simp) rfl (by decide) (by decide) (by omega) rfl
    show (mEnumR _ _ _ _).bind _ = _
    rw [er]
    exact e
end K31


namespace K31
open VS L2
/-! ### small things -/
theorem cut_take' {α : Type} (xs : List α) (n : Nat) : cutL xs none (some (n : Int)) = xs.take n := by
  by_cases h : n ≤ xs.length
  · exact cut_take xs n h
  · unfold cutL
    rw [HT.sIx_none, HT.sIx_nat, Nat.min_eq_right (by omega)]
    simp
    rw [List.take_of_length_le (by omega)]
theorem cut_drop' {α : Type} (xs : List α) (n : Nat) : cutL xs (some (n : Int)) none = xs.drop n := by
  by_cases h : n ≤ xs.length
  · exact cut_drop xs n h
  · unfold cutL
    rw [HT.sIx_none, HT.sIx_nat, Nat.min_eq_right (by omega)]
    simp
    omega
theorem forL_one {g : D → Cm Unit} {b : Cm Out} {d : D} {ds : List D} {ρ ρ1 ρ2 : DE} (h1 : g d ρ = .ok () ρ1) (h2 : b ρ1 = .ok .nx ρ2) : forL g b (d :: ds) ρ = forL g b ds ρ2 := by
  simp only [forL, h1, R.bind_ok, h2]
theorem seq_nx {a b : Cm Out} {ρ ρ1 : DE} (h : a ρ = .ok .nx ρ1) : mSeq a b ρ = b ρ1 := by rw [mSeq_, h]; rfl
/-! ### a kind, written -/
def kdT (m s : List Nat) (ps : List Pr) : List Nat := m ++ [47] ++ s ++ (ps.map pairT).flatten
theorem pair_len (p : Pr) (h : PrK p) : (pairT p).length ≤ 1512 := by
  obtain ⟨n, v⟩ := p
  have hn : n.length ≤ 20 := h.ti.len
  have hv : v.length ≤ 530 := h.len
  unfold pairT
  simp only
  split
  · have := due_len v; simp; omega
  · have nl := nc_le v hv
    have k : ∀ m, m ≤ ncK v → ((List.range m).flatMap (wpK n v)).length ≤ 108 * m := by
      intro m
      induction m with
      | zero => simp
      | succ m ih =>
        intro hm
        have wl := wp_len n v m hn hm hv
        have := ih (by omega)
        rw [List.range_succ, List.flatMap_append, List.length_append]
        simp only [List.flatMap_cons, List.flatMap_nil, List.append_nil]
        omega
    have := k _ (Nat.le_refl _)
    omega
theorem pairs_len (ps : List Pr) (h : ∀ p ∈ ps, PrK p) : ((ps.map pairT).map List.length).sum ≤ 1512 * ps.length := by
  induction ps with
  | nil => simp
  | cons p r ih =>
    have a := pair_len p (h p (by simp))
    have b := ih fun q hq => h q (by simp [hq])
    simp only [List.map_cons, List.sum_cons, List.length_cons]
    omega
theorem lc_show (x0 x1 x2 x3 : Option D) (ps : List Pr) (h : ∀ p ∈ ps, PrK p) : lcL (mUnp [mPut 4, mPut 5]) mYes (mCall F_show_pair [.p 4, .p 5]) [4, 5] (ps.map prD) [x0, x1, x2, x3, none, none] = .ok ((ps.map pairT).map D.str) [x0, x1, x2, x3, none, none] := by
  rw [List.map_map]
  refine lcL_mapM prD (D.str ∘ pairT) ps fun p hp => ⟨[x0, x1, x2, x3, some (.str p.1), some (.str p.2)], [x0, x1, x2, x3, some (.str p.1), some (.str p.2)], rfl, ?_, rfl⟩
  have k := h p hp
  have e := show_pair_ok p k.ti.len k.len k.sg
  simp [e]
theorem sk_core (o : Ow) (m s J a1 a2 a3 : List Nat) (P R : List D) (FK FS : List D → RF) (fz : P.map D.fz = P) (k : ∀ o, FK [.tup [.str m, .str s, .lst o P]] = .ok (.bl true) []) (zP : P.length ≤ 16777216)
    (l : ∀ y0 y1 y2 y3, lcL (mUnp [mPut 4, mPut 5]) mYes (mCall FS [.p 4, .p 5]) [4, 5] P [y0, y1, y2, y3, none, none] = .ok R [y0, y1, y2, y3, none, none]) (zR : R.length ≤ 16777216) (j : ∀ o, joinD (.str []) (.lst o R) = some (.str J)) (e1 : addD (.str m) (.str [47]) = some (.str a1)) (e2 : addD (.str a1) (.str s) = some (.str a2)) (e3 : addD (.str a2) (.str J) = some (.str a3)) :
    runF 6 [] (mSeq (mIf (mNot (mTest (mCall FK [.p 0])))
  mStuckO
  mNext)
  (mSeq (mAsg (mVar 0) (mTupT [(mPut 1), (mPut 2), (mPut 3)]))
  (mRet (mBin addD (mBin addD (mBin addD (mMove 1) (mC (.str [47]))) (mMove 2)) (mM joinD (.e (mC (.str []))) (.e (mLc (mItemsL (mVar 3)) (mUnp [mPut 4, mPut 5]) mYes (mCall FS [.p 4, .p 5]) [4, 5]))))))) [.tup [.str m, .str s, .lst o P]] = .ok (.str a3) [] := by
  cases o <;> simp [k, fz, zP, zR, l, -addD_str, e1, e2, j, e3, saved, wipeD, restD]
theorem show_kind_ok (o : Ow) (m s : List Nat) (ps : List Pr) (h : KdK m s ps) : F_show_kind [kdD o m s ps] = .ok (.str (kdT m s ps)) [] := by
  have el : F_show_kind [kdD o m s ps] = runF 6 [] (mSeq (mIf (mNot (mTest (mCall F_is_kind [.p 0])))
  mStuckO
  mNext)
  (mSeq (mAsg (mVar 0) (mTupT [(mPut 1), (mPut 2), (mPut 3)]))
  (mRet (mBin addD (mBin addD (mBin addD (mMove 1) (mC (.str [47]))) (mMove 2)) (mM joinD (.e (mC (.str []))) (.e (mLc (mItemsL (mVar 3)) (mUnp [mPut 4, mPut 5]) mYes (mCall F_show_pair [.p 4, .p 5]) [4, 5]))))))) [.tup [.str m, .str s, .lst o (ps.map prD)]] := rfl
  have pl := pairs_len ps h.pk
  have nl := h.len
  have ml := h.m.len
  have sl := h.s.len
  have fl : (ps.map pairT).flatten.length ≤ 12096 := by rw [List.length_flatten]; omega
  have j := fun o => join_e o (ps.map pairT) (by omega)
  exact el.trans (sk_core o m s _ _ _ _ (ps.map prD) ((ps.map pairT).map D.str) F_is_kind F_show_pair (pr_fz ps) (fun o => is_kind_ok o m s ps h) (by simp; omega) (fun y0 y1 y2 y3 => lc_show y0 y1 y2 y3 ps h.pk) (by simp; omega) j (add_tx _ _ (by simp; omega)) (add_tx _ _ (by simp; omega)) (add_tx _ _ (by simp only [List.length_append, List.length_singleton]; omega)))
/-! ### the law's own kind, written -/
def bDv (FP : List D → RF) : Cm Out := (mSeq (mSet 4 (mBin addD (mBin addD (mBin addD (mBin addD (mBin addD (mVar 4) (mC (.str [59, 32]))) (mVar 5)) (mC (.str [42]))) (mP1 strD (.e (mBin fdivD (mVar 7) (mC (.int 40)))))) (mC (.str [61]))))
  (mSet 4 (mBin addD (mVar 4) (mCall FP [.e (mSlc (.v 6) (some (mVar 7)) (some (mBin addD (mVar 7) (mC (.int 40)))))]))))
theorem bDv_core (FP : List D → RF) (x0 x1 x2 x3 : Option D) (n v f P Q M a0 a1 a2 a3 a4 a5 : List Nat) (k i : Int) (e0 : addD (.str f) (.str [59, 32]) = some (.str a0)) (e1 : addD (.str a0) (.str n) = some (.str a1)) (e2 : addD (.str a1) (.str [42]) = some (.str a2)) (dv : i / 40 = k) (sn : strD (.int k) = some (.str M)) (e3 : addD (.str a2) (.str M) = some (.str a3)) (e4 : addD (.str a3) (.str [61]) = some (.str a4))
    (cu : cutL v (some i) (some (i + 40)) = P) (q : FP [.str P] = .ok (.str Q) []) (e5 : addD (.str a4) (.str Q) = some (.str a5)) :
    bDv FP [x0, x1, x2, x3, some (.str f), some (.str n), some (.str v), some (.int i)] = .ok .nx [x0, x1, x2, x3, some (.str a5), some (.str n), some (.str v), some (.int i)] := by
  unfold bDv
  simp [-addD_str, e0, e1, e2, dv, sn, e3, e4, cu, q, e5]
theorem bDv_ok (x0 x1 x2 x3 : Option D) (n v f : List Nat) (k : Nat) (hn : n.length ≤ 20) (hk : k < ncK v) (hv : v.length ≤ 530) (hf : f.length ≤ 50000) : bDv F__law_plain [x0, x1, x2, x3, some (.str f), some (.str n), some (.str v), some (.int ((k : Int) * 40))] = .ok .nx [x0, x1, x2, x3, some (.str (f ++ wpK n v k)), some (.str n), some (.str v), some (.int ((k : Int) * 40))] := by
  have b := pc_len v k hk
  have q := law_plain_ok (pcK v k) (by omega)
  have a := due_len (pcK v k)
  have c := num_small k (by have := nc_le v hv; omega)
  have kk : k < 20 := by have := nc_le v hv; omega
  have e : f ++ wpK n v k = f ++ [59, 32] ++ n ++ [42] ++ numL (k : Int) ++ [61] ++ due (pcK v k) := by simp [wpK]
  rw [e]
  refine bDv_core F__law_plain x0 x1 x2 x3 n v f (pcK v k) (due (pcK v k)) (numL (k : Int)) (f ++ [59, 32]) (f ++ [59, 32] ++ n) (f ++ [59, 32] ++ n ++ [42]) (f ++ [59, 32] ++ n ++ [42] ++ numL (k : Int)) (f ++ [59, 32] ++ n ++ [42] ++ numL (k : Int) ++ [61]) _ k _ (add_tx _ _ ?_) (add_tx _ _ ?_) (add_tx _ _ ?_) (by omega) (strD_int _ (by omega)) (add_tx _ _ ?_) (add_tx _ _ ?_) rfl q (add_tx _ _ ?_) <;> simp <;> omega
theorem step_at (N i : Nat) (d : D) (h : (stepD 0 40 N)[i]? = some d) : i < N ∧ d = .int ((i : Int) * 40) := by
  unfold stepD at h
  rw [List.getElem?_map, Option.map_eq_some_iff] at h
  obtain ⟨k, hk, rfl⟩ := h
  have hlt : i < N := by
    by_cases q : i < N
    · exact q
    · rw [List.getElem?_eq_none (by simp; omega)] at hk; cases hk
  rw [List.getElem?_range hlt] at hk
  cases hk
  exact ⟨hlt, by simp⟩
theorem du_loop (x0 x1 x2 x3 x7 : Option D) (n v f : List Nat) (hn : n.length ≤ 20) (hv : v.length ≤ 530) (hf : f.length ≤ 40000) : ∃ y7, forL (mPut 7) (bDv F__law_plain) (stepD 0 40 (ncK v)) [x0, x1, x2, x3, some (.str f), some (.str n), some (.str v), x7] = .ok .nx [x0, x1, x2, x3, some (.str (f ++ (List.range (ncK v)).flatMap (wpK n v))), some (.str n), some (.str v), y7] := by
  let I : Nat → DE → Prop := fun k ρ => ∃ y7, k ≤ ncK v ∧ ((List.range k).flatMap (wpK n v)).length ≤ 108 * k ∧ ρ = [x0, x1, x2, x3, some (.str (f ++ (List.range k).flatMap (wpK n v))), some (.str n), some (.str v), y7]
  have hf2 : ∃ ρ', forL (mPut 7) (bDv F__law_plain) (stepD 0 40 (ncK v)) [x0, x1, x2, x3, some (.str f), some (.str n), some (.str v), x7] = .ok .nx ρ' ∧ I (stepD 0 40 (ncK v)).length ρ' := by
    refine forL_inv0 I ⟨x7, Nat.zero_le _, by simp, by simp⟩ ?_
    rintro i d ρ hd ⟨y7, hi, hl, rfl⟩
    obtain ⟨hlt, rfl⟩ := step_at _ _ _ hd
    have nl := nc_le v hv
    have wl := wp_len n v i hn hlt hv
    have b := bDv_ok x0 x1 x2 x3 n v (f ++ (List.range i).flatMap (wpK n v)) i hn hlt hv (by simp only [List.length_append]; omega)
    refine ⟨[x0, x1, x2, x3, some (.str (f ++ (List.range i).flatMap (wpK n v))), some (.str n), some (.str v), some (.int ((i : Int) * 40))], rfl, .nx, _, b, Or.inl rfl, some (.int ((i : Int) * 40)), hlt, ?_, ?_⟩
    · rw [List.range_succ, List.flatMap_append, List.length_append]
      simp only [List.flatMap_cons, List.flatMap_nil, List.append_nil]
      omega
    · rw [List.range_succ, List.flatMap_append]
      simp only [List.flatMap_cons, List.flatMap_nil, List.append_nil, List.append_assoc]
  obtain ⟨ρ', e, y7, _, _, rfl⟩ := hf2
  have ln : (stepD 0 40 (ncK v)).length = ncK v := by simp [stepD]
  rw [ln] at e
  exact ⟨y7, e⟩
def bDu (FP : List D → RF) (L : Cm Out) : Cm Out := (mIf (mTest (mP2 leD (.e (mP1 lenD (.v 6))) (.e (mC (.int 40)))))
  (mSet 4 (mBin addD (mBin addD (mBin addD (mBin addD (mVar 4) (mC (.str [59, 32]))) (mVar 5)) (mC (.str [61]))) (mCall FP [.p 6])))
  L)
theorem bDu_short (FP : List D → RF) (L : Cm Out) (x0 x1 x2 x3 x7 : Option D) (n v f Q a0 a1 a2 a3 : List Nat) (hv : v.length ≤ 40) (e0 : addD (.str f) (.str [59, 32]) = some (.str a0)) (e1 : addD (.str a0) (.str n) = some (.str a1)) (e2 : addD (.str a1) (.str [61]) = some (.str a2)) (q : FP [.str v] = .ok (.str Q) []) (e3 : addD (.str a2) (.str Q) = some (.str a3)) :
    bDu FP L [x0, x1, x2, x3, some (.str f), some (.str n), some (.str v), x7] = .ok .nx [x0, x1, x2, x3, some (.str a3), some (.str n), some (.str v), x7] := by
  have z : (v.length : Int) ≤ 40 := by omega
  unfold bDu
  simp [z, -addD_str, e0, e1, e2, q, e3]
theorem bDu_long (FP : List D → RF) (L : Cm Out) (ρ : DE) (v : List Nat) (h : ρ[6]? = some (some (.str v))) (hv : ¬ v.length ≤ 40) : bDu FP L ρ = L ρ := by
  have z : ¬ (v.length : Int) ≤ 40 := by omega
  unfold bDu
  simp [z, h]
theorem bDu_ok (x0 x1 x2 x3 x7 : Option D) (p : Pr) (f : List Nat) (hp : PrK p) (hf : f.length ≤ 40000) : ∃ y7, bDu F__law_plain (mFor (mRange3 (mC (.int 0)) (mP1 lenD (.v 6)) (mC (.int 40))) (mPut 7) (bDv F__law_plain)) [x0, x1, x2, x3, some (.str f), some (.str p.1), some (.str p.2), x7] = .ok .nx [x0, x1, x2, x3, some (.str (f ++ pairT p)), some (.str p.1), some (.str p.2), y7] := by
  obtain ⟨n, v⟩ := p
  have hn : n.length ≤ 20 := hp.ti.len
  have hv : v.length ≤ 530 := hp.len
  simp only
  unfold pairT
  by_cases q : v.length ≤ 40
  · simp only [q, if_true]
    have pl := law_plain_ok v (by omega)
    have a := due_len v
    have e : f ++ ([59, 32] ++ n ++ [61] ++ due v) = f ++ [59, 32] ++ n ++ [61] ++ due v := by simp
    rw [e]
    exact ⟨x7, bDu_short F__law_plain _ x0 x1 x2 x3 x7 n v f _ _ _ _ _ q (add_tx _ _ (by simp; omega)) (add_tx _ _ (by simp; omega)) (add_tx _ _ (by simp; omega)) pl (add_tx _ _ (by simp; omega))⟩
  · simp only [q, if_false]
    obtain ⟨y7, e⟩ := du_loop x0 x1 x2 x3 x7 n v f hn hv hf
    refine ⟨y7, ?_⟩
    rw [bDu_long F__law_plain _ _ v rfl q]
    have er := range3_ok (ma := mC (.int 0)) (mb := mP1 lenD (.v 6)) (mc := mC (.int 40)) (ρ := [x0, x1, x2, x3, some (.str f), some (.str n), some (.str v), x7]) (ρ1 := [x0, x1, x2, x3, some (.str f), some (.str n), some (.str v), x7]) (ρ2 := [x0, x1, x2, x3, some (.str f), some (.str n), some (.str v), x7]) (ρ3 := [x0, x1, x2, x3, some (.str f), some (.str n), some (.str v), x7]) (n := v.length) (c := 40) (N := ncK v) rfl (by simp) rfl (by decide) (by decide) (by omega) rfl
    show (mRange3 _ _ _ _).bind _ = _
    rw [er]
    exact e
theorem dk_loop (x0 x1 x2 x3 : Option D) : ∀ (ps : List Pr) (f : List Nat) (x5 x6 x7 : Option D), (∀ p ∈ ps, PrK p) → f.length + 1512 * ps.length ≤ 40000 → ∃ y5 y6 y7, forL (mTupT [(mPut 5), (mPut 6)]) (bDu F__law_plain (mFor (mRange3 (mC (.int 0)) (mP1 lenD (.v 6)) (mC (.int 40))) (mPut 7) (bDv F__law_plain))) (ps.map prD) [x0, x1, x2, x3, some (.str f), x5, x6, x7] = .ok .nx [x0, x1, x2, x3, some (.str (f ++ (ps.map pairT).flatten)), y5, y6, y7]
  | [], f, x5, x6, x7, _, _ => ⟨x5, x6, x7, by simp [forL]⟩
  | p :: r, f, x5, x6, x7, h, hl => by
    simp only [List.length_cons] at hl
    have pl := pair_len p (h p (by simp))
    obtain ⟨y7, b⟩ := bDu_ok x0 x1 x2 x3 x7 p f (h p (by simp)) (by omega)
    obtain ⟨z5, z6, z7, e⟩ := dk_loop x0 x1 x2 x3 r (f ++ pairT p) (some (.str p.1)) (some (.str p.2)) y7 (fun q hq => h q (by simp [hq])) (by simp only [List.length_append]; omega)
    refine ⟨z5, z6, z7, ?_⟩
    have g : (mTupT [(mPut 5), (mPut 6)]) (prD p) [x0, x1, x2, x3, some (.str f), x5, x6, x7] = .ok () [x0, x1, x2, x3, some (.str f), some (.str p.1), some (.str p.2), x7] := rfl
    rw [List.map_cons, forL_one g b, e]
    simp
theorem ld_core (o : Ow) (m s a1 a2 R : List Nat) (P : List D) (B : Cm Out) (y5 y6 y7 : Option D) (fz : P.map D.fz = P) (e1 : addD (.str m) (.str [47]) = some (.str a1)) (e2 : addD (.str a1) (.str s) = some (.str a2))
    (l : ∀ y0 y1 y2 y3, ∃ y5 y6 y7, forL (mTupT [(mPut 5), (mPut 6)]) B P [y0, y1, y2, y3, some (.str a2), none, none, none] = .ok .nx [y0, y1, y2, y3, some (.str R), y5, y6, y7]) :
    runF 8 [] (mSeq (mAsg (mVar 0) (mTupT [(mPut 1), (mPut 2), (mPut 3)]))
  (mSeq (mSet 4 (mBin addD (mBin addD (mVar 1) (mC (.str [47]))) (mVar 2)))
  (mSeq (mFor (mItemsL (mVar 3)) (mTupT [(mPut 5), (mPut 6)]) B)
  (mRet (mMove 4))))) [.tup [.str m, .str s, .lst o P]] = .ok (.str R) [] := by
  generalize hg : mTupT [(mPut 5), (mPut 6)] = G at *
  cases o
  · obtain ⟨y5, y6, y7, l⟩ := l (some (.tup [.str m, .str s, .lst .shr P])) (some (.str m)) (some (.str s)) (some (.lst .shr P))
    simp [fz, -addD_str, e1, e2, l]
  · obtain ⟨y5, y6, y7, l⟩ := l (some (.tup [.str m, .str s, .lst .shr P])) (some (.str m)) (some (.str s)) (some (.lst .shr P))
    simp [fz, -addD_str, e1, e2, l]
  · obtain ⟨y5, y6, y7, l⟩ := l (some (.tup [.str m, .str s, .lst .frz P])) (some (.str m)) (some (.str s)) (some (.lst .frz P))
    simp [fz, -addD_str, e1, e2, l]
  · obtain ⟨y5, y6, y7, l⟩ := l (some (.tup [.str m, .str s, .lst .stc P])) (some (.str m)) (some (.str s)) (some (.lst .stc P))
    simp [fz, -addD_str, e1, e2, l]
theorem law_due_ok (o : Ow) (m s : List Nat) (ps : List Pr) (h : KdK m s ps) : F__law_due [kdD o m s ps] = .ok (.str (kdT m s ps)) [] := by
  have el : F__law_due [kdD o m s ps] = runF 8 [] (mSeq (mAsg (mVar 0) (mTupT [(mPut 1), (mPut 2), (mPut 3)]))
  (mSeq (mSet 4 (mBin addD (mBin addD (mVar 1) (mC (.str [47]))) (mVar 2)))
  (mSeq (mFor (mItemsL (mVar 3)) (mTupT [(mPut 5), (mPut 6)]) (bDu F__law_plain (mFor (mRange3 (mC (.int 0)) (mP1 lenD (.v 6)) (mC (.int 40))) (mPut 7) (bDv F__law_plain))))
  (mRet (mMove 4))))) [.tup [.str m, .str s, .lst o (ps.map prD)]] := rfl
  have nl := h.len
  have ml := h.m.len
  have sl := h.s.len
  refine el.trans (ld_core o m s _ _ _ (ps.map prD) _ none none none (pr_fz ps) (add_tx _ _ (by simp; omega)) (add_tx _ _ (by simp; omega)) fun y0 y1 y2 y3 => ?_)
  exact dk_loop y0 y1 y2 y3 ps (m ++ [47] ++ s) none none none h.pk (by simp; omega)
end K31


namespace K31
open VS L2
/-! ### kinds drawn -/
def TL : List Nat := [97, 98, 121, 122, 48, 53, 57, 45]
theorem ti_core (s s1 s2 s3 : D) (A B AB c1 c2 c3 : List Nat) (j n : Int) (n1 : F__law_next [s, .int 5] = .ok (.int j) [s1]) (ix : atI [D.int 0, D.int 2, D.int 7, D.int 18, D.int 19] j = some (.int n)) (g1 : F__law_signs [s1, .str A, .int 1] = .ok (.str c1) [s2])
    (a1 : addD (.str TL) (.str B) = some (.str AB)) (g2 : F__law_signs [s2, .str AB, .int n] = .ok (.str c2) [s3]) (a2 : addD (.str c1) (.str c2) = some (.str c3)) :
    F__law_title [s, .str A, .str B] = .ok (.str c3) [s3] := by
  have el : F__law_title [s, .str A, .str B] = runF 4 [0] (mSeq (mSet 3 (mIdx (.e (mLst [(mC (.int 0)), (mC (.int 2)), (mC (.int 7)), (mC (.int 18)), (mC (.int 19))])) (mCall F__law_next [.s 0, .e (mC (.int 5))])))
  (mRet (mBin addD (mCall F__law_signs [.s 0, .e (mMove 1), .e (mC (.int 1))]) (mCall F__law_signs [.s 0, .e (mBin addD (mC (.str TL)) (mMove 2)), .e (mMove 3)])))) [s, .str A, .str B] := rfl
  rw [el]
  generalize TL = L at *
  simp [n1, ix, g1, -addD_str, a1, g2, a2]
theorem title_drawn (s : Int × Int × Int) (A B S : List Nat) (hA : A ≠ []) (lA : A.length ≤ 100) (lB : B.length ≤ 100) (h1 : ∀ c ∈ A, c ∈ k_SMALL) (h2 : ∀ c ∈ A, c ∈ S) (h3 : ∀ c ∈ TL ++ B, c ∈ S) : ∃ (s' : Int × Int × Int) (t : List Nat), TitK S t ∧ (∃ c r, t = c :: r ∧ c ∈ A) ∧ F__law_title [encS s, .str A, .str B] = .ok (.str t) [encS s'] := by
  have n1 := next_f s 5 (by decide) (by decide)
  have l1 := nx_nn s 5 (by decide) (by decide)
  have u1 := nx_lt s 5 (by decide) (by decide)
  generalize nx s 5 = j at *
  generalize sn s 5 = s1 at *
  obtain ⟨n, hn, ix⟩ : ∃ n : Nat, n ≤ 19 ∧ atI [D.int 0, D.int 2, D.int 7, D.int 18, D.int 19] j = some (.int (n : Nat)) := by
    have : j = 0 ∨ j = 1 ∨ j = 2 ∨ j = 3 ∨ j = 4 := by omega
    rcases this with rfl | rfl | rfl | rfl | rfl
    · exact ⟨0, by decide, rfl⟩
    · exact ⟨2, by decide, rfl⟩
    · exact ⟨7, by decide, rfl⟩
    · exact ⟨18, by decide, rfl⟩
    · exact ⟨19, by decide, rfl⟩
  obtain ⟨c1, s2, g1, e1, m1⟩ := signs_ok s1 A 1 hA (by omega) (by decide)
  obtain ⟨c2, s3, g2, e2, m2⟩ := signs_ok s2 (TL ++ B) n (by simp [TL]) (by simp [TL]; omega) (by omega)
  obtain ⟨c, rfl⟩ := List.length_eq_one_iff.1 e1
  have hc := m1 c (by simp)
  refine ⟨s3, [c] ++ c2, ⟨by simp; omega, ⟨c, c2, rfl, h1 c hc⟩, fun x hx => ?_⟩, ⟨c, c2, rfl, hc⟩, ti_core (encS s) (encS s1) (encS s2) (encS s3) A B _ [c] c2 _ j n n1 ix g1 (add_tx _ _ (by simp [TL]; omega)) g2 (add_tx _ _ (by simp; omega))⟩
  rcases List.mem_append.1 hx with hx | hx
  · rw [List.mem_singleton] at hx; subst hx; exact h2 _ hc
  · exact h3 x (m2 x hx)
def LT : List Nat := [97, 98, 99, 100, 101, 102, 103, 104]
def SM : List (List Nat) := [[97, 98, 90, 57, 46, 47, 61, 63, 39, 95], [97, 98, 32, 34, 92, 59, 61, 42, 40, 41], [97, 66, 57, 32]]
theorem SM_ok : ∀ S ∈ SM, S ≠ [] ∧ S.length ≤ 100 ∧ ∀ c ∈ S, c < 127 ∧ c ≠ 10 := by decide
def cMo : Cm Bool := (mAnd (mTest (mP2 eqD (.e (mCall F__law_next [.s 0, .e (mC (.int 24))])) (.e (mC (.int 0))))) (mTest (mP2 ltD (.e (mP1 sumD (.e (mLcI 2 (mUnp [mPut 7, mPut 8]) mYes (mP1 lenD (.v 8)) [7, 8])))) (.e (mC (.int 300))))))
def bKd : Cm Out := (mSeq (mSet 4 (mCall F__law_title [.s 0, .e (mIdx (.e (mC (.str LT))) (mVar 3)), .e (mC (.str []))]))
  (mSeq (mSet 5 (mIdx (.e (mLst [(mC (.str [97, 98, 90, 57, 46, 47, 61, 63, 39, 95])), (mC (.str [97, 98, 32, 34, 92, 59, 61, 42, 40, 41])), (mC (.str [97, 66, 57, 32]))])) (mCall F__law_next [.s 0, .e (mC (.int 3))])))
  (mSeq (mSet 6 (mIdx (.e (mLst [(mC (.int 0)), (mC (.int 1)), (mC (.int 5)), (mC (.int 39)), (mC (.int 40)), (mC (.int 41)), (mC (.int 79)), (mC (.int 80)), (mC (.int 81)), (mCall F__law_next [.s 0, .e (mC (.int 140))])])) (mCall F__law_next [.s 0, .e (mC (.int 10))])))
  (mSeq (mIf cMo
  (mSet 6 (mBin addD (mC (.int 400)) (mCall F__law_next [.s 0, .e (mC (.int 130))])))
  mNext)
  (mDrop (mApp 2 (mTup [(mVar 4), (mCall F__law_signs [.s 0, .p 5, .p 6])])))))))
theorem lc_lens (x0 x1 x2 x3 x4 x5 x6 : Option D) (ps : List Pr) : lcL (mUnp [mPut 7, mPut 8]) mYes (mP1 lenD (.v 8)) [7, 8] (ps.map prD) [x0, x1, x2, x3, x4, x5, x6, none, none] = .ok ((ps.map fun p => (p.2.length : Int)).map D.int) [x0, x1, x2, x3, x4, x5, x6, none, none] := by
  rw [List.map_map]
  exact lcL_mapM prD (D.int ∘ fun p => (p.2.length : Int)) ps fun p hp => ⟨[x0, x1, x2, x3, x4, x5, x6, some (.str p.1), some (.str p.2)], [x0, x1, x2, x3, x4, x5, x6, some (.str p.1), some (.str p.2)], rfl, by simp, rfl⟩
theorem pr_purD : ∀ ps : List Pr, Ds.pur (ps.map prD) = true
  | [] => rfl
  | p :: ps => by
    rw [List.map_cons, Ds.pur, pr_purD ps]
    rfl
theorem cMo_ok (s : Int × Int × Int) (ps : List Pr) (hl : ps.length ≤ 8) (x1 x3 x4 x5 x6 x7 x8 : Option D) (h78 : x7 = none ∧ x8 = none) : ∃ (b : Bool) (s' : Int × Int × Int), cMo [some (encS s), x1, some (.lst .own (ps.map prD)), x3, x4, x5, x6, x7, x8] = .ok b [some (encS s'), x1, some (.lst .own (ps.map prD)), x3, x4, x5, x6, x7, x8] := by
  obtain ⟨rfl, rfl⟩ := h78
  have n1 := next_f s 24 (by decide) (by decide)
  generalize nx s 24 = j at *
  generalize sn s 24 = s1 at *
  have l := lc_lens (some (encS s1)) x1 none x3 x4 x5 x6 ps
  have sm := fun o => sumD_ o (ps.map fun p => (p.2.length : Int))
  have pp : Ds.pur (ps.map prD) = true := pr_purD ps
  have zP : (ps.map prD).length ≤ 16777216 := by simp; omega
  generalize ps.map prD = P at *
  generalize hN : (ps.map fun p => (p.2.length : Int)) = N at *
  have sm2 : ∀ o, sumD (.lst o (N.map D.int)) = some (.int N.sum) := sm
  generalize N.map D.int = M at *
  generalize N.sum = t at *
  generalize encS s = e0 at *
  generalize he : encS s1 = e1 at *
  by_cases q : j = 0
  · subst q
    refine ⟨decide (t < 300), s1, ?_⟩
    unfold cMo
    simp [n1, pp, zP, l, sm2, saved, wipeD, restD, he]
  · refine ⟨false, s1, ?_⟩
    have q2 : (j == 0) = false := by simpa using q
    unfold cMo
    simp [n1, q, q2, he]
end K31


namespace K31
open VS L2
theorem st1 (e e1 : D) (c : Nat) (N L : List Nat) (k : Int) (hL : LT = L) (ix : atI L k = some c) (ti : F__law_title [e, .str [c], .str []] = .ok (.str N) [e1]) (x1 x2 x4 x5 x6 x7 x8 : Option D) :
    mSet 4 (mCall F__law_title [.s 0, .e (mIdx (.e (mC (.str L))) (mVar 3)), .e (mC (.str []))]) [some e, x1, x2, some (.int k), x4, x5, x6, x7, x8] = .ok .nx [some e1, x1, x2, some (.int k), some (.str N), x5, x6, x7, x8] := by
  simp [ix, ti]
theorem st2 (e e1 : D) (j : Int) (S : List Nat) (n : F__law_next [e, .int 3] = .ok (.int j) [e1]) (ix : atI (SM.map D.str) j = some (.str S)) (x1 x2 x3 x4 x5 x6 x7 x8 : Option D) :
    mSet 5 (mIdx (.e (mLst [(mC (.str [97, 98, 90, 57, 46, 47, 61, 63, 39, 95])), (mC (.str [97, 98, 32, 34, 92, 59, 61, 42, 40, 41])), (mC (.str [97, 66, 57, 32]))])) (mCall F__law_next [.s 0, .e (mC (.int 3))])) [some e, x1, x2, x3, x4, x5, x6, x7, x8] = .ok .nx [some e1, x1, x2, x3, x4, some (.str S), x6, x7, x8] := by
  unfold SM at ix
  simp only [List.map_cons, List.map_nil] at ix
  simp [n, ix]
theorem st3 (e e1 e2 : D) (a b m : Int) (n1 : F__law_next [e, .int 140] = .ok (.int a) [e1]) (n2 : F__law_next [e1, .int 10] = .ok (.int b) [e2]) (ix : atI [D.int 0, D.int 1, D.int 5, D.int 39, D.int 40, D.int 41, D.int 79, D.int 80, D.int 81, D.int a] b = some (.int m)) (x1 x2 x3 x4 x5 x6 x7 x8 : Option D) :
    mSet 6 (mIdx (.e (mLst [(mC (.int 0)), (mC (.int 1)), (mC (.int 5)), (mC (.int 39)), (mC (.int 40)), (mC (.int 41)), (mC (.int 79)), (mC (.int 80)), (mC (.int 81)), (mCall F__law_next [.s 0, .e (mC (.int 140))])])) (mCall F__law_next [.s 0, .e (mC (.int 10))])) [some e, x1, x2, x3, x4, x5, x6, x7, x8] = .ok .nx [some e2, x1, x2, x3, x4, x5, some (.int m), x7, x8] := by
  simp [n1, n2, ix]
theorem st4 (C : Cm Bool) (e e1 e2 : D) (b : Bool) (r m : Int) (x1 x2 x3 x4 x5 x7 x8 : Option D) (c : C [some e, x1, x2, x3, x4, x5, some (.int m), x7, x8] = .ok b [some e1, x1, x2, x3, x4, x5, some (.int m), x7, x8]) (n : F__law_next [e1, .int 130] = .ok (.int r) [e2]) :
    (mIf C (mSet 6 (mBin addD (mC (.int 400)) (mCall F__law_next [.s 0, .e (mC (.int 130))]))) mNext) [some e, x1, x2, x3, x4, x5, some (.int m), x7, x8] = .ok .nx [some (if b = true then e2 else e1), x1, x2, x3, x4, x5, some (.int (if b = true then 400 + r else m)), x7, x8] := by
  cases b <;> simp [c, n]
theorem st5 (e e1 : D) (N S V : List Nat) (m : Int) (P : List D) (lP : P.length < 16777216) (g : F__law_signs [e, .str S, .int m] = .ok (.str V) [e1]) (x1 x3 x7 x8 : Option D) :
    mDrop (mApp 2 (mTup [(mVar 4), (mCall F__law_signs [.s 0, .p 5, .p 6])])) [some e, x1, some (.lst .own P), x3, some (.str N), some (.str S), some (.int m), x7, x8] = .ok .nx [some e1, x1, some (.lst .own (P ++ [.tup [.str N, .str V]])), x3, some (.str N), some (.str S), some (.int m), x7, x8] := by
  simp [g, lP]
theorem many_at (a b : Int) (ha : 0 ≤ a ∧ a < 140) (hb : 0 ≤ b ∧ b < 10) : ∃ m : Nat, m ≤ 140 ∧ atI [D.int 0, D.int 1, D.int 5, D.int 39, D.int 40, D.int 41, D.int 79, D.int 80, D.int 81, D.int a] b = some (.int (m : Nat)) := by
  obtain ⟨k, rfl⟩ := Int.eq_ofNat_of_zero_le ha.1
  have : b = 0 ∨ b = 1 ∨ b = 2 ∨ b = 3 ∨ b = 4 ∨ b = 5 ∨ b = 6 ∨ b = 7 ∨ b = 8 ∨ b = 9 := by omega
  rcases this with rfl | rfl | rfl | rfl | rfl | rfl | rfl | rfl | rfl | rfl
  · exact ⟨0, by decide, rfl⟩
  · exact ⟨1, by decide, rfl⟩
  · exact ⟨5, by decide, rfl⟩
  · exact ⟨39, by decide, rfl⟩
  · exact ⟨40, by decide, rfl⟩
  · exact ⟨41, by decide, rfl⟩
  · exact ⟨79, by decide, rfl⟩
  · exact ⟨80, by decide, rfl⟩
  · exact ⟨81, by decide, rfl⟩
  · exact ⟨k, by omega, rfl⟩
theorem bKd_ok (s : Int × Int × Int) (ps : List Pr) (k : Nat) (hk : k < 8) (hl : ps.length ≤ 8) (x1 x4 x5 x6 : Option D) : ∃ (s' : Int × Int × Int) (p : Pr) (y4 y5 y6 : Option D), PrK p ∧ p.1.head? = LT[k]? ∧ bKd [some (encS s), x1, some (.lst .own (ps.map prD)), some (.int (k : Nat)), x4, x5, x6, none, none] = .ok .nx [some (encS s'), x1, some (.lst .own ((ps ++ [p]).map prD)), some (.int (k : Nat)), y4, y5, y6, none, none] := by
  obtain ⟨c, hc, hcs, hck⟩ : ∃ c, atI LT (k : Int) = some c ∧ c ∈ k_SMALL ∧ LT[k]? = some c := by
    have hkl : k < LT.length := by simpa [LT] using hk
    refine ⟨LT[k], by rw [atI_nn _ _ hkl]; simp [hkl], ?_, by simp [hkl]⟩
    have : ∀ c ∈ LT, c ∈ k_SMALL := by decide
    exact this _ (List.getElem_mem _)
  have sk : ∀ c ∈ k_SMALL, c ∈ k_KEY_SIGNS := by decide
  obtain ⟨s1, N, hN, ⟨c2, r2, rfl, hc2⟩, ti⟩ := title_drawn s [c] [] k_KEY_SIGNS (by simp) (by simp) (by simp) (by simpa using hcs) (by simpa using sk c hcs) (by decide)
  rw [List.mem_singleton] at hc2
  subst hc2
  have n2 := next_f s1 3 (by decide) (by decide)
  have l2 := nx_nn s1 3 (by decide) (by decide)
  have u2 := nx_lt s1 3 (by decide) (by decide)
  generalize nx s1 3 = j at *
  generalize sn s1 3 = s2 at *
  obtain ⟨S, iS, hS⟩ := atI_strs SM j l2 u2
  obtain ⟨q1, q2, q3⟩ := SM_ok S hS
  have n3 := next_f s2 140 (by decide) (by decide)
  have l3 := nx_nn s2 140 (by decide) (by decide)
  have u3 := nx_lt s2 140 (by decide) (by decide)
  generalize nx s2 140 = a at *
  generalize sn s2 140 = s3 at *
  have n4 := next_f s3 10 (by decide) (by decide)
  have l4 := nx_nn s3 10 (by decide) (by decide)
  have u4 := nx_lt s3 10 (by decide) (by decide)
  generalize nx s3 10 = b at *
  generalize sn s3 10 = s4 at *
  obtain ⟨m, hm, im⟩ := many_at a b ⟨l3, u3⟩ ⟨l4, u4⟩
  obtain ⟨t, s5, cm⟩ := cMo_ok s4 ps hl x1 (some (.int (k : Nat))) (some (.str (c2 :: r2))) (some (.str S)) (some (.int (m : Nat))) none none ⟨rfl, rfl⟩
  have n6 := next_f s5 130 (by decide) (by decide)
  have l6 := nx_nn s5 130 (by decide) (by decide)
  have u6 := nx_lt s5 130 (by decide) (by decide)
  generalize nx s5 130 = r at *
  generalize sn s5 130 = s6 at *
  obtain ⟨r, rfl⟩ := Int.eq_ofNat_of_zero_le l6
  obtain ⟨V, s7, gs, gl, gm⟩ := signs_ok (if t = true then s6 else s5) S (if t = true then 400 + r else m) q1 (by omega) (by split <;> omega)
  have e4 := st4 cMo (encS s4) (encS s5) (encS s6) t r m x1 (some (.lst .own (ps.map prD))) (some (.int (k : Nat))) (some (.str (c2 :: r2))) (some (.str S)) none none cm n6
  have i1 : (if t = true then encS s6 else encS s5) = encS (if t = true then s6 else s5) := by cases t <;> rfl
  have i2 : (if t = true then (400 : Int) + ((r : Nat) : Int) else ((m : Nat) : Int)) = (((if t = true then 400 + r else m) : Nat) : Int) := by cases t <;> simp
  rw [i1, i2] at e4
  refine ⟨s7, (c2 :: r2, V), some (.str (c2 :: r2)), some (.str S), some (.int (((if t = true then 400 + r else m) : Nat) : Int)), ⟨hN, fun h => (q3 10 (gm 10 h)).2 rfl, by simp only; rw [gl]; split <;> omega, fun c h => (q3 c (gm c h)).1⟩, by simp [hck], ?_⟩
  unfold bKd
  rw [seq_nx (st1 (encS s) (encS s1) c2 _ LT k rfl hc ti _ _ _ _ _ _ _), seq_nx (st2 (encS s1) (encS s2) j S n2 iS _ _ _ _ _ _ _ _), seq_nx (st3 (encS s2) (encS s3) (encS s4) a b m n3 n4 im _ _ _ _ _ _ _ _), seq_nx e4, st5 _ (encS s7) _ S V _ _ (by simp; omega) gs]
  simp [prD]
theorem kd_core (s s1 s2 s3 s4 : D) (n : Int) (M S : List Nat) (P : List D) (y3 y4 y5 y6 y7 y8 : Option D) (n1 : F__law_next [s, .int 7] = .ok (.int n) [s1]) (sm : smallR n) (e : forL (mPut 3) bKd (rangeD 0 n.toNat) [some s1, some (.int 6), some (.lst .own []), none, none, none, none, none, none] = .ok .nx [some s2, some (.int 6), some (.lst .own P), y3, y4, y5, y6, y7, y8])
    (t1 : F__law_title [s2, .str [97, 98, 100, 116], .str [43]] = .ok (.str M) [s3]) (t2 : F__law_title [s3, .str [97, 98, 120, 121], .str [43]] = .ok (.str S) [s4]) :
    F__law_kind [s, .int 6] = .ok (.tup [.str M, .str S, .lst .own P]) [s4] := by
  have el : F__law_kind [s, .int 6] = runF 9 [0] (mSeq (mSet 2 (mLst []))
  (mSeq (mFor (mRange1 (mCall F__law_next [.s 0, .e (mBin addD (mVar 1) (mC (.int 1)))])) (mPut 3) bKd)
  (mRet (mTup [(mCall F__law_title [.s 0, .e (mC (.str [97, 98, 100, 116])), .e (mC (.str [43]))]), (mCall F__law_title [.s 0, .e (mC (.str [97, 98, 120, 121])), .e (mC (.str [43]))]), (mMove 2)])))) [s, .int 6] := rfl
  rw [el]
  generalize bKd = B at *
  simp [n1, sm, e, t1, t2]
theorem kind_drawn (s : Int × Int × Int) : ∃ (s' : Int × Int × Int) (m t : List Nat) (ps : List Pr), KdK m t ps ∧ F__law_kind [encS s, .int 6] = .ok (kdD .own m t ps) [encS s'] := by
  have n1 := next_f s 7 (by decide) (by decide)
  have l1 := nx_nn s 7 (by decide) (by decide)
  have u1 := nx_lt s 7 (by decide) (by decide)
  generalize nx s 7 = n at *
  generalize sn s 7 = s1 at *
  let I : Nat → DE → Prop := fun k ρ => ∃ (s' : Int × Int × Int) (ps : List Pr) (y3 y4 y5 y6 : Option D), (∀ p ∈ ps, PrK p) ∧ ps.map (fun p => p.1.head?) = (LT.take k).map some ∧ ps.length = k ∧ ρ = [some (encS s'), some (.int 6), some (.lst .own (ps.map prD)), y3, y4, y5, y6, none, none]
  have hf : ∃ ρ', forL (mPut 3) bKd (rangeD 0 n.toNat) [some (encS s1), some (.int 6), some (.lst .own []), none, none, none, none, none, none] = .ok .nx ρ' ∧ I (rangeD 0 n.toNat).length ρ' := by
    refine forL_inv0 I ⟨s1, [], none, none, none, none, by simp, by simp, rfl, rfl⟩ ?_
    rintro i d ρ hd ⟨s', ps, y3, y4, y5, y6, h1, h2, h3, rfl⟩
    obtain ⟨hi, rfl⟩ := rangeD_get hd
    rw [show (0 : Int) + (i : Int) = ((i : Nat) : Int) by omega]
    obtain ⟨s2, p, z4, z5, z6, g1, g2, e⟩ := bKd_ok s' ps i (by omega) (by omega) (some (.int 6)) y4 y5 y6
    refine ⟨[some (encS s'), some (.int 6), some (.lst .own (ps.map prD)), some (.int (i : Nat)), y4, y5, y6, none, none], rfl, .nx, _, e, Or.inl rfl, s2, ps ++ [p], some (.int (i : Nat)), z4, z5, z6, fun q hq => ?_, ?_, by simp [h3], rfl⟩
    · rcases List.mem_append.1 hq with hq | hq
      · exact h1 q hq
      · rw [List.mem_singleton] at hq; subst hq; exact g1
    · have il : i < LT.length := by simp [LT]; omega
      rw [List.map_append, h2, List.take_succ, List.map_append]
      simp only [List.map_cons, List.map_nil, g2, List.getElem?_eq_getElem il, Option.toList]
  obtain ⟨ρ', e, s2, ps, y3, y4, y5, y6, h1, h2, h3, rfl⟩ := hf
  have ln : (rangeD 0 n.toNat).length = n.toNat := by simp [rangeD]
  rw [ln] at h2 h3
  obtain ⟨s3, M, hM, _, t1⟩ := title_drawn s2 [97, 98, 100, 116] [43] (k_KEY_SIGNS ++ [43]) (by simp) (by simp) (by simp) (by decide) (by decide) (by decide)
  obtain ⟨s4, S, hS, _, t2⟩ := title_drawn s3 [97, 98, 120, 121] [43] (k_KEY_SIGNS ++ [43]) (by simp) (by simp) (by simp) (by decide) (by decide) (by decide)
  have nd : (ps.map (·.1)).Nodup := by
    have nl : (ps.map (fun p => p.1.head?)).Nodup := by
      rw [h2]
      have : (LT.map some).Nodup := by decide
      rw [List.map_take]
      exact this.sublist (List.take_sublist _ _)
    have e2 : ps.map (fun p => p.1.head?) = (ps.map (·.1)).map List.head? := by rw [List.map_map]; rfl
    rw [e2] at nl
    exact List.Pairwise.of_map List.head? (fun a b h e => h (by rw [e])) nl
  exact ⟨s4, M, S, ps, ⟨hM, hS, h1, nd, by omega⟩, kd_core (encS s) (encS s1) (encS s2) (encS s3) (encS s4) n M S (ps.map prD) y3 y4 y5 y6 none none n1 (by unfold smallR; omega) e t1 t2⟩
end K31


namespace K31
open VS L2
theorem ofs_len (s : String) : (PySem.Str.ofString s).length = s.length := PySem.ofString_length s
theorem rl_str (t : List Nat) (n : Nat) (h : ∀ c ∈ t, c < 16 ^ 8) (hl : t.length ≤ n) : (PySem.PyData.shown (.str ⟨t.toArray⟩)).length ≤ 10 * n + 2 := by
  have := PySem.StrLaws.reprText_len ⟨t.toArray⟩ (by simpa using h)
  have e : (PySem.Str.length ⟨t.toArray⟩) = t.length := by simp [PySem.Str.length]
  rw [e] at this
  have e2 : PySem.PyData.shown (.str ⟨t.toArray⟩) = PySem.reprText ⟨t.toArray⟩ := by simp [PySem.PyData.shown]
  rw [e2]
  omega
theorem rl_sum (xs : List PySem.PyData) (n : Nat) (h : ∀ x ∈ xs, x.shown.length ≤ n) : ((PySem.PyData.shownAll xs).map (·.length)).sum ≤ n * xs.length ∧ (PySem.PyData.shownAll xs).length = xs.length := by
  induction xs with
  | nil => simp [PySem.PyData.shownAll]
  | cons x xs ih =>
    obtain ⟨i1, i2⟩ := ih fun y hy => h y (by simp [hy])
    have := h x (by simp)
    simp only [PySem.PyData.shownAll, List.map_cons, List.sum_cons, List.length_cons, Nat.mul_add]
    omega
theorem rl_list (xs : List PySem.PyData) (n : Nat) (h : ∀ x ∈ xs, x.shown.length ≤ n) : (PySem.PyData.shown (.list xs)).length ≤ (n + 2) * xs.length + 3 := by
  obtain ⟨h1, h2⟩ := rl_sum xs n h
  have := PySem.listText_len_le (PySem.PyData.shownAll xs)
  simp only [PySem.PyData.shown, Nat.add_mul]
  omega
theorem rl_tup (xs : List PySem.PyData) (n : Nat) (h : ∀ x ∈ xs, x.shown.length ≤ n) : (PySem.PyData.shown (.tuple xs)).length ≤ (n + 2) * xs.length + 3 := by
  obtain ⟨h1, h2⟩ := rl_sum xs n h
  have := PySem.tupleText_len_le (PySem.PyData.shownAll xs)
  simp only [PySem.PyData.shown, Nat.add_mul]
  omega
theorem pd_map : ∀ l : List D, Ds.pd l = l.map D.pd
  | [] => by simp [Ds.pd]
  | x :: l => by simp [Ds.pd, pd_map l]
theorem sa_all : ∀ l : List PySem.PyData, (∀ x ∈ l, x.showable = true) → PySem.PyData.showableAll l = true
  | [], _ => by simp [PySem.PyData.showableAll]
  | x :: l, h => by simp [PySem.PyData.showableAll, h x (by simp), sa_all l fun y hy => h y (by simp [hy])]
theorem k_for2 (B : Cm Out) (j : Nat) (ρ0 ρ1 ρ2 ρ3 ρ4 : DE) (g1 : mPut j (.int 0) ρ0 = .ok () ρ1) (b1 : B ρ1 = .ok .nx ρ2) (g2 : mPut j (.int 1) ρ2 = .ok () ρ3) (b2 : B ρ3 = .ok .nx ρ4) : mFor (mRange1 (mC (.int 2))) (mPut j) B ρ0 = .ok .nx ρ4 := by
  have hs : smallR 2 := by unfold smallR; omega
  have r : rangeD 0 2 = [D.int 0, D.int 1] := rfl
  have f : forL (mPut j) B [D.int 0, D.int 1] ρ0 = .ok .nx ρ4 := by
    rw [forL_one g1 b1, forL_one g2 b2]
    rfl
  generalize hg : mPut j = G at *
  simp [hs, r, f]
theorem rp_str (t : List Nat) (n : Nat) (h : ∀ c ∈ t, c < 127) (hl : t.length ≤ n) : (D.str t).pd.shown.length ≤ 10 * n + 2 ∧ (D.str t).pd.showable = true := by
  constructor
  · exact rl_str t n (fun c hc => by have := h c hc; omega) hl
  · rfl
theorem key_lt : ∀ c ∈ k_KEY_SIGNS ++ [43], c < 127 := by decide
theorem rp_pair (p : Pr) (h : PrK p) : (prD p).pd.shown.length ≤ 10611 ∧ (prD p).pd.showable = true := by
  obtain ⟨a1, a2⟩ := rp_str p.1 20 (fun c hc => key_lt c (List.mem_append_left _ (h.ti.at_ c hc))) h.ti.len
  obtain ⟨b1, b2⟩ := rp_str p.2 530 h.sg h.len
  have e : (prD p).pd = .tuple [(D.str p.1).pd, (D.str p.2).pd] := by simp [prD, D.pd, Ds.pd]
  rw [e]
  generalize (D.str p.1).pd = A at *
  generalize (D.str p.2).pd = B at *
  constructor
  · have := rl_tup [A, B] 5302 (fun x hx => by
      simp only [List.mem_cons, List.not_mem_nil, or_false] at hx
      rcases hx with rfl | rfl <;> omega)
    simp only [List.length_cons, List.length_nil] at this
    omega
  · simp [PySem.PyData.showable, PySem.PyData.showableAll, a2, b2]
def rpT (m s : List Nat) (ps : List Pr) : List Nat := (kdD .own m s ps).pd.shown.cps.toList
theorem rp_ok (o : Ow) (m s : List Nat) (ps : List Pr) (h : KdK m s ps) : reprD (kdD o m s ps) = some (.str (rpT m s ps)) := by
  obtain ⟨a1, a2⟩ := rp_str m 20 (fun c hc => key_lt c (h.m.at_ c hc)) h.m.len
  obtain ⟨b1, b2⟩ := rp_str s 20 (fun c hc => key_lt c (h.s.at_ c hc)) h.s.len
  have e : ∀ o, (kdD o m s ps).pd = .tuple [(D.str m).pd, (D.str s).pd, .list (ps.map fun p => (prD p).pd)] := fun o => by simp [kdD, D.pd, Ds.pd, pd_map, List.map_map, Function.comp_def]
  have ml := rl_list (ps.map fun p => (prD p).pd) 10611 (fun x hx => by
    obtain ⟨p, hp, rfl⟩ := List.mem_map.1 hx
    exact (rp_pair p (h.pk p hp)).1)
  have nl := h.len
  rw [List.length_map] at ml
  have ms : PySem.PyData.showableAll (ps.map fun p => (prD p).pd) = true := sa_all _ fun x hx => by
    obtain ⟨p, hp, rfl⟩ := List.mem_map.1 hx
    exact (rp_pair p (h.pk p hp)).2
  have fl : D.flatN 8 (kdD o m s ps) = true := by
    have : (ps.map prD).all (D.flatN 6) = true := by
      rw [List.all_eq_true]
      intro x hx
      obtain ⟨p, _, rfl⟩ := List.mem_map.1 hx
      rfl
    unfold kdD
    generalize ps.map prD = P at *
    simp [D.flatN, this, -List.all_eq_true]
  unfold reprD rpT
  have ok : reprOk (kdD o m s ps) = true := by
    unfold reprOk
    rw [e, fl]
    generalize (D.str m).pd = A at *
    generalize (D.str s).pd = B at *
    generalize (ps.map fun p => (prD p).pd) = C at *
    have tl := rl_tup [A, B, .list C] 90000 (fun x hx => by
      simp only [List.mem_cons, List.not_mem_nil, or_false] at hx
      rcases hx with rfl | rfl | rfl <;> omega)
    simp only [List.length_cons, List.length_nil] at tl
    simp only [Bool.and_eq_true, decide_eq_true_iff]
    refine ⟨⟨⟨trivial, rfl⟩, ?_⟩, by omega⟩
    simp [PySem.PyData.showable, PySem.PyData.showableAll, a2, b2, ms]
  rw [if_pos ok, e, e]
def bAg (FH FD : List D → RF) : Cm Out := (mSeq (mSet 6 (mCall FH [.p 3]))
  (mIf (mOr (mNot (mTest (mP1 (isTy .str) (.v 6)))) (mOr (mTest (mP2 neD (.v 6) (.e (mCall FD [.p 3])))) (mTest (mP2 neD (.e (mP1 reprD (.v 3))) (.v 4)))))
  (mRet (mC (.bl false)))
  mNext))
theorem k_again (FH FD : List D → RF) (A B : List Nat) (P : List D) (f : P.map D.fz = P) (V R : List Nat) (e1 : ∀ o, FH [.tup [.str A, .str B, .lst o P]] = .ok (.str V) []) (e2 : ∀ o, FD [.tup [.str A, .str B, .lst o P]] = .ok (.str V) []) (e3 : ∀ o, reprD (.tup [.str A, .str B, .lst o P]) = some (.str R)) (x0 x1 x2 x5 x6 : Option D) :
    bAg FH FD [x0, x1, x2, some (.tup [.str A, .str B, .lst .own P]), some (.str R), x5, x6] = .ok .nx [x0, x1, x2, some (.tup [.str A, .str B, .lst .own P]), some (.str R), x5, some (.str V)] := by
  have t : isTy .str (.str V) = some (.bl true) := rfl
  simp [bAg, f, e1, e2, e3, t]
def bOk (FSr FK FH FD : List D → RF) : Cm Out := (mSeq (mSet 2 (mCall FSr [.p 0, .p 1]))
  (mSeq (mSet 3 (mCall FK [.s 2, .e (mC (.int 6))]))
  (mSeq (mSet 4 (mP1 reprD (.v 3)))
  (mFor (mRange1 (mC (.int 2))) (mPut 5) (bAg FH FD)))))
theorem k_rep (x : D) (R : List Nat) (e : reprD x = some (.str R)) (x0 x1 x2 x4 x5 x6 : Option D) : mSet 4 (mP1 reprD (.v 3)) [x0, x1, x2, some x, x4, x5, x6] = .ok .nx [x0, x1, x2, some x, some (.str R), x5, x6] := by
  simp [e]
theorem k_knd (FK : List D → RF) (s s1 x : D) (e : FK [s, .int 6] = .ok x [s1]) (x0 x1 x3 x4 x5 x6 : Option D) : mSet 3 (mCall FK [.s 2, .e (mC (.int 6))]) [x0, x1, some s, x3, x4, x5, x6] = .ok .nx [x0, x1, some s1, some x, x4, x5, x6] := by
  simp [e]
theorem law_el (o : Ow) (N : List D) : F_law [.lst o N] = runF 7 [] (mSeq (mFor (mRange1 (mBin maxD (mC (.int 1)) (mBin minD (mC (.int 10)) (mP1 lenD (.v 0))))) (mPut 1) (bOk F__law_source F__law_kind F_show_kind F__law_due))
  (mRet (mP2 eqD (.e (mCall F_show_kind [.e (mTup [(mC (.str [97])), (mC (.str [98])), (mLst [])])])) (.e (mC (.str [97, 47, 98])))))) [.lst o N] := rfl
theorem round_ok (o : Ow) (ho : o = .frz ∨ o = .stc) (ns : List Int) (k : Nat) (x2 x3 x4 x5 x6 : Option D) : ∃ y2 y3 y4 y5 y6, bOk F__law_source F__law_kind F_show_kind F__law_due [some (.lst o (ns.map D.int)), some (.int k), x2, x3, x4, x5, x6] = .ok .nx [some (.lst o (ns.map D.int)), some (.int k), y2, y3, y4, y5, y6] := by
  obtain ⟨s, e2⟩ := source_ok o ns k
  have st2 : mSet 2 (mCall F__law_source [.p 0, .p 1]) [some (.lst o (ns.map D.int)), some (.int k), x2, x3, x4, x5, x6] = .ok .nx [some (.lst o (ns.map D.int)), some (.int k), some (encS s), x3, x4, x5, x6] := by
    have fz : (ns.map D.int).map D.fz = ns.map D.int := fz_map_int _
    generalize ns.map D.int = N at *
    rcases ho with rfl | rfl <;> simp [e2, fz]
  obtain ⟨s1, A, B, ps, h, kd⟩ := kind_drawn s
  have r := fun o => rp_ok o A B ps h
  have a1 := fun o => show_kind_ok o A B ps h
  have a2 := fun o => law_due_ok o A B ps h
  have pf := pr_fz ps
  unfold kdD at *
  generalize ps.map prD = P at *
  have b1 := k_again F_show_kind F__law_due A B P pf _ _ a1 a2 r (some (.lst o (ns.map D.int))) (some (.int k)) (some (encS s1)) (some (.int 0)) x6
  have b2 := k_again F_show_kind F__law_due A B P pf _ _ a1 a2 r (some (.lst o (ns.map D.int))) (some (.int k)) (some (encS s1)) (some (.int 1)) (some (.str (kdT A B ps)))
  unfold bOk
  rw [seq_nx st2, seq_nx (k_knd F__law_kind (encS s) (encS s1) _ kd _ _ _ _ _ _), seq_nx (k_rep _ _ (r .own) _ _ _ _ _ _)]
  exact ⟨some (encS s1), some (.tup [.str A, .str B, .lst .own P]), some (.str (rpT A B ps)), some (.int 1), some (.str (kdT A B ps)), k_for2 _ 5 _ _ _ _ _ (by simp) b1 (by simp) b2⟩
theorem law_true : ∀ (o : Ow) (ns : List Int), o = .frz ∨ o = .stc → ns.length ≤ 63 → F_law [.lst o (ns.map D.int)] = .ok (.bl true) [] := by
  intro o ns ho hn
  rw [law_el]
  obtain ⟨n, hn1⟩ := Int.eq_ofNat_of_zero_le (show 0 ≤ max 1 (min 10 (ns.length : Int)) by omega)
  have hs : smallR (n : Int) := by unfold smallR; omega
  have ro := round_ok o ho ns
  have se : ∀ o, F_show_kind [.tup [.str [97], .str [98], .lst o []]] = .ok (.str [97, 47, 98]) [] := fun o => show_kind_ok o [97] [98] [] ⟨⟨by decide, ⟨97, [], rfl, by decide⟩, by decide⟩, ⟨by decide, ⟨98, [], rfl, by decide⟩, by decide⟩, by simp, by simp, by simp⟩
  generalize (bOk F__law_source F__law_kind F_show_kind F__law_due) = B at *
  let I : Nat → DE → Prop := fun k ρ => ∃ (x1 x2 x3 x4 x5 x6 : Option D), ρ = [some (.lst o (ns.map D.int)), x1, x2, x3, x4, x5, x6]
  have hf : ∃ ρ', forL (mPut 1) B (rangeD 0 n) [some (.lst o (ns.map D.int)), none, none, none, none, none, none] = .ok .nx ρ' ∧ I (rangeD 0 n).length ρ' := by
    refine forL_inv0 I ⟨_, _, _, _, _, _, rfl⟩ ?_
    rintro i d ρ hd ⟨x1, x2, x3, x4, x5, x6, rfl⟩
    obtain ⟨hi, rfl⟩ := rangeD_get hd
    obtain ⟨y2, y3, y4, y5, y6, e⟩ := ro i x2 x3 x4 x5 x6
    rw [show (0 : Int) + (i : Int) = ((i : Nat) : Int) by omega]
    exact ⟨_, rfl, .nx, _, e, Or.inl rfl, _, _, _, _, _, _, rfl⟩
  obtain ⟨ρ', e, x1, x2, x3, x4, x5, x6, rfl⟩ := hf
  generalize F_show_kind = FS at *
  rcases ho with rfl | rfl <;> simp [hn1, hs, e, se]
end K31


namespace K31
open PySem PySem.Spec PyProof.Rows L2 VS
abbrev R : PySem.W.OpenRow := PySem.W.OpenLaw.row PySem.Challenge.rw_foldletter_k31_kinds_shown
def d_is_line : He.DefD := ⟨("is_line", none), "is_line", "is_line", defArgs s_is_line, defBody s_is_line, defScope s_is_line, [], []⟩
def d_is_of : He.DefD := ⟨("is_of", none), "is_of", "is_of", defArgs s_is_of, defBody s_is_of, defScope s_is_of, [], []⟩
def d_is_atom : He.DefD := ⟨("is_atom", none), "is_atom", "is_atom", defArgs s_is_atom, defBody s_is_atom, defScope s_is_atom, [], []⟩
def d_quoted_in : He.DefD := ⟨("quoted_in", none), "quoted_in", "quoted_in", defArgs s_quoted_in, defBody s_quoted_in, defScope s_quoted_in, [], []⟩
def d_is_title : He.DefD := ⟨("is_title", none), "is_title", "is_title", defArgs s_is_title, defBody s_is_title, defScope s_is_title, [], []⟩
def d_is_pair : He.DefD := ⟨("is_pair", none), "is_pair", "is_pair", defArgs s_is_pair, defBody s_is_pair, defScope s_is_pair, [], []⟩
def d_is_kind : He.DefD := ⟨("is_kind", none), "is_kind", "is_kind", defArgs s_is_kind, defBody s_is_kind, defScope s_is_kind, [], []⟩
def d_show_pair : He.DefD := ⟨("show_pair", none), "show_pair", "show_pair", defArgs s_show_pair, defBody s_show_pair, defScope s_show_pair, [], []⟩
def d_show_kind : He.DefD := ⟨("show_kind", none), "show_kind", "show_kind", defArgs s_show_kind, defBody s_show_kind, defScope s_show_kind, [], []⟩
def d__law_cell_at : He.DefD := ⟨("_law_cell_at", none), "_law_cell_at", "_law_cell_at", defArgs s__law_cell_at, defBody s__law_cell_at, defScope s__law_cell_at, [], []⟩
def d__law_mixed : He.DefD := ⟨("_law_mixed", none), "_law_mixed", "_law_mixed", defArgs s__law_mixed, defBody s__law_mixed, defScope s__law_mixed, [], []⟩
def d__law_source : He.DefD := ⟨("_law_source", none), "_law_source", "_law_source", defArgs s__law_source, defBody s__law_source, defScope s__law_source, [], []⟩
def d__law_next : He.DefD := ⟨("_law_next", none), "_law_next", "_law_next", defArgs s__law_next, defBody s__law_next, defScope s__law_next, [], []⟩
def d__law_signs : He.DefD := ⟨("_law_signs", none), "_law_signs", "_law_signs", defArgs s__law_signs, defBody s__law_signs, defScope s__law_signs, [], []⟩
def d__law_is_atom : He.DefD := ⟨("_law_is_atom", none), "_law_is_atom", "_law_is_atom", defArgs s__law_is_atom, defBody s__law_is_atom, defScope s__law_is_atom, [], []⟩
def d__law_quoted : He.DefD := ⟨("_law_quoted", none), "_law_quoted", "_law_quoted", defArgs s__law_quoted, defBody s__law_quoted, defScope s__law_quoted, [], []⟩
def d__law_plain : He.DefD := ⟨("_law_plain", none), "_law_plain", "_law_plain", defArgs s__law_plain, defBody s__law_plain, defScope s__law_plain, [], []⟩
def d__law_title : He.DefD := ⟨("_law_title", none), "_law_title", "_law_title", defArgs s__law_title, defBody s__law_title, defScope s__law_title, [], []⟩
def d__law_kind : He.DefD := ⟨("_law_kind", none), "_law_kind", "_law_kind", defArgs s__law_kind, defBody s__law_kind, defScope s__law_kind, [], []⟩
def d__law_due : He.DefD := ⟨("_law_due", none), "_law_due", "_law_due", defArgs s__law_due, defBody s__law_due, defScope s__law_due, [], []⟩
def d_law : He.DefD := ⟨("law", none), "law", "law", defArgs s_law, defBody s_law, defScope s_law, [], []⟩
def fn : List He.DefD := [d_is_line, d_is_of, d_is_atom, d_quoted_in, d_is_title, d_is_pair, d_is_kind, d_show_pair, d_show_kind, d__law_cell_at, d__law_mixed, d__law_source, d__law_next, d__law_signs, d__law_is_atom, d__law_quoted, d__law_plain, d__law_title, d__law_kind, d__law_due, d_law]
def fa : List He.Fa := [.glo "is_line", .glo "is_of", .glo "is_atom", .glo "quoted_in", .glo "is_title", .glo "is_pair", .glo "is_kind", .glo "show_pair", .glo "show_kind", .glo "_law_cell_at", .glo "_law_mixed", .glo "_law_source", .glo "_law_next", .glo "_law_signs", .glo "_law_is_atom", .glo "_law_quoted", .glo "_law_plain", .glo "_law_title", .glo "_law_kind", .glo "_law_due", .glo "law", .free "all", .free "enumerate", .free "int", .free "isinstance", .free "len", .free "list", .free "max", .free "min", .free "range", .free "repr", .free "set", .free "str", .free "sum", .free "tuple", .str "ATOM_SIGNS" ⟨k_ATOM_SIGNS.toArray⟩, .str "KEY_SIGNS" ⟨k_KEY_SIGNS.toArray⟩, .int "MOST_OF_TITLE" 20, .int "PIECE" 40, .str "SMALL" ⟨k_SMALL.toArray⟩]
abbrev hk : PySem.W.Hook := He.hookD 4 fa fn
def ob (s : PySem.W.SharedT) : He.AlD := He.obsDG 4 fa fn (HandSHeadRun.getT s)
theorem ob_eq (s : PySem.W.SharedT) : ob s = hk.obs s.abs := He.obsDG_eq (HandSHeadRun.getT_eq s)
def names0 : List PySem.Str := ["FIGURES", "SMALL", "LETTERS", "is_line", "is_of", "LetterError", "NoKind", "ATOM_SIGNS", "is_atom", "quoted_in", "MOST_OF_TITLE", "PIECE", "KEY_SIGNS", "is_title", "is_pair", "is_kind"]
def names1 : List PySem.Str := ["show_pair", "show_kind", "_law_cell_at", "_law_mixed", "_law_source", "_law_next", "_law_signs", "_law_is_atom", "_law_quoted", "_law_plain", "_law_title", "_law_kind", "_law_due"]
def names : List PySem.Str := names0 ++ names1
theorem run (w : World) : HandSHeadRun.RunEq R (PySem.W.view R.prog [34]) hk ob 8000 names w := by
  intro os
  kernel_rfl
theorem facts {P : Program} {w : World} {K : PySem.W.Frag} {h : Heap} {mg : Str → Option Value} {f : Addr} (X : K.In h) (G : h.Ns mainGlobals mg) (hfa : mg ("law" : Str) = some (.ref f)) (c : He.SaysD fa fn K) :
    ∃ (fd : FuncData) (cf : Cfg), (cf.K = K ∧ cf.tb = []) ∧ (∀ (s : Shared) (v : Value), BindsTo s fd ⟨[v], []⟩ [("_law_script", v)]) ∧ ∀ base : Heap, K.In base → base.Ns mainGlobals mg → RunAt callerA P w K mg base f fd ["_law_script"] (spM cf 1 [] F_law) := by
  obtain ⟨fd_is_line, D_is_line⟩ := c.def_ 0 (d := d_is_line) rfl
  have A_is_line : At K mg "is_line" s_is_line ["thing"] _ fd_is_line := ⟨D_is_line, He.glo_ok X G (c.fact 0 (f := .glo "is_line") rfl), FunD.bindsN D_is_line fun _ _ _ _ _ _ us hl => match us, hl with | [_], _ => rfl⟩
  obtain ⟨fd_is_of, D_is_of⟩ := c.def_ 1 (d := d_is_of) rfl
  have A_is_of : At K mg "is_of" s_is_of ["text", "signs"] _ fd_is_of := ⟨D_is_of, He.glo_ok X G (c.fact 1 (f := .glo "is_of") rfl), FunD.bindsN D_is_of fun _ _ _ _ _ _ us hl => match us, hl with | [_, _], _ => rfl⟩
  obtain ⟨fd_is_atom, D_is_atom⟩ := c.def_ 2 (d := d_is_atom) rfl
  have A_is_atom : At K mg "is_atom" s_is_atom ["text"] _ fd_is_atom := ⟨D_is_atom, He.glo_ok X G (c.fact 2 (f := .glo "is_atom") rfl), FunD.bindsN D_is_atom fun _ _ _ _ _ _ us hl => match us, hl with | [_], _ => rfl⟩
  obtain ⟨fd_quoted_in, D_quoted_in⟩ := c.def_ 3 (d := d_quoted_in) rfl
  have A_quoted_in : At K mg "quoted_in" s_quoted_in ["text"] _ fd_quoted_in := ⟨D_quoted_in, He.glo_ok X G (c.fact 3 (f := .glo "quoted_in") rfl), FunD.bindsN D_quoted_in fun _ _ _ _ _ _ us hl => match us, hl with | [_], _ => rfl⟩
  obtain ⟨fd_is_title, D_is_title⟩ := c.def_ 4 (d := d_is_title) rfl
  have A_is_title : At K mg "is_title" s_is_title ["thing", "signs"] _ fd_is_title := ⟨D_is_title, He.glo_ok X G (c.fact 4 (f := .glo "is_title") rfl), FunD.bindsN D_is_title fun _ _ _ _ _ _ us hl => match us, hl with | [_, _], _ => rfl⟩
  obtain ⟨fd_is_pair, D_is_pair⟩ := c.def_ 5 (d := d_is_pair) rfl
  have A_is_pair : At K mg "is_pair" s_is_pair ["thing"] _ fd_is_pair := ⟨D_is_pair, He.glo_ok X G (c.fact 5 (f := .glo "is_pair") rfl), FunD.bindsN D_is_pair fun _ _ _ _ _ _ us hl => match us, hl with | [_], _ => rfl⟩
  obtain ⟨fd_is_kind, D_is_kind⟩ := c.def_ 6 (d := d_is_kind) rfl
  have A_is_kind : At K mg "is_kind" s_is_kind ["thing"] _ fd_is_kind := ⟨D_is_kind, He.glo_ok X G (c.fact 6 (f := .glo "is_kind") rfl), FunD.bindsN D_is_kind fun _ _ _ _ _ _ us hl => match us, hl with | [_], _ => rfl⟩
  obtain ⟨fd_show_pair, D_show_pair⟩ := c.def_ 7 (d := d_show_pair) rfl
  have A_show_pair : At K mg "show_pair" s_show_pair ["name", "value"] _ fd_show_pair := ⟨D_show_pair, He.glo_ok X G (c.fact 7 (f := .glo "show_pair") rfl), FunD.bindsN D_show_pair fun _ _ _ _ _ _ us hl => match us, hl with | [_, _], _ => rfl⟩
  obtain ⟨fd_show_kind, D_show_kind⟩ := c.def_ 8 (d := d_show_kind) rfl
  have A_show_kind : At K mg "show_kind" s_show_kind ["kind"] _ fd_show_kind := ⟨D_show_kind, He.glo_ok X G (c.fact 8 (f := .glo "show_kind") rfl), FunD.bindsN D_show_kind fun _ _ _ _ _ _ us hl => match us, hl with | [_], _ => rfl⟩
  obtain ⟨fd__law_cell_at, D__law_cell_at⟩ := c.def_ 9 (d := d__law_cell_at) rfl
  have A__law_cell_at : At K mg "_law_cell_at" s__law_cell_at ["_law_script", "_law_k"] _ fd__law_cell_at := ⟨D__law_cell_at, He.glo_ok X G (c.fact 9 (f := .glo "_law_cell_at") rfl), FunD.bindsN D__law_cell_at fun _ _ _ _ _ _ us hl => match us, hl with | [_, _], _ => rfl⟩
  obtain ⟨fd__law_mixed, D__law_mixed⟩ := c.def_ 10 (d := d__law_mixed) rfl
  have A__law_mixed : At K mg "_law_mixed" s__law_mixed ["_law_cell", "_law_k"] _ fd__law_mixed := ⟨D__law_mixed, He.glo_ok X G (c.fact 10 (f := .glo "_law_mixed") rfl), FunD.bindsN D__law_mixed fun _ _ _ _ _ _ us hl => match us, hl with | [_, _], _ => rfl⟩
  obtain ⟨fd__law_source, D__law_source⟩ := c.def_ 11 (d := d__law_source) rfl
  have A__law_source : At K mg "_law_source" s__law_source ["_law_script", "_law_k"] _ fd__law_source := ⟨D__law_source, He.glo_ok X G (c.fact 11 (f := .glo "_law_source") rfl), FunD.bindsN D__law_source fun _ _ _ _ _ _ us hl => match us, hl with | [_, _], _ => rfl⟩
  obtain ⟨fd__law_next, D__law_next⟩ := c.def_ 12 (d := d__law_next) rfl
  have A__law_next : At K mg "_law_next" s__law_next ["_law_source_here", "_law_many"] _ fd__law_next := ⟨D__law_next, He.glo_ok X G (c.fact 12 (f := .glo "_law_next") rfl), FunD.bindsN D__law_next fun _ _ _ _ _ _ us hl => match us, hl with | [_, _], _ => rfl⟩
  obtain ⟨fd__law_signs, D__law_signs⟩ := c.def_ 13 (d := d__law_signs) rfl
  have A__law_signs : At K mg "_law_signs" s__law_signs ["_law_source_here", "_law_signs_here", "_law_many"] _ fd__law_signs := ⟨D__law_signs, He.glo_ok X G (c.fact 13 (f := .glo "_law_signs") rfl), FunD.bindsN D__law_signs fun _ _ _ _ _ _ us hl => match us, hl with | [_, _, _], _ => rfl⟩
  obtain ⟨fd__law_is_atom, D__law_is_atom⟩ := c.def_ 14 (d := d__law_is_atom) rfl
  have A__law_is_atom : At K mg "_law_is_atom" s__law_is_atom ["_law_text"] _ fd__law_is_atom := ⟨D__law_is_atom, He.glo_ok X G (c.fact 14 (f := .glo "_law_is_atom") rfl), FunD.bindsN D__law_is_atom fun _ _ _ _ _ _ us hl => match us, hl with | [_], _ => rfl⟩
  obtain ⟨fd__law_quoted, D__law_quoted⟩ := c.def_ 15 (d := d__law_quoted) rfl
  have A__law_quoted : At K mg "_law_quoted" s__law_quoted ["_law_text"] _ fd__law_quoted := ⟨D__law_quoted, He.glo_ok X G (c.fact 15 (f := .glo "_law_quoted") rfl), FunD.bindsN D__law_quoted fun _ _ _ _ _ _ us hl => match us, hl with | [_], _ => rfl⟩
  obtain ⟨fd__law_plain, D__law_plain⟩ := c.def_ 16 (d := d__law_plain) rfl
  have A__law_plain : At K mg "_law_plain" s__law_plain ["_law_text"] _ fd__law_plain := ⟨D__law_plain, He.glo_ok X G (c.fact 16 (f := .glo "_law_plain") rfl), FunD.bindsN D__law_plain fun _ _ _ _ _ _ us hl => match us, hl with | [_], _ => rfl⟩
  obtain ⟨fd__law_title, D__law_title⟩ := c.def_ 17 (d := d__law_title) rfl
  have A__law_title : At K mg "_law_title" s__law_title ["_law_source_here", "_law_first", "_law_signs_here"] _ fd__law_title := ⟨D__law_title, He.glo_ok X G (c.fact 17 (f := .glo "_law_title") rfl), FunD.bindsN D__law_title fun _ _ _ _ _ _ us hl => match us, hl with | [_, _, _], _ => rfl⟩
  obtain ⟨fd__law_kind, D__law_kind⟩ := c.def_ 18 (d := d__law_kind) rfl
  have A__law_kind : At K mg "_law_kind" s__law_kind ["_law_source_here", "_law_most"] _ fd__law_kind := ⟨D__law_kind, He.glo_ok X G (c.fact 18 (f := .glo "_law_kind") rfl), FunD.bindsN D__law_kind fun _ _ _ _ _ _ us hl => match us, hl with | [_, _], _ => rfl⟩
  obtain ⟨fd__law_due, D__law_due⟩ := c.def_ 19 (d := d__law_due) rfl
  have A__law_due : At K mg "_law_due" s__law_due ["_law_given"] _ fd__law_due := ⟨D__law_due, He.glo_ok X G (c.fact 19 (f := .glo "_law_due") rfl), FunD.bindsN D__law_due fun _ _ _ _ _ _ us hl => match us, hl with | [_], _ => rfl⟩
  obtain ⟨fd_law, D_law⟩ := c.def_ 20 (d := d_law) rfl
  have A_law : At K mg "law" s_law ["_law_script"] _ fd_law := ⟨D_law, He.glo_ok X G (c.fact 20 (f := .glo "law") rfl), FunD.bindsN D_law fun _ _ _ _ _ _ us hl => match us, hl with | [_], _ => rfl⟩
  have T : Tx K mg ⟨K, fun x => He.ga K (Str.ofString x), []⟩ :=
    { hK := rfl
      f_all := He.free_ok X G (c.fact 21 (f := .free "all") rfl)
      f_enumerate := He.free_ok X G (c.fact 22 (f := .free "enumerate") rfl)
      f_int := He.free_ok X G (c.fact 23 (f := .free "int") rfl)
      f_isinstance := He.free_ok X G (c.fact 24 (f := .free "isinstance") rfl)
      f_len := He.free_ok X G (c.fact 25 (f := .free "len") rfl)
      f_list := He.free_ok X G (c.fact 26 (f := .free "list") rfl)
      f_max := He.free_ok X G (c.fact 27 (f := .free "max") rfl)
      f_min := He.free_ok X G (c.fact 28 (f := .free "min") rfl)
      f_range := He.free_ok X G (c.fact 29 (f := .free "range") rfl)
      f_repr := He.free_ok X G (c.fact 30 (f := .free "repr") rfl)
      f_set := He.free_ok X G (c.fact 31 (f := .free "set") rfl)
      f_str := He.free_ok X G (c.fact 32 (f := .free "str") rfl)
      f_sum := He.free_ok X G (c.fact 33 (f := .free "sum") rfl)
      f_tuple := He.free_ok X G (c.fact 34 (f := .free "tuple") rfl)
      c_ATOM_SIGNS := He.str_ok X G (c.fact 35 (f := .str "ATOM_SIGNS" ⟨k_ATOM_SIGNS.toArray⟩) rfl)
      c_KEY_SIGNS := He.str_ok X G (c.fact 36 (f := .str "KEY_SIGNS" ⟨k_KEY_SIGNS.toArray⟩) rfl)
      c_MOST_OF_TITLE := He.int_ok X G (c.fact 37 (f := .int "MOST_OF_TITLE" 20) rfl)
      c_PIECE := He.int_ok X G (c.fact 38 (f := .int "PIECE" 40) rfl)
      c_SMALL := He.str_ok X G (c.fact 39 (f := .str "SMALL" ⟨k_SMALL.toArray⟩) rfl)
    }
  have e := hfa.symm.trans A_law.g
  cases e
  refine ⟨fd_law, ⟨K, fun x => He.ga K (Str.ofString x), []⟩, ⟨rfl, rfl⟩, fun s v => FunD.bindsA (ps := ["_law_script"]) D_law (fun _ _ _ _ _ _ us hl => match us, hl with | [_], _ => rfl) s [v] rfl, fun base _ _ => ?_⟩
  have G_is_line : FnOk P w K mg base (L2.CX P w) 1 _ fd_is_line ["thing"] (spM ⟨K, fun x => He.ga K (Str.ofString x), []⟩ 1 [] F_is_line) := ok_is_line T A_is_line 
  have G_is_of : FnOk P w K mg base (L2.CX P w) 1 _ fd_is_of ["text", "signs"] (spM ⟨K, fun x => He.ga K (Str.ofString x), []⟩ 2 [] F_is_of) := ok_is_of T A_is_of 
  have G_is_atom : FnOk P w K mg base (L2.CX P w) 2 _ fd_is_atom ["text"] (spM ⟨K, fun x => He.ga K (Str.ofString x), []⟩ 1 [] F_is_atom) := ok_is_atom T A_is_atom A_is_of G_is_of
  have G_quoted_in : FnOk P w K mg base (L2.CX P w) 3 _ fd_quoted_in ["text"] (spM ⟨K, fun x => He.ga K (Str.ofString x), []⟩ 1 [] F_quoted_in) := ok_quoted_in T A_quoted_in A_is_atom G_is_atom
  have G_is_title : FnOk P w K mg base (L2.CX P w) 2 _ fd_is_title ["thing", "signs"] (spM ⟨K, fun x => He.ga K (Str.ofString x), []⟩ 2 [] F_is_title) := ok_is_title T A_is_title A_is_of G_is_of
  have G_is_pair : FnOk P w K mg base (L2.CX P w) 3 _ fd_is_pair ["thing"] (spM ⟨K, fun x => He.ga K (Str.ofString x), []⟩ 1 [] F_is_pair) := ok_is_pair T A_is_pair A_is_title G_is_title A_is_line G_is_line
  have G_is_kind : FnOk P w K mg base (L2.CX P w) 4 _ fd_is_kind ["thing"] (spM ⟨K, fun x => He.ga K (Str.ofString x), []⟩ 1 [] F_is_kind) := ok_is_kind T A_is_kind A_is_title G_is_title A_is_pair G_is_pair
  have G_show_pair : FnOk P w K mg base (L2.CX P w) 4 _ fd_show_pair ["name", "value"] (spM ⟨K, fun x => He.ga K (Str.ofString x), []⟩ 2 [] F_show_pair) := ok_show_pair T A_show_pair A_quoted_in G_quoted_in
  have G_show_kind : FnOk P w K mg base (L2.CX P w) 5 _ fd_show_kind ["kind"] (spM ⟨K, fun x => He.ga K (Str.ofString x), []⟩ 1 [] F_show_kind) := ok_show_kind T A_show_kind A_is_kind G_is_kind A_show_pair G_show_pair
  have G__law_cell_at : FnOk P w K mg base (L2.CX P w) 1 _ fd__law_cell_at ["_law_script", "_law_k"] (spM ⟨K, fun x => He.ga K (Str.ofString x), []⟩ 2 [] F__law_cell_at) := ok__law_cell_at T A__law_cell_at 
  have G__law_mixed : FnOk P w K mg base (L2.CX P w) 1 _ fd__law_mixed ["_law_cell", "_law_k"] (spM ⟨K, fun x => He.ga K (Str.ofString x), []⟩ 2 [] F__law_mixed) := ok__law_mixed T A__law_mixed 
  have G__law_source : FnOk P w K mg base (L2.CX P w) 2 _ fd__law_source ["_law_script", "_law_k"] (spM ⟨K, fun x => He.ga K (Str.ofString x), []⟩ 2 [] F__law_source) := ok__law_source T A__law_source A__law_mixed G__law_mixed A__law_cell_at G__law_cell_at
  have G__law_next : FnOk P w K mg base (L2.CX P w) 2 _ fd__law_next ["_law_source_here", "_law_many"] (spM ⟨K, fun x => He.ga K (Str.ofString x), []⟩ 2 [0] F__law_next) := ok__law_next T A__law_next A__law_mixed G__law_mixed
  have G__law_signs : FnOk P w K mg base (L2.CX P w) 3 _ fd__law_signs ["_law_source_here", "_law_signs_here", "_law_many"] (spM ⟨K, fun x => He.ga K (Str.ofString x), []⟩ 3 [0] F__law_signs) := ok__law_signs T A__law_signs A__law_next G__law_next
  have G__law_is_atom : FnOk P w K mg base (L2.CX P w) 1 _ fd__law_is_atom ["_law_text"] (spM ⟨K, fun x => He.ga K (Str.ofString x), []⟩ 1 [] F__law_is_atom) := ok__law_is_atom T A__law_is_atom 
  have G__law_quoted : FnOk P w K mg base (L2.CX P w) 1 _ fd__law_quoted ["_law_text"] (spM ⟨K, fun x => He.ga K (Str.ofString x), []⟩ 1 [] F__law_quoted) := ok__law_quoted T A__law_quoted 
  have G__law_plain : FnOk P w K mg base (L2.CX P w) 2 _ fd__law_plain ["_law_text"] (spM ⟨K, fun x => He.ga K (Str.ofString x), []⟩ 1 [] F__law_plain) := ok__law_plain T A__law_plain A__law_is_atom G__law_is_atom A__law_quoted G__law_quoted
  have G__law_title : FnOk P w K mg base (L2.CX P w) 4 _ fd__law_title ["_law_source_here", "_law_first", "_law_signs_here"] (spM ⟨K, fun x => He.ga K (Str.ofString x), []⟩ 3 [0] F__law_title) := ok__law_title T A__law_title A__law_next G__law_next A__law_signs G__law_signs
  have G__law_kind : FnOk P w K mg base (L2.CX P w) 5 _ fd__law_kind ["_law_source_here", "_law_most"] (spM ⟨K, fun x => He.ga K (Str.ofString x), []⟩ 2 [0] F__law_kind) := ok__law_kind T A__law_kind A__law_next G__law_next A__law_title G__law_title A__law_signs G__law_signs
  have G__law_due : FnOk P w K mg base (L2.CX P w) 3 _ fd__law_due ["_law_given"] (spM ⟨K, fun x => He.ga K (Str.ofString x), []⟩ 1 [] F__law_due) := ok__law_due T A__law_due A__law_plain G__law_plain
  have G_law : RunAt callerA P w K mg base _ fd_law ["_law_script"] (spM ⟨K, fun x => He.ga K (Str.ofString x), []⟩ 1 [] F_law) := ok_law T A_law A__law_source G__law_source A__law_kind G__law_kind A_show_kind G_show_kind A__law_due G__law_due
  exact G_law

end K31
open PySem PySem.W PySem.Calls PyProof.Rows
theorem PySem.Challenge.cw_foldletter_k31_kinds_shown_holds : PySem.Challenge.rw_foldletter_k31_kinds_shown.Holds := by
  w_on; o_law
  refine HandSHeadRun.head_any (r := OpenLaw.row PySem.Challenge.rw_foldletter_k31_kinds_shown) (q := view (OpenLaw.row PySem.Challenge.rw_foldletter_k31_kinds_shown).prog [34]) (H := K31.hk) (ob := K31.ob) (M := 8000) (loose := K31.names) (d := HandSHeadRun.topDef (OpenLaw.row PySem.Challenge.rw_foldletter_k31_kinds_shown).prog 34) (kwd := []) K31.ob_eq
    (by kernel_rfl) (fun s => by kernel_rfl) K31.run (by kernel_rfl) (by kernel_rfl) (by kernel_rfl) (by rfl) (by first | assumption | decide +kernel) (by decide +kernel) ⟨rfl, rfl, rfl, rfl, rfl, by decide +kernel⟩ ?hw ?hc
  case hw => w_witness2
  case hc =>
    refine VS.walk_ofEA (l := PySem.Challenge.rw_foldletter_k31_kinds_shown) (n := 63) (x := "_law_script") rfl (by decide) (by kernel_rfl) ?F
    intro w mg fa h Y G hmg0
    obtain ⟨K, KX, c⟩ := Y
    have hmg : mg ("law" : PySem.Str) = some (.ref fa) := by
      have e : (HandSHeadRun.topDef (OpenLaw.row PySem.Challenge.rw_foldletter_k31_kinds_shown).prog 34).name = ("law" : PySem.Str) := by kernel_rfl
      rw [← e]
      exact hmg0
    obtain ⟨fd, cf, hcf, hb, hF⟩ := K31.facts (P := (PySem.Challenge.rw_foldletter_k31_kinds_shown).prog) (w := w) KX G hmg c
    exact ⟨K, fd, cf, K31.F_law, KX, hcf, hb, K31.law_true, hF⟩
