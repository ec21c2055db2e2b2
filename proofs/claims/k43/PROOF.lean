import PyProof.Rows.All
import Wide.All
import OpenK.AllK
import Wide.FinOn
import HandS.ForMost
import HandS.Exc
import HandS.TryOnly
import HandS.ExcOwn
import HandS.WordsExc
import HandS.Lambda
import HandS.Wide
import HandS.IsInst
import Lean
import KE.KStateDown
import HandS.More
import HandS.Defaults
import HandS.Head0
import HandS.Head1
import HandS.Head2
import HandS.HeadEnd
import HandS.HeadHook1
import HandS.HeadHook2
import HandS.HeadHook3
import HandS.HeadHook4
import HandS.ReplaceLit
import HandS.ReplaceList
import KE.DatumOrd
import HandS.StrMore
import HandS.NoneIn
import HandS.Flow
import KE.KExcIs
import HandS.ExcInit
import HandS.ExcField
import HandS.Strs
import HandS.Replace
import KE.GoesEnum
import KE.KIntText
import KE.KStrBytes
import HandS.TupAny
import HandS.Style
import PyProof.ReprRoads
import PyProof.ReprLen
import PyProof.FitsInt
import HandS.EndTab
import KE.KNestM
import HandS.Sort
import PyProof.ListRange
import PySem.Challenge.RW_foldletter_k43_texts_by_marks_read
set_option Elab.async false
set_option linter.all false
set_option maxRecDepth 100000
set_option autoImplicit false
set_option maxHeartbeats 0
/-! VS, part a: data without addresses (D), with addresses (T), who owns what (oc, sh). -/
namespace VS
open PySem PySem.Spec PyProof.Rows L2

/-- who holds a made thing: the one place alone; several; the caller's script; the text -/
inductive Ow where
  | own | shr | frz | stc
  deriving DecidableEq, Repr
inductive Sc where
  | non | bl (b : Bool) | int (i : Int) | str (s : List Nat)
  deriving DecidableEq, Repr
def Sc.v : Sc → V
  | .non => .non
  | .bl b => .bl b
  | .int i => .int i
  | .str s => .str ⟨s.toArray⟩
inductive D where
  | sc (s : Sc)
  | lst (o : Ow) (xs : List D)
  | tup (xs : List D)
  | obj (o : Ow) (C : String) (ns : List String) (xs : List D)
  | exn (C : String) (ns : List String) (xs : List Sc)
  deriving Repr
abbrev D.non : D := .sc .non
abbrev D.bl (b : Bool) : D := .sc (.bl b)
abbrev D.int (i : Int) : D := .sc (.int i)
abbrev D.str (s : List Nat) : D := .sc (.str s)
inductive T where
  | sc (s : Sc)
  | lst (a : Addr) (o : Ow) (xs : List T)
  | tup (a : Addr) (st : Bool) (xs : List T)
  | obj (a dx : Addr) (o : Ow) (C : String) (ns : List String) (xs : List T)
  | exn (a : Addr) (dx : Option Addr) (C : String) (ns : List String) (xs : List Sc)
def T.v : T → V
  | .sc s => s.v
  | .lst a _ _ => .ref a
  | .tup a _ _ => .ref a
  | .obj a _ _ _ _ _ => .ref a
  | .exn a _ _ _ _ => .ref a

mutual
def T.d : T → D
  | .sc s => .sc s
  | .lst _ o xs => .lst o (Ts.d xs)
  | .tup _ _ xs => .tup (Ts.d xs)
  | .obj _ _ o C ns xs => .obj o C ns (Ts.d xs)
  | .exn _ _ C ns xs => .exn C ns xs
def Ts.d : List T → List D
  | [] => []
  | t :: ts => t.d :: Ts.d ts
end
theorem Ts.d_map : ∀ ts : List T, Ts.d ts = ts.map T.d
  | [] => by simp [Ts.d]
  | t :: ts => by simp [Ts.d, Ts.d_map ts]

def b2 (p : Prop) [Decidable p] : Nat := if p then 1 else 0
mutual
/-- how often a is owned -/
def T.oc (a : Addr) : T → Nat
  | .sc _ => 0
  | .lst b o xs => b2 (o = .own ∧ b = a) + Ts.oc a xs
  | .tup _ _ xs => Ts.oc a xs
  | .obj b dx o _ _ xs => b2 (o = .own ∧ b = a) + b2 (o = .own ∧ dx = a) + Ts.oc a xs
  | .exn _ _ _ _ _ => 0
def Ts.oc (a : Addr) : List T → Nat
  | [] => 0
  | t :: ts => t.oc a + Ts.oc a ts
end
mutual
/-- how often a is held, not owned -/
def T.sh (a : Addr) : T → Nat
  | .sc _ => 0
  | .lst b o xs => b2 ((o = .shr ∨ o = .frz) ∧ b = a) + Ts.sh a xs
  | .tup b st xs => b2 (st = false ∧ b = a) + Ts.sh a xs
  | .obj b dx o _ _ xs => b2 (o = .shr ∧ b = a) + b2 (o = .shr ∧ dx = a) + Ts.sh a xs
  | .exn _ dx _ _ _ => b2 (dx = some a)
def Ts.sh (a : Addr) : List T → Nat
  | [] => 0
  | t :: ts => t.sh a + Ts.sh a ts
end

mutual
def T.fz : T → T
  | .sc s => .sc s
  | .lst a o xs => .lst a (if o = .own then .shr else o) (Ts.fz xs)
  | .tup a st xs => .tup a st (Ts.fz xs)
  | .obj a dx o C ns xs => .obj a dx (if o = .own then .shr else o) C ns (Ts.fz xs)
  | .exn a dx C ns xs => .exn a dx C ns xs
def Ts.fz : List T → List T
  | [] => []
  | t :: ts => t.fz :: Ts.fz ts
end
mutual
def D.fz : D → D
  | .sc s => .sc s
  | .lst o xs => .lst (if o = .own then .shr else o) (Ds.fz xs)
  | .tup xs => .tup (Ds.fz xs)
  | .obj o C ns xs => .obj (if o = .own then .shr else o) C ns (Ds.fz xs)
  | .exn C ns xs => .exn C ns xs
def Ds.fz : List D → List D
  | [] => []
  | t :: ts => t.fz :: Ds.fz ts
end

/-- what the layer is told of the text: the written part, where the classes stand -/
structure Cfg where
  K : PySem.W.Frag
  cls : String → Addr
  /-- the tables of code objects that may grow, and the name of what they tell -/
  tb : List (Addr × Str) := []

def StcL (K : PySem.W.Frag) (a : Addr) (vs : List V) : Prop := SqL K (fun _ => none) a vs
def StcT (K : PySem.W.Frag) (a : Addr) (vs : List V) : Prop := SqT K (fun _ => none) a vs
def fieldsV (ns : List String) (vs : List V) : List (Str × V) := (ns.map Str.ofString).zip vs

/-- what stands at an exception's dict; a thing of C "dict" is an empty dict -/
def exnO (C : String) (ns : List String) (xs : List Sc) : HO := if C = "dict" then .dK [] else .xd (fieldsV ns (xs.map Sc.v))
/-- what may stand in a heap: texts not too long, of signs there are -/
def Sc.good : Sc → Prop
  | .str l => l.length ≤ 16777216 ∧ ∀ c ∈ l, c < 1114112
  | _ => True
mutual
def T.ok (c : Cfg) (H : Hp) : T → Prop
  | .sc s => s.good
  | .lst a .own xs => H a = some (.lst (xs.map T.v)) ∧ xs.length ≤ 16777216 ∧ Ts.ok c H xs
  | .lst a .shr xs => H a = some (.lst (xs.map T.v)) ∧ xs.length ≤ 16777216 ∧ Ts.ok c H xs
  | .lst a .frz xs => (∃ o, H a = some (.frz o (.lst (xs.map T.v)))) ∧ xs.length ≤ 16777216 ∧ Ts.ok c H xs
  | .lst a .stc xs => StcL c.K a (xs.map T.v) ∧ xs.length ≤ 16777216 ∧ Ts.ok c H xs
  | .tup a false xs => H a = some (.tup (xs.map T.v)) ∧ xs.length ≤ 16777216 ∧ Ts.ok c H xs
  | .tup a true xs => StcT c.K a (xs.map T.v) ∧ xs.length ≤ 16777216 ∧ Ts.ok c H xs
  | .obj a dx .own C ns xs => H a = some (.ins (c.cls C) dx (fieldsV ns (xs.map T.v))) ∧ H dx = some (.own a) ∧ dx ≠ a ∧ ns.length = xs.length ∧ Ts.ok c H xs
  | .obj a dx .shr C ns xs => H a = some (.ins (c.cls C) dx (fieldsV ns (xs.map T.v))) ∧ H dx = some (.own a) ∧ dx ≠ a ∧ ns.length = xs.length ∧ Ts.ok c H xs
  | .obj _ _ _ _ _ _ => False
  | .exn a dx C ns xs => (∀ s ∈ xs, s.good) ∧ match dx with
    | none => ns = [] ∧ xs = [] ∧ C ≠ "dict"
    | some d => H d = some (exnO C ns xs) ∧ (C = "dict" → d = a)
def Ts.ok (c : Cfg) (H : Hp) : List T → Prop
  | [] => True
  | t :: ts => t.ok c H ∧ Ts.ok c H ts
end

/-! ### lemmas over lists -/
theorem Ts.ok_iff {c : Cfg} {H : Hp} : ∀ {ts : List T}, Ts.ok c H ts ↔ ∀ t ∈ ts, t.ok c H
  | [] => by simp [Ts.ok]
  | t :: ts => by simp [Ts.ok, Ts.ok_iff (ts := ts)]
theorem Ts.oc_append (a : Addr) : ∀ (xs ys : List T), Ts.oc a (xs ++ ys) = Ts.oc a xs + Ts.oc a ys
  | [], ys => by simp [Ts.oc]
  | t :: xs, ys => by simp [Ts.oc, Ts.oc_append a xs ys]; omega
theorem Ts.sh_append (a : Addr) : ∀ (xs ys : List T), Ts.sh a (xs ++ ys) = Ts.sh a xs + Ts.sh a ys
  | [], ys => by simp [Ts.sh]
  | t :: xs, ys => by simp [Ts.sh, Ts.sh_append a xs ys]; omega
theorem Ts.oc_mem {a : Addr} {t : T} : ∀ {ts : List T}, t ∈ ts → t.oc a ≤ Ts.oc a ts
  | [], h => by cases h
  | u :: ts, h => by
    rcases List.mem_cons.mp h with rfl | h
    · simp [Ts.oc]
    · have := Ts.oc_mem (a := a) h; simp [Ts.oc]; omega
theorem Ts.sh_mem {a : Addr} {t : T} : ∀ {ts : List T}, t ∈ ts → t.sh a ≤ Ts.sh a ts
  | [], h => by cases h
  | u :: ts, h => by
    rcases List.mem_cons.mp h with rfl | h
    · simp [Ts.sh]
    · have := Ts.sh_mem (a := a) h; simp [Ts.sh]; omega
theorem Ts.pos_sh {a : Addr} : ∀ {ts : List T}, 0 < Ts.sh a ts → ∃ t ∈ ts, 0 < t.sh a
  | [], h => by simp [Ts.sh] at h
  | t :: ts, h => by
    simp only [Ts.sh] at h
    by_cases c : 0 < t.sh a
    · exact ⟨t, by simp, c⟩
    · obtain ⟨u, hu, hp⟩ := Ts.pos_sh (ts := ts) (a := a) (by omega)
      exact ⟨u, by simp [hu], hp⟩
theorem Ts.pos_oc {a : Addr} : ∀ {ts : List T}, 0 < Ts.oc a ts → ∃ t ∈ ts, 0 < t.oc a
  | [], h => by simp [Ts.oc] at h
  | t :: ts, h => by
    simp only [Ts.oc] at h
    by_cases c : 0 < t.oc a
    · exact ⟨t, by simp, c⟩
    · obtain ⟨u, hu, hp⟩ := Ts.pos_oc (ts := ts) (a := a) (by omega)
      exact ⟨u, by simp [hu], hp⟩

/-! ### freezing -/
theorem T.fz_v : ∀ t : T, t.fz.v = t.v
  | .sc _ => by simp [T.fz]
  | .lst _ _ _ => by simp [T.fz, T.v]
  | .tup _ _ _ => by simp [T.fz, T.v]
  | .obj _ _ _ _ _ _ => by simp [T.fz, T.v]
  | .exn _ _ _ _ _ => by simp [T.fz]
theorem Ts.fz_map : ∀ ts : List T, Ts.fz ts = ts.map T.fz
  | [] => by simp [Ts.fz]
  | t :: ts => by simp [Ts.fz, Ts.fz_map ts]
theorem Ds.fz_map : ∀ ts : List D, Ds.fz ts = ts.map D.fz
  | [] => by simp [Ds.fz]
  | t :: ts => by simp [Ds.fz, Ds.fz_map ts]
theorem Ts.fz_v (ts : List T) : (Ts.fz ts).map T.v = ts.map T.v := by
  rw [Ts.fz_map, List.map_map]; exact List.map_congr_left fun t _ => T.fz_v t
mutual
theorem T.fz_d : ∀ t : T, t.fz.d = t.d.fz
  | .sc _ => by simp [T.fz, T.d, D.fz]
  | .lst _ _ xs => by simp [T.fz, T.d, D.fz, Ts.fz_d xs]
  | .tup _ _ xs => by simp [T.fz, T.d, D.fz, Ts.fz_d xs]
  | .obj _ _ _ _ _ xs => by simp [T.fz, T.d, D.fz, Ts.fz_d xs]
  | .exn _ _ _ _ _ => by simp [T.fz, T.d, D.fz]
theorem Ts.fz_d : ∀ ts : List T, Ts.d (Ts.fz ts) = Ds.fz (Ts.d ts)
  | [] => by simp [Ts.fz, Ts.d, Ds.fz]
  | t :: ts => by simp [Ts.fz, Ts.d, Ds.fz, T.fz_d t, Ts.fz_d ts]
end
mutual
theorem T.fz_oc (a : Addr) : ∀ t : T, t.fz.oc a = 0
  | .sc _ => by simp [T.fz, T.oc]
  | .lst b o xs => by cases o <;> simp [T.fz, T.oc, Ts.fz_oc a xs, b2]
  | .tup _ _ xs => by simp [T.fz, T.oc, Ts.fz_oc a xs]
  | .obj _ _ o _ _ xs => by cases o <;> simp [T.fz, T.oc, Ts.fz_oc a xs, b2]
  | .exn _ _ _ _ _ => by simp [T.fz, T.oc]
theorem Ts.fz_oc (a : Addr) : ∀ ts : List T, Ts.oc a (Ts.fz ts) = 0
  | [] => by simp [Ts.fz, Ts.oc]
  | t :: ts => by simp [Ts.fz, Ts.oc, T.fz_oc a t, Ts.fz_oc a ts]
end
mutual
theorem T.fz_sh (a : Addr) : ∀ t : T, t.fz.sh a = t.oc a + t.sh a
  | .sc _ => by simp [T.fz, T.oc, T.sh]
  | .lst b o xs => by cases o <;> simp [T.fz, T.oc, T.sh, Ts.fz_sh a xs, b2] <;> omega
  | .tup _ _ xs => by simp [T.fz, T.oc, T.sh, Ts.fz_sh a xs]; omega
  | .obj _ _ o _ _ xs => by cases o <;> simp [T.fz, T.oc, T.sh, Ts.fz_sh a xs, b2] <;> omega
  | .exn _ _ _ _ _ => by simp [T.fz, T.oc]
theorem Ts.fz_sh (a : Addr) : ∀ ts : List T, Ts.sh a (Ts.fz ts) = Ts.oc a ts + Ts.sh a ts
  | [] => by simp [Ts.fz, Ts.oc, Ts.sh]
  | t :: ts => by simp [Ts.fz, Ts.oc, Ts.sh, T.fz_sh a t, Ts.fz_sh a ts]; omega
end
theorem Ts.fz_len (ts : List T) : (Ts.fz ts).length = ts.length := by rw [Ts.fz_map, List.length_map]
mutual
theorem T.fz_ok {c : Cfg} {H : Hp} : ∀ t : T, t.ok c H → t.fz.ok c H
  | .sc _, h => by simpa [T.fz] using h
  | .lst b o xs, h => by
    have ih := Ts.fz_ok (c := c) (H := H) xs
    cases o <;> simp only [T.ok] at h <;> simp [T.fz, T.ok, Ts.fz_v, h.1, h.2.1, Ts.fz_len, ih h.2.2]
  | .tup _ st xs, h => by
    have ih := Ts.fz_ok (c := c) (H := H) xs
    cases st <;> simp only [T.ok] at h <;> simp [T.fz, T.ok, Ts.fz_v, h.1, h.2.1, Ts.fz_len, ih h.2.2]
  | .obj _ _ o _ _ xs, h => by
    have ih := Ts.fz_ok (c := c) (H := H) xs
    cases o <;> simp only [T.ok] at h <;> simp [T.fz, T.ok, Ts.fz_v, h.1, h.2.1, h.2.2.1, h.2.2.2.1, ih h.2.2.2.2, Ts.fz_len]
  | .exn _ _ _ _ _, h => by simpa [T.fz] using h
theorem Ts.fz_ok {c : Cfg} {H : Hp} : ∀ ts : List T, Ts.ok c H ts → Ts.ok c H (Ts.fz ts)
  | [], h => by simp [Ts.fz, Ts.ok]
  | t :: ts, h => by
    simp only [Ts.ok] at h
    simp [Ts.fz, Ts.ok, T.fz_ok t h.1, Ts.fz_ok ts h.2]
end

/-! ### what stands stays -/
theorem b2_true {p : Prop} [Decidable p] (h : p) : b2 p = 1 := by simp [b2, h]
theorem b2_false {p : Prop} [Decidable p] (h : ¬ p) : b2 p = 0 := by simp [b2, h]
mutual
/-- what is held stands in the heap -/
theorem T.pos {c : Cfg} {H : Hp} {a : Addr} : ∀ t : T, t.ok c H → 0 < t.oc a + t.sh a → H a ≠ none
  | .sc _, _, h => by simp [T.oc, T.sh] at h
  | .lst b o xs, k, h => by
    simp only [T.oc, T.sh] at h
    by_cases e : 0 < Ts.oc a xs + Ts.sh a xs
    · cases o <;> simp only [T.ok] at k <;> exact Ts.pos xs k.2.2 e
    · have hb : b = a := by
        by_cases q : b = a
        · exact q
        · simp [b2, q] at h; omega
      subst hb
      cases o <;> simp only [T.ok] at k
      · simp [k.1]
      · simp [k.1]
      · obtain ⟨⟨_, q⟩, _⟩ := k; simp [q]
      · simp [b2] at h; omega
  | .tup b st xs, k, h => by
    simp only [T.oc, T.sh] at h
    by_cases e : 0 < Ts.oc a xs + Ts.sh a xs
    · cases st <;> simp only [T.ok] at k <;> exact Ts.pos xs k.2.2 e
    · cases st
      · have hb : b = a := by
          by_cases q : b = a
          · exact q
          · simp [b2, q] at h; omega
        subst hb
        simp only [T.ok] at k
        simp [k.1]
      · simp [b2] at h; omega
  | .obj b dx o C ns xs, k, h => by
    simp only [T.oc, T.sh] at h
    by_cases e : 0 < Ts.oc a xs + Ts.sh a xs
    · cases o <;> simp only [T.ok] at k <;> exact Ts.pos xs k.2.2.2.2 e
    · have hb : b = a ∨ dx = a := by
        by_cases q : b = a
        · exact .inl q
        · by_cases q2 : dx = a
          · exact .inr q2
          · simp [b2, q, q2] at h; omega
      cases o <;> simp only [T.ok] at k
      · rcases hb with rfl | rfl
        · simp [k.1]
        · simp [k.2.1]
      · rcases hb with rfl | rfl
        · simp [k.1]
        · simp [k.2.1]
  | .exn _ dx _ _ _, k, h => by
    simp only [T.oc, T.sh] at h
    by_cases q : dx = some a
    · subst q
      simp only [T.ok] at k
      simp [k]
    · simp [b2, q] at h
theorem Ts.pos {c : Cfg} {H : Hp} {a : Addr} : ∀ ts : List T, Ts.ok c H ts → 0 < Ts.oc a ts + Ts.sh a ts → H a ≠ none
  | [], _, h => by simp [Ts.oc, Ts.sh] at h
  | t :: ts, k, h => by
    simp only [Ts.ok] at k
    simp only [Ts.oc, Ts.sh] at h
    by_cases e : 0 < t.oc a + t.sh a
    · exact T.pos t k.1 e
    · exact Ts.pos ts k.2 (by omega)
end
mutual
theorem T.stay {c : Cfg} {H H' : Hp} : ∀ t : T, t.ok c H → (∀ a, 0 < t.oc a + t.sh a → H' a = H a) → t.ok c H'
  | .sc _, k, _ => by simpa [T.ok] using k
  | .lst b o xs, k, h => by
    have h2 : ∀ a, 0 < Ts.oc a xs + Ts.sh a xs → H' a = H a := fun a q => h a (by simp only [T.oc, T.sh]; omega)
    cases o <;> simp only [T.ok] at k ⊢
    · exact ⟨(h b (by simp [T.oc, T.sh, b2]; omega)).trans k.1, k.2.1, Ts.stay xs k.2.2 h2⟩
    · exact ⟨(h b (by simp [T.oc, T.sh, b2]; omega)).trans k.1, k.2.1, Ts.stay xs k.2.2 h2⟩
    · obtain ⟨⟨o, q⟩, k2⟩ := k
      exact ⟨⟨o, (h b (by simp [T.oc, T.sh, b2]; omega)).trans q⟩, k2.1, Ts.stay xs k2.2 h2⟩
    · exact ⟨k.1, k.2.1, Ts.stay xs k.2.2 h2⟩
  | .tup b st xs, k, h => by
    have h2 : ∀ a, 0 < Ts.oc a xs + Ts.sh a xs → H' a = H a := fun a q => h a (by simp only [T.oc, T.sh]; omega)
    cases st <;> simp only [T.ok] at k ⊢
    · exact ⟨(h b (by simp [T.oc, T.sh, b2]; omega)).trans k.1, k.2.1, Ts.stay xs k.2.2 h2⟩
    · exact ⟨k.1, k.2.1, Ts.stay xs k.2.2 h2⟩
  | .obj b dx o C ns xs, k, h => by
    have h2 : ∀ a, 0 < Ts.oc a xs + Ts.sh a xs → H' a = H a := fun a q => h a (by simp only [T.oc, T.sh]; omega)
    cases o <;> simp only [T.ok] at k ⊢
    · exact ⟨(h b (by simp [T.oc, T.sh, b2]; omega)).trans k.1, (h dx (by simp [T.oc, T.sh, b2]; omega)).trans k.2.1, k.2.2.1, k.2.2.2.1, Ts.stay xs k.2.2.2.2 h2⟩
    · exact ⟨(h b (by simp [T.oc, T.sh, b2]; omega)).trans k.1, (h dx (by simp [T.oc, T.sh, b2]; omega)).trans k.2.1, k.2.2.1, k.2.2.2.1, Ts.stay xs k.2.2.2.2 h2⟩
  | .exn _ dx _ ns xs, k, h => by
    cases dx with
    | none => simpa [T.ok] using k
    | some d =>
      simp only [T.ok] at k ⊢
      exact ⟨k.1, (h d (by simp [T.oc, T.sh, b2])).trans k.2.1, k.2.2⟩
theorem Ts.stay {c : Cfg} {H H' : Hp} : ∀ ts : List T, Ts.ok c H ts → (∀ a, 0 < Ts.oc a ts + Ts.sh a ts → H' a = H a) → Ts.ok c H' ts
  | [], _, _ => by simp [Ts.ok]
  | t :: ts, k, h => by
    simp only [Ts.ok] at k ⊢
    exact ⟨T.stay t k.1 fun a q => h a (by simp only [Ts.oc, Ts.sh]; omega), Ts.stay ts k.2 fun a q => h a (by simp only [Ts.oc, Ts.sh]; omega)⟩
end
/-! ### what is held is no table of code objects, nor one of these -/
def plainO : HO → Bool
  | .lst _ => true
  | .tup _ => true
  | .frz _ _ => true
  | .ins _ _ _ => true
  | .own _ => true
  | .dK _ => true
  | .xd _ => true
  | _ => false
mutual
theorem T.plain {c : Cfg} {H : Hp} {a : Addr} : ∀ t : T, t.ok c H → 0 < t.oc a + t.sh a → ∃ o, H a = some o ∧ plainO o = true
  | .sc _, _, h => by simp [T.oc, T.sh] at h
  | .lst b o xs, k, h => by
    simp only [T.oc, T.sh] at h
    by_cases e : 0 < Ts.oc a xs + Ts.sh a xs
    · cases o <;> simp only [T.ok] at k <;> exact Ts.plain xs k.2.2 e
    · have hb : b = a := by
        by_cases q : b = a
        · exact q
        · simp [b2, q] at h; omega
      subst hb
      cases o <;> simp only [T.ok] at k
      · exact ⟨_, k.1, rfl⟩
      · exact ⟨_, k.1, rfl⟩
      · obtain ⟨⟨_, q⟩, _⟩ := k; exact ⟨_, q, rfl⟩
      · simp [b2] at h; omega
  | .tup b st xs, k, h => by
    simp only [T.oc, T.sh] at h
    by_cases e : 0 < Ts.oc a xs + Ts.sh a xs
    · cases st <;> simp only [T.ok] at k <;> exact Ts.plain xs k.2.2 e
    · cases st
      · have hb : b = a := by
          by_cases q : b = a
          · exact q
          · simp [b2, q] at h; omega
        subst hb
        simp only [T.ok] at k
        exact ⟨_, k.1, rfl⟩
      · simp [b2] at h; omega
  | .obj b dx o C ns xs, k, h => by
    simp only [T.oc, T.sh] at h
    by_cases e : 0 < Ts.oc a xs + Ts.sh a xs
    · cases o <;> simp only [T.ok] at k <;> exact Ts.plain xs k.2.2.2.2 e
    · have hb : b = a ∨ dx = a := by
        by_cases q : b = a
        · exact .inl q
        · by_cases q2 : dx = a
          · exact .inr q2
          · simp [b2, q, q2] at h; omega
      cases o <;> simp only [T.ok] at k
      · rcases hb with rfl | rfl
        · exact ⟨_, k.1, rfl⟩
        · exact ⟨_, k.2.1, rfl⟩
      · rcases hb with rfl | rfl
        · exact ⟨_, k.1, rfl⟩
        · exact ⟨_, k.2.1, rfl⟩
  | .exn _ dx C ns xs, k, h => by
    simp only [T.oc, T.sh] at h
    by_cases q : dx = some a
    · subst q
      simp only [T.ok] at k
      refine ⟨_, k.2.1, ?_⟩
      unfold exnO
      split <;> rfl
    · simp [b2, q] at h
theorem Ts.plain {c : Cfg} {H : Hp} {a : Addr} : ∀ ts : List T, Ts.ok c H ts → 0 < Ts.oc a ts + Ts.sh a ts → ∃ o, H a = some o ∧ plainO o = true
  | [], _, h => by simp [Ts.oc, Ts.sh] at h
  | t :: ts, k, h => by
    simp only [Ts.ok] at k
    simp only [Ts.oc, Ts.sh] at h
    by_cases e : 0 < t.oc a + t.sh a
    · exact T.plain t k.1 e
    · exact Ts.plain ts k.2 (by omega)
end
/-- no table -/
abbrev NT (o : HO) : Prop := ∀ ps, o ≠ .tbl ps
theorem plain_nt {o : HO} (h : plainO o = true) : NT o := fun ps e => by subst e; cases h
/-- what stands at a stays: it is no table, or one that is told of -/
def Sol (c : Cfg) (H : Hp) (a : Addr) : Prop := ∃ o, H a = some o ∧ (NT o ∨ a ∈ c.tb.map Prod.fst)
theorem Sol.ne {c : Cfg} {H : Hp} {a : Addr} (h : Sol c H a) : H a ≠ none := by
  obtain ⟨o, e, _⟩ := h
  rw [e]; simp
theorem Sol.no {c : Cfg} {H : Hp} {a : Addr} (h : H a = none) : ¬ Sol c H a := fun k => k.ne h
/-- tables stay where all that is not plain stays -/
theorem tabs_keep {T : List (Addr × Str)} {H H' : Hp} (t : LamX.Tabs T H) (e : ∀ b o, H b = some o → plainO o = false → H' b = some o) : LamX.Tabs T H' := fun p hp => by
  obtain ⟨ps, h1, h2, h3⟩ := t p hp
  refine ⟨ps, e _ _ h1 rfl, h2, fun pos cv hc => ?_⟩
  obtain ⟨c, e1, e2⟩ := h3 pos cv hc
  exact ⟨c, e1, e _ _ e2 rfl⟩
end VS

/-! VS, part b: the state (slots and what is held beside), and how it goes on. -/
namespace VS
open PySem PySem.Spec PyProof.Rows L2

abbrev DE := List (Option D)
structure Ex where
  cls : String
  ns : List String
  xs : List Sc
  deriving Repr, DecidableEq
inductive R (α : Type) where
  | ok (a : α) (ρ : DE)
  | exc (x : Ex) (ρ : DE)
  | stuck
  deriving Repr
abbrev Cm (α : Type) := DE → R α
@[inline] def R.bind {α β : Type} (r : R α) (f : α → Cm β) : R β := match r with
  | .ok a ρ => f a ρ
  | .exc x ρ => .exc x ρ
  | .stuck => .stuck
@[simp] theorem R.bind_ok {α β : Type} (a : α) (ρ : DE) (f : α → Cm β) : (R.ok a ρ).bind f = f a ρ := rfl
@[simp] theorem R.bind_exc {α β : Type} (x : Ex) (ρ : DE) (f : α → Cm β) : (R.exc x ρ : R α).bind f = .exc x ρ := rfl
@[simp] theorem R.bind_stuck {α β : Type} (f : α → Cm β) : (R.stuck : R α).bind f = .stuck := rfl

/-- what a def's body is told at its entry -/
structure Gh where
  c : Cfg
  H0 : Hp
  A0 : List T
  N : Nat
  io : List (Nat × V)
  /-- what stands still, owned by none -/
  px : List (Addr × HO) := []

def So (f : T → Nat) : List (Option T) → Nat
  | [] => 0
  | none :: r => So f r
  | some t :: r => f t + So f r
def fO (f : T → Nat) : Option T → Nat
  | none => 0
  | some t => f t
theorem So_set {f : T → Nat} {x : Option T} : ∀ {sl : List (Option T)} {i : Nat} {y : Option T}, sl[i]? = some y → So f (sl.set i x) + fO f y = So f sl + fO f x
  | [], _, _, h => by simp at h
  | y :: r, 0, z, h => by
    simp only [List.getElem?_cons_zero, Option.some.injEq] at h
    subst h
    cases x <;> cases y <;> simp [So, fO] <;> omega
  | y :: r, i + 1, z, h => by
    have := So_set (f := f) (x := x) (sl := r) (i := i) (y := z) (by simpa using h)
    cases y <;> simp [So] <;> omega
theorem So_get {f : T → Nat} {t : T} : ∀ {sl : List (Option T)}, some t ∈ sl → f t ≤ So f sl
  | [], h => by cases h
  | y :: r, h => by
    rcases List.mem_cons.mp h with e | h
    · subst e; simp [So]
    · have := So_get (f := f) h
      cases y <;> simp [So] <;> omega
def den (sl : List (Option T)) : DE := sl.map (Option.map T.d)
theorem den_set (sl : List (Option T)) (i : Nat) (x : Option T) : den (sl.set i x) = (den sl).set i (x.map T.d) := by
  unfold den; rw [List.map_set]
theorem den_get {sl : List (Option T)} {i : Nat} {d : D} (h : (den sl)[i]? = some (some d)) : ∃ t, sl[i]? = some (some t) ∧ t.d = d := by
  unfold den at h
  rw [List.getElem?_map] at h
  cases e : sl[i]? with
  | none => rw [e] at h; simp at h
  | some o =>
    cases o with
    | none => rw [e] at h; simp at h
    | some t => rw [e] at h; simp at h; exact ⟨t, rfl, h⟩
theorem den_len (sl : List (Option T)) : (den sl).length = sl.length := by unfold den; simp

structure SR (g : Gh) (H : Hp) (σ : L2.St) (sl : List (Option T)) (tm : List T) : Prop where
  okS : ∀ t, some t ∈ sl → t.ok g.c H
  okT : Ts.ok g.c H tm
  inv : ∀ a, So (T.oc a) sl + Ts.oc a tm = 0 ∨ (So (T.oc a) sl + Ts.oc a tm = 1 ∧ So (T.sh a) sl + Ts.sh a tm = 0)
  prov : ∀ a, Sol g.c g.H0 a → Ts.oc a g.A0 = 0 → So (T.oc a) sl + Ts.oc a tm = 0 ∧ (Ts.sh a g.A0 = 0 → So (T.sh a) sl + Ts.sh a tm = 0)
  frame : ∀ a o, g.H0 a = some o → NT o → Ts.oc a g.A0 = 0 → H a = some o
  len : σ.length = g.N
  slen : sl.length = g.N
  at_ : ∀ (i : Nat) (t : T), sl[i]? = some (some t) → σ[i]? = some (some t.v)
  io : ∀ p ∈ g.io, σ[p.1]? = some (some p.2)
  px : ∀ p ∈ g.px, H p.1 = some p.2 ∧ So (T.oc p.1) sl + Ts.oc p.1 tm = 0 ∧ plainO p.2 = true
  tabs : LamX.Tabs g.c.tb H

theorem So_pos {c : Cfg} {H : Hp} {a : Addr} : ∀ {sl : List (Option T)}, (∀ t, some t ∈ sl → t.ok c H) → 0 < So (T.oc a) sl + So (T.sh a) sl → H a ≠ none
  | [], _, h => by simp [So] at h
  | none :: r, k, h => So_pos (fun t m => k t (List.mem_cons_of_mem _ m)) (by simpa [So] using h)
  | some t :: r, k, h => by
    simp only [So] at h
    by_cases e : 0 < t.oc a + t.sh a
    · exact T.pos t (k t (by simp)) e
    · exact So_pos (fun t m => k t (List.mem_cons_of_mem _ m)) (by omega)
section
variable {g : Gh} {H H' : Hp} {σ σ' : L2.St} {sl sl' : List (Option T)} {tm tm' : List T}
theorem So_plain {c : Cfg} {H : Hp} {a : Addr} : ∀ {sl : List (Option T)}, (∀ t, some t ∈ sl → t.ok c H) → 0 < So (T.oc a) sl + So (T.sh a) sl → ∃ o, H a = some o ∧ plainO o = true
  | [], _, h => by simp [So] at h
  | none :: r, k, h => So_plain (fun t m => k t (List.mem_cons_of_mem _ m)) (by simpa [So] using h)
  | some t :: r, k, h => by
    simp only [So] at h
    by_cases e : 0 < t.oc a + t.sh a
    · exact T.plain t (k t (by simp)) e
    · exact So_plain (fun t m => k t (List.mem_cons_of_mem _ m)) (by omega)
theorem SR.plain (s : SR g H σ sl tm) {a : Addr} (h : 0 < So (T.oc a) sl + Ts.oc a tm + So (T.sh a) sl + Ts.sh a tm) : ∃ o, H a = some o ∧ plainO o = true := by
  by_cases e : 0 < So (T.oc a) sl + So (T.sh a) sl
  · exact So_plain s.okS e
  · exact Ts.plain tm s.okT (by omega)
theorem SR.pos (s : SR g H σ sl tm) {a : Addr} (h : 0 < So (T.oc a) sl + Ts.oc a tm + So (T.sh a) sl + Ts.sh a tm) : H a ≠ none := by
  by_cases e : 0 < So (T.oc a) sl + So (T.sh a) sl
  · exact So_pos s.okS e
  · exact Ts.pos tm s.okT (by omega)
theorem SR.sol (s : SR g H σ sl tm) {a : Addr} (h : Sol g.c g.H0 a) (h1 : Ts.oc a g.A0 = 0) : Sol g.c H a := by
  obtain ⟨o, e, n | m⟩ := h
  · exact ⟨o, s.frame a o e n h1, .inl n⟩
  · obtain ⟨p, hp, rfl⟩ := List.mem_map.mp m
    obtain ⟨ps, hP, _⟩ := s.tabs p hp
    exact ⟨_, hP, .inr m⟩
/-- the state goes on, tables perhaps grown -/
theorem SR.goT (s : SR g H σ sl tm) (okS : ∀ t, some t ∈ sl' → t.ok g.c H') (okT : Ts.ok g.c H' tm')
    (hC : ∀ a, (So (T.oc a) sl' + Ts.oc a tm' ≤ So (T.oc a) sl + Ts.oc a tm ∧ (0 < So (T.sh a) sl' + Ts.sh a tm' → 0 < So (T.sh a) sl + Ts.sh a tm ∨ (0 < So (T.oc a) sl + Ts.oc a tm ∧ So (T.oc a) sl' + Ts.oc a tm' = 0))) ∨
      ((¬ Sol g.c H a ∨ 0 < So (T.oc a) sl + Ts.oc a tm) ∧ (So (T.oc a) sl' + Ts.oc a tm' = 0 ∨ (So (T.oc a) sl' + Ts.oc a tm' = 1 ∧ So (T.sh a) sl' + Ts.sh a tm' = 0))))
    (hH : ∀ a o, H a = some o → NT o → So (T.oc a) sl + Ts.oc a tm = 0 → H' a = some o) (hT : LamX.Tabs g.c.tb H')
    (len : σ'.length = g.N) (slen : sl'.length = g.N) (at_ : ∀ (i : Nat) (t : T), sl'[i]? = some (some t) → σ'[i]? = some (some t.v)) (io : ∀ p ∈ g.io, σ'[p.1]? = some (some p.2)) : SR g H' σ' sl' tm' := by
  refine ⟨okS, okT, fun a => ?_, fun a h0 h1 => ?_, fun a o h0 hn h1 => ?_, len, slen, at_, io, fun p hp => ?_, hT⟩
  · have i := s.inv a
    rcases hC a with ⟨h1, h2⟩ | ⟨_, h⟩
    · by_cases e : So (T.oc a) sl' + Ts.oc a tm' = 0
      · exact .inl e
      · refine .inr ⟨by omega, ?_⟩
        by_cases e2 : 0 < So (T.sh a) sl' + Ts.sh a tm'
        · rcases h2 e2 with h | h <;> omega
        · omega
    · exact h
  · have p := s.prov a h0 h1
    have f := s.sol h0 h1
    rcases hC a with ⟨h2, h3⟩ | ⟨h, _⟩
    · refine ⟨by omega, fun q => ?_⟩
      have := p.2 q
      by_cases e2 : 0 < So (T.sh a) sl' + Ts.sh a tm'
      · rcases h3 e2 with h | h <;> omega
      · omega
    · rcases h with h | h
      · exact absurd f h
      · omega
  · have p := s.prov a ⟨o, h0, .inl hn⟩ h1
    exact hH a o (s.frame a o h0 hn h1) hn (by omega)
  · obtain ⟨h1, h2, h3⟩ := s.px p hp
    refine ⟨hH _ _ h1 (plain_nt h3) h2, ?_, h3⟩
    rcases hC p.1 with ⟨a1, _⟩ | ⟨a1, _⟩
    · omega
    · rcases a1 with h | h
      · exact absurd ⟨_, h1, .inl (plain_nt h3)⟩ h
      · omega
/-- the state goes on -/
theorem SR.go (s : SR g H σ sl tm) (okS : ∀ t, some t ∈ sl' → t.ok g.c H') (okT : Ts.ok g.c H' tm')
    (hC : ∀ a, (So (T.oc a) sl' + Ts.oc a tm' ≤ So (T.oc a) sl + Ts.oc a tm ∧ (0 < So (T.sh a) sl' + Ts.sh a tm' → 0 < So (T.sh a) sl + Ts.sh a tm ∨ (0 < So (T.oc a) sl + Ts.oc a tm ∧ So (T.oc a) sl' + Ts.oc a tm' = 0))) ∨
      ((H a = none ∨ 0 < So (T.oc a) sl + Ts.oc a tm) ∧ (So (T.oc a) sl' + Ts.oc a tm' = 0 ∨ (So (T.oc a) sl' + Ts.oc a tm' = 1 ∧ So (T.sh a) sl' + Ts.sh a tm' = 0))))
    (hH : ∀ a, H' a = H a ∨ H a = none ∨ 0 < So (T.oc a) sl + Ts.oc a tm)
    (len : σ'.length = g.N) (slen : sl'.length = g.N) (at_ : ∀ (i : Nat) (t : T), sl'[i]? = some (some t) → σ'[i]? = some (some t.v)) (io : ∀ p ∈ g.io, σ'[p.1]? = some (some p.2)) : SR g H' σ' sl' tm' := by
  refine s.goT okS okT (fun a => ?_) (fun a o ha hn ho => ?_) (tabs_keep s.tabs fun a o ha hp => ?_) len slen at_ io
  · rcases hC a with h | ⟨h | h, h2⟩
    · exact .inl h
    · exact .inr ⟨.inl (Sol.no h), h2⟩
    · exact .inr ⟨.inr h, h2⟩
  · rcases hH a with h | h | h
    · exact h.trans ha
    · rw [ha] at h; cases h
    · omega
  · rcases hH a with h | h | h
    · exact h.trans ha
    · rw [ha] at h; cases h
    · obtain ⟨u, e, pu⟩ := s.plain (a := a) (by omega)
      rw [ha] at e; cases e
      rw [hp] at pu; cases pu
/-- .. the heap and the frame's values as they are -/
theorem SR.turn (s : SR g H σ sl tm) (okS : ∀ t, some t ∈ sl' → t.ok g.c H) (okT : Ts.ok g.c H tm')
    (hC : ∀ a, So (T.oc a) sl' + Ts.oc a tm' ≤ So (T.oc a) sl + Ts.oc a tm ∧ (0 < So (T.sh a) sl' + Ts.sh a tm' → 0 < So (T.sh a) sl + Ts.sh a tm ∨ (0 < So (T.oc a) sl + Ts.oc a tm ∧ So (T.oc a) sl' + Ts.oc a tm' = 0)))
    (slen : sl'.length = g.N) (at_ : ∀ (i : Nat) (t : T), sl'[i]? = some (some t) → σ[i]? = some (some t.v)) : SR g H σ sl' tm' :=
  s.go okS okT (fun a => .inl (hC a)) (fun _ => .inl rfl) s.len slen at_ s.io
/-- what is held beside is exchanged for what comes of it -/
theorem SR.tmp (s : SR g H σ sl tm) (okT : Ts.ok g.c H tm') (hC : ∀ a, Ts.oc a tm' ≤ Ts.oc a tm ∧ (0 < Ts.sh a tm' → 0 < Ts.sh a tm ∨ (0 < Ts.oc a tm ∧ Ts.oc a tm' = 0) ∨ 0 < So (T.sh a) sl)) : SR g H σ sl tm' :=
  s.turn s.okS okT (fun a => by
    have h := hC a
    have i := s.inv a
    refine ⟨by omega, fun q => ?_⟩
    by_cases e : 0 < So (T.sh a) sl
    · exact .inl (by omega)
    · rcases h.2 (by omega) with r | r | r <;> omega) s.slen s.at_
theorem SR.pop {t : T} (s : SR g H σ sl (t :: tm)) : SR g H σ sl tm :=
  s.tmp (by have := s.okT; simp only [Ts.ok] at this; exact this.2) fun a => by simp only [Ts.oc, Ts.sh]; omega
theorem SR.top {t : T} (s : SR g H σ sl (t :: tm)) : t.ok g.c H := by have := s.okT; simp only [Ts.ok] at this; exact this.1
theorem SR.push (s : SR g H σ sl tm) (x : Sc) (hx : x.good) : SR g H σ sl (.sc x :: tm) :=
  s.tmp (by simp only [Ts.ok, T.ok]; exact ⟨hx, s.okT⟩) fun a => by simp only [Ts.oc, Ts.sh, T.oc, T.sh]; omega
/-- the one on top is exchanged for a part of it -/
theorem SR.part {t u : T} (s : SR g H σ sl (t :: tm)) (ok : u.ok g.c H) (h : ∀ a, u.oc a ≤ t.oc a ∧ u.sh a ≤ t.sh a) : SR g H σ sl (u :: tm) :=
  s.tmp (by have := s.okT; simp only [Ts.ok] at this ⊢; exact ⟨ok, this.2⟩) fun a => by have := h a; simp only [Ts.oc, Ts.sh]; omega
theorem SR.slot {i : Nat} {t : T} (s : SR g H σ sl tm) (h : sl[i]? = some (some t)) : some t ∈ sl := List.mem_of_getElem? h
theorem SR.val {i : Nat} {d : D} (s : SR g H σ sl tm) (h : (den sl)[i]? = some (some d)) : ∃ t, sl[i]? = some (some t) ∧ t.d = d ∧ t.ok g.c H ∧ σ[i]? = some (some t.v) := by
  obtain ⟨t, e, hd⟩ := den_get h
  exact ⟨t, e, hd, s.okS t (List.mem_of_getElem? e), s.at_ i t e⟩
theorem mem_set {α : Type} {x y : α} : ∀ {l : List α} {i : Nat}, x ∈ l.set i y → x = y ∨ x ∈ l := fun {l i} h => by
  rcases List.mem_or_eq_of_mem_set h with h | h
  · exact .inr h
  · exact .inl h
theorem set_get {α : Type} {l : List α} {i j : Nat} {x y : α} (h : (l.set i x)[j]? = some y) : (j = i ∧ y = x) ∨ (j ≠ i ∧ l[j]? = some y) := by
  by_cases e : j = i
  · subst e
    have hl : j < l.length := by
      by_cases q : j < l.length
      · exact q
      · rw [List.getElem?_eq_none (by simp; omega)] at h; cases h
    rw [List.getElem?_set_self hl] at h
    exact .inl ⟨rfl, (Option.some.inj h).symm⟩
  · rw [List.getElem?_set_ne (Ne.symm e)] at h
    exact .inr ⟨e, h⟩
/-- a slot is read: what stands there is held by two from now on -/
theorem SR.read {i : Nat} {t : T} (s : SR g H σ sl tm) (h : sl[i]? = some (some t)) : SR g H σ (sl.set i (some t.fz)) (t.fz :: tm) := by
  have hm := s.slot h
  refine s.turn (fun u hu => ?_) ?_ (fun a => ?_) (by simp [s.slen]) fun j u hu => ?_
  · rcases mem_set hu with e | e
    · cases e; exact T.fz_ok t (s.okS t hm)
    · exact s.okS u e
  · simp only [Ts.ok]; exact ⟨T.fz_ok t (s.okS t hm), s.okT⟩
  · have h1 := So_set (f := T.oc a) (x := some t.fz) h
    have h2 := So_set (f := T.sh a) (x := some t.fz) h
    have z := So_get (f := T.oc a) hm
    have z2 := So_get (f := T.sh a) hm
    have iv := s.inv a
    simp only [fO, T.fz_oc, T.fz_sh, Ts.oc, Ts.sh] at h1 h2 ⊢
    refine ⟨by omega, fun q => ?_⟩
    omega
  · rcases set_get hu with ⟨rfl, e⟩ | ⟨_, e⟩
    · cases e; rw [T.fz_v]; exact s.at_ _ _ h
    · exact s.at_ _ _ e
/-- a slot is emptied into what is held -/
theorem SR.move {i : Nat} {t : T} (s : SR g H σ sl tm) (h : sl[i]? = some (some t)) : SR g H σ (sl.set i none) (t :: tm) := by
  have hm := s.slot h
  refine s.turn (fun u hu => ?_) ?_ (fun a => ?_) (by simp [s.slen]) fun j u hu => ?_
  · rcases mem_set hu with e | e
    · cases e
    · exact s.okS u e
  · simp only [Ts.ok]; exact ⟨s.okS t hm, s.okT⟩
  · have h1 := So_set (f := T.oc a) (x := none) h
    have h2 := So_set (f := T.sh a) (x := none) h
    simp only [fO, Ts.oc, Ts.sh] at h1 h2 ⊢
    omega
  · rcases set_get hu with ⟨rfl, e⟩ | ⟨_, e⟩
    · cases e
    · exact s.at_ _ _ e
/-- the one on top is stored -/
theorem SR.store {i : Nat} {t : T} (s : SR g H σ sl (t :: tm)) (hi : i < g.N) (hio : ∀ p ∈ g.io, p.1 ≠ i) : SR g H (σ.set i (some t.v)) (sl.set i (some t)) tm := by
  have hk := s.okT
  simp only [Ts.ok] at hk
  have hl : i < sl.length := by rw [s.slen]; exact hi
  obtain ⟨y, hy⟩ : ∃ y, sl[i]? = some y := ⟨sl[i], List.getElem?_eq_getElem hl⟩
  refine s.go (fun u hu => ?_) hk.2 (fun a => .inl ?_) (fun _ => .inl rfl) (by simp [s.len]) (by simp [s.slen]) (fun j u hu => ?_) (fun p hp => ?_)
  · rcases mem_set hu with e | e
    · cases e; exact hk.1
    · exact s.okS u e
  · have h1 := So_set (f := T.oc a) (x := some t) hy
    have h2 := So_set (f := T.sh a) (x := some t) hy
    simp only [fO, Ts.oc, Ts.sh] at h1 h2 ⊢
    omega
  · rcases set_get hu with ⟨rfl, e⟩ | ⟨ne, e⟩
    · cases e
      rw [List.getElem?_set_self (by rw [s.len]; exact hi)]
    · rw [List.getElem?_set_ne (Ne.symm ne)]
      exact s.at_ _ _ e
  · rw [List.getElem?_set_ne (Ne.symm (hio p hp))]
    exact s.io p hp

/-- all trees stand where only p is otherwise, p free -/
theorem SR.free {p : Addr} (s : SR g H σ sl tm) (hp : H p = none) : So (T.oc p) sl + Ts.oc p tm = 0 ∧ So (T.sh p) sl + Ts.sh p tm = 0 := by
  by_cases e : 0 < So (T.oc p) sl + Ts.oc p tm + So (T.sh p) sl + Ts.sh p tm
  · exact absurd hp (s.pos e)
  · omega
theorem SR.stayS {H' : Hp} (s : SR g H σ sl tm) (h : ∀ a, 0 < So (T.oc a) sl + So (T.sh a) sl → H' a = H a) : ∀ t, some t ∈ sl → t.ok g.c H' := fun t m =>
  T.stay t (s.okS t m) fun a q => h a (by have h1 := So_get (f := T.oc a) m; have h2 := So_get (f := T.sh a) m; omega)
theorem SR.stayT {H' : Hp} (s : SR g H σ sl tm) (h : ∀ a, 0 < Ts.oc a tm + Ts.sh a tm → H' a = H a) : Ts.ok g.c H' tm := Ts.stay tm s.okT h

/-- a new list of the things held on top -/
theorem SR.newL {p : Addr} {xs ts : List T} (s : SR g H σ sl (xs ++ tm)) (hp : H p = none) (hz : ts.length ≤ 16777216) (okx : Ts.ok g.c H ts)
    (hx : ∀ a, Ts.oc a ts ≤ Ts.oc a xs ∧ (0 < Ts.sh a ts → 0 < Ts.sh a xs)) : SR g (upd H p (.lst (ts.map T.v))) σ sl (.lst p .own ts :: tm) := by
  have fr := s.free hp
  rw [Ts.oc_append, Ts.sh_append] at fr
  have eo := hx p
  have k : Ts.ok g.c H xs ∧ Ts.ok g.c H tm := by
    have := s.okT
    rw [Ts.ok_iff] at this
    exact ⟨Ts.ok_iff.mpr fun t m => this t (List.mem_append_left _ m), Ts.ok_iff.mpr fun t m => this t (List.mem_append_right _ m)⟩
  refine s.go (s.stayS fun a q => upd_ne fun e => ?_) ?_ (fun a => ?_) (fun a => ?_) s.len s.slen s.at_ s.io
  · subst e; omega
  · simp only [Ts.ok, T.ok]
    refine ⟨⟨upd_same, hz, Ts.stay ts okx fun a q => upd_ne fun e => ?_⟩, Ts.stay tm k.2 fun a q => upd_ne fun e => ?_⟩
    · subst e
      have := Ts.pos ts okx q
      exact this hp
    · subst e; omega
  · have hx := hx a
    rw [Ts.oc_append, Ts.sh_append]
    simp only [Ts.oc, Ts.sh, T.oc, T.sh]
    by_cases e : p = a
    · subst e
      refine .inr ⟨.inl hp, .inr ?_⟩
      simp only [true_and, b2_true, b2]
      have z : Ts.sh p ts = 0 := by omega
      simp
      omega
    · simp only [b2, e]
      simp
      refine .inl ⟨by omega, fun q => .inl ?_⟩
      omega
  · by_cases e : a = p
    · exact .inr (.inl (by rw [e]; exact hp))
    · exact .inl (upd_ne e)
/-- a new tuple of the things held on top -/
theorem SR.newT {p : Addr} {xs ts : List T} (s : SR g H σ sl (xs ++ tm)) (hp : H p = none) (hz : ts.length ≤ 16777216) (okx : Ts.ok g.c H ts)
    (hx : ∀ a, Ts.oc a ts ≤ Ts.oc a xs ∧ (0 < Ts.sh a ts → 0 < Ts.sh a xs)) : SR g (upd H p (.tup (ts.map T.v))) σ sl (.tup p false ts :: tm) := by
  have fr := s.free hp
  rw [Ts.oc_append, Ts.sh_append] at fr
  have eo := hx p
  have k : Ts.ok g.c H xs ∧ Ts.ok g.c H tm := by
    have := s.okT
    rw [Ts.ok_iff] at this
    exact ⟨Ts.ok_iff.mpr fun t m => this t (List.mem_append_left _ m), Ts.ok_iff.mpr fun t m => this t (List.mem_append_right _ m)⟩
  refine s.go (s.stayS fun a q => upd_ne fun e => ?_) ?_ (fun a => ?_) (fun a => ?_) s.len s.slen s.at_ s.io
  · subst e; omega
  · simp only [Ts.ok, T.ok]
    refine ⟨⟨upd_same, hz, Ts.stay ts okx fun a q => upd_ne fun e => ?_⟩, Ts.stay tm k.2 fun a q => upd_ne fun e => ?_⟩
    · subst e
      have := Ts.pos ts okx q
      exact this hp
    · subst e; omega
  · have hx := hx a
    rw [Ts.oc_append, Ts.sh_append]
    simp only [Ts.oc, Ts.sh, T.oc, T.sh]
    by_cases e : p = a
    · subst e
      refine .inr ⟨.inl hp, .inl ?_⟩
      omega
    · simp only [b2, e]
      simp
      refine .inl ⟨by omega, fun q => .inl ?_⟩
      omega
  · by_cases e : a = p
    · exact .inr (.inl (by rw [e]; exact hp))
    · exact .inl (upd_ne e)
end
end VS

/-! VS, part c: expressions and tests. -/
namespace VS
open PySem PySem.Spec PyProof.Rows L2

/-! ### what is wanted of an expression, by the data -/
def exP (g : Gh) (W : WX) (tm : List T) (x : Ex) (ρ' : DE) : Prop :=
  ∀ (H' : Hp) (σ' : L2.St) (sl' : List (Option T)) (a : Addr) (dx : Option Addr), SR g H' σ' sl' (T.exn a dx x.cls x.ns x.xs :: tm) → den sl' = ρ' → W (.ref (g.c.cls x.cls)) dx σ' H'
def Lands {α : Type} (g : Gh) (W : WX) (tm : List T) (r : R α) (k : α → DE → Prop) : Prop := match r with
  | .ok a ρ => k a ρ
  | .exc x ρ => exP g W tm x ρ
  | .stuck => False
def tE (g : Gh) (W : WX) (m : Cm D) : TE := fun σ H Q => ∃ sl tm, SR g H σ sl tm ∧ Lands g W tm (m (den sl)) fun d ρ' => ∀ H' sl' t, SR g H' σ sl' (t :: tm) → den sl' = ρ' → t.d = d → Q t.v H'
def tT (g : Gh) (W : WX) (m : Cm Bool) : TT := fun σ H Q => ∃ sl tm, SR g H σ sl tm ∧ Lands g W tm (m (den sl)) fun b ρ' => ∀ H' sl', SR g H' σ sl' tm → den sl' = ρ' → Q b H'
theorem exP.drop {g : Gh} {W : WX} {tm : List T} {x : Ex} {ρ' : DE} {t : T} (h : exP g W tm x ρ') : exP g W (t :: tm) x ρ' := fun H' σ' sl' a dx s e =>
  h H' σ' sl' a dx (s.tmp (by have := s.okT; simp only [Ts.ok] at this ⊢; exact ⟨this.1, this.2.2⟩) fun b => by simp only [Ts.oc, Ts.sh]; omega) e
theorem _root_.L2.PE.imp {X : Cx} {e : Expr} {t t' : TE} (h : PE X e t) (w : ∀ σ H Q, t' σ H Q → t σ H Q) : PE X e t' := ⟨fun pins s σ H Q I q => h.run pins s σ H Q I (w σ H Q q)⟩
theorem _root_.L2.PT.imp {X : Cx} {e : Expr} {t t' : TT} (h : PT X e t) (w : ∀ σ H Q, t' σ H Q → t σ H Q) : PT X e t' := ⟨fun pins s σ H Q I q => h.run pins s σ H Q I (w σ H Q q)⟩
section
variable {g : Gh} {W : WX} {H : Hp} {σ : L2.St} {sl : List (Option T)} {tm : List T} {Q : VK} {α : Type}
theorem tE.of {m : Cm D} {f : D → Cm α} {k : α → DE → Prop} (s : SR g H σ sl tm) (h : Lands g W tm ((m (den sl)).bind f) k)
    (q : ∀ H' sl' t, SR g H' σ sl' (t :: tm) → Lands g W tm (f t.d (den sl')) k → Q t.v H') : tE g W m σ H Q := by
  refine ⟨sl, tm, s, ?_⟩
  cases e : m (den sl) with
  | ok d ρ =>
    rw [e] at h
    intro H' sl' t s' e1 e2
    subst e1; subst e2
    exact q H' sl' t s' h
  | exc x ρ => rw [e] at h; exact h
  | stuck => rw [e] at h; exact h
theorem tT.of {Q : Bool → Hp → Prop} {m : Cm Bool} {f : Bool → Cm α} {k : α → DE → Prop} (s : SR g H σ sl tm) (h : Lands g W tm ((m (den sl)).bind f) k)
    (q : ∀ H' sl' b, SR g H' σ sl' tm → Lands g W tm (f b (den sl')) k → Q b H') : tT g W m σ H Q := by
  refine ⟨sl, tm, s, ?_⟩
  cases e : m (den sl) with
  | ok d ρ =>
    rw [e] at h
    intro H' sl' s' e1
    subst e1
    exact q H' sl' d s' h
  | exc x ρ => rw [e] at h; exact h
  | stuck => rw [e] at h; exact h
theorem Lands.drop {r : R α} {k : α → DE → Prop} {t : T} (h : Lands g W tm r k) : Lands g W (t :: tm) r k := by
  cases r with
  | ok a ρ => exact h
  | exc x ρ => exact exP.drop h
  | stuck => exact h
theorem Lands.imp {r : R α} {k k' : α → DE → Prop} (h : Lands g W tm r k) (w : ∀ a ρ, k a ρ → k' a ρ) : Lands g W tm r k' := by
  cases r with
  | ok a ρ => exact w _ _ h
  | exc x ρ => exact h
  | stuck => exact h
end

/-! ### the mirror's words for expressions -/
def lift {α : Type} (o : Option α) : Cm α := fun ρ => match o with
  | some a => .ok a ρ
  | none => .stuck
@[simp] theorem lift_some {α : Type} (a : α) (ρ : DE) : lift (some a) ρ = .ok a ρ := rfl
@[simp] theorem lift_none {α : Type} (ρ : DE) : lift (none : Option α) ρ = .stuck := rfl
def mC (s : Sc) : Cm D := fun ρ => .ok (.sc s) ρ
def mVar (i : Nat) : Cm D := fun ρ => match ρ[i]? with
  | some (some d) => .ok d.fz (ρ.set i (some d.fz))
  | _ => .stuck
def mMove (i : Nat) : Cm D := fun ρ => match ρ[i]? with
  | some (some d) => .ok d (ρ.set i none)
  | _ => .stuck
def mBin (f : D → D → Option D) (a b : Cm D) : Cm D := fun ρ => (a ρ).bind fun x ρ => (b ρ).bind fun y ρ => lift (f x y) ρ
def mUn (f : D → Option D) (a : Cm D) : Cm D := fun ρ => (a ρ).bind fun x ρ => lift (f x) ρ
/-- an operand that is only looked at: a slot, or an expression -/
inductive Opd where
  | v (i : Nat)
  | e (m : Cm D)
def Opd.run : Opd → Cm (Option D)
  | .v i => fun ρ => match ρ[i]? with
    | some (some _) => .ok none ρ
    | _ => .stuck
  | .e m => fun ρ => (m ρ).bind fun d ρ => .ok (some d) ρ
def Opd.get (o : Opd) (t : Option D) (ρ : DE) : Option D := match o with
  | .v i => (ρ[i]?).join
  | .e _ => t
def mP1 (f : D → Option Sc) (a : Opd) : Cm D := fun ρ => (a.run ρ).bind fun t ρ => match a.get t ρ with
  | some x => (lift (f x) ρ).bind fun s ρ => .ok (.sc s) ρ
  | none => .stuck
def mP2 (f : D → D → Option Sc) (a b : Opd) : Cm D := fun ρ => (a.run ρ).bind fun t ρ => (b.run ρ).bind fun u ρ => match a.get t ρ, b.get u ρ with
  | some x, some y => (lift (f x y) ρ).bind fun s ρ => .ok (.sc s) ρ
  | _, _ => .stuck
def mTest (m : Cm D) : Cm Bool := fun ρ => (m ρ).bind fun d ρ => match d with
  | .sc (.bl b) => .ok b ρ
  | _ => .stuck
def mVal (m : Cm Bool) : Cm D := fun ρ => (m ρ).bind fun b ρ => .ok (.bl b) ρ
def mAnd (a b : Cm Bool) : Cm Bool := fun ρ => (a ρ).bind fun c ρ => if c then b ρ else .ok false ρ
def mOr (a b : Cm Bool) : Cm Bool := fun ρ => (a ρ).bind fun c ρ => if c then .ok true ρ else b ρ
def mNot (a : Cm Bool) : Cm Bool := fun ρ => (a ρ).bind fun c ρ => .ok (!c) ρ
def mIfE {α : Type} (c : Cm Bool) (a b : Cm α) : Cm α := fun ρ => (c ρ).bind fun k ρ => if k then a ρ else b ρ

/-! ### names and constants -/
section
variable {X : Cx} {g : Gh} {W : WX} {x : Str} {pos : Pos}
theorem e_int {i : Int} {j : Nat} : PE X (.Constant (.int i) j pos) (tE g W (mC (.int i))) := pe_int.imp fun σ H Q ⟨sl, tm, s, h⟩ => h H sl (.sc (.int i)) (s.push _ trivial) rfl rfl
theorem e_bl {b : Bool} {j : Nat} : PE X (.Constant (.bool b) j pos) (tE g W (mC (.bl b))) := pe_bl.imp fun σ H Q ⟨sl, tm, s, h⟩ => h H sl (.sc (.bl b)) (s.push _ trivial) rfl rfl
theorem e_non {j : Nat} : PE X (.Constant .none j pos) (tE g W (mC .non)) := pe_non.imp fun σ H Q ⟨sl, tm, s, h⟩ => h H sl (.sc .non) (s.push _ trivial) rfl rfl
theorem e_str {z : Str} {l : List Nat} {j : Nat} (h : z = ⟨l.toArray⟩) (hg : (Sc.str l).good) : PE X (.Constant (.str z) j pos) (tE g W (mC (.str l))) := by
  subst h
  exact pe_str.imp fun σ H Q ⟨sl, tm, s, h⟩ => h H sl (.sc (.str l)) (s.push _ hg) rfl rfl
theorem e_var {i : Nat} (hp : PE X (.Name x pos) (tVar i)) : PE X (.Name x pos) (tE g W (mVar i)) := hp.imp fun σ H Q ⟨sl, tm, s, h⟩ => by
  unfold mVar at h
  split at h
  · rename_i d e
    obtain ⟨t, e1, e2, _, e3⟩ := s.val e
    subst e2
    refine ⟨t.v, e3, ?_⟩
    have := h H (sl.set i (some t.fz)) t.fz (s.read e1) (by rw [den_set]; simp [T.fz_d]) (T.fz_d t)
    rwa [T.fz_v] at this
  · exact h.elim
theorem e_move {i : Nat} (hp : PE X (.Name x pos) (tVar i)) : PE X (.Name x pos) (tE g W (mMove i)) := hp.imp fun σ H Q ⟨sl, tm, s, h⟩ => by
  unfold mMove at h
  split at h
  · rename_i d e
    obtain ⟨t, e1, e2, _, e3⟩ := s.val e
    subst e2
    exact ⟨t.v, e3, h H (sl.set i none) t (s.move e1) (by rw [den_set]; rfl) rfl⟩
  · exact h.elim
/-- a module's constant: an int, a text -/
theorem e_gI {i : Int} {u : Value} (hg : Gl X x) (hm : X.mg x = some u) (r : RelV (.int i) u) (hd : (x == ("__debug__" : Str)) = false := by decide) : PE X (.Name x pos) (tE g W (mC (.int i))) :=
  (pe_glob hg hm r hd).imp fun σ H Q ⟨sl, tm, s, h⟩ => h H sl (.sc (.int i)) (s.push _ trivial) rfl rfl
theorem e_gS {l : List Nat} {u : Value} (hgl : Gl X x) (hg : (Sc.str l).good) (hm : X.mg x = some u) (r : RelV (.str ⟨l.toArray⟩) u) (hd : (x == ("__debug__" : Str)) = false := by decide) : PE X (.Name x pos) (tE g W (mC (.str l))) :=
  (pe_glob hgl hm r hd).imp fun σ H Q ⟨sl, tm, s, h⟩ => h H sl (.sc (.str l)) (s.push _ hg) rfl rfl
end

/-! ### operands -/
def tO (g : Gh) (W : WX) : Opd → TE
  | .v i => tVar i
  | .e m => tE g W m
/-- what an operand left: its value stands in the heap as its data -/
structure Held (g : Gh) (H : Hp) (o : Opd) (σ : L2.St) (sl : List (Option T)) (t : Option T) (v : V) : Prop where
  is : match o, t with
    | .v i, none => σ[i]? = some (some v)
    | .e _, some u => v = u.v
    | _, _ => False
def xs? (t : Option T) (tm : List T) : List T := match t with
  | none => tm
  | some u => u :: tm
section
variable {g : Gh} {W : WX} {H : Hp} {σ : L2.St} {sl : List (Option T)} {tm : List T} {Q : VK} {α : Type}
theorem tO.of {o : Opd} {f : Option D → Cm α} {k : α → DE → Prop} (s : SR g H σ sl tm) (h : Lands g W tm ((o.run (den sl)).bind f) k)
    (q : ∀ H' sl' t v, SR g H' σ sl' (xs? t tm) → Held g H' o σ sl' t v → Lands g W tm (f (t.map T.d) (den sl')) k → Q v H') : tO g W o σ H Q := by
  cases o with
  | v i =>
    simp only [Opd.run] at h
    split at h
    · rename_i d e
      obtain ⟨t, e1, e2, _, e3⟩ := s.val e
      exact ⟨t.v, e3, q H sl none t.v s ⟨e3⟩ h⟩
    · exact h.elim
  | e m =>
    refine tE.of (f := fun d ρ => f (some d) ρ) (k := k) s ?_ fun H' sl' t s' h' => q H' sl' (some t) t.v s' ⟨rfl⟩ h'
    simp only [Opd.run] at h
    revert h
    cases m (den sl) <;> exact id
/-- the data of a held operand, at the end -/
theorem Held.tree {o : Opd} {t : Option T} {v : V} {d : D} {tms : List T} (s : SR g H σ sl tms) (hd : Held g H o σ sl t v) (hm : ∀ u, t = some u → u ∈ tms) (e : o.get (t.map T.d) (den sl) = some d) :
    ∃ u : T, u.ok g.c H ∧ u.d = d ∧ u.v = v ∧ ∀ a, u.sh a ≤ So (T.sh a) sl + Ts.sh a tms := by
  obtain ⟨is⟩ := hd
  cases o with
  | v i =>
    cases t with
    | none =>
      simp only [Opd.get] at e
      have e' : (den sl)[i]? = some (some d) := by
        cases q : (den sl)[i]? with
        | none => rw [q] at e; simp at e
        | some o => rw [q] at e; simp at e; rw [e]
      obtain ⟨t, e1, e2, e4, e3⟩ := s.val e'
      simp only [] at is
      rw [e3] at is
      exact ⟨t, e4, e2, Option.some.inj (Option.some.inj is), fun a => by have := So_get (f := T.sh a) (s.slot e1); omega⟩
    | some u => exact is.elim
  | e m =>
    cases t with
    | none => exact is.elim
    | some u =>
      simp only [Opd.get, Option.map_some, Option.some.injEq] at e
      exact ⟨u, Ts.ok_iff.mp s.okT u (hm u rfl), e, is.symm, fun a => by have := Ts.sh_mem (a := a) (hm u rfl); omega⟩
theorem Lands.drops {r : R α} {k : α → DE → Prop} {t : Option T} (h : Lands g W tm r k) : Lands g W (xs? t tm) r k := by
  cases t with
  | none => exact h
  | some u => exact h.drop
theorem SR.xs {t : Option T} (s : SR g H σ sl (xs? t tm)) : SR g H σ sl tm := by
  cases t with
  | none => exact s
  | some u => exact s.pop
end
section
variable {X : Cx} {g : Gh} {W : WX} {pos : Pos} {a b : Expr}
theorem o_var {i : Nat} {x : Str} (hp : PE X (.Name x pos) (tVar i)) : PE X (.Name x pos) (tO g W (.v i)) := hp
theorem o_e {m : Cm D} (h : PE X a (tE g W m)) : PE X a (tO g W (.e m)) := h
/-- two operands, an answer that is no made thing -/
theorem p2_imp {f : D → D → Option Sc} {r : R2} {oa ob : Opd} (hr : ∀ H (u1 u2 : T) c Q, u1.ok g.c H → u2.ok g.c H → f u1.d u2.d = some c → (c.good → Q (c.v) H) → r u1.v u2.v H Q) :
    ∀ σ H Q, tE g W (mP2 f oa ob) σ H Q → tOp r (tO g W oa) (tO g W ob) σ H Q := fun σ H Q ⟨sl, tm, s, h⟩ => by
  refine tO.of s h fun H1 sl1 t1 v1 s1 d1 h1 => ?_
  refine tO.of s1 (Lands.drops h1) fun H2 sl2 t2 v2 s2 d2 h2 => ?_
  split at h2
  · rename_i x y ex ey
    have hm1 : ∀ u, t1 = some u → u ∈ xs? t2 (xs? t1 tm) := fun u e => by subst e; cases t2 <;> simp [xs?]
    have hm2 : ∀ u, t2 = some u → u ∈ xs? t2 (xs? t1 tm) := fun u e => by subst e; simp [xs?]
    have d1' : Held g H2 oa σ sl2 t1 v1 := ⟨d1.is⟩
    obtain ⟨u1, k1, e1, f1, _⟩ := d1'.tree s2 hm1 ex
    obtain ⟨u2, k2, e2, f2, _⟩ := d2.tree s2 hm2 ey
    subst f1 f2 e1 e2
    cases q : f u1.d u2.d with
    | none => rw [q] at h2; exact h2.elim
    | some c =>
      rw [q] at h2
      exact hr H2 u1 u2 c Q k1 k2 q fun gc => (h2 H2 sl2 (.sc c) (s2.xs.xs.push c gc) rfl rfl)
  · exact h2.elim
theorem p1_imp {f : D → Option Sc} {r : V → Hp → VK → Prop} {oa : Opd} (hr : ∀ H (u1 : T) c Q, u1.ok g.c H → f u1.d = some c → (c.good → Q (c.v) H) → r u1.v H Q) :
    ∀ σ H Q, tE g W (mP1 f oa) σ H Q → tO g W oa σ H fun x H1 => r x H1 Q := fun σ H Q ⟨sl, tm, s, h⟩ => by
  refine tO.of s h fun H1 sl1 t1 v1 s1 d1 h1 => ?_

  split at h1
  · rename_i x ex
    have hm1 : ∀ u, t1 = some u → u ∈ xs? t1 tm := fun u e => by subst e; simp [xs?]
    obtain ⟨u1, k1, e1, f1, _⟩ := d1.tree s1 hm1 ex
    subst f1 e1
    cases q : f u1.d with
    | none => rw [q] at h1; exact h1.elim
    | some c =>
      rw [q] at h1
      exact hr H1 u1 c Q k1 q fun gc => (h1 H1 sl1 (.sc c) (s1.xs.push c gc) rfl rfl)
  · exact h1.elim
/-- two expressions, an answer made of them -/
theorem bin_imp {f : D → D → Option D} {r : R2} {ma mb : Cm D}
    (hr : ∀ H σ sl tm (t1 t2 : T) d Q, SR g H σ sl (t2 :: t1 :: tm) → f t1.d t2.d = some d → (∀ H' t, SR g H' σ sl (t :: tm) → t.d = d → Q t.v H') → r t1.v t2.v H Q) :
    ∀ σ H Q, tE g W (mBin f ma mb) σ H Q → tOp r (tE g W ma) (tE g W mb) σ H Q := fun σ H Q ⟨sl, tm, s, h⟩ => by
  refine tE.of s h fun H1 sl1 t1 s1 h1 => ?_
  refine tE.of s1 (Lands.drop h1) fun H2 sl2 t2 s2 h2 => ?_
  cases q : f t1.d t2.d with
  | none => rw [q] at h2; exact h2.elim
  | some d =>
    rw [q] at h2
    exact hr H2 σ sl2 tm t1 t2 d Q s2 q fun H' t s' e => h2 H' sl2 t s' rfl e
theorem un_imp {f : D → Option D} {r : V → Hp → VK → Prop} {ma : Cm D}
    (hr : ∀ H σ sl tm (t1 : T) d Q, SR g H σ sl (t1 :: tm) → f t1.d = some d → (∀ H' t, SR g H' σ sl (t :: tm) → t.d = d → Q t.v H') → r t1.v H Q) :
    ∀ σ H Q, tE g W (mUn f ma) σ H Q → tE g W ma σ H fun x H1 => r x H1 Q := fun σ H Q ⟨sl, tm, s, h⟩ => by
  refine tE.of s h fun H1 sl1 t1 s1 h1 => ?_
  cases q : f t1.d with
  | none => rw [q] at h1; exact h1.elim
  | some d =>
    rw [q] at h1
    exact hr H1 σ sl1 tm t1 d Q s1 q fun H' t s' e => h1 H' sl1 t s' rfl e
end
end VS

/-! VS, part d: operators, comparisons, subscripts, displays. -/
namespace VS
open PySem PySem.Spec PyProof.Rows L2

theorem SZ_eq : sizeLine = 16777216 := sizeLine_eq
theorem Ts.d_append : ∀ xs ys : List T, Ts.d (xs ++ ys) = Ts.d xs ++ Ts.d ys := fun xs ys => by simp [Ts.d_map]
theorem Ts.d_len (xs : List T) : (Ts.d xs).length = xs.length := by simp [Ts.d_map]

/-! ### == -/
def Sc.eqB : Sc → Sc → Bool
  | .non, .non => true
  | .bl a, .bl b => a == b
  | .bl a, .int b => (if a then 1 else 0) == b
  | .int a, .bl b => a == (if b then 1 else 0)
  | .int a, .int b => a == b
  | .str a, .str b => a == b
  | _, _ => false
mutual
def D.eqB : D → D → Bool
  | .sc a, .sc b => a.eqB b
  | .lst _ xs, .lst _ ys => Ds.eqB xs ys
  | .tup xs, .tup ys => Ds.eqB xs ys
  | _, _ => false
def Ds.eqB : List D → List D → Bool
  | [], [] => true
  | x :: xs, y :: ys => x.eqB y && Ds.eqB xs ys
  | _, _ => false
end
def D.flatN : Nat → D → Bool
  | _, .sc _ => true
  | n + 1, .lst _ xs => xs.all (D.flatN n)
  | n + 1, .tup xs => xs.all (D.flatN n)
  | _, _ => false
def Sc.pd : Sc → PyData
  | .non => .none
  | .bl b => .bool b
  | .int i => .int i
  | .str s => .str ⟨s.toArray⟩
mutual
def T.pd : T → PyData
  | .sc s => s.pd
  | .lst _ _ xs => .list (Ts.pd xs)
  | .tup _ _ xs => .tuple (Ts.pd xs)
  | _ => .none
def Ts.pd : List T → List PyData
  | [] => []
  | t :: ts => t.pd :: Ts.pd ts
end
theorem Sc.eqv (a b : Sc) : PyData.eqv a.pd b.pd = a.eqB b := by
  cases a <;> cases b <;> simp [Sc.pd, Sc.eqB, PyData.eqv, Bool.beq_eq_decide_eq]
theorem flatN_lst {n : Nat} {o : Ow} {xs : List D} (h : D.flatN n (.lst o xs) = true) : ∃ m, n = m + 1 ∧ xs.all (D.flatN m) = true := by
  cases n with
  | zero => simp [D.flatN] at h
  | succ m => exact ⟨m, rfl, by simpa [D.flatN] using h⟩
theorem flatN_tup {n : Nat} {xs : List D} (h : D.flatN n (.tup xs) = true) : ∃ m, n = m + 1 ∧ xs.all (D.flatN m) = true := by
  cases n with
  | zero => simp [D.flatN] at h
  | succ m => exact ⟨m, rfl, by simpa [D.flatN] using h⟩
mutual
theorem T.eqv : ∀ (n m : Nat) (a b : T), D.flatN n a.d = true → D.flatN m b.d = true → PyData.eqv a.pd b.pd = a.d.eqB b.d
  | n, m, .sc a, b, _, h => by
    cases b with
    | sc b => simp [T.pd, T.d, D.eqB, Sc.eqv]
    | lst _ _ xs => cases a <;> simp [T.pd, T.d, D.eqB, Sc.pd, PyData.eqv]
    | tup _ _ xs => cases a <;> simp [T.pd, T.d, D.eqB, Sc.pd, PyData.eqv]
    | obj _ _ _ _ _ _ => simp [T.d] at h; cases m <;> simp [D.flatN] at h
    | exn _ _ _ _ _ => simp [T.d] at h; cases m <;> simp [D.flatN] at h
  | n, m, .lst _ _ xs, b, k, h => by
    cases b with
    | sc b => cases b <;> simp [T.pd, T.d, D.eqB, Sc.pd, PyData.eqv]
    | lst _ _ ys =>
      simp only [T.d] at k h
      obtain ⟨n, rfl, k⟩ := flatN_lst k
      obtain ⟨m, rfl, h⟩ := flatN_lst h
      simp [T.pd, T.d, D.eqB, PyData.eqv, Ts.eqv n m xs ys k h]
    | tup _ _ xs => simp [T.pd, T.d, D.eqB, PyData.eqv]
    | obj _ _ _ _ _ _ => simp [T.d] at h; cases m <;> simp [D.flatN] at h
    | exn _ _ _ _ _ => simp [T.d] at h; cases m <;> simp [D.flatN] at h
  | n, m, .tup _ _ xs, b, k, h => by
    cases b with
    | sc b => cases b <;> simp [T.pd, T.d, D.eqB, Sc.pd, PyData.eqv]
    | lst _ _ ys => simp [T.pd, T.d, D.eqB, PyData.eqv]
    | tup _ _ ys =>
      simp only [T.d] at k h
      obtain ⟨n, rfl, k⟩ := flatN_tup k
      obtain ⟨m, rfl, h⟩ := flatN_tup h
      simp [T.pd, T.d, D.eqB, PyData.eqv, Ts.eqv n m xs ys k h]
    | obj _ _ _ _ _ _ => simp [T.d] at h; cases m <;> simp [D.flatN] at h
    | exn _ _ _ _ _ => simp [T.d] at h; cases m <;> simp [D.flatN] at h
  | n, m, .obj _ _ _ _ _ _, b, k, h => by simp [T.d] at k; cases n <;> simp [D.flatN] at k
  | n, m, .exn _ _ _ _ _, b, k, h => by simp [T.d] at k; cases n <;> simp [D.flatN] at k
theorem Ts.eqv : ∀ (n m : Nat) (a b : List T), (Ts.d a).all (D.flatN n) = true → (Ts.d b).all (D.flatN m) = true → PyData.eqvAll (Ts.pd a) (Ts.pd b) = Ds.eqB (Ts.d a) (Ts.d b)
  | n, m, [], b, _, _ => by cases b <;> simp [Ts.pd, Ts.d, Ds.eqB, PyData.eqvAll]
  | n, m, x :: xs, [], _, _ => by simp [Ts.pd, Ts.d, Ds.eqB, PyData.eqvAll]
  | n, m, x :: xs, y :: ys, k, h => by
    simp only [Ts.d, List.all_cons, Bool.and_eq_true] at k h
    simp [Ts.pd, Ts.d, Ds.eqB, PyData.eqvAll, T.eqv n m x y k.1 h.1, Ts.eqv n m xs ys k.2 h.2]
end
theorem strOk_good {l : List Nat} (h : (Sc.str l).good) : PyData.strOk ⟨l.toArray⟩ = true := by
  unfold PyData.strOk
  simp only [List.all_toArray, List.all_eq_true, decide_eq_true_eq]
  exact fun c hc => h.2 c hc
mutual
theorem T.lay {c : Cfg} {H : Hp} : ∀ (n : Nat) (t : T), t.ok c H → D.flatN n t.d = true → t.pd.canLay0 = true ∧ t.pd.depth ≤ n
  | n, .sc s, k, _ => by
    cases s <;> simp [T.pd, Sc.pd, PyData.canLay0, PyData.depth]
    simp only [T.ok] at k
    exact strOk_good k
  | n, .lst a o xs, k, h => by
    simp only [T.d] at h
    obtain ⟨m, rfl, h⟩ := flatN_lst h
    have k' : Ts.ok c H xs := by cases o <;> simp only [T.ok] at k <;> exact k.2.2
    have := Ts.lay m xs k' h
    simp [T.pd, PyData.canLay0, PyData.depth, this]
  | n, .tup a st xs, k, h => by
    simp only [T.d] at h
    obtain ⟨m, rfl, h⟩ := flatN_tup h
    have k' : Ts.ok c H xs := by cases st <;> simp only [T.ok] at k <;> exact k.2.2
    have := Ts.lay m xs k' h
    simp [T.pd, PyData.canLay0, PyData.depth, this]
  | n, .obj _ _ _ _ _ _, k, h => by simp [T.d] at h; cases n <;> simp [D.flatN] at h
  | n, .exn _ _ _ _ _, k, h => by simp [T.d] at h; cases n <;> simp [D.flatN] at h
theorem Ts.lay {c : Cfg} {H : Hp} : ∀ (n : Nat) (ts : List T), Ts.ok c H ts → (Ts.d ts).all (D.flatN n) = true → PyData.canLayAll0 (Ts.pd ts) = true ∧ PyData.depthAll (Ts.pd ts) ≤ n
  | n, [], _, _ => by simp [Ts.pd, PyData.canLayAll0, PyData.depthAll]
  | n, t :: ts, k, h => by
    simp only [Ts.ok] at k
    simp only [Ts.d, List.all_cons, Bool.and_eq_true] at h
    have h1 := T.lay n t k.1 h.1
    have h2 := Ts.lay n ts k.2 h.2
    simp [Ts.pd, PyData.canLayAll0, PyData.depthAll, h1, h2]
    omega
end
theorem sqL_stc {K : PySem.W.Frag} {H : Hp} {a : Addr} {vs : List V} (h : StcL K a vs) : SqL K H a vs := by
  rcases h with (h | ⟨_, h⟩) | h
  · cases h
  · cases h
  · exact .inr h
theorem sqT_stc {K : PySem.W.Frag} {H : Hp} {a : Addr} {vs : List V} (h : StcT K a vs) : SqT K H a vs := by
  rcases h with (h | ⟨_, h⟩) | h
  · cases h
  · cases h
  · exact .inr h
theorem lst_sq {c : Cfg} {H : Hp} {a : Addr} {o : Ow} {xs : List T} (h : (T.lst a o xs).ok c H) : SqL c.K H a (xs.map T.v) ∧ xs.length ≤ 16777216 ∧ Ts.ok c H xs := by
  cases o <;> simp only [T.ok] at h
  · exact ⟨.of h.1, h.2⟩
  · exact ⟨.of h.1, h.2⟩
  · obtain ⟨⟨ob, h1⟩, h2⟩ := h; exact ⟨.inl (.inr ⟨ob, h1⟩), h2⟩
  · exact ⟨sqL_stc h.1, h.2⟩
theorem tup_sq {c : Cfg} {H : Hp} {a : Addr} {o : Bool} {xs : List T} (h : (T.tup a o xs).ok c H) : SqT c.K H a (xs.map T.v) ∧ xs.length ≤ 16777216 ∧ Ts.ok c H xs := by
  cases o <;> simp only [T.ok] at h
  · exact ⟨.of h.1, h.2⟩
  · exact ⟨sqT_stc h.1, h.2⟩
mutual
theorem T.dp {c : Cfg} {H : Hp} : ∀ (n : Nat) (t : T), t.ok c H → D.flatN n t.d = true → Dp c.K H t.v t.pd
  | n, .sc s, k, _ => by
    cases s <;> simp only [T.v, T.pd, Sc.v, Sc.pd]
    · exact .non
    · exact .bl _
    · exact .int _
    · exact .str _
  | n, .lst a o xs, k, h => by
    simp only [T.d] at h
    obtain ⟨m, rfl, h⟩ := flatN_lst h
    have q := lst_sq k
    simp only [T.v, T.pd]
    exact .lst q.1 (Ts.dp m xs q.2.2 h)
  | n, .tup a st xs, k, h => by
    simp only [T.d] at h
    obtain ⟨m, rfl, h⟩ := flatN_tup h
    have q := tup_sq k
    simp only [T.v, T.pd]
    exact .tup q.1 (Ts.dp m xs q.2.2 h)
  | n, .obj _ _ _ _ _ _, k, h => by simp [T.d] at h; cases n <;> simp [D.flatN] at h
  | n, .exn _ _ _ _ _, k, h => by simp [T.d] at h; cases n <;> simp [D.flatN] at h
theorem Ts.dp {c : Cfg} {H : Hp} : ∀ (n : Nat) (ts : List T), Ts.ok c H ts → (Ts.d ts).all (D.flatN n) = true → DpAll c.K H (ts.map T.v) (Ts.pd ts)
  | n, [], _, _ => by simp only [Ts.pd, List.map_nil]; exact .nil
  | n, t :: ts, k, h => by
    simp only [Ts.ok] at k
    simp only [Ts.d, List.all_cons, Bool.and_eq_true] at h
    simp only [Ts.pd, List.map_cons]
    exact .cons (T.dp n t k.1 h.1) (Ts.dp n ts k.2 h.2)
end
def eqD (x y : D) : Option Sc := if D.flatN 8 x && D.flatN 8 y then some (.bl (x.eqB y)) else none
def neD (x y : D) : Option Sc := if D.flatN 8 x && D.flatN 8 y then some (.bl (!x.eqB y)) else none
theorem shaped_of {c : Cfg} {H : Hp} {t : T} (k : t.ok c H) (h : D.flatN 8 t.d = true) : SeqAt.shaped t.pd = true := by
  have := T.lay 8 t k h
  unfold SeqAt.shaped
  rw [this.1, decide_eq_true (by omega)]
  rfl

/-! ### the operators' functions -/
def addD : D → D → Option D
  | .sc (.int i), .sc (.int j) => some (.int (i + j))
  | .sc (.str a), .sc (.str b) => if a.length + b.length ≤ 16777216 then some (.str (a ++ b)) else none
  | .lst o xs, .lst p ys => if (o = .own ∨ o = .shr) ∧ (p = .own ∨ p = .shr) ∧ xs.length + ys.length ≤ 16777216 then some (.lst .own (xs ++ ys)) else none
  | _, _ => none
def subD : D → D → Option D
  | .sc (.int i), .sc (.int j) => some (.int (i - j))
  | _, _ => none
mutual
def D.pur : D → Bool
  | .sc _ => true
  | .lst o xs => o != .own && Ds.pur xs
  | .tup xs => Ds.pur xs
  | .obj o _ _ xs => o != .own && Ds.pur xs
  | .exn _ _ _ => true
def Ds.pur : List D → Bool
  | [] => true
  | x :: xs => x.pur && Ds.pur xs
end
def mulD : D → D → Option D
  | .sc (.int i), .sc (.int j) => if i.natAbs < 18446744073709551616 ∨ j.natAbs < 18446744073709551616 then some (.int (i * j)) else none
  | .sc (.str a), .sc (.int n) => if a.length * n.toNat ≤ 16777216 ∧ n.natAbs < 4611686018427387904 then some (.str (List.replicate n.toNat a).flatten) else none
  | .lst o xs, .sc (.int n) => if (o = .own ∨ o = .shr) ∧ Ds.pur xs = true ∧ xs.length * n.toNat ≤ 16777216 ∧ n.natAbs < 4611686018427387904 then some (.lst .own (List.replicate n.toNat xs).flatten) else none
  | _, _ => none
def fdivD : D → D → Option D
  | .sc (.int i), .sc (.int j) => if 0 < j ∧ j < 4611686018427387904 then some (.int (i / j)) else none
  | _, _ => none
def modD : D → D → Option D
  | .sc (.int i), .sc (.int j) => if 0 < j then some (.int (i % j)) else none
  | _, _ => none
def powD : D → D → Option D
  | .sc (.int i), .sc (.int j) => if 0 ≤ j ∧ j ≤ 1000000 ∧ i.natAbs < 18446744073709551616 then some (.int (i ^ j.toNat)) else none
  | _, _ => none
def negD : D → Option D
  | .sc (.int i) => some (.int (-i))
  | _ => none
def cmpI (p : Int → Int → Bool) : D → D → Option Sc
  | .sc (.int i), .sc (.int j) => some (.bl (p i j))
  | _, _ => none
def ltD := cmpI fun i j => decide (i < j)
def leD := cmpI fun i j => decide (i ≤ j)
def gtD := cmpI fun i j => decide (j < i)
def geD := cmpI fun i j => decide (j ≤ i)
def isNon : D → D → Option Sc
  | x, .sc .non => some (.bl (match x with | .sc .non => true | _ => false))
  | _, _ => none
def isntNon : D → D → Option Sc
  | x, .sc .non => some (.bl (match x with | .sc .non => false | _ => true))
  | _, _ => none
def scs : List D → Option (List Sc)
  | [] => some []
  | .sc s :: r => (scs r).map (s :: ·)
  | _ => none
def inStr (a b : List Nat) : Bool := !(Builtin.Str.occurrences ⟨b.toArray⟩ ⟨a.toArray⟩ 0 b.length 1).isEmpty
def inD (neg : Bool) : D → D → Option Sc
  | .sc (.str a), .sc (.str b) => some (.bl (neg ^^ inStr a b))
  | .sc x, .lst _ ys => (scs ys).map fun l => .bl (neg ^^ l.any (·.eqB x))
  | .sc x, .tup ys => (scs ys).map fun l => .bl (neg ^^ l.any (·.eqB x))
  | _, _ => none

section
variable {X : Cx} {g : Gh} {W : WX} {pos : Pos} {a b : Expr} {ma mb : Cm D} {oa ob : Opd}
theorem good_append {x y : List Nat} (h1 : (Sc.str x).good) (h2 : (Sc.str y).good) (h : x.length + y.length ≤ 16777216) : (Sc.str (x ++ y)).good := by
  refine ⟨by simpa using h, fun c hc => ?_⟩
  rcases List.mem_append.mp hc with q | q
  · exact h1.2 c q
  · exact h2.2 c q
theorem Str.app (x y : List Nat) : ((⟨x.toArray⟩ : Str) ++ (⟨y.toArray⟩ : Str)) = ⟨(x ++ y).toArray⟩ := by
  show (⟨x.toArray ++ y.toArray⟩ : Str) = _
  simp
theorem e_addW (hx : ∀ {r : R2}, OpR X (binaryOp .Add) r → PE X (.BinOp a .Add b pos) (tOp r (tE g W ma) (tE g W mb))) : PE X (.BinOp a .Add b pos) (tE g W (mBin addD ma mb)) := by
  refine (hx (OpR.or op_add (OpR.or op_add_str op_cat))).imp (bin_imp fun H σ sl tm t1 t2 d Q s h k => ?_)
  have k1 : t1.ok g.c H := by have := s.okT; simp only [Ts.ok] at this; exact this.2.1
  have k2 := s.top
  cases t1 with
  | sc x =>
    cases t2 with
    | sc y =>
      cases x <;> cases y <;> simp [T.d, addD] at h
      · subst h
        exact .inl ⟨_, _, rfl, rfl, k H _ (s.pop.pop.push (.int _) trivial) rfl⟩
      · rename_i x y
        obtain ⟨h1, rfl⟩ := h
        simp only [T.ok] at k1 k2
        refine .inr (.inl ⟨_, _, rfl, rfl, by rw [SZ_eq]; simpa [Str.length] using h1, ?_⟩)
        rw [Str.app]
        exact k H (.sc (.str (x ++ y))) (s.pop.pop.push _ (good_append k1 k2 h1)) rfl
    | _ => cases x <;> simp [T.d, addD] at h
  | lst a o xs =>
    cases t2 with
    | lst b p ys =>
      simp only [T.d, addD, Ts.d_len] at h
      split at h
      · rename_i hc
        obtain ⟨h1, h2, h3⟩ := hc
        cases h
        refine .inr (.inr ⟨a, b, xs.map T.v, ys.map T.v, rfl, rfl, ?_, ?_, by rw [SZ_eq]; simpa using h3, fun q nq => ?_⟩)
        · rcases h1 with rfl | rfl <;> (simp only [T.ok] at k1; exact k1.1)
        · rcases h2 with rfl | rfl <;> (simp only [T.ok] at k2; exact k2.1)
        · have s' := s.newL (xs := [.lst b p ys, .lst a o xs]) (tm := tm) (ts := xs ++ ys) nq (by simpa using h3)
            (Ts.ok_iff.mpr fun t m => by
              rcases List.mem_append.mp m with m | m
              · exact Ts.ok_iff.mp (lst_sq k1).2.2 t m
              · exact Ts.ok_iff.mp (lst_sq k2).2.2 t m) (fun z => by
              simp only [Ts.oc_append, Ts.sh_append, Ts.oc, Ts.sh, T.oc, T.sh]; omega)
          rw [List.map_append] at s'
          exact k _ _ s' (by simp [T.d, Ts.d_append])
      · cases h
    | sc y => cases y <;> simp [T.d, addD] at h
    | _ => simp [T.d, addD] at h
  | tup _ _ _ => simp [T.d, addD] at h
  | obj _ _ _ _ _ _ => simp [T.d, addD] at h
  | exn _ _ _ _ _ => simp [T.d, addD] at h
theorem e_add (ha : PE X a (tE g W ma)) (hb : PE X b (tE g W mb)) : PE X (.BinOp a .Add b pos) (tE g W (mBin addD ma mb)) := e_addW fun ho => pe_op ho ha hb
/-- an operator of two ints -/
theorem bin_int {op : Operator} {r : R2} {f : D → D → Option D} (ho : OpR X (binaryOp op) r) (ha : PE X a (tE g W ma)) (hb : PE X b (tE g W mb))
    (hf : ∀ x y d, f x y = some d → ∃ i j k, x = .int i ∧ y = .int j ∧ d = .int k ∧ ∀ H Q, Q (.int k) H → r (.int i) (.int j) H Q) : PE X (.BinOp a op b pos) (tE g W (mBin f ma mb)) := by
  refine (pe_op ho ha hb).imp (bin_imp fun H σ sl tm t1 t2 d Q s h k => ?_)
  obtain ⟨i, j, n, e1, e2, rfl, hr⟩ := hf _ _ _ h
  cases t1 with
  | sc x =>
    cases t2 with
    | sc y =>
      simp only [T.d, D.int, D.sc.injEq] at e1 e2
      subst e1 e2
      exact hr H Q (k H (.sc (.int n)) (s.pop.pop.push _ trivial) rfl)
    | _ => simp [T.d] at e2
  | _ => simp [T.d] at e1
theorem e_sub (ha : PE X a (tE g W ma)) (hb : PE X b (tE g W mb)) : PE X (.BinOp a .Sub b pos) (tE g W (mBin subD ma mb)) :=
  bin_int op_sub ha hb fun x y d h => by
    unfold subD at h; split at h
    · cases h; exact ⟨_, _, _, rfl, rfl, rfl, fun H Q q => ⟨_, _, rfl, rfl, q⟩⟩
    · cases h
theorem e_fdiv (ha : PE X a (tE g W ma)) (hb : PE X b (tE g W mb)) : PE X (.BinOp a .FloorDiv b pos) (tE g W (mBin fdivD ma mb)) :=
  bin_int op_fdivW ha hb fun x y d h => by
    unfold fdivD at h; split at h
    · split at h
      · rename_i i j c
        cases h
        refine ⟨_, _, _, rfl, rfl, rfl, fun H Q q => ⟨_, _, rfl, rfl, wide_div (b := 62) c.1 ?_ (by decide) (by decide), q⟩⟩
        have : (2 : Nat) ^ 62 = 4611686018427387904 := by decide
        omega
      · cases h
    · cases h
theorem e_mod (ha : PE X a (tE g W ma)) (hb : PE X b (tE g W mb)) : PE X (.BinOp a .Mod b pos) (tE g W (mBin modD ma mb)) :=
  bin_int op_mod ha hb fun x y d h => by
    unfold modD at h; split at h
    · split at h
      · rename_i i j c
        cases h
        exact ⟨_, _, _, rfl, rfl, rfl, fun H Q q => ⟨_, _, rfl, rfl, c, q⟩⟩
      · cases h
    · cases h
theorem e_pow (ha : PE X a (tE g W ma)) (hb : PE X b (tE g W mb)) : PE X (.BinOp a .Pow b pos) (tE g W (mBin powD ma mb)) :=
  bin_int op_pow ha hb fun x y d h => by
    unfold powD at h; split at h
    · split at h
      · rename_i i j c
        cases h
        refine ⟨_, _, _, rfl, rfl, rfl, fun H Q q => ⟨_, _, rfl, rfl, ⟨c.1, c.2.1, ?_⟩, q⟩⟩
        have : (2 : Nat) ^ 64 = 18446744073709551616 := by decide
        omega
      · cases h
    · cases h
/-- a text some times over -/
theorem op_mul_str : OpR X (binaryOp .Mult) (fun x y H Q => ∃ (z : List Nat) (n : Int), x = .str ⟨z.toArray⟩ ∧ y = .int n ∧ z.length * n.toNat ≤ 16777216 ∧ n.natAbs < 4611686018427387904 ∧ Q (.str ⟨((List.replicate n.toNat z).flatten).toArray⟩) H) := by
  intro pins s σ H x y v u Q I rx ry h
  obtain ⟨z, n, rfl, rfl, hz, hn, q⟩ := h
  obtain ⟨t, rfl⟩ := rx
  obtain ⟨t', rfl⟩ := ry
  have e63 : (2 : Int) ^ 63 = 9223372036854775808 := by decide
  have fin : ∀ w : Str, w = ⟨((List.replicate n.toNat z).flatten).toArray⟩ → ∀ s', Inv X pins σ H s' → ∀ u, RelV (.str w) u → EP X pins σ Q u s' := fun w e s' I' u r => ⟨_, H, I', r, by rw [e]; exact q⟩
  refine PySem.P.mul_str ?_ ?_ ?_ ?_
  · have h1 : ¬ n < -(2 ^ 63 : Int) := by rw [e63]; omega
    have h2 : ¬ n ≥ 2 ^ 63 := by rw [e63]; omega
    rw [decide_eq_false h1, decide_eq_false h2]; rfl
  · intro h1 _
    have hl : z.length ≤ 16777216 := by
      have : 1 ≤ n.toNat := by omega
      exact Nat.le_trans (Nat.le_mul_of_pos_right _ this) hz
    rw [e63]
    have hs : (⟨z.toArray⟩ : Str).length = z.length := by simp [Str.length]
    rw [hs]
    intro hgt
    have hgt : (9223372036854775808 - 1) / n < (z.length : Int) := hgt
    have h3 := (Int.ediv_lt_iff_lt_mul (by omega : (0 : Int) < n)).mp hgt
    have h4 : ((z.length * n.toNat : Nat) : Int) = (z.length : Int) * n := by
      rw [Int.natCast_mul, Int.toNat_of_nonneg (by omega)]
    have h5 : ((z.length * n.toNat : Nat) : Int) ≤ 16777216 := by omega
    rw [h4] at h5
    omega
  · intro _ _
    have hs : (⟨z.toArray⟩ : Str).length = z.length := by simp [Str.length]
    rw [hs]
    unfold Builtin.Str.tooLong
    rw [SZ_eq]
    exact decide_eq_false (by omega)
  · have fl : ∀ (k : Nat) (a0 : Array Nat), (List.replicate k z.toArray).foldl (· ++ ·) a0 = a0 ++ ((List.replicate k z).flatten).toArray := by
      intro k
      induction k with
      | zero => intro a0; simp
      | succ k ih =>
        intro a0
        rw [List.replicate_succ, List.foldl_cons, ih, List.replicate_succ, List.flatten_cons]
        simp [Array.append_assoc]
    by_cases c1 : n < 1
    · rw [if_pos c1]
      have e0 : n.toNat = 0 := by omega
      exact ⟨by decide, fin _ (by rw [e0]; rfl) _ (I.tok _) _ ⟨_, rfl⟩⟩
    · rw [if_neg c1]
      by_cases c2 : (n == 1 || (⟨z.toArray⟩ : Str).length == 0) = true
      · rw [if_pos c2]
        refine fin _ ?_ _ I _ ⟨t, rfl⟩
        rcases Bool.or_eq_true_iff.mp c2 with e | e
        · have e1 : n = 1 := by simpa using e
          subst e1
          simp
        · have e1 : z = [] := by simpa [Str.length] using e
          subst e1
          simp
      · rw [if_neg c2]
        refine ⟨?_, fin _ ?_ _ (I.tok _) _ ⟨_, rfl⟩⟩
        · rw [fl]
          show (((#[] : Array Nat) ++ ((List.replicate n.toNat z).flatten).toArray).size) ≤ sizeLine
          rw [SZ_eq]
          simp [Nat.mul_comm]
          simpa [Nat.mul_comm] using hz
        · rw [fl]; simp
mutual
theorem T.pur_oc (a : Addr) : ∀ t : T, t.d.pur = true → t.oc a = 0
  | .sc _, _ => by simp [T.oc]
  | .lst b o xs, h => by
    simp only [T.d, D.pur, Bool.and_eq_true] at h
    have := Ts.pur_oc a xs h.2
    cases o <;> simp_all [T.oc, b2]
  | .tup _ _ xs, h => by
    simp only [T.d, D.pur] at h
    simp [T.oc, Ts.pur_oc a xs h]
  | .obj _ _ o _ _ xs, h => by
    simp only [T.d, D.pur, Bool.and_eq_true] at h
    have := Ts.pur_oc a xs h.2
    cases o <;> simp_all [T.oc, b2]
  | .exn _ _ _ _ _, _ => by simp [T.oc]
theorem Ts.pur_oc (a : Addr) : ∀ ts : List T, Ds.pur (Ts.d ts) = true → Ts.oc a ts = 0
  | [], _ => by simp [Ts.oc]
  | t :: ts, h => by
    simp only [Ts.d, Ds.pur, Bool.and_eq_true] at h
    simp [Ts.oc, T.pur_oc a t h.1, Ts.pur_oc a ts h.2]
end
theorem Ts.rep_sh (a : Addr) (xs : List T) : ∀ n : Nat, 0 < Ts.sh a (List.replicate n xs).flatten → 0 < Ts.sh a xs
  | 0, h => by simp [Ts.sh] at h
  | n + 1, h => by
    rw [List.replicate_succ, List.flatten_cons, Ts.sh_append] at h
    by_cases e : 0 < Ts.sh a xs
    · exact e
    · exact Ts.rep_sh a xs n (by omega)
theorem Ts.rep_oc (a : Addr) (xs : List T) (h : Ts.oc a xs = 0) : ∀ n : Nat, Ts.oc a (List.replicate n xs).flatten = 0
  | 0 => by simp [Ts.oc]
  | n + 1 => by rw [List.replicate_succ, List.flatten_cons, Ts.oc_append, h, Ts.rep_oc a xs h n]
theorem Ts.rep_d (xs : List T) (n : Nat) : Ts.d (List.replicate n xs).flatten = (List.replicate n (Ts.d xs)).flatten := by
  simp [Ts.d_map, List.map_flatten]
theorem good_rep {x : List Nat} {n : Nat} (h1 : (Sc.str x).good) (h : x.length * n ≤ 16777216) : (Sc.str (List.replicate n x).flatten).good := by
  refine ⟨by simpa [Nat.mul_comm] using h, fun c hc => ?_⟩
  obtain ⟨l, hl, hc⟩ := List.mem_flatten.mp hc
  rw [(List.mem_replicate.mp hl).2] at hc
  exact h1.2 c hc
theorem e_mul (ha : PE X a (tE g W ma)) (hb : PE X b (tE g W mb)) : PE X (.BinOp a .Mult b pos) (tE g W (mBin mulD ma mb)) := by
  refine (pe_op (OpR.or op_mul (OpR.or op_mul_str op_rep)) ha hb).imp (bin_imp fun H σ sl tm t1 t2 d Q s h k => ?_)
  have k1 : t1.ok g.c H := by have := s.okT; simp only [Ts.ok] at this; exact this.2.1
  have e64 : (2 : Int) ^ 64 = 18446744073709551616 := by decide
  have e63 : (2 : Int) ^ 63 = 9223372036854775808 := by decide
  cases t1 with
  | sc x =>
    cases t2 with
    | sc y =>
      cases x <;> cases y <;> simp [T.d, mulD] at h
      · obtain ⟨h1, rfl⟩ := h
        refine .inl ⟨_, _, rfl, rfl, ?_, k H _ (s.pop.pop.push (.int _) trivial) rfl⟩
        unfold CMul
        rw [e64]
        omega
      · rename_i x n
        obtain ⟨⟨h1, h2⟩, rfl⟩ := h
        simp only [T.ok] at k1
        exact .inr (.inl ⟨x, n, rfl, rfl, h1, h2, k H (.sc (.str _)) (s.pop.pop.push _ (good_rep k1 h1)) rfl⟩)
    | _ => cases x <;> simp [T.d, mulD] at h
  | lst a o xs =>
    cases t2 with
    | sc y =>
      cases y <;> simp only [T.d, mulD] at h <;> try cases h
      rename_i n
      split at h
      · rename_i hc
        obtain ⟨h1, h2, h3, h4⟩ := hc
        rw [Ts.d_len] at h3
        cases h
        refine .inr (.inr ⟨a, n, xs.map T.v, rfl, rfl, ?_, by rw [e63]; omega, by rw [e63]; omega, by rw [SZ_eq]; simpa using h3, fun q nq => ?_⟩)
        · rcases h1 with rfl | rfl <;> (simp only [T.ok] at k1; exact k1.1)
        · have s' := s.newL (xs := [.sc (.int n), .lst a o xs]) (tm := tm) (ts := (List.replicate n.toNat xs).flatten) nq (by simpa [Nat.mul_comm] using h3)
            (Ts.ok_iff.mpr fun t m => by
              obtain ⟨l, hl, hc⟩ := List.mem_flatten.mp m
              rw [(List.mem_replicate.mp hl).2] at hc
              exact Ts.ok_iff.mp (lst_sq k1).2.2 t hc) (fun z => by
              have z1 := Ts.pur_oc z xs h2
              have z2 := Ts.rep_oc z xs z1 n.toNat
              have z3 := Ts.rep_sh z xs n.toNat
              simp only [Ts.oc, Ts.sh, T.oc, T.sh]; omega)
          have em : List.map T.v (List.replicate n.toNat xs).flatten = (List.replicate n.toNat (xs.map T.v)).flatten := by simp [List.map_flatten]
          rw [em] at s'
          exact k _ _ s' (by simp [T.d, Ts.rep_d])
      · cases h
    | _ => simp [T.d, mulD] at h
  | tup _ _ _ => cases t2 <;> simp [T.d, mulD] at h
  | obj _ _ _ _ _ _ => cases t2 <;> simp [T.d, mulD] at h
  | exn _ _ _ _ _ => cases t2 <;> simp [T.d, mulD] at h
theorem e_neg (ha : PE X a (tE g W ma)) : PE X (.UnaryOp .USub a pos) (tE g W (mUn negD ma)) := by
  refine (pe_un un_neg ha).imp (un_imp fun H σ sl tm t1 d Q s h k => ?_)
  cases t1 with
  | sc x =>
    cases x <;> simp [T.d, negD] at h
    subst h
    exact ⟨_, rfl, k H (.sc (.int _)) (s.pop.push _ trivial) rfl⟩
  | _ => simp [T.d, negD] at h
end
end VS

/-! VS, part e: comparisons, tests, subscripts, slices, displays. -/
namespace VS
open PySem PySem.Spec PyProof.Rows L2

theorem _root_.L2.PW.imp {X : Cx} {e : Expr} {t t' : TT} (h : PW X e t) (w : ∀ σ H Q, t' σ H Q → t σ H Q) : PW X e t' := ⟨fun wh pins s σ H Q I q => h.run wh pins s σ H Q I (w σ H Q q)⟩

section
variable {X : Cx} {g : Gh} {W : WX} {pos : Pos} {a b c : Expr} {ma mb mc : Cm D} {oa ob oc : Opd}
/-- the forms of a comparison's rule -/
def HR2 (g : Gh) (f : D → D → Option Sc) (r : R2) : Prop := ∀ H (u1 u2 : T) c Q, u1.ok g.c H → u2.ok g.c H → f u1.d u2.d = some c → (c.good → Q (c.v) H) → r u1.v u2.v H Q
theorem test_imp {m : Cm D} {σ : L2.St} {H : Hp} {Q : Bool → Hp → Prop} (h : tT g W (mTest m) σ H Q) : tE g W m σ H fun x H' => ∃ k, x = .bl k ∧ Q k H' := by
  obtain ⟨sl, tm, s, h⟩ := h
  refine ⟨sl, tm, s, ?_⟩
  unfold mTest at h
  cases e : m (den sl) with
  | ok d ρ =>
    rw [e] at h
    intro H' sl' t s' e1 e2
    subst e1 e2
    cases t with
    | sc x =>
      cases x with
      | bl k => exact ⟨k, rfl, h H' sl' s'.pop rfl⟩
      | _ => exact h.elim
    | _ => exact h.elim
  | exc x ρ => rw [e] at h; exact h
  | stuck => rw [e] at h; exact h
theorem t_val (h : PE X a (tE g W ma)) (he : ∀ whole, isTrue a X.env whole = (do let v ← whole; standAt a.pos; holding [v] (truthy v)) := by intro _; rfl) : PT X a (tT g W (mTest ma)) :=
  (pt_val h he).imp fun σ H Q q => test_imp q
theorem e_cmp {op : CmpOp} {r : R2} {f : D → D → Option Sc} (ho : OpR X (compareOp op) r) (hr : HR2 g f r) (ha : PE X a (tO g W oa)) (hb : PE X b (tO g W ob)) (hm : behindInMarks op b = false) :
    PE X (.Compare a [op] [b] pos) (tE g W (mP2 f oa ob)) := (pe_cmpR ho ha hb hm).imp (p2_imp hr)
theorem t_cmp {op : CmpOp} {r : R2} {f : D → D → Option Sc} (ho : OpR X (compareOp op) r) (hr : HR2 g f r) (ha : PE X a (tO g W oa)) (hb : PE X b (tO g W ob)) (hm : behindInMarks op b = false) :
    PT X (.Compare a [op] [b] pos) (tT g W (mTest (mP2 f oa ob))) := (pt_cmpR ho ha hb hm).imp fun σ H Q q => p2_imp hr σ H _ (test_imp q)
theorem hr_int {p : Int → Int → Bool} : HR2 g (cmpI p) (rI0 fun i j => .bl (p i j)) := fun H u1 u2 c Q k1 k2 h q => by
  cases u1 with
  | sc x =>
    cases u2 with
    | sc y =>
      cases x <;> cases y <;> simp [T.d, cmpI] at h
      subst h
      exact ⟨_, _, rfl, rfl, q trivial⟩
    | _ => cases x <;> simp [T.d, cmpI] at h
  | _ => simp [T.d, cmpI] at h
theorem hr_eq : HR2 g eqD (rEqD g.c.K) := fun H u1 u2 c Q k1 k2 h q => by
  unfold eqD at h
  split at h
  · rename_i hc
    obtain ⟨h1, h2⟩ := Bool.and_eq_true_iff.mp hc
    cases h
    refine ⟨_, _, T.dp 8 u1 k1 h1, T.dp 8 u2 k2 h2, shaped_of k1 h1, shaped_of k2 h2, ?_⟩
    rw [T.eqv 8 8 u1 u2 h1 h2]
    exact q trivial
  · cases h
theorem hr_ne : HR2 g neD (rNeD g.c.K) := fun H u1 u2 c Q k1 k2 h q => by
  unfold neD at h
  split at h
  · rename_i hc
    obtain ⟨h1, h2⟩ := Bool.and_eq_true_iff.mp hc
    cases h
    refine ⟨_, _, T.dp 8 u1 k1 h1, T.dp 8 u2 k2 h2, shaped_of k1 h1, shaped_of k2 h2, ?_⟩
    rw [T.eqv 8 8 u1 u2 h1 h2]
    exact q trivial
  · cases h
theorem v_non {t : T} : (t.v = .non) ↔ t.d = .non := by
  cases t with
  | sc x => cases x <;> simp [T.v, T.d, Sc.v]
  | _ => simp [T.v, T.d]
theorem hr_isN : HR2 g isNon (fun x y H Q => y = .non ∧ Q (.bl (decide (x = .non))) H) := fun H u1 u2 c Q k1 k2 h q => by
  unfold isNon at h
  split at h
  · rename_i d hd
    have e : u2.v = .non := v_non.mpr hd
    cases h
    refine ⟨e, ?_⟩
    have z : decide (u1.v = .non) = (match u1.d with | .sc .non => true | _ => false) := by
      by_cases hh : u1.d = .non
      · rw [decide_eq_true (v_non.mpr hh), hh]
      · rw [decide_eq_false (fun w => hh (v_non.mp w))]
        split <;> simp_all
    rw [z]
    exact q trivial
  · cases h
theorem hr_notN : HR2 g isntNon (fun x y H Q => y = .non ∧ Q (.bl (!decide (x = .non))) H) := fun H u1 u2 c Q k1 k2 h q => by
  unfold isntNon at h
  split at h
  · rename_i d hd
    have e : u2.v = .non := v_non.mpr hd
    cases h
    refine ⟨e, ?_⟩
    have z : (!decide (u1.v = .non)) = (match u1.d with | .sc .non => false | _ => true) := by
      by_cases hh : u1.d = .non
      · rw [decide_eq_true (v_non.mpr hh), hh]; rfl
      · rw [decide_eq_false (fun w => hh (v_non.mp w))]
        split <;> simp_all
    rw [z]
    exact q trivial
  · cases h
theorem scs_ok : ∀ {ts : List T} {l : List Sc}, scs (Ts.d ts) = some l → ts.map T.v = l.map Sc.v ∧ (ts.map T.v).all flatV = true
  | [], l, h => by simp [Ts.d, scs] at h; subst h; simp
  | t :: ts, l, h => by
    cases t with
    | sc x =>
      simp only [Ts.d, T.d, scs, Option.map_eq_some_iff] at h
      obtain ⟨r, hr, rfl⟩ := h
      have ih := scs_ok hr
      have fx : flatV (T.sc x).v = true := by cases x <;> rfl
      simp only [List.map_cons, List.all_cons, ih.1, fx, Bool.true_and]
      refine ⟨rfl, ?_⟩
      rw [← ih.1]; exact ih.2
    | _ => simp [Ts.d, T.d, scs] at h
theorem eqV_sc (x y : Sc) : eqV x.v y.v = x.eqB y := by
  cases x <;> cases y <;> simp [Sc.v, eqV, Sc.eqB, Bool.beq_eq_decide_eq]
theorem inV_sc (x : Sc) (l : List Sc) : inV x.v (l.map Sc.v) = l.any (·.eqB x) := by
  unfold inV
  rw [List.any_map]
  congr 1
  funext y
  exact eqV_sc y x
theorem hr_in : HR2 g (inD false) (fun x y H Q => (∃ i j, x = .str i ∧ y = .str j ∧ Q (.bl (!(Builtin.Str.occurrences j i 0 j.length 1).isEmpty)) H) ∨ rIn g.c.K false x y H Q) := fun H u1 u2 c Q k1 k2 h q => by
  cases u1 with
  | sc x =>
    have fx : flatV x.v = true := by cases x <;> rfl
    cases u2 with
    | sc y =>
      cases x <;> cases y <;> simp [T.d, inD] at h
      subst h
      refine .inl ⟨_, _, rfl, rfl, ?_⟩
      have := q trivial
      simpa [inStr, Str.length, Sc.v] using this
    | lst p o ys =>
      have hh : (scs (Ts.d ys)).map (fun l => Sc.bl (false ^^ l.any (·.eqB x))) = some c := by cases x <;> simpa [T.d, inD] using h
      obtain ⟨l, hl, rfl⟩ := Option.map_eq_some_iff.mp hh
      have e := scs_ok hl
      refine .inr ⟨p, _, rfl, .inl (lst_sq k2).1, fx, e.2, ?_⟩
      have := q trivial
      rw [e.1, show (T.sc x).v = x.v from rfl, inV_sc]
      simpa [Sc.v] using this
    | tup p o ys =>
      have hh : (scs (Ts.d ys)).map (fun l => Sc.bl (false ^^ l.any (·.eqB x))) = some c := by cases x <;> simpa [T.d, inD] using h
      obtain ⟨l, hl, rfl⟩ := Option.map_eq_some_iff.mp hh
      have e := scs_ok hl
      refine .inr ⟨p, _, rfl, .inr (tup_sq k2).1, fx, e.2, ?_⟩
      have := q trivial
      rw [e.1, show (T.sc x).v = x.v from rfl, inV_sc]
      simpa [Sc.v] using this
    | _ => cases x <;> simp [T.d, inD] at h
  | _ => cases u2 <;> simp [T.d, inD] at h
theorem hr_notin : HR2 g (inD true) (fun x y H Q => (∃ i j, x = .str i ∧ y = .str j ∧ Q (.bl (!(!(Builtin.Str.occurrences j i 0 j.length 1).isEmpty))) H) ∨ rIn g.c.K true x y H Q) := fun H u1 u2 c Q k1 k2 h q => by
  cases u1 with
  | sc x =>
    have fx : flatV x.v = true := by cases x <;> rfl
    cases u2 with
    | sc y =>
      cases x <;> cases y <;> simp [T.d, inD] at h
      subst h
      refine .inl ⟨_, _, rfl, rfl, ?_⟩
      have := q trivial
      simpa [inStr, Str.length, Sc.v] using this
    | lst p o ys =>
      have hh : (scs (Ts.d ys)).map (fun l => Sc.bl (true ^^ l.any (·.eqB x))) = some c := by cases x <;> simpa [T.d, inD] using h
      obtain ⟨l, hl, rfl⟩ := Option.map_eq_some_iff.mp hh
      have e := scs_ok hl
      refine .inr ⟨p, _, rfl, .inl (lst_sq k2).1, fx, e.2, ?_⟩
      have := q trivial
      rw [e.1, show (T.sc x).v = x.v from rfl, inV_sc]
      simpa [Sc.v] using this
    | tup p o ys =>
      have hh : (scs (Ts.d ys)).map (fun l => Sc.bl (true ^^ l.any (·.eqB x))) = some c := by cases x <;> simpa [T.d, inD] using h
      obtain ⟨l, hl, rfl⟩ := Option.map_eq_some_iff.mp hh
      have e := scs_ok hl
      refine .inr ⟨p, _, rfl, .inr (tup_sq k2).1, fx, e.2, ?_⟩
      have := q trivial
      rw [e.1, show (T.sc x).v = x.v from rfl, inV_sc]
      simpa [Sc.v] using this
    | _ => cases x <;> simp [T.d, inD] at h
  | _ => cases u2 <;> simp [T.d, inD] at h

/-! ### and, or, not -/
variable {ta tb : Cm Bool} {rest : List Expr}
theorem and_imp (σ : L2.St) (H : Hp) (Q : Bool → Hp → Prop) (h : tT g W (mAnd ta tb) σ H Q) : tAnd (tT g W ta) (tT g W tb) σ H Q := by
  obtain ⟨sl, tm, s, h⟩ := h
  refine tT.of s h fun H' sl' k s' h' => ?_
  cases k with
  | true => rw [if_pos rfl]; exact ⟨sl', tm, s', h'⟩
  | false => rw [if_neg Bool.false_ne_true]; exact h' H' sl' s' rfl
theorem or_imp (σ : L2.St) (H : Hp) (Q : Bool → Hp → Prop) (h : tT g W (mOr ta tb) σ H Q) : tOr (tT g W ta) (tT g W tb) σ H Q := by
  obtain ⟨sl, tm, s, h⟩ := h
  refine tT.of s h fun H' sl' k s' h' => ?_
  cases k with
  | false => rw [if_neg Bool.false_ne_true]; exact ⟨sl', tm, s', h'⟩
  | true => rw [if_pos rfl]; exact h' H' sl' s' rfl
theorem w_and (ha : PT X a (tT g W ta)) (hb : PW X (.BoolOp .And (b :: rest) pos) (tT g W tb)) : PW X (.BoolOp .And (a :: b :: rest) pos) (tT g W (mAnd ta tb)) := (pw_and ha hb).imp and_imp
theorem w_or (ha : PT X a (tT g W ta)) (hb : PW X (.BoolOp .Or (b :: rest) pos) (tT g W tb)) : PW X (.BoolOp .Or (a :: b :: rest) pos) (tT g W (mOr ta tb)) := (pw_or ha hb).imp or_imp
theorem t_not (ha : PT X a (tT g W ta)) : PT X (.UnaryOp .Not a pos) (tT g W (mNot ta)) := (pt_not ha).imp fun σ H Q ⟨sl, tm, s, h⟩ =>
  tT.of s h fun H' sl' k s' h' => h' H' sl' s' rfl
/-- a test as a value -/
def mAndV (a b : Cm D) : Cm D := fun ρ => (a ρ).bind fun d ρ => match d with
  | .sc (.bl c) => if c then b ρ else .ok (.bl false) ρ
  | _ => .stuck
def mOrV (a b : Cm D) : Cm D := fun ρ => (a ρ).bind fun d ρ => match d with
  | .sc (.bl c) => if c then .ok (.bl true) ρ else b ρ
  | _ => .stuck
def notD : D → Option D
  | .sc (.bl b) => some (.bl (!b))
  | _ => none
theorem e_and (ha : PE X a (tE g W ma)) (hb : PE X (.BoolOp .And (b :: rest) pos) (tE g W mb)) : PE X (.BoolOp .And (a :: b :: rest) pos) (tE g W (mAndV ma mb)) := (pe_and ha hb).imp fun σ H Q ⟨sl, tm, s, h⟩ => by
  refine tE.of s h fun H' sl' t s' h' => ?_
  cases t with
  | sc x =>
    cases x with
    | bl k =>
      refine ⟨k, rfl, ?_⟩
      cases k with
      | true => rw [if_pos rfl]; exact ⟨sl', tm, s'.pop, h'⟩
      | false => rw [if_neg Bool.false_ne_true]; exact h' H' sl' (.sc (.bl false)) s' rfl rfl
    | _ => exact h'.elim
  | _ => exact h'.elim
theorem e_or (ha : PE X a (tE g W ma)) (hb : PE X (.BoolOp .Or (b :: rest) pos) (tE g W mb)) : PE X (.BoolOp .Or (a :: b :: rest) pos) (tE g W (mOrV ma mb)) := (pe_or ha hb).imp fun σ H Q ⟨sl, tm, s, h⟩ => by
  refine tE.of s h fun H' sl' t s' h' => ?_
  cases t with
  | sc x =>
    cases x with
    | bl k =>
      refine ⟨k, rfl, ?_⟩
      cases k with
      | false => rw [if_neg Bool.false_ne_true]; exact ⟨sl', tm, s'.pop, h'⟩
      | true => rw [if_pos rfl]; exact h' H' sl' (.sc (.bl true)) s' rfl rfl
    | _ => exact h'.elim
  | _ => exact h'.elim
theorem e_not (ha : PE X a (tE g W ma)) : PE X (.UnaryOp .Not a pos) (tE g W (mUn notD ma)) := (pe_not ha).imp fun σ H Q ⟨sl, tm, s, h⟩ => by
  refine tE.of s h fun H' sl' t s' h' => ?_
  cases t with
  | sc x =>
    cases x with
    | bl k => exact ⟨k, rfl, h' H' sl' (.sc (.bl (!k))) (s'.pop.push _ trivial) rfl rfl⟩
    | _ => exact h'.elim
  | _ => exact h'.elim
theorem e_if (hc : PT X c (tT g W ta)) (ha : PE X a (tE g W ma)) (hb : PE X b (tE g W mb)) : PE X (.IfExp c a b pos) (tE g W (mIfE ta ma mb)) := (pe_ifExp hc ha hb).imp fun σ H Q ⟨sl, tm, s, h⟩ => by
  refine tT.of s h fun H' sl' k s' h' => ?_
  cases k with
  | true => rw [if_pos rfl]; exact ⟨sl', tm, s', h'⟩
  | false => rw [if_neg Bool.false_ne_true]; exact ⟨sl', tm, s', h'⟩
/-- a <= b <= c -/
def mChain (f f' : D → D → Option Sc) (a b c : Cm D) : Cm D := fun ρ => (a ρ).bind fun x ρ => (b ρ).bind fun y ρ => (lift (f x y) ρ).bind fun k ρ => match k with
  | .bl true => (c ρ).bind fun z ρ => (lift (f' y z) ρ).bind fun s ρ => .ok (.sc s) ρ
  | .bl false => .ok (.bl false) ρ
  | _ => .stuck
end
end VS

/-! VS, part f: arguments, displays, subscripts, slices, chains, calls of built-ins. -/
namespace VS
open PySem PySem.Spec PyProof.Rows L2

def mArgs : List (Cm D) → Cm (List D)
  | [] => fun ρ => .ok [] ρ
  | m :: ms => fun ρ => (m ρ).bind fun d ρ => (mArgs ms ρ).bind fun ds ρ => .ok (d :: ds) ρ
def tA (g : Gh) (W : WX) (ms : List (Cm D)) : TA := fun σ H Q => ∃ sl tm, SR g H σ sl tm ∧ Lands g W tm (mArgs ms (den sl)) fun ds ρ' => ∀ H' sl' ts, SR g H' σ sl' (ts.reverse ++ tm) → den sl' = ρ' → Ts.d ts = ds → Q (ts.map T.v) H'
theorem _root_.L2.PA.imp {X : Cx} {e : List Expr} {t t' : TA} (h : PA X e t) (w : ∀ σ H Q, t' σ H Q → t σ H Q) : PA X e t' := ⟨fun pos pins s σ H Q I q => h.run pos pins s σ H Q I (w σ H Q q)⟩
theorem Ts.oc_rev (a : Addr) : ∀ ts : List T, Ts.oc a ts.reverse = Ts.oc a ts
  | [] => rfl
  | t :: ts => by simp [Ts.oc_append, Ts.oc, Ts.oc_rev a ts]; omega
theorem Ts.sh_rev (a : Addr) : ∀ ts : List T, Ts.sh a ts.reverse = Ts.sh a ts
  | [] => rfl
  | t :: ts => by simp [Ts.sh_append, Ts.sh, Ts.sh_rev a ts]; omega
def mLst (ms : List (Cm D)) : Cm D := fun ρ => (mArgs ms ρ).bind fun ds ρ => if ds.length ≤ 16777216 then .ok (.lst .own ds) ρ else .stuck
def mTup (ms : List (Cm D)) : Cm D := fun ρ => (mArgs ms ρ).bind fun ds ρ => if ds.length ≤ 16777216 then .ok (.tup ds) ρ else .stuck

section
variable {X : Cx} {g : Gh} {W : WX} {pos : Pos} {a b c e : Expr} {es : List Expr} {ma mb mc : Cm D} {ms : List (Cm D)} {oa ob oc : Opd} {α : Type}
theorem tA.of {σ : L2.St} {H : Hp} {sl : List (Option T)} {tm : List T} {Q : List V → Hp → Prop} {f : List D → Cm α} {k : α → DE → Prop} (s : SR g H σ sl tm) (h : Lands g W tm ((mArgs ms (den sl)).bind f) k)
    (q : ∀ H' sl' ts, SR g H' σ sl' (ts.reverse ++ tm) → Lands g W tm (f (Ts.d ts) (den sl')) k → Q (ts.map T.v) H') : tA g W ms σ H Q := by
  refine ⟨sl, tm, s, ?_⟩
  cases e : mArgs ms (den sl) with
  | ok d ρ =>
    rw [e] at h
    intro H' sl' ts s' e1 e2
    subst e1; subst e2
    exact q H' sl' ts s' h
  | exc x ρ => rw [e] at h; exact h
  | stuck => rw [e] at h; exact h
theorem a_nil : PA X [] (tA g W []) := pa_nil.imp fun σ H Q ⟨sl, tm, s, h⟩ => h H sl [] s rfl rfl
theorem a_cons (ha : PE X e (tE g W ma)) (hr : PA X es (tA g W ms)) (hs : starEach (e :: es) X.env = (false, eval e X.env) :: starEach es X.env := by rfl) : PA X (e :: es) (tA g W (ma :: ms)) :=
  (pa_cons ha hr hs).imp fun σ H Q ⟨sl, tm, s, h⟩ => by
    refine tE.of s h fun H1 sl1 t1 s1 h1 => ?_
    refine tA.of s1 (Lands.drop h1) fun H2 sl2 ts s2 h2 => ?_
    exact h2 H2 sl2 (t1 :: ts) (by simpa using s2) rfl (by simp [Ts.d])
theorem SR.okx {H : Hp} {σ : L2.St} {sl : List (Option T)} {tm ts : List T} (s : SR g H σ sl (ts.reverse ++ tm)) : Ts.ok g.c H ts := by
  have := s.okT
  rw [Ts.ok_iff] at this ⊢
  exact fun t m => this t (List.mem_append_left _ (List.mem_reverse.mpr m))
theorem e_lst (h : PA X es (tA g W ms)) : PE X (.List es pos) (tE g W (mLst ms)) := (pe_lst h).imp fun σ H Q ⟨sl, tm, s, h⟩ => by
  refine tA.of s h fun H1 sl1 ts s1 h1 => ?_
  by_cases hz : (Ts.d ts).length ≤ 16777216
  · rw [if_pos hz] at h1
    rw [Ts.d_len] at hz
    refine ⟨by rw [SZ_eq]; simpa using hz, fun p hp => ?_⟩
    exact h1 _ _ _ (s1.newL hp hz s1.okx fun z => by rw [Ts.oc_rev, Ts.sh_rev]; omega) rfl (by simp [T.d])
  · rw [if_neg hz] at h1; exact h1.elim
theorem e_tup {k : Nat} (h : PA X es (tA g W ms)) : PE X (.Tuple es k pos) (tE g W (mTup ms)) := (pe_tup h).imp fun σ H Q ⟨sl, tm, s, h⟩ => by
  refine tA.of s h fun H1 sl1 ts s1 h1 => ?_
  by_cases hz : (Ts.d ts).length ≤ 16777216
  · rw [if_pos hz] at h1
    rw [Ts.d_len] at hz
    refine ⟨by rw [SZ_eq]; simpa using hz, fun p hp => ?_⟩
    exact h1 _ _ _ (s1.newT hp hz s1.okx fun z => by rw [Ts.oc_rev, Ts.sh_rev]; omega) rfl (by simp [T.d])
  · rw [if_neg hz] at h1; exact h1.elim

/-! ### a <= b <= c -/
theorem chain_imp {f f' : D → D → Option Sc} {r r' : R2} (hr : HR2 g f r) (hr' : HR2 g f' r') (σ : L2.St) (H : Hp) (Q : VK) (h : tE g W (mChain f f' ma mb mc) σ H Q) : tChain r r' (tE g W ma) (tE g W mb) (tE g W mc) σ H Q := by
  obtain ⟨sl, tm, s, h⟩ := h
  refine tE.of s h fun H1 sl1 t1 s1 h1 => ?_
  refine tE.of s1 (Lands.drop h1) fun H2 sl2 t2 s2 h2 => ?_
  have k1 : t1.ok g.c H2 := by have := s2.okT; simp only [Ts.ok] at this; exact this.2.1
  cases q : f t1.d t2.d with
  | none => rw [q] at h2; exact h2.elim
  | some x =>
    rw [q] at h2
    refine hr H2 t1 t2 x _ k1 s2.top q fun gx => ?_
    cases x with
    | bl k =>
      refine ⟨k, rfl, ?_⟩
      cases k with
      | true =>
        refine ite2 (fun _ => ?_) (fun n => absurd rfl n)
        refine tE.of s2 (Lands.drop h2) fun H3 sl3 t3 s3 h3 => ?_
        have k2 : t2.ok g.c H3 := by have := s3.okT; simp only [Ts.ok] at this; exact this.2.1
        cases q2 : f' t2.d t3.d with
        | none => rw [q2] at h3; exact h3.elim
        | some y =>
          rw [q2] at h3
          exact hr' H3 t2 t3 y _ k2 s3.top q2 fun gy => h3 H3 sl3 (.sc y) (s3.pop.pop.pop.push y gy) rfl rfl
      | false =>
        refine ite2 (fun n => absurd n Bool.false_ne_true) (fun _ => ?_)
        exact h2 H2 sl2 (.sc (.bl false)) (s2.pop.pop.push _ trivial) rfl rfl
    | _ => exact h2.elim
theorem e_chain {op op' : CmpOp} {f f' : D → D → Option Sc} {r r' : R2} (ho : OpR X (compareOp op) r) (ho' : OpR X (compareOp op') r') (hr : HR2 g f r) (hr' : HR2 g f' r') (ha : PE X a (tE g W ma)) (hb : PE X b (tE g W mb)) (hc : PE X c (tE g W mc))
    (hm : lastMarks [op, op'] [b, c] = false := by with_unfolding_all rfl) : PE X (.Compare a [op, op'] [b, c] pos) (tE g W (mChain f f' ma mb mc)) := (pe_chain ho ho' ha hb hc hm).imp (chain_imp hr hr')
theorem t_chain {op op' : CmpOp} {f f' : D → D → Option Sc} {r r' : R2} (ho : OpR X (compareOp op) r) (ho' : OpR X (compareOp op') r') (hr : HR2 g f r) (hr' : HR2 g f' r') (ha : PE X a (tE g W ma)) (hb : PE X b (tE g W mb)) (hc : PE X c (tE g W mc))
    (hm : lastMarks [op, op'] [b, c] = false := by with_unfolding_all rfl) : PT X (.Compare a [op, op'] [b, c] pos) (tT g W (mTest (mChain f f' ma mb mc))) := (pt_chain ho ho' ha hb hc hm).imp fun σ H Q q => chain_imp hr hr' σ H _ (test_imp q)

/-! ### subscripts -/
def idxD : D → Int → Option D
  | .sc (.str l), i => (atI l i).map fun c => .str [c]
  | .lst _ xs, i => atI xs i
  | .tup xs, i => atI xs i
  | _, _ => none
def mIdx (oa : Opd) (mb : Cm D) : Cm D := fun ρ => (oa.run ρ).bind fun t ρ => (mb ρ).bind fun j ρ => match oa.get t ρ, j with
  | some x, .sc (.int i) => match idxD x i with
    | some d => match oa with
      | .e _ => .ok d ρ
      | .v k => if d.pur then .ok d ρ else .ok d.fz (ρ.set k (some x.fz))
    | none => .stuck
  | _, _ => .stuck
theorem atI_map {α β : Type} (f : α → β) (xs : List α) (i : Int) : atI (xs.map f) i = (atI xs i).map f := by
  unfold atI
  rw [List.length_map]
  cases ixN xs.length i with
  | none => rfl
  | some j => simp
theorem atI_mem {α : Type} {xs : List α} {i : Int} {x : α} (h : atI xs i = some x) : x ∈ xs := by
  unfold atI at h
  cases e : ixN xs.length i with
  | none => rw [e] at h; cases h
  | some j => rw [e] at h; exact List.mem_of_getElem? h
theorem SR.dup {H : Hp} {σ : L2.St} {sl : List (Option T)} {tm : List T} {i : Nat} {t u : T} (s : SR g H σ sl tm) (h : sl[i]? = some (some t)) (ok : u.ok g.c H) (ho : ∀ a, u.oc a = 0) (hs : ∀ a, u.sh a ≤ t.sh a) : SR g H σ sl (u :: tm) := by
  refine s.tmp (by simp only [Ts.ok]; exact ⟨ok, s.okT⟩) fun a => ?_
  have := ho a; have := hs a
  have z := So_get (f := T.sh a) (s.slot h)
  simp only [Ts.oc, Ts.sh]
  omega
/-- what an index finds, as a tree -/
theorem idx_tree {H : Hp} {u : T} {i : Int} {d : D} (k : u.ok g.c H) (h : idxD u.d i = some d) : ∃ x : T, x.d = d ∧ x.ok g.c H ∧ (∀ a, x.oc a ≤ u.oc a ∧ x.sh a ≤ u.sh a) ∧ (x.fz.ok g.c H) ∧ (∀ a, x.fz.sh a ≤ u.fz.sh a) ∧
    ∀ Q : VK, Q x.v H → rIx g.c.K u.v (.int i) H Q := by
  cases u with
  | sc s =>
    cases s with
    | str l =>
      simp only [T.d, idxD, Option.map_eq_some_iff] at h
      obtain ⟨c, hc, rfl⟩ := h
      simp only [T.ok] at k
      have gk : (Sc.str [c]).good := ⟨by simp, fun z hz => by simp at hz; subst hz; exact k.2 _ (atI_mem hc)⟩
      refine ⟨.sc (.str [c]), rfl, by simpa [T.ok] using gk, fun a => by simp [T.oc, T.sh], by simpa [T.ok, T.fz] using gk, fun a => by simp [T.fz, T.sh], fun Q q => ?_⟩
      exact .inr (.inr ⟨_, i, c, rfl, rfl, by rw [SZ_eq]; simpa [Str.length] using k.1, hc, q⟩)
    | _ => simp [T.d, idxD] at h
  | lst p o xs =>
    simp only [T.d, idxD, Ts.d_map, atI_map, Option.map_eq_some_iff] at h
    obtain ⟨x, hx, rfl⟩ := h
    have q := lst_sq k
    have m := atI_mem hx
    have kx := Ts.ok_iff.mp q.2.2 x m
    refine ⟨x, rfl, kx, fun a => ?_, T.fz_ok x kx, fun a => ?_, fun Q hq => ?_⟩
    · have h1 := Ts.oc_mem (a := a) m; have h2 := Ts.sh_mem (a := a) m
      simp only [T.oc, T.sh]; omega
    · have h1 := Ts.oc_mem (a := a) m; have h2 := Ts.sh_mem (a := a) m
      simp only [T.fz_sh, T.oc, T.sh]; omega
    · exact .inl ⟨p, _, i, _, rfl, rfl, q.1, by rw [atI_map, hx]; rfl, hq⟩
  | tup p o xs =>
    simp only [T.d, idxD, Ts.d_map, atI_map, Option.map_eq_some_iff] at h
    obtain ⟨x, hx, rfl⟩ := h
    have q := tup_sq k
    have m := atI_mem hx
    have kx := Ts.ok_iff.mp q.2.2 x m
    refine ⟨x, rfl, kx, fun a => ?_, T.fz_ok x kx, fun a => ?_, fun Q hq => ?_⟩
    · have h1 := Ts.oc_mem (a := a) m; have h2 := Ts.sh_mem (a := a) m
      simp only [T.oc, T.sh]; omega
    · have h1 := Ts.oc_mem (a := a) m; have h2 := Ts.sh_mem (a := a) m
      simp only [T.fz_sh, T.oc, T.sh]; omega
    · exact .inr (.inl ⟨p, _, i, _, rfl, rfl, q.1, by rw [atI_map, hx]; rfl, hq⟩)
  | _ => simp [T.d, idxD] at h
theorem e_idx (ha : PE X a (tO g W oa)) (hb : PE X b (tE g W mb)) (hK : X.K = g.c.K) (hs : PlainIx b := by exact fun _ _ => rfl) : PE X (.Subscript a b pos) (tE g W (mIdx oa mb)) := (pe_ix (hK ▸ ix_seq) ha hb hs).imp fun σ H Q ⟨sl, tm, s, h⟩ => by
  refine tO.of s h fun H1 sl1 t1 v1 s1 d1 h1 => ?_
  refine tE.of s1 (Lands.drops h1) fun H2 sl2 t2 s2 h2 => ?_
  have d1' : Held g H2 oa σ sl2 t1 v1 := ⟨d1.is⟩
  have hm1 : ∀ u, t1 = some u → u ∈ t2 :: xs? t1 tm := fun u e => by subst e; simp [xs?]
  split at h2
  · rename_i x i ex ei
    split at h2
    · rename_i d hd
      cases t2 with
      | sc y =>
        simp only [T.d, D.int, D.sc.injEq] at ei
        subst ei
        cases oa with
        | e m =>
          cases t1 with
          | none => exact d1.is.elim
          | some u =>
            obtain rfl : v1 = u.v := d1.is
            simp only [Opd.get, Option.map_some, Option.some.injEq] at ex
            subst ex
            have ku : u.ok g.c H2 := by have := s2.okT; simp only [xs?, Ts.ok] at this; exact this.2.1
            obtain ⟨x, rfl, kx, hc, _, _, q⟩ := idx_tree ku hd
            exact q Q (h2 H2 sl2 x (SR.part s2.pop kx hc) rfl rfl)
        | v k =>
          cases t1 with
          | some u => exact d1.is.elim
          | none =>
            have e' : (den sl2)[k]? = some (some x) := by
              simp only [Opd.get] at ex
              cases q : (den sl2)[k]? with
              | none => rw [q] at ex; simp at ex
              | some o => rw [q] at ex; simp at ex; rw [ex]
            obtain ⟨u, e1, e2, e4, e3⟩ := s2.val e'
            have ev : v1 = u.v := by
              have z : σ[k]? = some (some v1) := d1.is
              rw [e3] at z
              exact (Option.some.inj (Option.some.inj z)).symm
            subst ev
            subst e2
            obtain ⟨x, rfl, kx, hc, kf, hf, q⟩ := idx_tree e4 hd
            by_cases hp : x.d.pur = true
            · simp only [hp, if_true] at h2
              exact q Q (h2 H2 sl2 x (SR.dup s2.pop e1 kx (fun a => T.pur_oc a x hp) fun a => (hc a).2) rfl rfl)
            · simp only [hp] at h2
              have s3 := SR.part (u := x.fz) (s2.pop.read e1) kf fun a => ⟨by rw [T.fz_oc]; omega, hf a⟩
              have := h2 H2 (sl2.set k (some u.fz)) x.fz s3 (by rw [den_set]; simp [T.fz_d]) (T.fz_d x)
              rw [T.fz_v] at this
              exact q Q this
      | _ => simp [T.d] at ei
    · exact h2.elim
  · exact h2.elim

/-! ### slices -/
def cutL {α : Type} (xs : List α) (lo hi : Option Int) : List α := (xs.drop (HT.sIx xs.length 0 lo)).take (HT.sIx xs.length xs.length hi - HT.sIx xs.length 0 lo)
theorem cutL_map {α β : Type} (f : α → β) (xs : List α) (lo hi : Option Int) : cutL (xs.map f) lo hi = (cutL xs lo hi).map f := by
  unfold cutL; simp
theorem cutL_mem {α : Type} {xs : List α} {lo hi : Option Int} {x : α} (h : x ∈ cutL xs lo hi) : x ∈ xs := List.mem_of_mem_drop (List.mem_of_mem_take h)
theorem cutL_len {α : Type} (xs : List α) (lo hi : Option Int) : (cutL xs lo hi).length ≤ xs.length := by
  unfold cutL; simp; omega
def mPart : Option (Cm D) → Cm (Option Int)
  | none => fun ρ => .ok none ρ
  | some m => fun ρ => (m ρ).bind fun d ρ => match d with
    | .sc (.int i) => .ok (some i) ρ
    | _ => .stuck
def tPt (g : Gh) (W : WX) (m : Cm (Option Int)) : TO := fun σ H Q => ∃ sl tm, SR g H σ sl tm ∧ Lands g W tm (m (den sl)) fun o ρ' => ∀ H' sl', SR g H' σ sl' tm → den sl' = ρ' → Q o H'
theorem _root_.L2.PO.imp {X : Cx} {e : Option Expr} {t t' : TO} (h : PO X e t) (w : ∀ σ H Q, t' σ H Q → t σ H Q) : PO X e t' := ⟨fun pins s σ H Q I q => h.run pins s σ H Q I (w σ H Q q)⟩
theorem p_none : PO X none (tPt g W (mPart none)) := po_none.imp fun σ H Q ⟨sl, tm, s, h⟩ => h H sl s rfl
theorem p_some (h : PE X a (tE g W ma)) : PO X (some a) (tPt g W (mPart (some ma))) := (po_some h).imp fun σ H Q ⟨sl, tm, s, h⟩ => by
  refine tE.of s h fun H1 sl1 t1 s1 h1 => ?_
  cases t1 with
  | sc x =>
    cases x with
    | int i => exact ⟨i, rfl, h1 H1 sl1 s1.pop rfl⟩
    | _ => exact h1.elim
  | _ => exact h1.elim
theorem tPt.of {σ : L2.St} {H : Hp} {sl : List (Option T)} {tm : List T} {Q : Option Int → Hp → Prop} {m : Cm (Option Int)} {f : Option Int → Cm α} {k : α → DE → Prop} (s : SR g H σ sl tm) (h : Lands g W tm ((m (den sl)).bind f) k)
    (q : ∀ H' sl' o, SR g H' σ sl' tm → Lands g W tm (f o (den sl')) k → Q o H') : tPt g W m σ H Q := by
  refine ⟨sl, tm, s, ?_⟩
  cases e : m (den sl) with
  | ok d ρ =>
    rw [e] at h
    intro H' sl' s' e1
    subst e1
    exact q H' sl' d s' h
  | exc x ρ => rw [e] at h; exact h
  | stuck => rw [e] at h; exact h
def sliceD (lo hi : Option Int) : D → Option D
  | .sc (.str l) => some (.str (cutL l lo hi))
  | .lst _ xs => if Ds.pur xs then some (.lst .own (cutL xs lo hi)) else none
  | _ => none
def mSlc (oa : Opd) (lo hi : Option (Cm D)) : Cm D := fun ρ => (oa.run ρ).bind fun t ρ => (mPart lo ρ).bind fun l ρ => (mPart hi ρ).bind fun u ρ => match oa.get t ρ with
  | some x => lift (sliceD l u x) ρ
  | none => .stuck
theorem Ds.pur_mem {t : T} : ∀ {ts : List T}, Ds.pur (Ts.d ts) = true → t ∈ ts → t.d.pur = true
  | [], _, h => by cases h
  | u :: ts, h, m => by
    simp only [Ts.d, Ds.pur, Bool.and_eq_true] at h
    rcases List.mem_cons.mp m with rfl | m
    · exact h.1
    · exact Ds.pur_mem h.2 m
theorem e_slc {lo hi : Option Expr} {ml mh : Option (Cm D)} {p2 : Pos} (ha : PE X a (tO g W oa)) (hl : PO X lo (tPt g W (mPart ml))) (hh : PO X hi (tPt g W (mPart mh))) (hK : X.K = g.c.K) : PE X (.Subscript a (.Slice lo hi none p2) pos) (tE g W (mSlc oa ml mh)) :=
  (pe_slice (SlR.or sl_list sl_str) ha hl hh).imp fun σ H Q ⟨sl, tm, s, h⟩ => by
  refine tO.of s h fun H1 sl1 t1 v1 s1 d1 h1 => ?_
  refine tPt.of s1 (Lands.drops h1) fun H2 sl2 l s2 h2 => ?_
  refine tPt.of s2 h2 fun H3 sl3 u s3 h3 => ?_
  have d1' : Held g H3 oa σ sl3 t1 v1 := ⟨d1.is⟩
  have hm1 : ∀ u, t1 = some u → u ∈ xs? t1 tm := fun u e => by subst e; simp [xs?]
  split at h3
  · rename_i x ex
    obtain ⟨w, kw, ew, fw, hw⟩ := d1'.tree s3 hm1 ex
    subst fw ew
    cases w with
    | sc y =>
      cases y with
      | str z =>
        simp only [T.d, sliceD, lift_some] at h3
        simp only [T.ok] at kw
        refine .inr ⟨_, rfl, by rw [SZ_eq]; simpa [Str.length] using kw.1, ?_⟩
        have gk : (Sc.str (cutL z l u)).good := ⟨Nat.le_trans (cutL_len _ _ _) kw.1, fun c hc => kw.2 c (cutL_mem hc)⟩
        exact h3 H3 sl3 (.sc (.str (cutL z l u))) (s3.xs.push _ gk) rfl rfl
      | _ => exact h3.elim
    | lst p o xs =>
      simp only [T.d, sliceD] at h3
      split at h3
      · rename_i hp
        have q := lst_sq kw
        refine .inl ⟨p, _, rfl, by rw [hK]; exact q.1, fun n hn => ?_⟩
        have ec : cutV (xs.map T.v) l u = (cutL xs l u).map T.v := cutL_map T.v xs l u
        rw [ec]
        -- the new list's items are held by the old one too
        have hnew : SR g H3 σ sl3 ((cutL xs l u).reverse ++ tm) := by
          have hO : ∀ a, Ts.oc a (cutL xs l u) = 0 := fun a => Nat.eq_zero_of_not_pos fun hpos => by
            obtain ⟨t, m, ht⟩ := Ts.pos_oc hpos
            have := T.pur_oc a t (Ds.pur_mem hp (cutL_mem m))
            omega
          have hS : ∀ a, 0 < Ts.sh a (cutL xs l u) → 0 < Ts.sh a xs := fun a hpos => by
            obtain ⟨t, m, ht⟩ := Ts.pos_sh hpos
            have := Ts.sh_mem (a := a) (cutL_mem m)
            omega
          have okc : Ts.ok g.c H3 ((cutL xs l u).reverse ++ tm) := by
            rw [Ts.ok_iff]
            intro t m
            rcases List.mem_append.mp m with m | m
            · exact Ts.ok_iff.mp q.2.2 t (cutL_mem (List.mem_reverse.mp m))
            · exact Ts.ok_iff.mp s3.xs.okT t m
          refine s3.tmp okc fun a => ?_
          have z1 := hO a
          have z2 := hS a
          have z3 := hw a
          have z4 : Ts.sh a xs ≤ (T.lst p o xs).sh a := by simp only [T.sh]; omega
          rw [Ts.oc_append, Ts.sh_append, Ts.oc_rev, Ts.sh_rev]
          cases t1 with
          | none => simp only [xs?] at z3 ⊢; omega
          | some w => simp only [xs?, Ts.oc, Ts.sh] at z3 ⊢; omega
        exact h3 _ _ _ (hnew.newL hn (Nat.le_trans (cutL_len _ _ _) q.2.1) (by
          rw [Ts.ok_iff]; exact fun t m => Ts.ok_iff.mp q.2.2 t (cutL_mem m)) fun z => by rw [Ts.oc_rev, Ts.sh_rev]; omega) rfl (by simp [T.d, Ts.d_map, cutL_map])
      · exact h3.elim
    | _ => exact h3.elim
  · exact h3.elim
end
end VS

/-! VS, part g: statements. -/
namespace VS
open PySem PySem.Spec PyProof.Rows L2

inductive Out where
  | nx | brk | ct
  | ret (d : D)
  deriving Repr
/-- what is wanted behind a statement, by the data -/
def Post (g : Gh) (tm : List T) (De : Ends) (o : Out) (ρ' : DE) : Prop := match o with
  | .nx => ∀ H' σ' sl', SR g H' σ' sl' tm → den sl' = ρ' → De.nx σ' H'
  | .brk => ∀ H' σ' sl', SR g H' σ' sl' tm → den sl' = ρ' → De.bk σ' H'
  | .ct => ∀ H' σ' sl', SR g H' σ' sl' tm → den sl' = ρ' → De.ct σ' H'
  | .ret d => ∀ H' σ' sl' t, SR g H' σ' sl' (t :: tm) → den sl' = ρ' → t.d = d → De.rt t.v H'
def tS (g : Gh) (W : WX) (m : Cm Out) : TS := fun De σ H => ∃ sl tm, SR g H σ sl tm ∧ Lands g W tm (m (den sl)) (Post g tm De)
theorem _root_.L2.PS.imp {X : Cx} {e : Stmt} {t t' : TS} (h : PS X e t) (w : ∀ De σ H, t' De σ H → t De σ H) : PS X e t' := ⟨fun pins s σ H De I q => h.run pins s σ H De I (w De σ H q)⟩
theorem _root_.L2.PSs.imp {X : Cx} {e : List Stmt} {t t' : TS} (h : PSs X e t) (w : ∀ De σ H, t' De σ H → t De σ H) : PSs X e t' := ⟨fun pins s σ H De I q => h.run pins s σ H De I (w De σ H q)⟩

def mSeq (a b : Cm Out) : Cm Out := fun ρ => (a ρ).bind fun o ρ => match o with
  | .nx => b ρ
  | o => .ok o ρ
def mNext : Cm Out := fun ρ => .ok .nx ρ
def mBreak : Cm Out := fun ρ => .ok .brk ρ
def mCont : Cm Out := fun ρ => .ok .ct ρ
def mSet (i : Nat) (m : Cm D) : Cm Out := fun ρ => (m ρ).bind fun d ρ => .ok .nx (ρ.set i (some d))
def mAug (f : D → D → Option D) (i : Nat) (m : Cm D) : Cm Out := fun ρ => match ρ[i]? with
  | some (some _) => (m ρ).bind fun y ρ => match ρ[i]? with
    | some (some x) => (lift (f x y) ρ).bind fun d ρ => .ok .nx (ρ.set i (some d))
    | _ => .stuck
  | _ => .stuck
def mRet (m : Cm D) : Cm Out := fun ρ => (m ρ).bind fun d ρ => .ok (.ret d) ρ
def mDrop (m : Cm D) : Cm Out := fun ρ => (m ρ).bind fun _ ρ => .ok .nx ρ
def mIf (c : Cm Bool) (a b : Cm Out) : Cm Out := mIfE c a b
/-- the items of what is walked, one by one -/
def forL (g : D → Cm Unit) (b : Cm Out) : List D → Cm Out
  | [] => fun ρ => .ok .nx ρ
  | d :: ds => fun ρ => (g d ρ).bind fun _ ρ => (b ρ).bind fun o ρ => match o with
    | .nx => forL g b ds ρ
    | .ct => forL g b ds ρ
    | .brk => .ok .nx ρ
    | .ret x => .ok (.ret x) ρ
def mFor (m : Cm (List D)) (g : D → Cm Unit) (b : Cm Out) : Cm Out := fun ρ => (m ρ).bind fun ds ρ => forL g b ds ρ
def whileL (c : Cm Bool) (b : Cm Out) : Nat → Cm Out
  | 0 => fun _ => .stuck
  | n + 1 => fun ρ => (c ρ).bind fun k ρ => if k then (b ρ).bind fun o ρ => match o with
      | .nx => whileL c b n ρ
      | .ct => whileL c b n ρ
      | .brk => .ok .nx ρ
      | .ret x => .ok (.ret x) ρ
    else .ok .nx ρ
def mPut (i : Nat) : D → Cm Unit := fun d ρ => .ok () (ρ.set i (some d))

section
variable {X : Cx} {g : Gh} {W : WX} {pos : Pos} {a b c e tg iter : Expr} {st : Stmt} {sts sa sb body : List Stmt} {ma mb : Cm D} {mc : Cm Bool} {m m' : Cm Out} {α : Type}
theorem tS.of {De De' : Ends} {σ : L2.St} {H : Hp} {sl : List (Option T)} {tm : List T} {f : Out → Cm α} {k : α → DE → Prop} (s : SR g H σ sl tm) (h : Lands g W tm ((m (den sl)).bind f) k)
    (q : ∀ o sl', Lands g W tm (f o (den sl')) k → Post g tm De' o (den sl')) (hp : ∀ o sl', Post g tm De' o (den sl') → Post g tm De o (den sl')) (hd : ∀ ρ, ∃ sl', ρ = den sl') : tS g W m De σ H := by
  refine ⟨sl, tm, s, ?_⟩
  cases e : m (den sl) with
  | ok o ρ =>
    rw [e] at h
    obtain ⟨sl', rfl⟩ := hd ρ
    exact hp o sl' (q o sl' h)
  | exc x ρ => rw [e] at h; exact h
  | stuck => rw [e] at h; exact h
theorem ss_nil : PSs X [] (tS g W mNext) := pss_nil.imp fun De σ H ⟨sl, tm, s, h⟩ => h H σ sl s rfl
theorem seq_imp (De : Ends) (σ : L2.St) (H : Hp) (q : tS g W (mSeq m m') De σ H) : tSeq (tS g W m) (tS g W m') De σ H := by
  obtain ⟨sl, tm, s, h⟩ := q
  refine ⟨sl, tm, s, ?_⟩
  unfold mSeq at h
  cases e : m (den sl) with
  | ok o ρ =>
    rw [e] at h
    cases o with
    | nx => exact fun H' σ' sl' s' e' => ⟨sl', tm, s', by subst e'; exact h⟩
    | brk => exact h
    | ct => exact h
    | ret d => exact h
  | exc x ρ => rw [e] at h; exact h
  | stuck => rw [e] at h; exact h
theorem ss_cons (h1 : PS X st (tS g W m)) (h2 : PSs X sts (tS g W m')) : PSs X (st :: sts) (tS g W (mSeq m m')) := (pss_cons h1 h2).imp seq_imp
theorem ss_one (h1 : PS X st (tS g W m)) : PSs X [st] (tS g W m) := pss_one h1
theorem s_pass : PS X (.Pass pos) (tS g W mNext) := ps_pass.imp fun De σ H ⟨sl, tm, s, h⟩ => h H σ sl s rfl
theorem s_break : PS X (.Break pos) (tS g W mBreak) := ps_break.imp fun De σ H ⟨sl, tm, s, h⟩ => h H σ sl s rfl
theorem s_cont : PS X (.Continue pos) (tS g W mCont) := ps_continue.imp fun De σ H ⟨sl, tm, s, h⟩ => h H σ sl s rfl
theorem not_io {i : Nat} {l : List Nat} (h : g.io.map (·.1) = l) (hi : l.contains i = false) : ∀ p ∈ g.io, p.1 ≠ i := fun p hp e => by
  have : i ∈ l := by rw [← h, ← e]; exact List.mem_map_of_mem hp
  simp at hi
  exact hi this
theorem set_imp {i : Nat} (hi : i < g.N) (hio : ∀ p ∈ g.io, p.1 ≠ i) (De : Ends) (σ : L2.St) (H : Hp) (q : tS g W (mSet i ma) De σ H) : tAsg (tE g W ma) (gName i) De σ H := by
  obtain ⟨sl, tm, s, h⟩ := q
  refine tE.of s h fun H' sl' t s' h' => ?_
  exact h' H' _ _ (s'.store hi hio) (by rw [den_set]; rfl)
theorem s_set {i : Nat} {x : Str} {pos' : Pos} (hp : PS X (.Assign [.Name x pos'] e pos) (tAsg (tE g W ma) (gName i))) (hi : i < g.N) (hio : ∀ p ∈ g.io, p.1 ≠ i) : PS X (.Assign [.Name x pos'] e pos) (tS g W (mSet i ma)) :=
  hp.imp (set_imp hi hio)
theorem s_ret (h : PE X e (tE g W ma)) : PS X (.Return (some e) pos) (tS g W (mRet ma)) := (ps_ret h).imp fun De σ H ⟨sl, tm, s, h⟩ => by
  refine tE.of s h fun H' sl' t s' h' => ?_
  exact h' H' σ sl' t s' rfl rfl
theorem s_retN : PS X (.Return none pos) (tS g W (mRet (mC .non))) := ps_retN.imp fun De σ H ⟨sl, tm, s, h⟩ => h H σ sl (.sc .non) (s.push _ trivial) rfl rfl
theorem s_expr (h : PE X e (tE g W ma)) (hs : swapsWith e none pos.line X.env = pure false := by rfl) : PS X (.Expr e pos) (tS g W (mDrop ma)) := (ps_expr h hs).imp fun De σ H ⟨sl, tm, s, h⟩ => by
  refine tE.of s h fun H' sl' t s' h' => ?_
  exact h' H' σ sl' s'.pop rfl
theorem s_if (hc : PT X c (tT g W mc)) (ha : PSs X sa (tS g W m)) (hb : PSs X sb (tS g W m')) : PS X (.If c sa sb pos) (tS g W (mIf mc m m')) := (ps_if hc ha hb).imp fun De σ H ⟨sl, tm, s, h⟩ => by
  refine tT.of s h fun H' sl' k s' h' => ?_
  cases k with
  | true => rw [if_pos rfl]; exact ⟨sl', tm, s', h'⟩
  | false => rw [if_neg Bool.false_ne_true]; exact ⟨sl', tm, s', h'⟩

/-! ### targets -/
def tG (g : Gh) (W : WX) (f : D → Cm Unit) : TG := fun v σ H Q => ∃ sl tm t, SR g H σ sl (t :: tm) ∧ t.v = v ∧ Lands g W tm (f t.d (den sl)) fun _ ρ' => ∀ H' σ' sl', SR g H' σ' sl' tm → den sl' = ρ' → Q σ' H'
theorem _root_.L2.PG.imp {X : Cx} {e : Expr} {t t' : TG} (h : PG X e t) (w : ∀ v σ H Q, t' v σ H Q → t v σ H Q) : PG X e t' := ⟨fun pins s σ H v u Q I r q => h.run pins s σ H v u Q I r (w v σ H Q q)⟩
theorem g_name {i : Nat} (hp : PG X tg (gName i)) (hi : i < g.N) (hio : ∀ p ∈ g.io, p.1 ≠ i) : PG X tg (tG g W (mPut i)) := hp.imp fun v σ H Q ⟨sl, tm, t, s, e, h⟩ => by
  subst e
  exact h H _ _ (s.store hi hio) (by rw [den_set]; rfl)
/-- the targets of a tuple's items, from the left -/
def putAll : List (D → Cm Unit) → List D → Cm Unit
  | [], [] => fun ρ => .ok () ρ
  | f :: fs, d :: ds => fun ρ => (f d ρ).bind fun _ ρ => putAll fs ds ρ
  | _, _ => fun _ => .stuck
def mUnp (fs : List (D → Cm Unit)) : D → Cm Unit
  | .tup ds => putAll fs ds
  | _ => fun _ => .stuck
def tGs (g : Gh) (W : WX) (fs : List (D → Cm Unit)) : TGs := fun vs σ H Q => ∃ sl tm ts, SR g H σ sl (ts ++ tm) ∧ ts.map T.v = vs ∧ Lands g W tm (putAll fs (Ts.d ts) (den sl)) fun _ ρ' => ∀ H' σ' sl', SR g H' σ' sl' tm → den sl' = ρ' → Q σ' H'
theorem _root_.L2.PGs.imp {X : Cx} {e : List Expr} {t t' : TGs} (h : PGs X e t) (w : ∀ v σ H Q, t' v σ H Q → t v σ H Q) : PGs X e t' := ⟨fun pins s σ H v u Q I r q => h.run pins s σ H v u Q I r (w v σ H Q q)⟩
theorem Lands.dropsL {tm : List T} {r : R α} {k : α → DE → Prop} : ∀ {ts : List T}, Lands g W tm r k → Lands g W (ts ++ tm) r k
  | [], h => h
  | t :: ts, h => Lands.drop (Lands.dropsL (ts := ts) h)
theorem gs_nil : PGs X [] (tGs g W []) := pgs_nil.imp fun vs σ H Q ⟨sl, tm, ts, s, e, h⟩ => by
  cases ts with
  | nil => exact ⟨e.symm, h H σ sl s rfl⟩
  | cons t ts => exact h.elim
theorem gs_cons {es : List Expr} {f : D → Cm Unit} {fs : List (D → Cm Unit)} (h1 : PG X e (tG g W f)) (h2 : PGs X es (tGs g W fs)) (hs : (assignEach (e :: es) X.env).map (·.2) = assign e X.env :: (assignEach es X.env).map (·.2) := by rfl) :
    PGs X (e :: es) (tGs g W (f :: fs)) := (pgs_cons h1 h2 hs).imp fun vs σ H Q ⟨sl, tm, ts, s, e, h⟩ => by
  cases ts with
  | nil => exact h.elim
  | cons t ts =>
    refine ⟨t.v, ts.map T.v, e.symm, sl, ts ++ tm, t, s, rfl, ?_⟩
    simp only [Ts.d, putAll] at h
    cases q : f t.d (den sl) with
    | ok u ρ =>
      rw [q] at h
      intro H' σ' sl' s' e'
      exact ⟨sl', tm, ts, s', rfl, by subst e'; exact h⟩
    | exc x ρ => rw [q] at h; exact Lands.dropsL (r := (R.exc x ρ : R Unit)) (k := fun _ _ => False) (ts := ts) h
    | stuck => rw [q] at h; exact h
theorem SR.open_ {H : Hp} {σ : L2.St} {sl : List (Option T)} {tm : List T} {p : Addr} {st : Bool} {xs : List T} (s : SR g H σ sl (T.tup p st xs :: tm)) : SR g H σ sl (xs ++ tm) := by
  have k := s.okT
  simp only [Ts.ok] at k
  have q := tup_sq k.1
  refine s.tmp ?_ fun a => ?_
  · rw [Ts.ok_iff]
    intro t m
    rcases List.mem_append.mp m with m | m
    · exact Ts.ok_iff.mp q.2.2 t m
    · exact Ts.ok_iff.mp k.2 t m
  · rw [Ts.oc_append, Ts.sh_append]
    simp only [Ts.oc, Ts.sh, T.oc, T.sh]
    omega
theorem putAll_len {fs : List (D → Cm Unit)} {ds : List D} {ρ : DE} (h : fs.length ≠ ds.length) (hc : fs = [] ∨ True) : True := trivial
theorem g_tup {es : List Expr} {k n : Nat} {fs : List (D → Cm Unit)} (hc : X.calm = true) (h : PGs X es (tGs g W fs)) (hK : X.K = g.c.K)
    (hn : (assignEach es X.env).length = n := by rfl) (hst : (assignEach es X.env).findIdx? (·.1) = none := by rfl) (hfn : fs.length = n := by rfl) : PG X (.Tuple es k pos) (tG g W (fun d ρ => match d with
      | .tup ds => if ds.length = fs.length then putAll fs ds ρ else .stuck
      | _ => .stuck)) := (pg_tup hc h hn hst).imp fun v σ H Q ⟨sl, tm, t, s, e, h⟩ => by
  subst e
  cases t with
  | tup p st xs =>
    simp only [T.d] at h
    split at h
    · rename_i hl
      rw [Ts.d_len] at hl
      have q := tup_sq s.top
      refine ⟨p, _, rfl, by rw [hK]; exact q.1, by simp; omega, sl, tm, xs, s.open_, rfl, h⟩
    · exact h.elim
  | _ => exact h.elim
/-- target = value -/
def mAsg (ma : Cm D) (f : D → Cm Unit) : Cm Out := fun ρ => (ma ρ).bind fun d ρ => (f d ρ).bind fun _ ρ => .ok .nx ρ
theorem s_asg {f : D → Cm Unit} (he : PE X e (tE g W ma)) (hg : PG X tg (tG g W f)) (hs : swapsWithSole [tg] e pos.line X.env = pure false := by rfl) (hw : swappedStores [tg] e X.env = pure none := by rfl)
    (h1 : (assignEach [tg] X.env).map (·.2) = [assign tg X.env] := by rfl) : PS X (.Assign [tg] e pos) (tS g W (mAsg ma f)) := (ps_asg he hg hs hw h1).imp fun De σ H ⟨sl, tm, s, h⟩ => by
  refine tE.of s h fun H' sl' t s' h' => ?_
  refine ⟨sl', tm, t, s', rfl, ?_⟩
  cases q : f t.d (den sl') with
  | ok u ρ => rw [q] at h'; exact h'
  | exc x ρ => rw [q] at h'; exact h'
  | stuck => rw [q] at h'; exact h'
/-- a, b = x, y -/
def mPar (i j : Nat) (ma mb : Cm D) : Cm Out := fun ρ => (ma ρ).bind fun x ρ => (mb ρ).bind fun y ρ => .ok .nx ((ρ.set i (some x)).set j (some y))
theorem s_par {i j : Nat} {hp : PS X st (tPar i j (tA g W [ma, mb]))} (hi : i < g.N) (hj : j < g.N) (hio : ∀ p ∈ g.io, p.1 ≠ i) (hjo : ∀ p ∈ g.io, p.1 ≠ j) : PS X st (tS g W (mPar i j ma mb)) := hp.imp fun De σ H ⟨sl, tm, s, h⟩ => by
  refine tA.of (f := fun ds ρ => match ds with
    | [x, y] => .ok Out.nx ((ρ.set i (some x)).set j (some y))
    | _ => .stuck) (k := Post g tm De) s ?_ fun H1 sl1 ts s1 h1 => ?_
  · revert h
    unfold mPar mArgs mArgs mArgs
    cases ma (den sl) with
    | ok x ρ => cases e : mb ρ <;> simp [e, R.bind, Lands]
    | exc x ρ => simp [R.bind, Lands]
    | stuck => simp [R.bind, Lands]
  · match ts, s1, h1 with
    | [], _, h1 => exact h1.elim
    | [_], _, h1 => exact h1.elim
    | _ :: _ :: _ :: _, _, h1 => exact h1.elim
    | [t, u], s1, h1 =>
      refine ⟨t.v, u.v, rfl, ?_⟩
      have s2 : SR g H1 σ sl1 (t :: u :: tm) := s1.tmp (by have := s1.okT; simp [Ts.ok] at this ⊢; exact ⟨this.2.1, this.1, this.2.2⟩) fun a => by simp [Ts.oc, Ts.sh]; omega
      exact h1 H1 _ _ ((s2.store hi hio).store hj hjo) (by rw [den_set, den_set]; rfl)
end
end VS

/-! VS, part h: x += e, for, while, what is walked. -/
namespace VS
open PySem PySem.Spec PyProof.Rows L2

section
variable {X : Cx} {g : Gh} {W : WX} {pos : Pos} {a b c e tg iter : Expr} {st : Stmt} {sts sa sb body : List Stmt} {ma mb : Cm D} {mc : Cm Bool} {m m' : Cm Out} {α : Type}
/-! ### x += e of ints and texts -/
def augA : D → D → Option D
  | .sc (.int i), .sc (.int j) => some (.int (i + j))
  | .sc (.str a), .sc (.str b) => if a.length + b.length ≤ 16777216 then some (.str (a ++ b)) else none
  | _, _ => none
theorem aug_sc {f : D → D → Option D} {ti : TIp} {i : Nat} (hi : i < g.N) (hio : ∀ p ∈ g.io, p.1 ≠ i)
    (hf : ∀ x y d, f x y = some d → ∃ a b c : Sc, x = .sc a ∧ y = .sc b ∧ d = .sc c ∧ (a.good → b.good → c.good) ∧ ∀ H Q, Q c.v H → ti a.v b.v H Q) (De : Ends) (σ : L2.St) (H : Hp) (q : tS g W (mAug f i ma) De σ H) : tAug i (tE g W ma) ti De σ H := by
  obtain ⟨sl, tm, s, h⟩ := q
  unfold mAug at h
  split at h
  · rename_i d0 e0
    obtain ⟨t0, e1, _, _, e3⟩ := s.val e0
    refine ⟨t0.v, e3, ?_⟩
    refine tE.of s h fun H' sl' t s' h' => ?_
    split at h'
    · rename_i x ex
      obtain ⟨t1, g1, g2, g4, g3⟩ := s'.val ex
      rw [e3] at g3
      have ev : t0.v = t1.v := Option.some.inj (Option.some.inj g3)
      subst g2
      cases qf : f t1.d t.d with
      | none => rw [qf] at h'; exact h'.elim
      | some d =>
        rw [qf] at h'
        obtain ⟨x, y, z, k1, k2, rfl, kg, kt⟩ := hf _ _ _ qf
        cases t1 with
        | sc x' =>
          cases t with
          | sc y' =>
            simp only [T.d, D.sc.injEq] at k1 k2
            subst k1 k2
            rw [ev]
            have gx : x'.good := by simpa [T.ok] using g4
            have gy : y'.good := by simpa [T.ok] using s'.top
            refine kt H' _ ?_
            exact h' H' _ _ ((s'.pop.push z (kg gx gy)).store hi hio) (by rw [den_set]; rfl)
          | _ => simp [T.d] at k2
        | _ => simp [T.d] at k1
    · exact h'.elim
  · exact h.elim
theorem ip_of {op : Operator} {r : R2} (h : OpR X (inplaceOp op) r) : PIp X op r := fun pins s σ H x y v u Q I r1 r2 q => h pins s σ H x y v u Q I r1 r2 q
theorem ip_addA : PIp X .Add (fun x y H Q => (∃ i j, x = .int i ∧ y = .int j ∧ Q (.int (i + j)) H) ∨ ∃ i j, x = .str i ∧ y = .str j ∧ i.length + j.length ≤ sizeLine ∧ Q (.str (i ++ j)) H) := ip_of (OpR.or iop_add iop_add_str)
theorem s_augA {i : Nat} {x : Str} {pos' : Pos} (hp : PS X (.AugAssign (.Name x pos') .Add e pos) (tAug i (tE g W ma) (fun x y H Q => (∃ i j, x = .int i ∧ y = .int j ∧ Q (.int (i + j)) H) ∨ ∃ i j, x = .str i ∧ y = .str j ∧ i.length + j.length ≤ sizeLine ∧ Q (.str (i ++ j)) H)))
    (hi : i < g.N) (hio : ∀ p ∈ g.io, p.1 ≠ i) : PS X (.AugAssign (.Name x pos') .Add e pos) (tS g W (mAug augA i ma)) := hp.imp (aug_sc hi hio fun x y d h => by
  unfold augA at h
  split at h
  · cases h
    exact ⟨_, _, _, rfl, rfl, rfl, fun _ _ => trivial, fun H Q q => .inl ⟨_, _, rfl, rfl, q⟩⟩
  · split at h
    · rename_i x y hz
      cases h
      exact ⟨_, _, _, rfl, rfl, rfl, fun gx gy => good_append gx gy hz, fun H Q q => .inr ⟨_, _, rfl, rfl, by rw [SZ_eq]; simpa [Str.length] using hz, by rw [Str.app]; exact q⟩⟩
    · cases h
  · cases h)
theorem s_augS {i : Nat} {x : Str} {pos' : Pos} (hp : PS X (.AugAssign (.Name x pos') .Sub e pos) (tAug i (tE g W ma) (ipI fun i j => i - j)))
    (hi : i < g.N) (hio : ∀ p ∈ g.io, p.1 ≠ i) : PS X (.AugAssign (.Name x pos') .Sub e pos) (tS g W (mAug subD i ma)) := hp.imp (aug_sc hi hio fun x y d h => by
  unfold subD at h
  split at h
  · cases h
    exact ⟨_, _, _, rfl, rfl, rfl, fun _ _ => trivial, fun H Q q => ⟨_, _, rfl, rfl, q⟩⟩
  · cases h)

/-! ### what is walked -/
/-- an iterator that gives these data, one by one, while hd is held -/
structure ItOk (g : Gh) (J : It) (hd : List T) (ds : List D) : Prop where
  stop : ∀ H σ sl tm, SR g H σ sl (hd ++ tm) → J.stop ds.length H
  go : ∀ i d H σ sl tm, SR g H σ sl (hd ++ tm) → ds[i]? = some d → J.go i H ∧ ∀ x H', J.yld i H x H' → ∃ t : T, SR g H' σ sl (t :: (hd ++ tm)) ∧ t.d = d ∧ t.v = x
def tI (g : Gh) (W : WX) (m : Cm (List D)) : TI := fun σ H R => ∃ sl tm, SR g H σ sl tm ∧ Lands g W tm (m (den sl)) fun ds ρ' => ∀ H' sl' hd J, SR g H' σ sl' (hd ++ tm) → den sl' = ρ' → ItOk g J hd ds → R J H'
theorem _root_.L2.PI.imp {X : Cx} {tg e : Expr} {t t' : TI} (h : PI X tg e t) (w : ∀ σ H Q, t' σ H Q → t σ H Q) : PI X tg e t' := ⟨fun pins s σ H Q I q => h.run pins s σ H Q I (w σ H Q q)⟩
theorem exP.dropsL {tm : List T} {x : Ex} {ρ : DE} : ∀ {ts : List T}, exP g W tm x ρ → exP g W (ts ++ tm) x ρ
  | [], h => h
  | t :: ts, h => exP.drop (exP.dropsL (ts := ts) h)
theorem SR.popL {H : Hp} {σ : L2.St} {sl : List (Option T)} {tm : List T} : ∀ {ts : List T}, SR g H σ sl (ts ++ tm) → SR g H σ sl tm
  | [], h => h
  | t :: ts, h => SR.popL (ts := ts) h.pop
theorem SR.popL1 {H : Hp} {σ : L2.St} {sl : List (Option T)} {tm : List T} {u : T} : ∀ {ts : List T}, SR g H σ sl (u :: (ts ++ tm)) → SR g H σ sl (u :: tm)
  | [], h => h
  | t :: ts, h => SR.popL1 (ts := ts) (h.tmp (by have := h.okT; simp only [List.cons_append, Ts.ok] at this ⊢; exact ⟨this.1, this.2.2⟩) fun a => by simp only [List.cons_append, Ts.oc, Ts.sh]; omega)
theorem for_imp {mi : Cm (List D)} {f : D → Cm Unit} (De : Ends) (σ : L2.St) (H : Hp) (q : tS g W (mFor mi f m) De σ H) : tFor (tI g W mi) (tG g W f) (tS g W m) De σ H := by
  obtain ⟨sl, tm, s, h⟩ := q
  unfold mFor at h
  refine ⟨sl, tm, s, ?_⟩
  cases e : mi (den sl) with
  | exc x ρ => rw [e] at h; exact h
  | stuck => rw [e] at h; exact h
  | ok ds ρ =>
    rw [e] at h
    intro H1 sl1 hd J s1 e1 hJ
    subst e1
    refine ⟨fun i n σ H => ∃ sl, SR g H σ sl (hd ++ tm) ∧ n = ds.length - i ∧ i ≤ ds.length ∧ Lands g W tm (forL f m (ds.drop i) (den sl)) (Post g tm De), ⟨ds.length, sl1, s1, by omega, by omega, by simpa using h⟩, ?_⟩
    rintro i n σ H ⟨sl, s, rfl, hi, hl⟩
    by_cases hlt : i < ds.length
    · obtain ⟨d, hd'⟩ : ∃ d, ds[i]? = some d := ⟨ds[i], List.getElem?_eq_getElem hlt⟩
      have hdrop : ds.drop i = d :: ds.drop (i + 1) := by
        rw [List.drop_eq_getElem_cons hlt]
        rw [List.getElem?_eq_getElem hlt] at hd'
        rw [Option.some.inj hd']
      rw [hdrop] at hl
      obtain ⟨go, yl⟩ := hJ.go i d H σ sl tm s hd'
      refine .inr ⟨go, fun σ' H' => ∃ sl, SR g H' σ' sl (hd ++ tm) ∧ Lands g W tm (forL f m (ds.drop (i + 1)) (den sl)) (Post g tm De), fun σ' H' ⟨sl', s', h'⟩ => ⟨ds.length - (i + 1), by omega, sl', s', rfl, by omega, h'⟩, fun x H' hy => ?_⟩
      obtain ⟨t, s2, rfl, rfl⟩ := yl x H' hy
      refine ⟨sl, hd ++ tm, t, s2, rfl, ?_⟩
      simp only [forL] at hl
      cases q1 : f t.d (den sl) with
      | exc x ρ => rw [q1] at hl; exact exP.dropsL hl
      | stuck => rw [q1] at hl; exact hl
      | ok u ρ =>
        rw [q1] at hl
        intro H3 σ3 sl3 s3 e3
        subst e3
        refine ⟨sl3, hd ++ tm, s3, ?_⟩
        simp only [R.bind_ok] at hl
        cases q2 : m (den sl3) with
        | exc x ρ => rw [q2] at hl; exact exP.dropsL hl
        | stuck => rw [q2] at hl; exact hl
        | ok o ρ =>
          rw [q2] at hl
          cases o with
          | nx => exact fun H' σ' sl' s' e' => ⟨sl', s', by subst e'; exact hl⟩
          | ct => exact fun H' σ' sl' s' e' => ⟨sl', s', by subst e'; exact hl⟩
          | brk => exact fun H' σ' sl' s' e' => hl H' σ' sl' s'.popL e'
          | ret d => exact fun H' σ' sl' t s' e1 e2 => hl H' σ' sl' t s'.popL1 e1 e2
    · have e : i = ds.length := by omega
      subst e
      rw [List.drop_length] at hl
      exact .inl ⟨hJ.stop H σ sl tm s, hl H σ sl s.popL rfl⟩
theorem s_for {mi : Cm (List D)} {f : D → Cm Unit} (hp : PassesOwn (model X.prog X.w) X.A X.env X.xe) (hc : X.calm = true) (hi : PI X tg iter (tI g W mi)) (hg : PG X tg (tG g W f)) (hb : PSs X body (tS g W m))
    (hs : ∀ x, foldedSetIterable iter X.env x = pure x := by intro _; rfl) : PS X (.For tg iter body [] pos) (tS g W (mFor mi f m)) := (ps_for hp hc hi hg hb hs).imp for_imp
def FUEL : Nat := 1000000000
def mWhile (c : Cm Bool) (b : Cm Out) : Cm Out := whileL c b FUEL
theorem while_imp (n : Nat) (De : Ends) (σ : L2.St) (H : Hp) (q : tS g W (whileL mc m n) De σ H) : tWhile (tT g W mc) (tS g W m) De σ H := by
  obtain ⟨sl, tm, s, h⟩ := q
  refine ⟨fun n σ H => ∃ sl, SR g H σ sl tm ∧ Lands g W tm (whileL mc m n (den sl)) (Post g tm De), ⟨n, sl, s, h⟩, ?_⟩
  rintro n σ H ⟨sl, s, h⟩
  cases n with
  | zero => exact h.elim
  | succ n =>
    simp only [whileL] at h
    refine tT.of s h fun H' sl' k s' h' => ?_
    cases k with
    | false => rw [if_neg Bool.false_ne_true]; exact h' H' σ sl' s' rfl
    | true =>
      rw [if_pos rfl]
      refine ⟨fun σ' H' => ∃ sl, SR g H' σ' sl tm ∧ Lands g W tm (whileL mc m n (den sl)) (Post g tm De), fun σ' H' ⟨sl, s, h⟩ => ⟨n, by omega, sl, s, h⟩, sl', tm, s', ?_⟩
      simp only [if_true] at h'
      cases q2 : m (den sl') with
      | exc x ρ => rw [q2] at h'; exact h'
      | stuck => rw [q2] at h'; exact h'
      | ok o ρ =>
        rw [q2] at h'
        cases o with
        | nx => exact fun H' σ' sl' s' e' => ⟨sl', s', by subst e'; exact h'⟩
        | ct => exact fun H' σ' sl' s' e' => ⟨sl', s', by subst e'; exact h'⟩
        | brk => exact h'
        | ret d => exact h'
theorem s_while (hp : PassesOwn (model X.prog X.w) X.A X.env X.xe) (hc : PT X c (tT g W mc)) (hb : PSs X body (tS g W m)) : PS X (.While c body [] pos) (tS g W (mWhile mc m)) := (ps_while hp hc hb).imp (while_imp FUEL)

/-- a list (or a tuple) that is walked: held by two from now on -/
def mItems (ma : Cm D) : Cm (List D) := fun ρ => (ma ρ).bind fun d ρ => match d.fz with
  | .lst _ ds => .ok ds ρ
  | .tup ds => .ok ds ρ
  | _ => .stuck
def mItemsL (ma : Cm D) : Cm (List D) := fun ρ => (ma ρ).bind fun d ρ => match d.fz with
  | .lst _ ds => .ok ds ρ
  | _ => .stuck
def mItemsT (ma : Cm D) : Cm (List D) := fun ρ => (ma ρ).bind fun d ρ => match d.fz with
  | .tup ds => .ok ds ρ
  | _ => .stuck
theorem SR.fz1 {H : Hp} {σ : L2.St} {sl : List (Option T)} {tm : List T} {t : T} (s : SR g H σ sl (t :: tm)) : SR g H σ sl (t.fz :: tm) :=
  s.tmp (by have := s.okT; simp only [Ts.ok] at this ⊢; exact ⟨T.fz_ok t this.1, this.2⟩) fun a => by
    have i := s.inv a
    simp only [Ts.oc, Ts.sh, T.fz_oc, T.fz_sh] at i ⊢
    omega
theorem SR.dupK {H : Hp} {σ : L2.St} {sl : List (Option T)} {tm tms : List T} {u : T} (s : SR g H σ sl tm) (ok : u.ok g.c H) (ho : ∀ a, u.oc a = 0) (hs : ∀ a, u.sh a ≤ Ts.sh a tm) : SR g H σ sl (u :: tm) :=
  s.tmp (by simp only [Ts.ok]; exact ⟨ok, s.okT⟩) fun a => by have := ho a; have := hs a; simp only [Ts.oc, Ts.sh]; omega
theorem it_list {K : PySem.W.Frag} (hK : K = g.c.K) {p : Addr} {o : Ow} {xs : List T} (hx : ∀ a, Ts.oc a xs = 0) : ItOk g (Itl K p) [T.lst p o xs] (Ts.d xs) where
  stop := fun H σ sl tm s => by
    have q := lst_sq s.top
    exact ⟨_, by rw [hK]; exact q.1, by simp [Ts.d_len]⟩
  go := fun i d H σ sl tm s h => by
    have q := lst_sq s.top
    rw [Ts.d_map, List.getElem?_map, Option.map_eq_some_iff] at h
    obtain ⟨t, ht, rfl⟩ := h
    have m := List.mem_of_getElem? ht
    refine ⟨⟨_, t.v, by rw [hK]; exact q.1, by rw [List.getElem?_map, ht]; rfl⟩, fun x H' hy => ?_⟩
    obtain ⟨rfl, hy⟩ := hy
    have e := hy _ (by rw [hK]; exact q.1)
    rw [List.getElem?_map, ht] at e
    refine ⟨t, s.dupK (tms := []) (Ts.ok_iff.mp q.2.2 t m) (fun a => ?_) (fun a => ?_), rfl, Option.some.inj e⟩
    · have h1 := Ts.oc_mem (a := a) m; have := hx a; omega
    · have h1 := Ts.sh_mem (a := a) m
      simp only [List.singleton_append, Ts.sh, T.sh]; omega
theorem it_tup {K : PySem.W.Frag} (hK : K = g.c.K) {p : Addr} {o : Bool} {xs : List T} (hx : ∀ a, Ts.oc a xs = 0) : ItOk g (Itt K p) [T.tup p o xs] (Ts.d xs) where
  stop := fun H σ sl tm s => by
    have q := tup_sq s.top
    exact ⟨_, by rw [hK]; exact q.1, by simp [Ts.d_len]⟩
  go := fun i d H σ sl tm s h => by
    have q := tup_sq s.top
    rw [Ts.d_map, List.getElem?_map, Option.map_eq_some_iff] at h
    obtain ⟨t, ht, rfl⟩ := h
    have m := List.mem_of_getElem? ht
    refine ⟨⟨_, t.v, by rw [hK]; exact q.1, by rw [List.getElem?_map, ht]; rfl⟩, fun x H' hy => ?_⟩
    obtain ⟨rfl, hy⟩ := hy
    have e := hy _ (by rw [hK]; exact q.1)
    rw [List.getElem?_map, ht] at e
    refine ⟨t, s.dupK (tms := []) (Ts.ok_iff.mp q.2.2 t m) (fun a => ?_) (fun a => ?_), rfl, Option.some.inj e⟩
    · have h1 := Ts.oc_mem (a := a) m; have := hx a; omega
    · have h1 := Ts.sh_mem (a := a) m
      simp only [List.singleton_append, Ts.sh, T.sh]; omega
theorem i_list (hK : X.K = g.c.K) (h : PE X iter (tE g W ma)) : PI X tg iter (tI g W (mItemsL ma)) := (pi_list h).imp fun σ H R ⟨sl, tm, s, q⟩ => by
  refine tE.of s q fun H' sl' t s' h' => ?_
  rw [← T.fz_d] at h'
  have s2 := s'.fz1
  rw [← T.fz_v]
  cases e : t.fz with
  | lst p o xs =>
    rw [e] at h' s2
    refine ⟨p, rfl, ⟨_, by rw [hK]; exact (lst_sq s2.top).1⟩, h' H' sl' [_] _ s2 rfl (it_list hK fun a => ?_)⟩
    have := T.fz_oc a t
    rw [e] at this
    simp only [T.oc] at this
    omega
  | _ => rw [e] at h'; exact h'.elim
theorem i_tup (hK : X.K = g.c.K) (h : PE X iter (tE g W ma)) : PI X tg iter (tI g W (mItemsT ma)) := (pi_tup h).imp fun σ H R ⟨sl, tm, s, q⟩ => by
  refine tE.of s q fun H' sl' t s' h' => ?_
  rw [← T.fz_d] at h'
  have s2 := s'.fz1
  rw [← T.fz_v]
  cases e : t.fz with
  | tup p o xs =>
    rw [e] at h' s2
    refine ⟨p, rfl, ⟨_, by rw [hK]; exact (tup_sq s2.top).1⟩, h' H' sl' [_] _ s2 rfl (it_tup hK fun a => ?_)⟩
    have := T.fz_oc a t
    rw [e] at this
    simp only [T.oc] at this
    omega
  | _ => rw [e] at h'; exact h'.elim
/-- range -/
def rangeD (lo : Int) (n : Nat) : List D := (List.range n).map fun k : Nat => D.int (lo + (k : Int))
def smallR (i : Int) : Prop := i.natAbs < 4611686018427387904
instance (i : Int) : Decidable (smallR i) := by unfold smallR; infer_instance
def mRange1 (ma : Cm D) : Cm (List D) := fun ρ => (ma ρ).bind fun d ρ => match d with
  | .sc (.int j) => if smallR j then .ok (rangeD 0 j.toNat) ρ else .stuck
  | _ => .stuck
def mRange2 (ma mb : Cm D) : Cm (List D) := fun ρ => (ma ρ).bind fun d ρ => (mb ρ).bind fun d' ρ => match d, d' with
  | .sc (.int i), .sc (.int j) => if smallR i ∧ smallR j then .ok (rangeD i (j - i).toNat) ρ else .stuck
  | _, _ => .stuck
theorem it_range {lo : Int} {n : Nat} : ItOk g (Itr lo n) [] (rangeD lo n) where
  stop := fun H σ sl tm s => by simp [rangeD, Itr]
  go := fun i d H σ sl tm s h => by
    unfold rangeD at h
    rw [List.getElem?_map, Option.map_eq_some_iff] at h
    obtain ⟨k, hk, rfl⟩ := h
    have hlt : i < n := by
      by_cases q : i < n
      · exact q
      · rw [List.getElem?_eq_none (by simp; omega)] at hk; cases hk
    rw [List.getElem?_range hlt] at hk
    cases hk
    refine ⟨hlt, fun x H' hy => ?_⟩
    obtain ⟨rfl, rfl⟩ := hy
    exact ⟨.sc (.int (lo + (i : Int))), s.push _ trivial, rfl, rfl⟩
theorem small62 {i : Int} (h : smallR i) : -(2 ^ 62) ≤ i ∧ i < 2 ^ 62 := by
  have : (2 : Int) ^ 62 = 4611686018427387904 := by decide
  unfold smallR at h
  omega
theorem tA1 {σ : L2.St} {H : Hp} {sl : List (Option T)} {tm : List T} {Q : List V → Hp → Prop} {f : D → Cm α} {k : α → DE → Prop} (s : SR g H σ sl tm) (h : Lands g W tm ((ma (den sl)).bind f) k)
    (q : ∀ H' sl' t, SR g H' σ sl' (t :: tm) → Lands g W tm (f t.d (den sl')) k → Q [t.v] H') : tA g W [ma] σ H Q := by
  refine tA.of (f := fun ds ρ => match ds with | [d] => f d ρ | _ => .stuck) (k := k) s ?_ fun H' sl' ts s' h' => ?_
  · revert h
    simp only [mArgs]
    cases ma (den sl) <;> simp [R.bind, Lands]
  · match ts, s', h' with
    | [], _, h' => exact h'.elim
    | _ :: _ :: _, _, h' => exact h'.elim
    | [t], s', h' => exact q H' sl' t s' h'
theorem tA2 {σ : L2.St} {H : Hp} {sl : List (Option T)} {tm : List T} {Q : List V → Hp → Prop} {f : D → D → Cm α} {k : α → DE → Prop} (s : SR g H σ sl tm) (h : Lands g W tm ((ma (den sl)).bind fun x ρ => (mb ρ).bind fun y ρ => f x y ρ) k)
    (q : ∀ H' sl' t u, SR g H' σ sl' (u :: t :: tm) → Lands g W tm (f t.d u.d (den sl')) k → Q [t.v, u.v] H') : tA g W [ma, mb] σ H Q := by
  refine tA.of (f := fun ds ρ => match ds with | [x, y] => f x y ρ | _ => .stuck) (k := k) s ?_ fun H' sl' ts s' h' => ?_
  · revert h
    simp only [mArgs]
    cases ma (den sl) with
    | ok x ρ => cases e : mb ρ <;> simp [e, R.bind, Lands]
    | exc x ρ => simp [R.bind, Lands]
    | stuck => simp [R.bind, Lands]
  · match ts, s', h' with
    | [], _, h' => exact h'.elim
    | [_], _, h' => exact h'.elim
    | _ :: _ :: _ :: _, _, h' => exact h'.elim
    | [t, u], s', h' => exact q H' sl' t u s' h'
theorem i_range1 {p : Pos} (hg : Gl X "range") (hm : X.mg "range" = none) (ha : PA X [a] (tA g W [ma])) (hs : starEach [a] X.env = [(false, eval a X.env)] := by rfl) : PI X tg (.Call (.Name "range" p) [a] [] pos) (tI g W (mRange1 ma)) := (pi_range1 hg hm ha hs).imp fun σ H R ⟨sl, tm, s, q⟩ => by
  refine tA1 s q fun H' sl' t s' h' => ?_
  cases t with
  | sc x =>
    cases x with
    | int j =>
      simp only [T.d] at h'
      split at h'
      · rename_i hj
        exact ⟨j, rfl, (small62 hj).1, (small62 hj).2, h' H' sl' [] _ s'.pop rfl it_range⟩
      · exact h'.elim
    | _ => exact h'.elim
  | _ => exact h'.elim
theorem i_range2 {p : Pos} (hg : Gl X "range") (hm : X.mg "range" = none) (ha : PA X [a, b] (tA g W [ma, mb])) (hs : starEach [a, b] X.env = [(false, eval a X.env), (false, eval b X.env)] := by rfl) (hs2 : starEach [b] X.env = [(false, eval b X.env)] := by rfl) :
    PI X tg (.Call (.Name "range" p) [a, b] [] pos) (tI g W (mRange2 ma mb)) := (pi_range2 hg hm ha hs hs2).imp fun σ H R ⟨sl, tm, s, q⟩ => by
  refine tA2 s q fun H' sl' t u s' h' => ?_
  cases t with
  | sc x =>
    cases u with
    | sc y =>
      cases x with
      | int i =>
        cases y with
        | int j =>
          simp only [T.d] at h'
          split at h'
          · rename_i hj
            exact ⟨i, j, rfl, ⟨(small62 hj.1).1, (small62 hj.1).2, (small62 hj.2).1, (small62 hj.2).2⟩, h' H' sl' [] _ s'.pop.pop rfl it_range⟩
          · exact h'.elim
        | _ => exact h'.elim
      | _ => exact h'.elim
    | _ => exact absurd h' (by cases x <;> exact id)
  | _ => exact h'.elim
end
end VS

/-! VS, part i: comprehensions. -/
namespace VS
open PySem PySem.Spec PyProof.Rows L2

def wipeD (ρ : DE) : List Nat → DE
  | [] => ρ
  | v :: vs => (wipeD ρ vs).set v none
def wipeS (sl : List (Option T)) : List Nat → List (Option T)
  | [] => sl
  | v :: vs => (wipeS sl vs).set v none
/-- what stood in the block's own slots: nothing, or no made thing -/
def saved (ρ : DE) : List Nat → Option (List (Option Sc))
  | [] => some []
  | v :: vs => match ρ[v]? with
    | some none => (saved ρ vs).map (none :: ·)
    | some (some (.sc s)) => (saved ρ vs).map (some s :: ·)
    | _ => none
def restD (ρ : DE) : List Nat → List (Option Sc) → DE
  | v :: vs, s :: ss => (restD ρ vs ss).set v (s.map D.sc)
  | _, _ => ρ
def lcL (g : D → Cm Unit) (t : Cm Bool) (e : Cm D) (vs : List Nat) : List D → Cm (List D)
  | [] => fun ρ => .ok [] ρ
  | d :: ds => fun ρ => (g d ρ).bind fun _ ρ => (t ρ).bind fun b ρ => if b then (e ρ).bind fun y ρ => (lcL g t e vs ds (wipeD ρ vs)).bind fun r ρ => .ok (y :: r) ρ else lcL g t e vs ds (wipeD ρ vs)
/-- nothing is raised within -/
def unexc {α : Type} : R α → R α
  | .ok a ρ => .ok a ρ
  | _ => .stuck
@[simp] theorem unexc_ok {α : Type} (a : α) (ρ : DE) : unexc (.ok a ρ) = .ok a ρ := rfl
def mYes : Cm Bool := fun ρ => .ok true ρ
def mLc (mi : Cm (List D)) (g : D → Cm Unit) (t : Cm Bool) (e : Cm D) (vs : List Nat) : Cm D := fun ρ => (mi ρ).bind fun ds ρ => match saved ρ vs with
  | some ss => if ds.length ≤ 16777216 then (unexc (lcL g t e vs ds (wipeD ρ vs))).bind fun r ρ => .ok (.lst .own r) (restD ρ vs ss) else .stuck
  | none => .stuck

section
variable {X : Cx} {g : Gh} {W : WX} {pos : Pos} {ma mb : Cm D} {mc : Cm Bool} {α : Type}
theorem den_wipe (sl : List (Option T)) : ∀ vs : List Nat, den (wipeS sl vs) = wipeD (den sl) vs
  | [] => rfl
  | v :: vs => by unfold wipeS wipeD; rw [den_set, den_wipe sl vs]; rfl
theorem wipeS_get {sl : List (Option T)} {i : Nat} {t : T} : ∀ {vs : List Nat}, (wipeS sl vs)[i]? = some (some t) → sl[i]? = some (some t) ∧ i ∉ vs
  | [], h => ⟨h, by simp⟩
  | v :: vs, h => by
    unfold wipeS at h
    rcases set_get h with ⟨_, e⟩ | ⟨ne, e⟩
    · cases e
    · obtain ⟨h1, h2⟩ := wipeS_get e
      exact ⟨h1, by simp only [List.mem_cons, not_or]; exact ⟨ne, h2⟩⟩
theorem wipeS_len (sl : List (Option T)) : ∀ vs : List Nat, (wipeS sl vs).length = sl.length
  | [] => rfl
  | v :: vs => by unfold wipeS; rw [List.length_set, wipeS_len sl vs]
theorem So_wipe {f : T → Nat} (sl : List (Option T)) : ∀ vs : List Nat, So f (wipeS sl vs) ≤ So f sl
  | [] => by simp [wipeS]
  | v :: vs => by
    unfold wipeS
    have ih := So_wipe (f := f) sl vs
    by_cases h : v < (wipeS sl vs).length
    · have := So_set (f := f) (x := none) (List.getElem?_eq_getElem h)
      simp only [fO] at this
      omega
    · rw [List.set_eq_of_length_le (by omega)]; exact ih
theorem wipe_get {σ : L2.St} {i : Nat} : ∀ {vs : List Nat}, i ∉ vs → (wipe σ vs)[i]? = σ[i]?
  | [], _ => rfl
  | v :: vs, h => by
    simp only [List.mem_cons, not_or] at h
    unfold wipe
    rw [List.getElem?_set_ne (fun e => h.1 e.symm)]
    exact wipe_get h.2
theorem lookup_zip {α : Type} {i : Nat} {x : α} : ∀ {vs : List Nat} {ss : List α}, (vs.zip ss).lookup i = some x → i ∈ vs
  | [], _, h => by simp at h
  | v :: vs, [], h => by simp at h
  | v :: vs, s :: ss, h => by
    rw [List.zip_cons_cons, List.lookup_cons] at h
    split at h
    · rename_i e
      have e : i = v := by simpa using e
      simp [e]
    · exact List.mem_cons_of_mem _ (lookup_zip h)
theorem mem_get {α : Type} {x : α} {l : List α} (h : x ∈ l) : ∃ i : Nat, l[i]? = some x := by
  obtain ⟨i, hi, e⟩ := List.getElem_of_mem h
  exact ⟨i, by rw [List.getElem?_eq_getElem hi, e]⟩
/-- into a block -/
theorem SR.wipe {H : Hp} {σ : L2.St} {sl : List (Option T)} {tm : List T} {vs : List Nat} (s : SR g H σ sl tm) (hio : ∀ p ∈ g.io, p.1 ∉ vs) : SR g H (L2.wipe σ vs) (wipeS sl vs) tm := by
  refine s.go (fun t m => ?_) s.okT (fun a => .inl ?_) (fun _ => .inl rfl) (by rw [wipe_length]; exact s.len) (by rw [wipeS_len]; exact s.slen) (fun i t h => ?_) (fun p hp => ?_)
  · obtain ⟨i, hi⟩ := mem_get m
    exact s.okS t (List.mem_of_getElem? (wipeS_get hi).1)
  · have h1 := So_wipe (f := T.oc a) sl vs
    have h2 := So_wipe (f := T.sh a) sl vs
    omega
  · obtain ⟨h1, h2⟩ := wipeS_get h
    rw [wipe_get h2]
    exact s.at_ i t h1
  · rw [wipe_get (hio p hp)]
    exact s.io p hp
/-- .. and on, the slots wiped again -/
theorem SR.rewipe {H : Hp} {σ σ2 : L2.St} {sl : List (Option T)} {tm : List T} {vs : List Nat} (s : SR g H σ2 sl tm) (hw : L2.wipe σ2 vs = L2.wipe σ vs) (hio : ∀ p ∈ g.io, p.1 ∉ vs) : SR g H (L2.wipe σ vs) (wipeS sl vs) tm := by
  rw [← hw]; exact s.wipe hio
/-- out of a block -/
theorem SR.unwipe {H : Hp} {σ : L2.St} {tm : List T} {ws : List Nat} (hσ : σ.length = g.N) : ∀ {vs : List Nat} {ss : List (Option Sc)} {sl : List (Option T)}, vs.Nodup → (∀ v ∈ vs, v ∈ ws) → (∀ p ∈ g.io, p.1 ∉ ws) →
    (∀ (i : Nat) (s : Sc), (vs.zip ss).lookup i = some (some s) → σ[i]? = some (some s.v) ∧ s.good) → vs.length = ss.length → SR g H (L2.wipe σ ws) (wipeS sl ws) tm →
    ∃ sl', den sl' = restD (den (wipeS sl ws)) vs ss ∧ (∀ t, some t ∈ sl' → t.ok g.c H) ∧ (∀ a, So (T.oc a) sl' = So (T.oc a) (wipeS sl ws) ∧ So (T.sh a) sl' = So (T.sh a) (wipeS sl ws)) ∧ sl'.length = g.N ∧ ∀ (i : Nat) (t : T), sl'[i]? = some (some t) → σ[i]? = some (some t.v)
  | [], [], sl, _, _, _, _, _, s => ⟨wipeS sl ws, rfl, s.okS, fun a => ⟨rfl, rfl⟩, s.slen, fun i t h => by
      have := s.at_ i t h
      exact (wipe_some this).1⟩
  | v :: vs, x :: ss, sl, nd, hv, hio, hs, hl, s => by
    obtain ⟨nv, nd⟩ := List.nodup_cons.mp nd
    obtain ⟨sl', e1, e2, e3, e4, e5⟩ := SR.unwipe (vs := vs) (ss := ss) hσ nd (fun u hu => hv u (List.mem_cons_of_mem _ hu)) hio (fun i s h => hs i s (by
      rw [List.zip_cons_cons, List.lookup_cons]
      have : (i == v) = false := by
        rw [beq_eq_false_iff_ne]
        rintro rfl
        exact nv (lookup_zip h)
      rw [this]; exact h)) (by simpa using hl) s
    have hx : ∀ s, x = some s → σ[v]? = some (some s.v) ∧ s.good := fun s e => hs v s (by rw [List.zip_cons_cons, List.lookup_cons, beq_self_eq_true, e])
    by_cases hlt : v < sl'.length
    · refine ⟨sl'.set v (x.map T.sc), ?_, fun t m => ?_, fun a => ?_, by simp [e4], fun i t h => ?_⟩
      · rw [den_set, e1]
        simp only [restD]
        cases x <;> rfl
      · rcases mem_set m with e | e
        · cases x with
          | none => cases e
          | some s => cases e; simpa [T.ok] using (hx s rfl).2
        · exact e2 t e
      · have g0 : sl'[v]? = some none ∨ ∃ s : Sc, sl'[v]? = some (some (T.sc s)) ∨ True := .inr ⟨.non, .inr trivial⟩
        obtain ⟨y, hy⟩ : ∃ y, sl'[v]? = some y := ⟨sl'[v], List.getElem?_eq_getElem hlt⟩
        have h1 := So_set (f := T.oc a) (x := x.map T.sc) hy
        have h2 := So_set (f := T.sh a) (x := x.map T.sc) hy
        have ny : y = none := by
          have z : (den sl')[v]? = (den (wipeS sl ws))[v]? := by
            rw [e1]
            clear e1 e2 e3 e4 e5 hx hs hl s hv hy h1 h2
            revert nv
            induction vs generalizing ss with
            | nil => intro _; rfl
            | cons u us ih =>
              intro nv
              cases ss with
              | nil => rfl
              | cons z zs =>
                simp only [restD]
                simp only [List.mem_cons, not_or] at nv
                rw [List.getElem?_set_ne (fun e => nv.1 e.symm)]
                exact ih zs (List.nodup_cons.mpr ⟨nv.2, (List.nodup_cons.mp nd).2⟩) (List.nodup_cons.mp nd).2 nv.2
          have w : ∀ t, (wipeS sl ws)[v]? ≠ some (some t) := fun t e => (wipeS_get e).2 (hv v (by simp))
          cases y with
          | none => rfl
          | some t =>
            exfalso
            have z1 : (den sl')[v]? = some (some t.d) := by unfold den; rw [List.getElem?_map, hy]; rfl
            rw [z] at z1
            obtain ⟨t', z2, _⟩ := den_get z1
            exact w t' z2
        subst ny
        have h3 := e3 a
        cases x <;> simp [fO, T.oc, T.sh] at h1 h2 ⊢ <;> omega
      · rcases set_get h with ⟨rfl, e⟩ | ⟨_, e⟩
        · cases x with
          | none => cases e
          | some s => cases e; exact (hx s rfl).1
        · exact e5 i t e
    · refine ⟨sl', ?_, e2, e3, e4, e5⟩
      rw [e1]
      simp only [restD]
      rw [List.set_eq_of_length_le]
      rw [← e1, den_len]
      omega
theorem saved_ok {H : Hp} {σ : L2.St} {sl : List (Option T)} {tm : List T} (s : SR g H σ sl tm) : ∀ {vs : List Nat} {ss : List (Option Sc)}, saved (den sl) vs = some ss → vs.length = ss.length ∧ ∀ (i : Nat) (x : Sc), (vs.zip ss).lookup i = some (some x) → σ[i]? = some (some x.v) ∧ x.good
  | [], ss, h => by simp [saved] at h; subst h; simp
  | v :: vs, ss, h => by
    unfold saved at h
    split at h
    · obtain ⟨r, hr, rfl⟩ := Option.map_eq_some_iff.mp h
      obtain ⟨h1, h2⟩ := saved_ok s hr
      refine ⟨by simp [h1], fun i x hx => ?_⟩
      rw [List.zip_cons_cons, List.lookup_cons] at hx
      split at hx
      · cases hx
      · exact h2 i x hx
    · rename_i y e
      obtain ⟨r, hr, rfl⟩ := Option.map_eq_some_iff.mp h
      obtain ⟨h1, h2⟩ := saved_ok s hr
      refine ⟨by simp [h1], fun i x hx => ?_⟩
      rw [List.zip_cons_cons, List.lookup_cons] at hx
      split at hx
      · rename_i hb
        have hb : i = v := by simpa using hb
        subst hb
        cases hx
        obtain ⟨t, e1, e2, e4, e3⟩ := s.val e
        cases t with
        | sc z =>
          simp only [T.d, D.sc.injEq] at e2
          subst e2
          exact ⟨e3, by simpa [T.ok] using e4⟩
        | _ => simp [T.d] at e2
      · exact h2 i x hx
    · cases h
abbrev W0 : WX := fun _ _ _ _ => False
/-- a list held on top grows by what is held above it -/
theorem SR.grow {H : Hp} {σ : L2.St} {sl : List (Option T)} {tm : List T} {p : Addr} {xs : List T} {t : T} (s : SR g H σ sl (t :: T.lst p .own xs :: tm)) (hz : xs.length < 16777216) :
    SR g (upd H p (.lst ((xs ++ [t]).map T.v))) σ sl (T.lst p .own (xs ++ [t]) :: tm) := by
  have k := s.okT
  simp only [Ts.ok, T.ok] at k
  obtain ⟨kt, ⟨kp, kz, kx⟩, ktm⟩ := k
  have iv := s.inv p
  simp only [Ts.oc, Ts.sh, T.oc, T.sh] at iv
  have b1 : b2 (True ∧ True) = 1 := by simp [b2]
  rw [b1] at iv
  refine s.go (s.stayS fun a q => upd_ne fun e => ?_) ?_ (fun a => .inl ?_) (fun a => ?_) s.len s.slen s.at_ s.io
  · subst e; omega
  · simp only [Ts.ok, T.ok]
    refine ⟨⟨upd_same, by simp; omega, ?_⟩, Ts.stay tm ktm fun a q => upd_ne fun e => ?_⟩
    · rw [Ts.ok_iff]
      intro u m
      rcases List.mem_append.mp m with m | m
      · refine T.stay u (Ts.ok_iff.mp kx u m) fun a q => upd_ne fun e => ?_
        subst e
        have h1 := Ts.oc_mem (a := a) m; have h2 := Ts.sh_mem (a := a) m
        omega
      · have e := List.mem_singleton.mp m
        subst e
        refine T.stay u kt fun a q => upd_ne fun e => ?_
        subst e; omega
    · subst e; omega
  · simp only [Ts.oc, Ts.sh, T.oc, T.sh, Ts.oc_append, Ts.sh_append]
    omega
  · by_cases e : a = p
    · subst e
      refine .inr (.inr ?_)
      simp only [Ts.oc, T.oc]
      rw [b1]
      omega
    · exact .inl (upd_ne e)
theorem lc_imp {mi : Cm (List D)} {f : D → Cm Unit} {t : Cm Bool} {e : Cm D} {vs : List Nat} (hnd : vs.Nodup) (hio : ∀ p ∈ g.io, p.1 ∉ vs) (hw : ∀ (d : D) (ρ : DE) (u : Unit) (ρ' : DE), f d ρ = .ok u ρ' → True)
    {gt : TG} (hg : ∀ (v : V) (σ : L2.St) (H : Hp) (Q : L2.St → Hp → Prop), tG g W0 f v (L2.wipe σ vs) H (fun σ2 H2 => L2.wipe σ2 vs = L2.wipe σ vs → Q σ2 H2) → gt v (L2.wipe σ vs) H fun σ2 H2 => L2.wipe σ2 vs = L2.wipe σ vs ∧ Q σ2 H2) (σ : L2.St) (H : Hp) (Q : VK) (q : tE g W (mLc mi f t e vs) σ H Q) :
    tLc (tI g W mi) gt (tT g W0 t) (tE g W0 e) vs σ H Q := by
  obtain ⟨sl, tm, s, h⟩ := q
  unfold mLc at h
  refine ⟨sl, tm, s, ?_⟩
  cases ei : mi (den sl) with
  | exc x ρ => rw [ei] at h; exact h
  | stuck => rw [ei] at h; exact h
  | ok ds ρ =>
    rw [ei] at h
    intro H1 sl1 hd J s1 e1 hJ Dd hD
    subst e1
    simp only [R.bind_ok] at h
    split at h
    · rename_i ss hss
      obtain ⟨hl, hsv⟩ := saved_ok s1 hss
      by_cases hz : ds.length ≤ 16777216
      · rw [if_pos hz] at h
        -- the new list, held
        have s2 : SR g (upd H1 Dd (.lst [])) σ sl1 (T.lst Dd .own [] :: (hd ++ tm)) := by
          have := s1.newL (xs := []) (tm := hd ++ tm) (ts := []) hD (by simp) (by simp [Ts.ok]) (fun a => by simp [Ts.oc, Ts.sh])
          simpa using this
        have reorder : ∀ {H σ sl} {acc : List T}, SR g H σ sl (T.lst Dd .own acc :: (hd ++ tm)) → SR g H σ sl (hd ++ (T.lst Dd .own acc :: tm)) := fun {H σ sl acc} s => s.tmp (by
          have := s.okT
          rw [Ts.ok_iff] at this ⊢
          intro u m
          exact this u (by simp at m ⊢; rcases m with m | m | m <;> simp [m])) fun a => by simp only [Ts.oc, Ts.sh, Ts.oc_append, Ts.sh_append]; omega
        have reorder' : ∀ {H σ sl} {acc : List T} {u : T}, SR g H σ sl (u :: (hd ++ (T.lst Dd .own acc :: tm))) → SR g H σ sl (u :: T.lst Dd .own acc :: (hd ++ tm)) := fun {H σ sl acc u} s => s.tmp (by
          have := s.okT
          rw [Ts.ok_iff] at this ⊢
          intro u m
          exact this u (by simp at m ⊢; rcases m with m | m | m | m <;> simp [m])) fun a => by simp only [Ts.oc, Ts.sh, Ts.oc_append, Ts.sh_append]; omega
        have reorder1 : ∀ {H σ sl} {acc : List T}, SR g H σ sl (hd ++ (T.lst Dd .own acc :: tm)) → SR g H σ sl (T.lst Dd .own acc :: (hd ++ tm)) := fun {H σ sl acc} s => s.tmp (by
          have := s.okT
          rw [Ts.ok_iff] at this ⊢
          intro u m
          exact this u (by simp at m ⊢; rcases m with m | m | m <;> simp [m])) fun a => by simp only [Ts.oc, Ts.sh, Ts.oc_append, Ts.sh_append]; omega
        -- what the rest of the walk makes
        have Rest : ∀ (i : Nat) (acc : List T) (ρ : DE), Prop := fun i acc ρ => True
        refine ⟨fun i n H => ∃ sl acc, SR g H (L2.wipe σ vs) (wipeS sl vs) (T.lst Dd .own acc :: (hd ++ tm)) ∧ n = ds.length - i ∧ i ≤ ds.length ∧ acc.length ≤ i ∧
          Lands g W tm ((unexc (lcL f t e vs (ds.drop i) (den (wipeS sl vs)))).bind fun r ρ => R.ok (D.lst .own (Ts.d acc ++ r)) (restD ρ vs ss)) (fun d ρ' => ∀ H' sl' t, SR g H' σ sl' (t :: tm) → den sl' = ρ' → t.d = d → Q t.v H'),
          ⟨ds.length, sl1, [], s2.wipe hio, by omega, by omega, by simp, by simpa [den_wipe, Ts.d] using h⟩, ?_⟩
        rintro i n H ⟨sl, acc, s, rfl, hi, hacc, hl'⟩
        by_cases hlt : i < ds.length
        · obtain ⟨d, hd'⟩ : ∃ d, ds[i]? = some d := ⟨ds[i], List.getElem?_eq_getElem hlt⟩
          have hdrop : ds.drop i = d :: ds.drop (i + 1) := by
            rw [List.drop_eq_getElem_cons hlt]
            rw [List.getElem?_eq_getElem hlt] at hd'
            rw [Option.some.inj hd']
          rw [hdrop] at hl'
          obtain ⟨go, yl⟩ := hJ.go i d H _ _ (T.lst Dd .own acc :: tm) (reorder s) hd'
          refine .inr ⟨go, fun H' => ∃ sl acc, SR g H' (L2.wipe σ vs) (wipeS sl vs) (T.lst Dd .own acc :: (hd ++ tm)) ∧ acc.length ≤ i + 1 ∧
            Lands g W tm ((unexc (lcL f t e vs (ds.drop (i + 1)) (den (wipeS sl vs)))).bind fun r ρ => R.ok (D.lst .own (Ts.d acc ++ r)) (restD ρ vs ss)) (fun d ρ' => ∀ H' sl' t, SR g H' σ sl' (t :: tm) → den sl' = ρ' → t.d = d → Q t.v H'),
            fun H' ⟨sl', acc', s', ha, h'⟩ => ⟨ds.length - (i + 1), by omega, sl', acc', s', rfl, by omega, ha, h'⟩, fun x H' hy => ?_⟩
          obtain ⟨tt, s2, rfl, rfl⟩ := yl x H' hy
          refine hg _ _ _ _ ⟨wipeS sl vs, hd ++ (T.lst Dd .own acc :: tm), tt, s2, rfl, ?_⟩
          simp only [lcL] at hl'
          cases q1 : f tt.d (den (wipeS sl vs)) with
          | exc x ρ => rw [q1] at hl'; exact hl'.elim
          | stuck => rw [q1] at hl'; exact hl'.elim
          | ok u ρ =>
            rw [q1] at hl'
            simp only [R.bind_ok] at hl'
            intro H3 σ3 sl3 s3 e3 hwp
            subst e3
            refine ⟨sl3, hd ++ (T.lst Dd .own acc :: tm), s3, ?_⟩
            cases q2 : t (den sl3) with
            | exc x ρ => rw [q2] at hl'; exact hl'.elim
            | stuck => rw [q2] at hl'; exact hl'.elim
            | ok b ρ =>
              rw [q2] at hl'
              simp only [R.bind_ok] at hl'
              intro H4 sl4 s4 e4
              subst e4
              cases b with
              | false =>
                rw [if_neg Bool.false_ne_true]
                simp only [Bool.false_eq_true, if_false] at hl'
                have hσ : L2.wipe σ3 vs = L2.wipe σ vs := hwp
                refine ⟨sl4, acc, (reorder1 s4).rewipe hσ hio, by omega, ?_⟩
                rw [den_wipe]
                exact hl'
              | true =>
                rw [if_pos rfl]
                simp only [if_true] at hl'
                refine ⟨sl4, hd ++ (T.lst Dd .own acc :: tm), s4, ?_⟩
                cases q3 : e (den sl4) with
                | exc x ρ => rw [q3] at hl'; exact hl'.elim
                | stuck => rw [q3] at hl'; exact hl'.elim
                | ok y ρ =>
                  rw [q3] at hl'
                  simp only [R.bind_ok] at hl'
                  intro H5 sl5 u s5 e5 ey
                  subst e5 ey
                  have s6 := reorder' s5
                  have ko := s6.okT
                  simp only [Ts.ok, T.ok] at ko
                  refine ⟨acc.map T.v, ko.2.1.1, by rw [SZ_eq, List.length_map]; omega, ?_⟩
                  have s7 := s6.grow (by omega)
                  rw [List.map_append] at s7
                  have hσ : L2.wipe σ3 vs = L2.wipe σ vs := hwp
                  refine ⟨sl5, acc ++ [u], s7.rewipe hσ hio, by simp; omega, ?_⟩
                  rw [den_wipe]
                  cases q4 : lcL f t e vs (ds.drop (i + 1)) (wipeD (den sl5) vs) with
                  | exc x ρ => rw [q4] at hl'; exact hl'.elim
                  | stuck => rw [q4] at hl'; exact hl'.elim
                  | ok r ρ =>
                    rw [q4] at hl'
                    simpa [Ts.d_append, Ts.d] using hl'
        · have e : i = ds.length := by omega
          subst e
          rw [List.drop_length] at hl'
          refine .inl ⟨hJ.stop H _ _ (T.lst Dd .own acc :: tm) (reorder s), ?_⟩
          simp only [lcL, unexc_ok, R.bind_ok, List.append_nil] at hl'
          obtain ⟨sl', e1, e2, e3, e4, e5⟩ := SR.unwipe (sl := sl) s1.len hnd (fun v h => h) hio hsv hl s
          have s3 : SR g H σ sl' (T.lst Dd .own acc :: tm) := by
            refine (s.tmp (tm' := T.lst Dd .own acc :: tm) (by
              have := s.okT
              rw [Ts.ok_iff] at this ⊢
              intro u m
              exact this u (by simp at m ⊢; rcases m with m | m <;> simp [m])) fun a => by simp only [Ts.oc, Ts.sh, Ts.oc_append, Ts.sh_append]; omega).go e2 ?_ (fun a => .inl ?_) (fun _ => .inl rfl) s1.len e4 e5 s1.io
            · have := s.okT
              rw [Ts.ok_iff] at this ⊢
              intro u m
              exact this u (by simp at m ⊢; rcases m with m | m <;> simp [m])
            · have := e3 a; omega
          exact hl' H sl' _ s3 e1 (by simp [T.d])
      · rw [if_neg hz] at h; exact h.elim
    · exact h.elim
end
end VS
namespace VS
open PySem PySem.Spec PyProof.Rows L2
section
variable {X : Cx} {g : Gh} {W : WX} {pos : Pos} {ma mb : Cm D} {mc : Cm Bool} {elt tg iter : Expr} {ifs : List Expr} {scope : Scope} {own : List (Str × Nat)} {mi : Cm (List D)} {t : Cm Bool} {e : Cm D}
theorem hg_name {i : Nat} (hi : i < g.N) (hio : ∀ p ∈ g.io, p.1 ≠ i) (v : V) (σ : L2.St) (H : Hp) (Q : L2.St → Hp → Prop) (h : tG g W0 (mPut i) v (L2.wipe σ [i]) H (fun σ2 H2 => L2.wipe σ2 [i] = L2.wipe σ [i] → Q σ2 H2)) :
    gName i v (L2.wipe σ [i]) H fun σ2 H2 => L2.wipe σ2 [i] = L2.wipe σ [i] ∧ Q σ2 H2 := by
  obtain ⟨sl, tm, t, s, rfl, h⟩ := h
  have e : L2.wipe ((L2.wipe σ [i]).set i (some t.v)) [i] = L2.wipe σ [i] := by simp [L2.wipe]
  exact ⟨e, h H _ _ (s.store hi hio) (by rw [den_set]; rfl) e⟩
theorem hg_pair {i j : Nat} (hij : i ≠ j) (hi : i < g.N) (hio : ∀ p ∈ g.io, p.1 ≠ i) (hj : j < g.N) (hjo : ∀ p ∈ g.io, p.1 ≠ j) {K : PySem.W.Frag} (hK : K = g.c.K) (v : V) (σ : L2.St) (H : Hp) (Q : L2.St → Hp → Prop)
    (h : tG g W0 (mUnp [mPut i, mPut j]) v (L2.wipe σ [i, j]) H (fun σ2 H2 => L2.wipe σ2 [i, j] = L2.wipe σ [i, j] → Q σ2 H2)) :
    gTup K 2 (gCons (gName i) (gCons (gName j) gNil)) v (L2.wipe σ [i, j]) H fun σ2 H2 => L2.wipe σ2 [i, j] = L2.wipe σ [i, j] ∧ Q σ2 H2 := by
  obtain ⟨sl, tm, t, s, rfl, h⟩ := h
  cases t with
  | tup p st xs =>
    simp only [T.d, mUnp] at h
    match xs, s, h with
    | [], _, h => exact h.elim
    | [_], _, h => exact absurd h (by simp [putAll, Ts.d, mPut, R.bind, Lands])
    | _ :: _ :: _ :: _, _, h => exact absurd h (by simp [putAll, Ts.d, mPut, R.bind, Lands])
    | [x, y], s, h =>
      have q := tup_sq s.top
      refine ⟨p, _, rfl, by rw [hK]; exact q.1, rfl, x.v, [y.v], rfl, y.v, [], rfl, rfl, ?_⟩
      have e : L2.wipe (((L2.wipe σ [i, j]).set i (some x.v)).set j (some y.v)) [i, j] = L2.wipe σ [i, j] := by
        simp only [L2.wipe]
        rw [List.set_set, List.set_comm _ _ hij, List.set_set, List.set_comm _ _ hij]
        simp [List.set_set]
      exact ⟨e, h H _ _ ((s.open_.store hi hio).store hj hjo) (by rw [den_set, den_set]; rfl) e⟩
  | _ => exact h.elim
theorem ts_nil : PTs X [] (tT g W mYes) := ⟨fun pins s σ H Q I ⟨sl, tm, st, h⟩ => pts_nil.run pins s σ H Q I (h H sl st rfl)⟩
theorem ts_one {c : Expr} (h : PT X c (tT g W t)) : PTs X [c] (tT g W t) := pts_one h
theorem e_lc {gt : TG} {f : D → Cm Unit} (hc : X.calm = true) (hN : X.N.Nodup) (hi : PI X tg iter (tI g W mi)) (ok : BlkOk X.N X.env.scope scope own)
    (hg : ∀ (s : Shared) (H : Hp) (C : Addr) (cl : List (Str × Addr)) (fp : List Addr), PG (X.blk s H scope (compEnvC scope cl C X.env) fp) tg gt)
    (ht : ∀ (s : Shared) (H : Hp) (C : Addr) (cl : List (Str × Addr)) (fp : List Addr), PTs (X.blk s H scope (compEnvC scope cl C X.env) fp) ifs (tT g W0 t))
    (he : ∀ (s : Shared) (H : Hp) (C : Addr) (cl : List (Str × Addr)) (fp : List Addr), PE (X.blk s H scope (compEnvC scope cl C X.env) fp) elt (tE g W0 e))
    (hnd : (own.map (·.2)).Nodup) (hio : ∀ p ∈ g.io, p.1 ∉ own.map (·.2))
    (hgt : ∀ (v : V) (σ : L2.St) (H : Hp) (Q : L2.St → Hp → Prop), tG g W0 f v (L2.wipe σ (own.map (·.2))) H (fun σ2 H2 => L2.wipe σ2 (own.map (·.2)) = L2.wipe σ (own.map (·.2)) → Q σ2 H2) → gt v (L2.wipe σ (own.map (·.2))) H fun σ2 H2 => L2.wipe σ2 (own.map (·.2)) = L2.wipe σ (own.map (·.2)) ∧ Q σ2 H2)
    (hs : ∀ x, foldedSetIterable iter X.env x = pure x := by intro _; rfl) :
    PE X (.ListComp elt [⟨tg, iter, ifs, 0⟩] scope pos) (tE g W (mLc mi f t e (own.map (·.2)))) := (pe_lc hc hN hi ok hg ht he hs).imp (lc_imp hnd hio (fun _ _ _ _ _ => trivial) hgt)
theorem s_setLc {i : Nat} {y : Str} {py spos : Pos} {gt : TG} {f : D → Cm Unit} (hi' : i < g.N) (hio' : ∀ p ∈ g.io, p.1 ≠ i) (hc : X.calm = true) (hN : X.N.Nodup) (hy : X.N[i]? = some y) (hyl : X.env.scope.names.lookup y = some .local)
    (hsw : swapsWith (.ListComp elt [⟨tg, iter, ifs, 0⟩] scope pos) (some (.Name y py)) spos.line X.env = pure true) (hi : PI X tg iter (tI g W mi)) (ok : BlkOk X.N X.env.scope scope own)
    (hg : ∀ (s : Shared) (H : Hp) (C : Addr) (cl : List (Str × Addr)) (fp : List Addr), PG (X.blk s H scope (compEnvC scope cl C X.env) fp) tg gt)
    (ht : ∀ (s : Shared) (H : Hp) (C : Addr) (cl : List (Str × Addr)) (fp : List Addr), PTs (X.blk s H scope (compEnvC scope cl C X.env) fp) ifs (tT g W0 t))
    (he : ∀ (s : Shared) (H : Hp) (C : Addr) (cl : List (Str × Addr)) (fp : List Addr), PE (X.blk s H scope (compEnvC scope cl C X.env) fp) elt (tE g W0 e))
    (hnd : (own.map (·.2)).Nodup) (hio : ∀ p ∈ g.io, p.1 ∉ own.map (·.2))
    (hgt : ∀ (v : V) (σ : L2.St) (H : Hp) (Q : L2.St → Hp → Prop), tG g W0 f v (L2.wipe σ (own.map (·.2))) H (fun σ2 H2 => L2.wipe σ2 (own.map (·.2)) = L2.wipe σ (own.map (·.2)) → Q σ2 H2) → gt v (L2.wipe σ (own.map (·.2))) H fun σ2 H2 => L2.wipe σ2 (own.map (·.2)) = L2.wipe σ (own.map (·.2)) ∧ Q σ2 H2)
    (hs : ∀ x, foldedSetIterable iter X.env x = pure x := by intro _; rfl) :
    PS X (.Assign [.Name y py] (.ListComp elt [⟨tg, iter, ifs, 0⟩] scope pos) spos) (tS g W (mSet i (mLc mi f t e (own.map (·.2))))) :=
  (ps_setLc hc hN hy hyl hsw hi ok hg ht he hs).imp fun De σ H q => lc_imp hnd hio (fun _ _ _ _ _ => trivial) hgt σ H _ (set_imp hi' hio' De σ H q)
end
end VS

/-! VS, part j: what a def is worth, and its calls. -/
namespace VS
open PySem PySem.Spec PyProof.Rows L2

inductive RF where
  | ok (d : D) (ds : List D)
  | exc (x : Ex) (ds : List D)
  | stuck
  deriving Repr
def ioGet (ρ : DE) : List Nat → Option (List D)
  | [] => some []
  | i :: is => match ρ[i]? with
    | some (some d) => (ioGet ρ is).map (d :: ·)
    | _ => none
def endF (io : List Nat) : R Out → RF
  | .ok .nx ρ => match ioGet ρ io with
    | some ds => .ok .non ds
    | none => .stuck
  | .ok (.ret d) ρ => match ioGet ρ io with
    | some ds => .ok d ds
    | none => .stuck
  | .exc x ρ => match ioGet ρ io with
    | some ds => .exc x ds
    | none => .stuck
  | _ => .stuck
def startD (n : Nat) (args : List D) : DE := args.map some ++ List.replicate (n - args.length) none
def runF (n : Nat) (io : List Nat) (m : Cm Out) (args : List D) : RF := endF io (m (startD n args))

/-- what comes of a call: the trees behind it, from those ahead -/
structure Aft (c : Cfg) (H : Hp) (ts : List T) (H' : Hp) (us : List T) : Prop where
  ok : Ts.ok c H' us
  inv : ∀ a, Ts.oc a us = 0 ∨ (Ts.oc a us = 1 ∧ Ts.sh a us = 0)
  prov : ∀ a, Sol c H a → Ts.oc a ts = 0 → Ts.oc a us = 0 ∧ (Ts.sh a ts = 0 → Ts.sh a us = 0)
  frame : ∀ a o, H a = some o → NT o → Ts.oc a ts = 0 → H' a = some o
  tabs : LamX.Tabs c.tb H'
def ioV (vs : List V) : List Nat → Option (List V)
  | [] => some []
  | i :: is => match vs[i]? with
    | some v => (ioV vs is).map (v :: ·)
    | none => none
/-- the promise of a def by its mirror: np parameters, those at io are handed in to be changed -/
def spM (c : Cfg) (np : Nat) (io : List Nat) (M : List D → RF) : Sp := fun vs H Q E => ∃ ts : List T, vs = ts.map T.v ∧ Ts.ok c H ts ∧ LamX.Tabs c.tb H ∧ (∀ a, Ts.oc a ts = 0 ∨ (Ts.oc a ts = 1 ∧ Ts.sh a ts = 0)) ∧ ts.length = np ∧
  match M (Ts.d ts) with
  | .ok d ds => ∀ H' t us, Aft c H ts H' (t :: us) → t.d = d → Ts.d us = ds → ioV vs io = some (us.map T.v) → Q t.v H'
  | .exc x ds => ∀ H' a dx us, Aft c H ts H' (T.exn a dx x.cls x.ns x.xs :: us) → Ts.d us = ds → ioV vs io = some (us.map T.v) → E (.ref (c.cls x.cls)) dx H'
  | .stuck => False
theorem spM_len {c : Cfg} {np : Nat} {io : List Nat} {M : List D → RF} {ps : List Str} (h : ps.length = np) : ∀ vs H Q E, spM c np io M vs H Q E → vs.length = ps.length := fun vs H Q E ⟨ts, e, _, _, _, hl, _⟩ => by
  rw [e, h]; simpa using hl

section
variable {P : Program} {w : World} {K : PySem.W.Frag} {mg : Str → Option Value} {base : Heap} {c : Cfg}
theorem So_somes (f : T → Nat) (hf : Nat → Nat) : ∀ (ts : List T) (n : Nat), So f (ts.map some ++ List.replicate n none) = So f (ts.map some)
  | [], n => by
    induction n with
    | zero => simp
    | succ n ih => simp [List.replicate_succ, So] at ih ⊢; exact ih
  | t :: ts, n => by simp [So, So_somes f hf ts n]
theorem So_oc (a : Addr) : ∀ ts : List T, So (T.oc a) (ts.map some) = Ts.oc a ts
  | [] => rfl
  | t :: ts => by simp [So, Ts.oc, So_oc a ts]
theorem So_sh (a : Addr) : ∀ ts : List T, So (T.sh a) (ts.map some) = Ts.sh a ts
  | [] => rfl
  | t :: ts => by simp [So, Ts.sh, So_sh a ts]
theorem ioGet_set {ρ : DE} {i : Nat} (x : Option D) : ∀ {io : List Nat}, i ∉ io → ioGet (ρ.set i x) io = ioGet ρ io
  | [], _ => rfl
  | j :: js, h => by
    simp only [List.mem_cons, not_or] at h
    unfold ioGet
    rw [List.getElem?_set_ne h.1, ioGet_set x h.2]
/-- the io slots' trees at the end, gathered -/
theorem io_end {g : Gh} {H : Hp} {σ : L2.St} {sl : List (Option T)} {vs : List V} : ∀ {io : List Nat} {ds : List D} {pre : List T}, ioGet (den sl) io = some ds → io.Nodup → (∀ i ∈ io, ∃ v, vs[i]? = some v ∧ σ[i]? = some (some v)) → SR g H σ sl pre →
    ∃ us sl', Ts.d us = ds ∧ ioV vs io = some (us.map T.v) ∧ SR g H σ sl' (us ++ pre)
  | [], ds, pre, h, _, _, s => by
    simp [ioGet] at h; subst h
    exact ⟨[], sl, rfl, rfl, s⟩
  | i :: io, ds, pre, h, nd, hv, s => by
    obtain ⟨ni, nd⟩ := List.nodup_cons.mp nd
    unfold ioGet at h
    split at h
    · rename_i d e
      obtain ⟨r, hr, rfl⟩ := Option.map_eq_some_iff.mp h
      obtain ⟨t, e1, e2, e4, e3⟩ := s.val e
      subst e2
      obtain ⟨v, v1, v2⟩ := hv i (by simp)
      have s1 := s.move e1
      have hr' : ioGet (den (sl.set i none)) io = some r := by rw [den_set, ioGet_set _ ni]; exact hr
      obtain ⟨us, sl', h1, h2, h3⟩ := io_end hr' nd (fun k hk => hv k (List.mem_cons_of_mem _ hk)) s1
      refine ⟨t :: us, sl', by simp [Ts.d, h1], ?_, h3.tmp ?_ fun a => ?_⟩
      · unfold ioV
        rw [v1, h2]
        rw [v2] at e3
        simp [Option.some.inj (Option.some.inj e3)]
      · have := h3.okT
        rw [Ts.ok_iff] at this ⊢
        intro u m
        exact this u (by simp at m ⊢; rcases m with m | m | m <;> simp [m])
      · simp only [List.cons_append, Ts.oc, Ts.sh, Ts.oc_append, Ts.sh_append]; omega
    · cases h
theorem Aft.of {g : Gh} {H : Hp} {σ : L2.St} {sl : List (Option T)} {us : List T} (s : SR g H σ sl us) : Aft g.c g.H0 g.A0 H us where
  ok := s.okT
  inv := fun a => by have := s.inv a; omega
  prov := fun a h0 h1 => by
    have p := s.prov a h0 h1
    exact ⟨by omega, fun h => by have := p.2 h; omega⟩
  frame := s.frame
  tabs := s.tabs
/-- THE RULE: a def keeps the promise of its mirror (its body's reading, at the entry) -/
theorem body_ok {X : Cx} {sbody : List Stmt} {N ps : List Str} {np : Nat} {io : List Nat} {m : Cm Out} {scope : Scope} {H : Hp} {vs : List V} {Q : VK} {E : XK} (body : ∀ (g : Gh), g.c = c → g.N = N.length → g.io.map (·.1) = io → PSs X sbody (tS g (fun cls d _ H => E cls d H) m))
    (S : FnScope N ps scope) (hps : ps.length = np) (hN : np ≤ N.length) (hio : ∀ i ∈ io, i < np) (hnd : io.Nodup) (h : spM c np io (runF N.length io m) vs H Q E) :
    ∃ t, PSs X sbody t ∧ t { nx := fun _ H' => Q .non H', rt := Q } (L2.start N vs) H := by
  obtain ⟨ts, rfl, okt, tbs, inv, hl, q⟩ := h
  obtain ⟨vio, hvio⟩ : ∃ vio : List (Nat × V), vio.map (·.1) = io ∧ ∀ p ∈ vio, (ts.map T.v)[p.1]? = some p.2 := by
    clear q hnd body
    induction io with
    | nil => exact ⟨[], rfl, fun _ h => by cases h⟩
    | cons i io ih =>
      obtain ⟨r, r1, r2⟩ := ih (fun j hj => hio j (List.mem_cons_of_mem _ hj))
      have hi : i < (ts.map T.v).length := by simp; have := hio i (by simp); omega
      refine ⟨(i, (ts.map T.v)[i]) :: r, by simp [r1], fun p hp => ?_⟩
      rcases List.mem_cons.mp hp with rfl | hp
      · exact List.getElem?_eq_getElem hi
      · exact r2 p hp
  let g : Gh := ⟨c, H, ts, N.length, vio, []⟩
  refine ⟨tS g (fun cls d _ H => E cls d H) m, body g rfl rfl hvio.1, ?_⟩
  have hst : L2.start N (ts.map T.v) = ts.map (fun t => some t.v) ++ List.replicate (N.length - ts.length) none := by
    unfold L2.start; simp
  have hsd : den (ts.map some ++ List.replicate (N.length - ts.length) none) = startD N.length (Ts.d ts) := by
    unfold den startD
    rw [List.map_append, List.map_map, Ts.d_len, Ts.d_map, List.map_map, List.map_replicate]
    rfl
  have getS : ∀ (i : Nat) (t : T), (ts.map some ++ List.replicate (N.length - ts.length) none)[i]? = some (some t) → ts[i]? = some t := fun i t h => by
    by_cases hi : i < ts.length
    · rw [List.getElem?_append_left (by simpa using hi), List.getElem?_map] at h
      cases e : ts[i]? with
      | none => rw [e] at h; cases h
      | some u => rw [e] at h; simpa using h
    · rw [List.getElem?_append_right (by simpa using hi), List.getElem?_replicate] at h
      split at h <;> cases h
  have getσ : ∀ (i : Nat) (v : V), (ts.map T.v)[i]? = some v → (L2.start N (ts.map T.v))[i]? = some (some v) := fun i v h => by
    rw [hst]
    have hi : i < ts.length := by
      by_cases q : i < ts.length
      · exact q
      · rw [List.getElem?_eq_none (by simp; omega)] at h; cases h
    rw [List.getElem?_append_left (by simpa using hi), List.getElem?_map]
    rw [List.getElem?_map] at h
    cases e : ts[i]? with
    | none => rw [e] at h; cases h
    | some u => rw [e] at h; simp at h; simp [h]
  have s0 : SR g H (L2.start N (ts.map T.v)) (ts.map some ++ List.replicate (N.length - ts.length) none) [] := by
    refine ⟨fun t m => ?_, by simp [Ts.ok], fun a => ?_, fun a h0 h1 => ?_, fun a o h _ _ => h, ?_, ?_, fun i t h => ?_, fun p hp => ?_, fun p hp => (List.not_mem_nil hp).elim, tbs⟩
    · obtain ⟨i, hi⟩ := mem_get m
      exact Ts.ok_iff.mp okt t (List.mem_of_getElem? (getS i t hi))
    · rw [So_somes _ id, So_somes _ id, So_oc, So_sh]
      simpa [Ts.oc, Ts.sh] using inv a
    · rw [So_somes _ id, So_somes _ id, So_oc, So_sh]
      exact ⟨by simpa [Ts.oc] using h1, fun h => by simpa [Ts.sh] using h⟩
    · rw [hst]; simp [g]; omega
    · simp [g]; omega
    · exact getσ i _ (by rw [List.getElem?_map, getS i t h]; rfl)
    · exact getσ p.1 p.2 (hvio.2 p hp)
  refine ⟨_, [], s0, ?_⟩
  rw [hsd]
  unfold runF at q
  -- the end, whatever it is
  have fin : ∀ {H' σ' sl' pre ds}, SR g H' σ' sl' pre → ioGet (den sl') io = some ds → ∃ us, Ts.d us = ds ∧ ioV (ts.map T.v) io = some (us.map T.v) ∧ Aft c H ts H' (us ++ pre) := fun {H' σ' sl' pre ds} s e => by
    obtain ⟨us, sl2, h1, h2, h3⟩ := io_end (vs := ts.map T.v) e hnd (fun i hi => by
      rw [← hvio.1] at hi
      obtain ⟨p, hp, rfl⟩ := List.mem_map.mp hi
      exact ⟨p.2, hvio.2 p hp, s.io p hp⟩) s
    exact ⟨us, h1, h2, Aft.of h3⟩
  have flip : ∀ {H' : Hp} {t : T} {us : List T}, Aft c H ts H' (us ++ [t]) → Aft c H ts H' (t :: us) := fun {H' t us} h =>
    ⟨by have := h.ok; rw [Ts.ok_iff] at this ⊢; exact fun u m => this u (by simp at m ⊢; rcases m with m | m <;> simp [m]), fun a => by have := h.inv a; simp only [Ts.oc_append, Ts.sh_append, Ts.oc, Ts.sh] at this ⊢; omega,
     fun a h0 h1 => by have := h.prov a h0 h1; simp only [Ts.oc_append, Ts.sh_append, Ts.oc, Ts.sh] at this ⊢; exact ⟨by omega, fun z => by have := this.2 z; omega⟩, h.frame, h.tabs⟩
  cases e : m (startD N.length (Ts.d ts)) with
  | stuck => rw [e] at q; exact q.elim
  | exc x ρ =>
    rw [e] at q
    intro H' σ' sl' a dx s' e'
    subst e'
    simp only [endF] at q
    cases e2 : ioGet (den sl') io with
    | none => rw [e2] at q; exact q.elim
    | some ds =>
      rw [e2] at q
      obtain ⟨us, h1, h2, h3⟩ := fin s' e2
      exact q H' a dx us (flip h3) h1 h2
  | ok o ρ =>
    rw [e] at q
    cases o with
    | nx =>
      intro H' σ' sl' s' e'
      subst e'
      simp only [endF] at q
      cases e2 : ioGet (den sl') io with
      | none => rw [e2] at q; exact q.elim
      | some ds =>
        rw [e2] at q
        obtain ⟨us, h1, h2, h3⟩ := fin (s'.push .non trivial) e2
        exact q H' (.sc .non) us (flip h3) rfl h1 h2
    | ret d =>
      intro H' σ' sl' t s' e' ed
      subst e'
      simp only [endF] at q
      cases e2 : ioGet (den sl') io with
      | none => rw [e2] at q; exact q.elim
      | some ds =>
        rw [e2] at q
        obtain ⟨us, h1, h2, h3⟩ := fin s' e2
        exact q H' t us (flip h3) ed h1 h2
    | brk => exact q.elim
    | ct => exact q.elim
theorem fn_ok {x qual : Str} {st : Stmt} {f : Addr} {fd : FuncData} {N ps : List Str} {k np : Nat} {io : List Nat} {m : Cm Out} (F : Fun K x qual st f fd) (S : FnScope N ps (defScope st)) (hps : ps.length = np) (hN : np ≤ N.length) (hio : ∀ i ∈ io, i < np) (hnd : io.Nodup)
    (body : ∀ (g : Gh) (cdv : Value) (A : Around) (outer : List Env) (s : Shared) (H : Hp) (E : XK), Room k (A.deeper (envOfC qual (defScope st) s.heap.objs.size f cdv)) → g.c = c → g.N = N.length → g.io.map (·.1) = io →
      PSs (cxOf (L2.CX P w) P w K mg base N qual (defScope st) f cdv A outer s H E) (defBody st) (tS g (fun cls d _ H => E cls d H) m)) :
    FnOk P w K mg base (L2.CX P w) (k + 1) f fd ps (spM c np io (runF N.length io m)) :=
  F.okX S (spM_len hps) fun cdv A outer s H vs Q E hr h => body_ok (fun g => body g cdv A outer s H E hr) S hps hN hio hnd h
end
end VS

/-! VS, part k: calls of defs. -/
namespace VS
open PySem PySem.Spec PyProof.Rows L2

/-- an argument: a slot whose made thing may be changed (s), that is looked at (p), an expression, held by several (e) or alone (t) -/
inductive Ag where
  | s (i : Nat)
  | p (i : Nat)
  | e (m : Cm D)
  | t (m : Cm D)
def agRun : List Ag → Cm (List (Option D))
  | [] => fun ρ => .ok [] ρ
  | .s i :: as => fun ρ => match ρ[i]? with
    | some (some _) => (agRun as ρ).bind fun ts ρ => .ok (none :: ts) ρ
    | _ => .stuck
  | .p i :: as => fun ρ => match ρ[i]? with
    | some (some _) => (agRun as ρ).bind fun ts ρ => .ok (none :: ts) ρ
    | _ => .stuck
  | .e m :: as => fun ρ => (m ρ).bind fun d ρ => (agRun as ρ).bind fun ts ρ => .ok (some d :: ts) ρ
  | .t m :: as => fun ρ => (m ρ).bind fun d ρ => (agRun as ρ).bind fun ts ρ => .ok (some d :: ts) ρ
/-- the arguments' data, and the slots behind: emptied, frozen -/
def agGet : List Ag → List (Option D) → DE → Option (List D × DE)
  | [], [], ρ => some ([], ρ)
  | .s i :: as, none :: ts, ρ => match ρ[i]? with
    | some (some d) => (agGet as ts (ρ.set i none)).map fun r => (d :: r.1, r.2)
    | _ => none
  | .p i :: as, none :: ts, ρ => match ρ[i]? with
    | some (some d) => (agGet as ts (ρ.set i (some d.fz))).map fun r => (d.fz :: r.1, r.2)
    | _ => none
  | .e _ :: as, some d :: ts, ρ => (agGet as ts ρ).map fun r => (d.fz :: r.1, r.2)
  | .t _ :: as, some d :: ts, ρ => (agGet as ts ρ).map fun r => (d :: r.1, r.2)
  | _, _, _ => none
/-- where what may be changed comes back to: a slot, or nowhere -/
def agOuts : List Ag → List (Option Nat)
  | [] => []
  | .s i :: as => some i :: agOuts as
  | .p _ :: as => agOuts as
  | .e _ :: as => agOuts as
  | .t _ :: as => none :: agOuts as
/-- the places among the arguments of those that may be changed -/
def agIo : Nat → List Ag → List Nat
  | _, [] => []
  | n, .s _ :: as => n :: agIo (n + 1) as
  | n, .p _ :: as => agIo (n + 1) as
  | n, .e _ :: as => agIo (n + 1) as
  | n, .t _ :: as => n :: agIo (n + 1) as
def putD (ρ : DE) : List (Option Nat) → List D → DE
  | some i :: is, d :: ds => (putD ρ is ds).set i (some d)
  | none :: is, d :: ds => putD ρ is ds
  | _, _ => ρ
def D.isSc : D → Bool
  | .sc _ => true
  | _ => false
/-- what shares nothing with anything -/
def D.isFree : D → Bool
  | .sc _ => true
  | .lst .own xs => xs.all D.isSc
  | _ => false
theorem isSc_cnt {a : Addr} : ∀ {ts : List T}, (Ts.d ts).all D.isSc = true → Ts.oc a ts = 0 ∧ Ts.sh a ts = 0
  | [], _ => by simp [Ts.oc, Ts.sh]
  | t :: ts, h => by
    simp only [Ts.d, List.all_cons, Bool.and_eq_true] at h
    have ih := isSc_cnt (a := a) h.2
    cases t with
    | sc x => simp [Ts.oc, Ts.sh, T.oc, T.sh, ih]
    | _ => simp [T.d, D.isSc] at h
def mCall (M : List D → RF) (as : List Ag) : Cm D := fun ρ => (agRun as ρ).bind fun ts ρ => match agGet as ts ρ with
  | some (ds, ρ') => match M ds with
    | .ok d us => if us.length = (agOuts as).length then (if d.isFree && (agOuts as).isEmpty then .ok d ρ else .ok d (putD ρ' (agOuts as) us)) else .stuck
    | .exc x us => if us.length = (agOuts as).length then .exc x (putD ρ' (agOuts as) us) else .stuck
    | .stuck => .stuck
  | none => .stuck
def AgV (σ : L2.St) : List Ag → List (Option T) → List V → Prop
  | [], [], [] => True
  | .s i :: as, none :: us, v :: vs => σ[i]? = some (some v) ∧ AgV σ as us vs
  | .p i :: as, none :: us, v :: vs => σ[i]? = some (some v) ∧ AgV σ as us vs
  | .e _ :: as, some t :: us, v :: vs => v = t.v ∧ AgV σ as us vs
  | .t _ :: as, some t :: us, v :: vs => v = t.v ∧ AgV σ as us vs
  | _, _, _ => False
def live : List (Option T) → List T
  | [] => []
  | none :: r => live r
  | some t :: r => t :: live r
def agSlots : List Ag → List Nat
  | [] => []
  | .s i :: as => i :: agSlots as
  | .p _ :: as => agSlots as
  | .e _ :: as => agSlots as
  | .t _ :: as => agSlots as
section
variable {X : Cx} {g : Gh} {W : WX} {pos : Pos} {α : Type}
theorem outs_slots : ∀ as : List Ag, (agOuts as).filterMap id = agSlots as
  | [] => rfl
  | .s i :: as => by simp [agOuts, agSlots, outs_slots as]
  | .p _ :: as => by simp [agOuts, agSlots, outs_slots as]
  | .e _ :: as => by simp [agOuts, agSlots, outs_slots as]
  | .t _ :: as => by simp [agOuts, agSlots, outs_slots as]
/-- the arguments' trees side by side, the slots emptied or frozen -/
theorem gather {H : Hp} {σ : L2.St} {tm : List T} : ∀ {as : List Ag} {us : List (Option T)} {vs : List V} {ds : List D} {ρ' : DE} {sl : List (Option T)} {pre : List T}, AgV σ as us vs → agGet as (us.map (Option.map T.d)) (den sl) = some (ds, ρ') →
    SR g H σ sl (pre ++ (live us ++ tm)) → ∃ ts sl', SR g H σ sl' (pre ++ (ts ++ tm)) ∧ den sl' = ρ' ∧ ts.map T.v = vs ∧ Ts.d ts = ds ∧ (agOuts as = [] → ∀ a, Ts.oc a ts = 0) ∧ (∀ i : Nat, sl[i]? = some none → sl'[i]? = some none) ∧ ∀ i : Nat, i ∈ agSlots as → sl'[i]? = some none
  | [], [], [], ds, ρ', sl, pre, _, h, s => by
    simp [agGet] at h
    obtain ⟨rfl, rfl⟩ := h
    exact ⟨[], sl, by simpa [live] using s, rfl, rfl, rfl, fun _ _ => rfl, fun _ h => h, fun i h => by simp [agSlots] at h⟩
  | .s i :: as, none :: us, v :: vs, ds, ρ', sl, pre, hv, h, s => by
    obtain ⟨h1, hv⟩ := hv
    simp only [List.map_cons, Option.map_none, agGet] at h
    split at h
    · rename_i d e
      obtain ⟨⟨r1, r2⟩, hr, er⟩ := Option.map_eq_some_iff.mp h
      cases er
      obtain ⟨t, e1, e2, e4, e3⟩ := s.val e
      subst e2
      have s1 := s.move e1
      have s2 : SR g H σ (sl.set i none) ((pre ++ [t]) ++ (live us ++ tm)) := s1.tmp (by
        have := s1.okT
        rw [Ts.ok_iff] at this ⊢
        intro u m
        exact this u (by simp [live] at m ⊢; rcases m with m | m | m | m <;> simp [m])) fun a => by simp only [live, List.cons_append, Ts.oc, Ts.sh, Ts.oc_append, Ts.sh_append]; omega
      obtain ⟨ts, sl', g1, g2, g3, g4, g5, g6, g7⟩ := gather hv (by rw [den_set]; exact hr) s2
      have hi : i < sl.length := by
        by_cases q : i < sl.length
        · exact q
        · rw [List.getElem?_eq_none (by omega)] at e1; cases e1
      refine ⟨t :: ts, sl', by simpa using g1, g2, ?_, by simp [Ts.d, g4], fun h => by simp [agOuts] at h, fun j hj => g6 j ?_, fun j hj => ?_⟩
      · rw [h1] at e3
        simp [g3, Option.some.inj (Option.some.inj e3)]
      · by_cases q : i = j
        · subst q; rw [List.getElem?_set_self hi]
        · rw [List.getElem?_set_ne q]; exact hj
      · rcases List.mem_cons.mp hj with rfl | hj
        · exact g6 _ (by rw [List.getElem?_set_self hi])
        · exact g7 j hj
    · cases h
  | .p i :: as, none :: us, v :: vs, ds, ρ', sl, pre, hv, h, s => by
    obtain ⟨h1, hv⟩ := hv
    simp only [List.map_cons, Option.map_none, agGet] at h
    split at h
    · rename_i d e
      obtain ⟨⟨r1, r2⟩, hr, er⟩ := Option.map_eq_some_iff.mp h
      cases er
      obtain ⟨t, e1, e2, e4, e3⟩ := s.val e
      subst e2
      have s1 := s.read e1
      have s2 : SR g H σ (sl.set i (some t.fz)) ((pre ++ [t.fz]) ++ (live us ++ tm)) := s1.tmp (by
        have := s1.okT
        rw [Ts.ok_iff] at this ⊢
        intro u m
        exact this u (by simp [live] at m ⊢; rcases m with m | m | m | m <;> simp [m])) fun a => by simp only [live, List.cons_append, Ts.oc, Ts.sh, Ts.oc_append, Ts.sh_append]; omega
      obtain ⟨ts, sl', g1, g2, g3, g4, g5, g6, g7⟩ := gather hv (by rw [den_set]; simpa [T.fz_d] using hr) s2
      refine ⟨t.fz :: ts, sl', by simpa using g1, g2, ?_, by simp [Ts.d, g4, T.fz_d], fun h a => by simp [Ts.oc, T.fz_oc, g5 h a], fun j hj => g6 j ?_, fun j hj => g7 j hj⟩
      · rw [h1] at e3
        simp [g3, T.fz_v, Option.some.inj (Option.some.inj e3)]
      · by_cases q : i = j
        · subst q; rw [e1] at hj; cases hj
        · rw [List.getElem?_set_ne q]; exact hj
    · cases h
  | .e m :: as, some t :: us, v :: vs, ds, ρ', sl, pre, hv, h, s => by
    obtain ⟨h1, hv⟩ := hv
    subst h1
    simp only [List.map_cons, Option.map_some, agGet] at h
    obtain ⟨⟨r1, r2⟩, hr, er⟩ := Option.map_eq_some_iff.mp h
    cases er
    have s2 : SR g H σ sl ((pre ++ [t.fz]) ++ (live us ++ tm)) := s.tmp (by
        have := s.okT
        rw [Ts.ok_iff] at this ⊢
        intro u m
        simp [live] at m this
        rcases m with m | m | m | m
        · exact this u (.inl m)
        · subst m; exact T.fz_ok t (this t (.inr (.inl rfl)))
        · exact this u (.inr (.inr (.inl m)))
        · exact this u (.inr (.inr (.inr m)))) fun a => by
          have iv := s.inv a
          simp only [live, List.cons_append, Ts.oc, Ts.sh, Ts.oc_append, Ts.sh_append, T.fz_oc, T.fz_sh] at iv ⊢; omega
    obtain ⟨ts, sl', g1, g2, g3, g4, g5, g6, g7⟩ := gather hv hr s2
    exact ⟨t.fz :: ts, sl', by simpa using g1, g2, by simp [g3, T.fz_v], by simp [Ts.d, g4, T.fz_d], fun h a => by simp [Ts.oc, T.fz_oc, g5 h a], g6, g7⟩
  | .t m :: as, some t :: us, v :: vs, ds, ρ', sl, pre, hv, h, s => by
    obtain ⟨h1, hv⟩ := hv
    subst h1
    simp only [List.map_cons, Option.map_some, agGet] at h
    obtain ⟨⟨r1, r2⟩, hr, er⟩ := Option.map_eq_some_iff.mp h
    cases er
    have s2 : SR g H σ sl ((pre ++ [t]) ++ (live us ++ tm)) := by simpa [live] using s
    obtain ⟨ts, sl', g1, g2, g3, g4, g5, g6, g7⟩ := gather hv hr s2
    exact ⟨t :: ts, sl', by simpa using g1, g2, by simp [g3], by simp [Ts.d, g4], fun h => by simp [agOuts] at h, g6, g7⟩
  | [], [], _ :: _, _, _, _, _, hv, _, _ => hv.elim
  | [], _ :: _, _, _, _, _, _, hv, _, _ => hv.elim
  | .s _ :: _, [], _, _, _, _, _, hv, _, _ => hv.elim
  | .s _ :: _, none :: _, [], _, _, _, _, hv, _, _ => hv.elim
  | .s _ :: _, some _ :: _, _, _, _, _, _, hv, _, _ => hv.elim
  | .p _ :: _, [], _, _, _, _, _, hv, _, _ => hv.elim
  | .p _ :: _, none :: _, [], _, _, _, _, hv, _, _ => hv.elim
  | .p _ :: _, some _ :: _, _, _, _, _, _, hv, _, _ => hv.elim
  | .e _ :: _, [], _, _, _, _, _, hv, _, _ => hv.elim
  | .e _ :: _, none :: _, _, _, _, _, _, hv, _, _ => hv.elim
  | .e _ :: _, some _ :: _, [], _, _, _, _, hv, _, _ => hv.elim
  | .t _ :: _, [], _, _, _, _, _, hv, _, _ => hv.elim
  | .t _ :: _, none :: _, _, _, _, _, _, hv, _, _ => hv.elim
  | .t _ :: _, some _ :: _, [], _, _, _, _, hv, _, _ => hv.elim
/-- the call itself -/
theorem SR.call {H H' : Hp} {σ : L2.St} {sl : List (Option T)} {tm ts us : List T} (s : SR g H σ sl (ts ++ tm)) (h : Aft g.c H ts H' us) : SR g H' σ sl (us ++ tm) := by
  have iv := s.inv
  have kept : ∀ a, 0 < So (T.oc a) sl + So (T.sh a) sl + Ts.oc a tm + Ts.sh a tm → H' a = H a := fun a q => by
    have i := iv a
    rw [Ts.oc_append, Ts.sh_append] at i
    obtain ⟨u, e2, pu⟩ := s.plain (a := a) (by rw [Ts.oc_append, Ts.sh_append]; omega)
    rw [e2]
    exact h.frame a u e2 (plain_nt pu) (by omega)
  refine s.goT (s.stayS fun a q => kept a (by omega)) ?_ (fun a => ?_) (fun a o ha hn ho => ?_) h.tabs s.len s.slen s.at_ s.io
  · have k := s.okT
    rw [Ts.ok_iff] at k ⊢
    intro t m
    rcases List.mem_append.mp m with m | m
    · exact Ts.ok_iff.mp h.ok t m
    · refine T.stay t (k t (List.mem_append_right _ m)) fun a q => kept a ?_
      have h1 := Ts.oc_mem (a := a) m; have h2 := Ts.sh_mem (a := a) m
      omega
  · have i := iv a
    have j := h.inv a
    have p := h.prov a
    rw [Ts.oc_append, Ts.sh_append] at i ⊢
    rw [Ts.oc_append, Ts.sh_append]
    by_cases hn : Sol g.c H a
    · by_cases ho : Ts.oc a ts = 0
      · have p := p hn ho
        refine .inl ⟨by omega, fun q => .inl ?_⟩
        by_cases z : Ts.sh a ts = 0
        · have := p.2 z; omega
        · omega
      · refine .inr ⟨.inr (by omega), ?_⟩
        omega
    · have fr : So (T.oc a) sl + Ts.oc a (ts ++ tm) + So (T.sh a) sl + Ts.sh a (ts ++ tm) = 0 := Nat.eq_zero_of_not_pos fun q => by
        obtain ⟨u, e2, pu⟩ := s.plain q
        exact hn ⟨u, e2, .inl (plain_nt pu)⟩
      rw [Ts.oc_append, Ts.sh_append] at fr
      refine .inr ⟨.inl hn, ?_⟩
      omega
  · rw [Ts.oc_append] at ho
    exact h.frame a o ha hn (by omega)
/-- a tree goes back to its slot -/
theorem SR.back {H : Hp} {σ : L2.St} {sl : List (Option T)} {tm : List T} {i : Nat} {t : T} (s : SR g H σ sl (t :: tm)) (hv : σ[i]? = some (some t.v)) (hn : sl[i]? = some none) : SR g H σ (sl.set i (some t)) tm := by
  have k := s.okT
  simp only [Ts.ok] at k
  refine s.turn (fun u hu => ?_) k.2 (fun a => ?_) (by simp [s.slen]) fun j u hu => ?_
  · rcases mem_set hu with e | e
    · cases e; exact k.1
    · exact s.okS u e
  · have h1 := So_set (f := T.oc a) (x := some t) hn
    have h2 := So_set (f := T.sh a) (x := some t) hn
    simp only [fO, Ts.oc, Ts.sh] at h1 h2 ⊢
    omega
  · rcases set_get hu with ⟨rfl, e⟩ | ⟨_, e⟩
    · cases e; exact hv
    · exact s.at_ _ _ e
/-- more stands in the heap -/
theorem SR.extK {H H' : Hp} {σ : L2.St} {sl : List (Option T)} {tm : List T} (s : SR g H σ sl tm) (h : ∀ a o, H a = some o → NT o → H' a = some o) (hT : LamX.Tabs g.c.tb H') : SR g H' σ sl tm := by
  have kept : ∀ a, 0 < So (T.oc a) sl + Ts.oc a tm + So (T.sh a) sl + Ts.sh a tm → H' a = H a := fun a q => by
    obtain ⟨o, e, po⟩ := s.plain q
    rw [e]
    exact h a o e (plain_nt po)
  exact s.goT (s.stayS fun a q => kept a (by omega)) (s.stayT fun a q => kept a (by omega)) (fun a => .inl ⟨Nat.le_refl _, fun q => .inl q⟩) (fun a o ha hn _ => h a o ha hn) hT s.len s.slen s.at_ s.io
theorem putD_get {ρ : DE} {i : Nat} : ∀ {is : List (Option Nat)} {ds : List D}, some i ∉ is → (putD ρ is ds)[i]? = ρ[i]?
  | [], _, _ => by simp [putD]
  | some j :: is, [], _ => by simp [putD]
  | none :: is, [], _ => by simp [putD]
  | none :: is, d :: ds, h => by
    simp only [List.mem_cons, not_or] at h
    simp only [putD]
    exact putD_get h.2
  | some j :: is, d :: ds, h => by
    simp only [List.mem_cons, not_or, Option.some.injEq] at h
    simp only [putD]
    rw [List.getElem?_set_ne (fun e => h.1 e.symm)]
    exact putD_get h.2
/-- .. all of them -/
theorem scatter {H : Hp} {σ : L2.St} {tm : List T} : ∀ {is : List (Option Nat)} {us : List T} {sl : List (Option T)}, (is.filterMap id).Nodup → (∀ i ∈ is.filterMap id, sl[i]? = some none) → is.length = us.length → (∀ (j : Nat) (i : Nat) (u : T), is[j]? = some (some i) → us[j]? = some u → σ[i]? = some (some u.v)) →
    SR g H σ sl (us ++ tm) → ∃ sl', SR g H σ sl' tm ∧ den sl' = putD (den sl) is (Ts.d us)
  | [], [], sl, _, _, _, _, s => ⟨sl, s, rfl⟩
  | [], _ :: _, _, _, _, h, _, _ => by cases h
  | _ :: _, [], _, _, _, h, _, _ => by cases h
  | none :: is, u :: us, sl, nd, hn, hl, hv, s => by
    obtain ⟨sl', s2, e2⟩ := scatter (is := is) (us := us) (by simpa using nd) (fun j hj => hn j (by simpa using hj)) (by simpa using hl) (fun j k w h1 h2 => hv (j + 1) k w (by simpa using h1) (by simpa using h2)) s.pop
    exact ⟨sl', s2, by rw [e2]; rfl⟩
  | some i :: is, u :: us, sl, nd, hn, hl, hv, s => by
    simp only [List.filterMap_cons, id] at nd hn
    obtain ⟨ni, nd⟩ := List.nodup_cons.mp nd
    -- the others first, this one held
    have s1 : SR g H σ sl (us ++ (u :: tm)) := s.tmp (by
        have := s.okT
        rw [Ts.ok_iff] at this ⊢
        intro t m
        exact this t (by simp at m ⊢; rcases m with m | m | m <;> simp [m])) fun a => by simp only [List.cons_append, Ts.oc, Ts.sh, Ts.oc_append, Ts.sh_append]; omega
    obtain ⟨sl', s2, e2⟩ := scatter nd (fun j hj => hn j (List.mem_cons_of_mem _ hj)) (by simpa using hl) (fun j k w h1 h2 => hv (j + 1) k w (by simpa using h1) (by simpa using h2)) s1
    have e3 : sl'[i]? = some none := by
      have z : (den sl')[i]? = some none := by
        rw [e2, putD_get (fun m => ni (List.mem_filterMap.mpr ⟨_, m, rfl⟩))]
        unfold den
        rw [List.getElem?_map, hn i (by simp)]
        rfl
      unfold den at z
      rw [List.getElem?_map] at z
      cases q : sl'[i]? with
      | none => rw [q] at z; cases z
      | some o =>
        cases o with
        | none => rfl
        | some t => rw [q] at z; simp at z
    exact ⟨sl'.set i (some u), s2.back (hv 0 i u rfl rfl) e3, by rw [den_set, e2]; rfl⟩
end
end VS
namespace VS
open PySem PySem.Spec PyProof.Rows L2
def tAs (g : Gh) (W : WX) (as : List Ag) : TA := fun σ H Q => ∃ sl tm, SR g H σ sl tm ∧ Lands g W tm (agRun as (den sl)) fun ts ρ' => ∀ H' sl' us vs, SR g H' σ sl' ((live us).reverse ++ tm) → den sl' = ρ' → us.map (Option.map T.d) = ts → AgV σ as us vs → Q vs H'
section
variable {X : Cx} {g : Gh} {W : WX} {pos : Pos} {α : Type} {e : Expr} {es : List Expr} {m : Cm D} {as : List Ag}
theorem as_nil : PA X [] (tAs g W []) := pa_nil.imp fun σ H Q ⟨sl, tm, s, h⟩ => h H sl [] [] s rfl rfl trivial
theorem tAs.go {σ : L2.St} {H : Hp} {sl : List (Option T)} {tm : List T} {Q : List V → Hp → Prop} {f : List (Option D) → Cm α} {k : α → DE → Prop} (s : SR g H σ sl tm) (h : Lands g W tm ((agRun as (den sl)).bind f) k)
    (q : ∀ H' sl' us vs, SR g H' σ sl' ((live us).reverse ++ tm) → AgV σ as us vs → Lands g W tm (f (us.map (Option.map T.d)) (den sl')) k → Q vs H') : tAs g W as σ H Q := by
  refine ⟨sl, tm, s, ?_⟩
  cases e : agRun as (den sl) with
  | ok d ρ =>
    rw [e] at h
    intro H' sl' us vs s' e1 e2 hv
    subst e1; subst e2
    exact q H' sl' us vs s' hv h
  | exc x ρ => rw [e] at h; exact h
  | stuck => rw [e] at h; exact h
theorem as_s {i : Nat} (ha : PE X e (tVar i)) (hr : PA X es (tAs g W as)) (hs : starEach (e :: es) X.env = (false, eval e X.env) :: starEach es X.env := by rfl) : PA X (e :: es) (tAs g W (.s i :: as)) :=
  (pa_cons ha hr hs).imp fun σ H Q ⟨sl, tm, s, h⟩ => by
    simp only [agRun] at h
    split at h
    · rename_i d e
      obtain ⟨t, e1, e2, e4, e3⟩ := s.val e
      refine ⟨t.v, e3, ?_⟩
      refine tAs.go s h fun H1 sl1 us vs s1 hv h1 => ?_
      exact h1 H1 sl1 (none :: us) (t.v :: vs) s1 rfl rfl ⟨e3, hv⟩
    · exact h.elim
theorem as_p {i : Nat} (ha : PE X e (tVar i)) (hr : PA X es (tAs g W as)) (hs : starEach (e :: es) X.env = (false, eval e X.env) :: starEach es X.env := by rfl) : PA X (e :: es) (tAs g W (.p i :: as)) :=
  (pa_cons ha hr hs).imp fun σ H Q ⟨sl, tm, s, h⟩ => by
    simp only [agRun] at h
    split at h
    · rename_i d e
      obtain ⟨t, e1, e2, e4, e3⟩ := s.val e
      refine ⟨t.v, e3, ?_⟩
      refine tAs.go s h fun H1 sl1 us vs s1 hv h1 => ?_
      exact h1 H1 sl1 (none :: us) (t.v :: vs) s1 rfl rfl ⟨e3, hv⟩
    · exact h.elim
theorem as_e (ha : PE X e (tE g W m)) (hr : PA X es (tAs g W as)) (hs : starEach (e :: es) X.env = (false, eval e X.env) :: starEach es X.env := by rfl) : PA X (e :: es) (tAs g W (.e m :: as)) :=
  (pa_cons ha hr hs).imp fun σ H Q ⟨sl, tm, s, h⟩ => by
    simp only [agRun] at h
    refine tE.of s h fun H1 sl1 t1 s1 h1 => ?_
    refine tAs.go s1 (Lands.drop h1) fun H2 sl2 us vs s2 hv h2 => ?_
    exact h2 H2 sl2 (some t1 :: us) (t1.v :: vs) (by simpa [live] using s2) rfl rfl ⟨rfl, hv⟩
theorem as_t (ha : PE X e (tE g W m)) (hr : PA X es (tAs g W as)) (hs : starEach (e :: es) X.env = (false, eval e X.env) :: starEach es X.env := by rfl) : PA X (e :: es) (tAs g W (.t m :: as)) :=
  (pa_cons ha hr hs).imp fun σ H Q ⟨sl, tm, s, h⟩ => by
    simp only [agRun] at h
    refine tE.of s h fun H1 sl1 t1 s1 h1 => ?_
    refine tAs.go s1 (Lands.drop h1) fun H2 sl2 us vs s2 hv h2 => ?_
    exact h2 H2 sl2 (some t1 :: us) (t1.v :: vs) (by simpa [live] using s2) rfl rfl ⟨rfl, hv⟩
theorem ioV_ag {σ : L2.St} : ∀ {as : List Ag} {us : List (Option T)} {vs pre ws : List V}, AgV σ as us vs → ioV (pre ++ vs) (agIo pre.length as) = some ws → ws.length = (agOuts as).length ∧ ∀ (j i : Nat) (w : V), (agOuts as)[j]? = some (some i) → ws[j]? = some w → σ[i]? = some (some w)
  | [], us, vs, pre, ws, hv, h => by
    simp [agIo, ioV] at h; subst h
    simp [agOuts]
  | .s i :: as, none :: us, v :: vs, pre, ws, hv, h => by
    obtain ⟨h1, hv⟩ := hv
    simp only [agIo, ioV] at h
    rw [List.getElem?_append_right (Nat.le_refl _), Nat.sub_self] at h
    simp only [List.getElem?_cons_zero] at h
    obtain ⟨r, hr, rfl⟩ := Option.map_eq_some_iff.mp h
    have ih := ioV_ag (pre := pre ++ [v]) hv (by simpa using hr)
    refine ⟨by simp [agOuts, ih.1], fun j k w hj hw => ?_⟩
    cases j with
    | zero => simp [agOuts] at hj hw; subst hj hw; exact h1
    | succ j => exact ih.2 j k w (by simpa [agOuts] using hj) (by simpa using hw)
  | .e _ :: as, some t :: us, v :: vs, pre, ws, hv, h => by
    obtain ⟨h1, hv⟩ := hv
    simp only [agIo] at h
    have ih := ioV_ag (pre := pre ++ [v]) hv (by simpa using h)
    exact ⟨by simpa [agOuts] using ih.1, fun j k w hj hw => ih.2 j k w (by simpa [agOuts] using hj) hw⟩
  | .t _ :: as, some t :: us, v :: vs, pre, ws, hv, h => by
    obtain ⟨h1, hv⟩ := hv
    simp only [agIo, ioV] at h
    rw [List.getElem?_append_right (Nat.le_refl _), Nat.sub_self] at h
    simp only [List.getElem?_cons_zero] at h
    obtain ⟨r, hr, rfl⟩ := Option.map_eq_some_iff.mp h
    have ih := ioV_ag (pre := pre ++ [v]) hv (by simpa using hr)
    refine ⟨by simp [agOuts, ih.1], fun j k w hj hw => ?_⟩
    cases j with
    | zero => simp [agOuts] at hj
    | succ j => exact ih.2 j k w (by simpa [agOuts] using hj) (by simpa using hw)
  | .p i :: as, none :: us, v :: vs, pre, ws, hv, h => by
    obtain ⟨h1, hv⟩ := hv
    simp only [agIo] at h
    have ih := ioV_ag (pre := pre ++ [v]) hv (by simpa using h)
    exact ⟨by simpa [agOuts] using ih.1, fun j k w hj hw => ih.2 j k w (by simpa [agOuts] using hj) hw⟩
  | .p _ :: _, [], _, _, _, hv, _ => hv.elim
  | .p _ :: _, none :: _, [], _, _, hv, _ => hv.elim
  | .p _ :: _, some _ :: _, _, _, _, hv, _ => hv.elim
  | .s _ :: _, [], _, _, _, hv, _ => hv.elim
  | .s _ :: _, none :: _, [], _, _, hv, _ => hv.elim
  | .s _ :: _, some _ :: _, _, _, _, hv, _ => hv.elim
  | .e _ :: _, [], _, _, _, hv, _ => hv.elim
  | .e _ :: _, none :: _, _, _, _, hv, _ => hv.elim
  | .e _ :: _, some _ :: _, [], _, _, hv, _ => hv.elim
  | .t _ :: _, [], _, _, _, hv, _ => hv.elim
  | .t _ :: _, none :: _, _, _, _, hv, _ => hv.elim
  | .t _ :: _, some _ :: _, [], _, _, hv, _ => hv.elim
theorem AgV.len {σ : L2.St} : ∀ {as : List Ag} {us : List (Option T)} {vs : List V}, AgV σ as us vs → vs.length = as.length
  | [], [], [], _ => rfl
  | [], [], _ :: _, h => h.elim
  | [], _ :: _, _, h => h.elim
  | .s _ :: as, none :: us, v :: vs, h => by simp [AgV.len h.2]
  | .e _ :: as, some t :: us, v :: vs, h => by simp [AgV.len h.2]
  | .p _ :: as, none :: us, v :: vs, h => by simp [AgV.len h.2]
  | .p _ :: _, [], _, h => h.elim
  | .p _ :: _, none :: _, [], h => h.elim
  | .p _ :: _, some _ :: _, _, h => h.elim
  | .t _ :: as, some t :: us, v :: vs, h => by simp [AgV.len h.2]
  | .s _ :: _, [], _, h => h.elim
  | .s _ :: _, none :: _, [], h => h.elim
  | .s _ :: _, some _ :: _, _, h => h.elim
  | .e _ :: _, [], _, h => h.elim
  | .e _ :: _, none :: _, _, h => h.elim
  | .e _ :: _, some _ :: _, [], h => h.elim
  | .t _ :: _, [], _, h => h.elim
  | .t _ :: _, none :: _, _, h => h.elim
  | .t _ :: _, some _ :: _, [], h => h.elim
theorem live_rev {us : List (Option T)} {tm : List T} {H : Hp} {σ : L2.St} {sl : List (Option T)} (s : SR g H σ sl ((live us).reverse ++ tm)) : SR g H σ sl ([] ++ (live us ++ tm)) := s.tmp (by
  have := s.okT
  rw [Ts.ok_iff] at this ⊢
  intro u m
  exact this u (by simpa using m)) fun a => by simp only [List.nil_append, Ts.oc_append, Ts.sh_append, Ts.oc_rev, Ts.sh_rev]; omega
theorem call_imp {c : Cfg} {M : List D → RF} {np : Nat} {io : List Nat} (hc : g.c = c) (hio : agIo 0 as = io) (hl : as.length = np) (hnd : (agSlots as).Nodup) (σ : L2.St) (H : Hp) (Q : VK) (q : tE g W (mCall M as) σ H Q) :
    tAs g W as σ H fun vs H1 => spM c np io M vs H1 Q (WE W σ) := by
  obtain ⟨sl, tm, s, h⟩ := q
  unfold mCall at h
  refine tAs.go s h fun H1 sl1 us vs s1 hv h1 => ?_
  cases eg : agGet as (us.map (Option.map T.d)) (den sl1) with
  | none => rw [eg] at h1; exact h1.elim
  | some r =>
    obtain ⟨ds, ρ'⟩ := r
    rw [eg] at h1
    obtain ⟨ts, sl2, s2, eρ, e1, e2, hfz, _, hno⟩ := gather hv eg (live_rev s1)
    rw [List.nil_append] at s2
    have kts : Ts.ok g.c H1 ts := by
      have := s2.okT
      rw [Ts.ok_iff] at this ⊢
      exact fun u m => this u (List.mem_append_left _ m)
    refine ⟨ts, e1.symm, hc ▸ kts, hc ▸ s2.tabs, fun a => ?_, ?_, ?_⟩
    · have := s2.inv a
      rw [Ts.oc_append, Ts.sh_append] at this
      omega
    · have := hv.len
      rw [← e1] at this
      simpa [hl] using this
    · rw [e2]
      simp only [] at h1
      -- behind the call
      have back : ∀ {H' : Hp} {t : T} {ws : List T}, Aft c H1 ts H' (t :: ws) → ioV vs io = some (ws.map T.v) → ∃ sl', SR g H' σ sl' (t :: tm) ∧ den sl' = putD ρ' (agOuts as) (Ts.d ws) ∧ ws.length = (agOuts as).length := fun {H' t ws} ha hi => by
        have s3 := s2.call (hc ▸ ha)
        have s4 : SR g H' σ sl2 (ws ++ (t :: tm)) := s3.tmp (by
          have := s3.okT
          rw [Ts.ok_iff] at this ⊢
          intro u m
          exact this u (by simp at m ⊢; rcases m with m | m | m <;> simp [m])) fun a => by simp only [List.cons_append, Ts.oc, Ts.sh, Ts.oc_append, Ts.sh_append]; omega
        rw [← hio] at hi
        have w := ioV_ag (pre := []) hv hi
        have wl : ws.length = (agOuts as).length := by simpa using w.1
        obtain ⟨sl', g1, g2⟩ := scatter (is := agOuts as) (by rw [outs_slots]; exact hnd) (fun i hi => by rw [outs_slots] at hi; exact hno i hi) wl.symm (fun j i u h1 h2 => w.2 j i u.v h1 (by rw [List.getElem?_map, h2]; rfl)) s4
        exact ⟨sl', g1, by rw [g2, eρ], wl⟩
      cases em : M ds with
      | stuck => rw [em] at h1; exact h1.elim
      | ok d ws =>
        rw [em] at h1
        intro H' t us' ha ed eu hi
        obtain ⟨sl', g1, g2, g3⟩ := back ha hi
        subst ed eu
        simp only [] at h1
        rw [if_pos (by rw [Ts.d_len]; exact g3)] at h1
        by_cases hsc : (t.d.isFree && (agOuts as).isEmpty) = true
        · rw [if_pos hsc] at h1
          obtain ⟨h2, h3⟩ := Bool.and_eq_true_iff.mp hsc
          have ho : agOuts as = [] := List.isEmpty_iff.mp h3
          have gt : t.ok g.c H' := by have := ha.ok; simp only [Ts.ok] at this; exact hc ▸ this.1
          have s5 : SR g H' σ sl1 tm := (s1.popL).extK (fun a o e n => ha.frame a o e n (hfz ho a)) (hc ▸ ha.tabs)
          cases t with
          | sc x => exact h1 H' sl1 (.sc x) (s5.push x (by simpa [T.ok] using gt)) rfl rfl
          | lst p o xs =>
            cases o <;> simp only [T.d, D.isFree] at h2 <;> try cases h2
            have cx : ∀ a, Ts.oc a xs = 0 ∧ Ts.sh a xs = 0 := fun a => isSc_cnt h2
            have s0 := s1.popL
            have root : ¬ Sol g.c H1 p := fun e => by
              have := (ha.prov p (hc ▸ e) (hfz ho p)).1
              simp [Ts.oc, T.oc, b2] at this
            have fr : So (T.oc p) sl1 + Ts.oc p tm + So (T.sh p) sl1 + Ts.sh p tm = 0 := Nat.eq_zero_of_not_pos fun q => by
              obtain ⟨u, e2, pu⟩ := s0.plain q
              exact root ⟨u, e2, .inl (plain_nt pu)⟩
            refine h1 H' sl1 (T.lst p .own xs) (s0.goT s5.okS (by simp only [Ts.ok]; exact ⟨gt, s5.okT⟩) (fun a => ?_) (fun a o e n _ => ha.frame a o e n (hfz ho a)) (hc ▸ ha.tabs) s0.len s0.slen s0.at_ s0.io) rfl rfl
            · have := cx a
              simp only [Ts.oc, Ts.sh, T.oc, T.sh]
              by_cases e : p = a
              · subst e
                refine .inr ⟨.inl root, .inr ?_⟩
                simp [b2]
                omega
              · simp [b2, e]
                refine .inl ⟨by omega, fun q => .inl (by omega)⟩
          | _ => simp [T.d, D.isFree] at h2
        · rw [if_neg hsc] at h1
          exact h1 H' sl' t g1 g2 rfl
      | exc x ws =>
        rw [em] at h1
        intro H' a dx us' ha eu hi
        obtain ⟨sl', g1, g2, g3⟩ := back ha hi
        subst eu
        simp only [] at h1
        rw [if_pos (by rw [Ts.d_len]; exact g3)] at h1
        have := h1 H' σ sl' a dx g1 g2
        rw [← hc]
        exact this
theorem e_call {f : Addr} {fd : FuncData} {ps : List Str} {x : Str} {p : Pos} {c : Cfg} {M : List D → RF} {k np : Nat} {io : List Nat} (F : FnOk X.prog X.w X.K X.mg X.base (L2.CX X.prog X.w) k f fd ps (spM c np io M)) (hr : Room k X.A) (hg : Gl X x) (hm : X.mg x = some (.ref f)) (hk : PySem.W.keepIn X.K (.ref f) = true) (hb : Binds X.K fd ps []) (tk : Takes X W)
    (ha : PA X (e :: es) (tAs g W as)) (hc : g.c = c) (hio : agIo 0 as = io) (hl : as.length = np) (hnd : (agSlots as).Nodup) (hdb : (x == ("__debug__" : Str)) = false := by decide) (he : starEach (e :: es) X.env = (false, eval e X.env) :: starEach es X.env := by rfl) (hpl : (backTo pos (starEach es X.env)).any (·.1) = false := by rfl) :
    PE X (.Call (.Name x p) (e :: es) [] pos) (tE g W (mCall M as)) := (pe_callS (E := WE W) F hr hg hm hk hb (fun σ => passAt tk σ) ha hdb he hpl).imp (call_imp hc hio hl hnd)
end
end VS

/-! VS, part l: built-ins. -/
namespace VS
open PySem PySem.Spec PyProof.Rows L2

/-! ### isinstance against a built-in class -/
inductive Ty where
  | int | bool | str | list | tuple
  deriving DecidableEq
def Ty.name : Ty → String
  | .int => "int" | .bool => "bool" | .str => "str" | .list => "list" | .tuple => "tuple"
def isTy : Ty → D → Option Sc
  | .int, .sc (.int _) => some (.bl true)
  | .int, .sc (.bl _) => some (.bl true)
  | .bool, .sc (.bl _) => some (.bl true)
  | .str, .sc (.str _) => some (.bl true)
  | .list, .lst _ _ => some (.bl true)
  | .tuple, .tup _ => some (.bl true)
  | _, .sc _ => some (.bl false)
  | _, .lst _ _ => some (.bl false)
  | _, .tup _ => some (.bl false)
  | _, .exn C _ _ => if C = "dict" then some (.bl false) else none
  | _, _ => none
def dTy : D → Option String
  | .sc .non => some "NoneType"
  | .sc (.bl _) => some "bool"
  | .sc (.int _) => some "int"
  | .sc (.str _) => some "str"
  | .lst _ _ => some "list"
  | .tup _ => some "tuple"
  | .exn C _ _ => if C = "dict" then some "dict" else none
  | _ => none
def isTab (a b : String) : Bool := a == b || (a == "bool" && b == "int")
theorem kitB_tab : ∀ a ∈ (["NoneType", "bool", "int", "str", "list", "tuple", "dict"] : List String), ∀ b ∈ (["int", "bool", "str", "list", "tuple"] : List String), kitB a b = some (isTab a b) := by decide +kernel
theorem isTy_tab (y : Ty) (d : D) (c : Sc) (h : isTy y d = some c) : ∃ a, dTy d = some a ∧ c = .bl (isTab a y.name) ∧ a ∈ (["NoneType", "bool", "int", "str", "list", "tuple", "dict"] : List String) := by
  cases d with
  | sc s => cases s <;> cases y <;> (simp only [isTy, Option.some.injEq] at h; subst h; refine ⟨_, rfl, ?_, ?_⟩ <;> decide)
  | lst _ _ => cases y <;> (simp only [isTy, Option.some.injEq] at h; subst h; refine ⟨_, rfl, ?_, ?_⟩ <;> decide)
  | tup _ => cases y <;> (simp only [isTy, Option.some.injEq] at h; subst h; refine ⟨_, rfl, ?_, ?_⟩ <;> decide)
  | exn C ns xs =>
    by_cases e : C = "dict"
    · subst e
      cases y <;> (simp only [isTy, if_true, Option.some.injEq] at h; subst h; refine ⟨"dict", by simp [dTy], ?_, ?_⟩ <;> decide)
    · cases y <;> simp [isTy, e] at h
  | _ => cases y <;> simp [isTy] at h
theorem tyX_of {c : Cfg} {H : Hp} {t : T} {a : String} (k : t.ok c H) (h : dTy t.d = some a) : TyX c.K H t.v (.type a) := by
  cases t with
  | sc s =>
    cases s <;> (simp only [T.d, dTy, Option.some.injEq] at h; subst h)
    · exact .base .non
    · exact .base (.bl _)
    · exact .base (.int _)
    · exact .base (.str _)
  | lst p o xs =>
    simp only [T.d, dTy, Option.some.injEq] at h; subst h
    cases o <;> simp only [T.ok] at k
    · exact .base (.lst k.1)
    · exact .base (.lst k.1)
    · obtain ⟨⟨o, e⟩, _⟩ := k; exact .base (.frz e)
    · rcases k.1 with (h | ⟨_, h⟩) | ⟨o, its, n, hk, hc, _⟩
      · cases h
      · cases h
      · exact .kList hk hc
  | tup p o xs =>
    simp only [T.d, dTy, Option.some.injEq] at h; subst h
    cases o <;> simp only [T.ok] at k
    · exact .base (.tup k.1)
    · rcases k.1 with (h | ⟨_, h⟩) | ⟨o, its, n, hk, hc, _⟩
      · cases h
      · cases h
      · exact .kTuple hk hc
  | exn p dx C ns xs =>
    simp only [T.d, dTy] at h
    split at h
    · rename_i e
      subst e
      cases h
      simp only [T.ok] at k
      cases dx with
      | none => exact absurd rfl k.2.2.2
      | some d =>
        obtain ⟨k1, k2, k3⟩ := k
        have k3 := k3 trivial
        subst k3
        simp only [exnO, if_true] at k2
        exact .base (.dK k2)
    · cases h
  | _ => simp [T.d, dTy] at h

section
variable {X : Cx} {g : Gh} {W : WX} {pos p p2 : Pos} {a b : Expr} {x : Str} {ma mb : Cm D} {oa ob : Opd} {α : Type}
theorem Ty.cls {n : String} : ∀ u, RelV (V.ty n) u → u = Value.type n := fun u h => h
theorem boot_ty (y : Ty) : bootBuiltins (Str.ofString y.name) = some (.type y.name) := by cases y <;> decide +kernel
theorem e_isi {y : Ty} {tn : Str} (ht : tn = Str.ofString y.name) (hK : X.K = g.c.K) (hg : Gl X "isinstance") (hm : X.mg "isinstance" = none) (hg2 : Gl X tn) (hm2 : X.mg tn = none) (ha : PE X a (tO g W oa)) (hn2 : tn ≠ "__name__") (hd2 : (tn == ("__debug__" : Str)) = false)
    (hs1 : starEach (a :: [.Name tn p2]) X.env = (false, eval a X.env) :: starEach [.Name tn p2] X.env := by rfl) (hs2 : starEach [.Name tn p2] X.env = (false, eval (.Name tn p2) X.env) :: starEach [] X.env := by rfl) (hpl : (backTo pos (starEach [.Name tn p2] X.env)).any (·.1) = false := by rfl) :
    PE X (.Call (.Name "isinstance" p) [a, .Name tn p2] [] pos) (tE g W (mP1 (isTy y) oa)) := by
  have hb : PE X (.Name tn p2) (tC (.ty y.name)) := pe_bltn hg2 hm2 (by rw [ht]; exact boot_ty y) rfl hn2 hd2
  refine (pe_callB call_isi hg hm (by decide +kernel) (pa_cons ha (pa_cons hb pa_nil hs2) hs1) (hpl := hpl) (he := hs1)).imp ?_
  refine p1_imp fun H u c Q k h q => ?_
  obtain ⟨t, e1, rfl, hmem⟩ := isTy_tab y u.d c h
  refine ⟨u.v, .ty y.name, .type t, .type y.name, isTab t y.name, rfl, .ty _, ?_, ?_, q trivial⟩
  · rw [hK]; exact tyX_of k e1
  · rw [hK]
    exact kit_ty (kitB_tab t hmem y.name (by cases y <;> decide))

/-! ### a built-in of one operand that is only looked at -/
def HR1 (g : Gh) (f : D → Option Sc) (r : List V → Hp → VK → Prop) : Prop := ∀ H (u : T) c Q, u.ok g.c H → f u.d = some c → (c.good → Q (c.v) H) → r [u.v] H Q
theorem e_b1 {id : String} {f : D → Option Sc} {r : List V → Hp → VK → Prop} (hc : CallR X (.builtin id) r) (hr : HR1 g f r) (hg : Gl X x) (hm : X.mg x = none) (hv : bootBuiltins x = some (.builtin id)) (ha : PE X a (tO g W oa)) (hn : x ≠ "__name__" := by decide) (hdb : (x == ("__debug__" : Str)) = false := by decide)
    (he : starEach (a :: []) X.env = (false, eval a X.env) :: starEach [] X.env := by rfl) : PE X (.Call (.Name x p) [a] [] pos) (tE g W (mP1 f oa)) :=
  (pe_callB hc hg hm hv (pa_cons ha pa_nil he) hn hdb he rfl).imp (p1_imp hr)
theorem e_t1 {id : String} {f : D → Option Sc} {r : List V → Hp → VK → Prop} (hc : CallR X (.type id) r) (hr : HR1 g f r) (hg : Gl X x) (hm : X.mg x = none) (hv : bootBuiltins x = some (.type id)) (ha : PE X a (tO g W oa)) (hn : x ≠ "__name__" := by decide) (hdb : (x == ("__debug__" : Str)) = false := by decide)
    (he : starEach (a :: []) X.env = (false, eval a X.env) :: starEach [] X.env := by rfl) : PE X (.Call (.Name x p) [a] [] pos) (tE g W (mP1 f oa)) :=
  (pe_callTy hc hg hm hv (pa_cons ha pa_nil he) hn hdb he rfl).imp (p1_imp hr)
def lenD : D → Option Sc
  | .sc (.str l) => some (.int l.length)
  | .lst _ xs => some (.int xs.length)
  | .tup xs => some (.int xs.length)
  | _ => none
theorem hr_len {K : PySem.W.Frag} (hK : K = g.c.K) : HR1 g lenD (fun xs H Q => ∃ x n, xs = [x] ∧ LenV K x H n ∧ Q (.int n) H) := fun H u c Q k h q => by
  subst hK
  cases u with
  | sc s =>
    cases s <;> simp [T.d, lenD] at h
    subst h
    simp only [T.ok] at k
    exact ⟨_, _, rfl, ⟨by rw [SZ_eq]; simpa [Str.length] using k.1, by simp [Str.length]⟩, q trivial⟩
  | lst p o xs =>
    simp [T.d, lenD, Ts.d_len] at h
    subst h
    exact ⟨_, _, rfl, .inl ⟨_, (lst_sq k).1, by simp⟩, q trivial⟩
  | tup p o xs =>
    simp [T.d, lenD, Ts.d_len] at h
    subst h
    exact ⟨_, _, rfl, .inr ⟨_, (tup_sq k).1, by simp⟩, q trivial⟩
  | _ => simp [T.d, lenD] at h
def absD : D → Option Sc
  | .sc (.int i) => some (.int i.natAbs)
  | _ => none
theorem hr_abs : HR1 g absD (fun xs H Q => ∃ i, xs = [.int i] ∧ Q (.int (if i < 0 then -i else i)) H) := fun H u c Q k h q => by
  cases u with
  | sc s =>
    cases s <;> simp [T.d, absD] at h
    rename_i i
    subst h
    refine ⟨i, rfl, ?_⟩
    have e : (if i < 0 then -i else i) = (i.natAbs : Int) := by split <;> omega
    rw [e]
    exact q trivial
  | _ => simp [T.d, absD] at h
def bls : List D → Option (List Bool)
  | [] => some []
  | .sc (.bl b) :: r => (bls r).map (b :: ·)
  | _ => none
theorem bls_ok : ∀ {ts : List T} {l : List Bool}, bls (Ts.d ts) = some l → ts.map T.v = l.map V.bl
  | [], l, h => by simp [Ts.d, bls] at h; subst h; rfl
  | t :: ts, l, h => by
    cases t with
    | sc x =>
      cases x <;> simp only [Ts.d, T.d, bls] at h <;> try cases h
      obtain ⟨r, hr, rfl⟩ := Option.map_eq_some_iff.mp h
      simp [bls_ok hr, T.v, Sc.v]
    | _ => simp [Ts.d, T.d, bls] at h
def allD : D → Option Sc
  | .lst _ xs => (bls xs).map fun l => .bl (l.all id)
  | _ => none
def anyD : D → Option Sc
  | .lst _ xs => (bls xs).map fun l => .bl (l.any id)
  | _ => none
theorem hr_all {K : PySem.W.Frag} (hK : K = g.c.K) : HR1 g allD (rAll K) := fun H u c Q k h q => by
  subst hK
  cases u with
  | lst p o xs =>
    simp only [T.d, allD] at h
    obtain ⟨l, hl, rfl⟩ := Option.map_eq_some_iff.mp h
    refine ⟨p, l, rfl, ?_, q trivial⟩
    rw [← bls_ok hl]; exact (lst_sq k).1
  | sc s => cases s <;> simp [T.d, allD] at h
  | _ => simp [T.d, allD] at h
theorem hr_any {K : PySem.W.Frag} (hK : K = g.c.K) : HR1 g anyD (rAny K) := fun H u c Q k h q => by
  subst hK
  cases u with
  | lst p o xs =>
    simp only [T.d, anyD] at h
    obtain ⟨l, hl, rfl⟩ := Option.map_eq_some_iff.mp h
    refine ⟨p, l, rfl, ?_, q trivial⟩
    rw [← bls_ok hl]; exact (lst_sq k).1
  | sc s => cases s <;> simp [T.d, anyD] at h
  | _ => simp [T.d, anyD] at h
def intL : List D → Option (List Int)
  | [] => some []
  | .sc (.int b) :: r => (intL r).map (b :: ·)
  | _ => none
theorem intL_ok : ∀ {ts : List T} {l : List Int}, intL (Ts.d ts) = some l → ts.map T.v = l.map V.int
  | [], l, h => by simp [Ts.d, intL] at h; subst h; rfl
  | t :: ts, l, h => by
    cases t with
    | sc x =>
      cases x <;> simp only [Ts.d, T.d, intL] at h <;> try cases h
      obtain ⟨r, hr, rfl⟩ := Option.map_eq_some_iff.mp h
      simp [intL_ok hr, T.v, Sc.v]
    | _ => simp [Ts.d, T.d, intL] at h
def sumD : D → Option Sc
  | .lst _ xs => (intL xs).map fun l => .int l.sum
  | _ => none
theorem hr_sum {K : PySem.W.Frag} (hK : K = g.c.K) : HR1 g sumD (rSum K) := fun H u c Q k h q => by
  subst hK
  cases u with
  | lst p o xs =>
    simp only [T.d, sumD] at h
    obtain ⟨l, hl, rfl⟩ := Option.map_eq_some_iff.mp h
    refine ⟨p, l, rfl, ?_, q trivial⟩
    rw [← intL_ok hl]; exact (lst_sq k).1
  | sc s => cases s <;> simp [T.d, sumD] at h
  | _ => simp [T.d, sumD] at h
/-- int(flag), int(n), int(text) -/
def intD : D → Option Sc
  | .sc (.int i) => some (.int i)
  | .sc (.bl b) => some (.int (if b then 1 else 0))
  | _ => none
theorem hr_int1 : HR1 g intD (fun xs H Q => (∃ i, xs = [.int i] ∧ Q (.int i) H) ∨ ∃ k, xs = [.bl k] ∧ Q (.int (if k then 1 else 0)) H) := fun H u c Q k h q => by
  cases u with
  | sc s =>
    cases s <;> simp [T.d, intD] at h <;> subst h
    · exact .inr ⟨_, rfl, q trivial⟩
    · exact .inl ⟨_, rfl, q trivial⟩
  | _ => simp [T.d, intD] at h
def ordD : D → Option Sc
  | .sc (.str [c]) => some (.int c)
  | _ => none
theorem hr_ord : HR1 g ordD (fun xs H Q => ∃ x, xs = [.str x] ∧ x.length = 1 ∧ Q (.int (x.cps.getD 0 0 : Nat)) H) := fun H u c Q k h q => by
  cases u with
  | sc s =>
    cases s with
    | str l =>
      match l, h with
      | [], h => simp [T.d, ordD] at h
      | [z], h =>
        simp [T.d, ordD] at h
        subst h
        exact ⟨_, rfl, rfl, q trivial⟩
      | _ :: _ :: _, h => simp [T.d, ordD] at h
    | _ => simp [T.d, ordD] at h
  | _ => simp [T.d, ordD] at h

/-! ### max, min of two -/
theorem e_b2 {id : String} {f : D → D → Option D} {r : List V → Hp → VK → Prop} (hc : CallR X (.builtin id) r) (hg : Gl X x) (hm : X.mg x = none) (hv : bootBuiltins x = some (.builtin id)) (ha : PA X [a, b] (tA g W [ma, mb]))
    (hr : ∀ H σ sl tm (t1 t2 : T) d Q, SR g H σ sl (t2 :: t1 :: tm) → f t1.d t2.d = some d → (∀ H' t, SR g H' σ sl (t :: tm) → t.d = d → Q t.v H') → r [t1.v, t2.v] H Q) (hn : x ≠ "__name__" := by decide) (hdb : (x == ("__debug__" : Str)) = false := by decide)
    (he : starEach [a, b] X.env = (false, eval a X.env) :: starEach [b] X.env := by rfl) (hpl : (backTo pos (starEach [b] X.env)).any (·.1) = false := by rfl) : PE X (.Call (.Name x p) [a, b] [] pos) (tE g W (mBin f ma mb)) :=
  (pe_callB hc hg hm hv ha hn hdb he hpl).imp fun σ H Q ⟨sl, tm, s, h⟩ => by
    refine tA2 (k := fun d ρ' => ∀ H' sl' t, SR g H' σ sl' (t :: tm) → den sl' = ρ' → t.d = d → Q t.v H') (f := fun x y => lift (f x y)) s h fun H' sl' t u s' h' => ?_
    cases q : f t.d u.d with
    | none => rw [q] at h'; exact h'.elim
    | some d =>
      rw [q] at h'
      exact hr H' σ sl' tm t u d Q s' q fun H'' t s'' e => h' H'' sl' t s'' rfl e
def maxD : D → D → Option D
  | .sc (.int i), .sc (.int j) => some (.int (max i j))
  | _, _ => none
def minD : D → D → Option D
  | .sc (.int i), .sc (.int j) => some (.int (min i j))
  | _, _ => none
theorem br_max (H : Hp) (σ : L2.St) (sl : List (Option T)) (tm : List T) (t1 t2 : T) (d : D) (Q : VK) (s : SR g H σ sl (t2 :: t1 :: tm)) (h : maxD t1.d t2.d = some d) (q : ∀ H' t, SR g H' σ sl (t :: tm) → t.d = d → Q t.v H') : (fun (xs : List V) H Q => ∃ i j, xs = [.int i, .int j] ∧ Q (V.int (if j > i then j else i)) H) [t1.v, t2.v] H Q := by
  cases t1 with
  | sc x =>
    cases t2 with
    | sc y =>
      cases x <;> cases y <;> simp [T.d, maxD] at h
      rename_i i j
      refine ⟨i, j, rfl, ?_⟩
      have e : (if j > i then j else i) = max i j := by rw [Int.max_def]; split <;> split <;> omega
      rw [e]
      exact q H (.sc (.int _)) (s.pop.pop.push _ trivial) h
    | _ => cases x <;> simp [T.d, maxD] at h
  | _ => simp [T.d, maxD] at h
theorem br_min (H : Hp) (σ : L2.St) (sl : List (Option T)) (tm : List T) (t1 t2 : T) (d : D) (Q : VK) (s : SR g H σ sl (t2 :: t1 :: tm)) (h : minD t1.d t2.d = some d) (q : ∀ H' t, SR g H' σ sl (t :: tm) → t.d = d → Q t.v H') : (fun (xs : List V) H Q => ∃ i j, xs = [.int i, .int j] ∧ Q (V.int (if j < i then j else i)) H) [t1.v, t2.v] H Q := by
  cases t1 with
  | sc x =>
    cases t2 with
    | sc y =>
      cases x <;> cases y <;> simp [T.d, minD] at h
      rename_i i j
      refine ⟨i, j, rfl, ?_⟩
      have e : (if j < i then j else i) = min i j := by rw [Int.min_def]; split <;> split <;> omega
      rw [e]
      exact q H (.sc (.int _)) (s.pop.pop.push _ trivial) h
    | _ => cases x <;> simp [T.d, minD] at h
  | _ => simp [T.d, minD] at h

/-! ### a new list of a list's items -/
/-- the items of what an operand is, in a new list -/
theorem SR.copy {H : Hp} {σ : L2.St} {sl : List (Option T)} {tm : List T} {t1 : Option T} {n : Addr} {xs ys : List T} (s : SR g H σ sl (xs? t1 tm)) (kx : Ts.ok g.c H xs) (hp : Ds.pur (Ts.d xs) = true)
    (hw : ∀ a, Ts.sh a xs ≤ So (T.sh a) sl + Ts.sh a (xs? t1 tm)) (hy : ∀ t ∈ ys, t ∈ xs) (hz : ys.length ≤ 16777216) (hn : H n = none) : SR g (upd H n (.lst (ys.map T.v))) σ sl (.lst n .own ys :: tm) := by
  have hO : ∀ a, Ts.oc a ys = 0 := fun a => Nat.eq_zero_of_not_pos fun hpos => by
    obtain ⟨t, m, ht⟩ := Ts.pos_oc hpos
    have := T.pur_oc a t (Ds.pur_mem hp (hy t m))
    omega
  have hS : ∀ a, 0 < Ts.sh a ys → 0 < Ts.sh a xs := fun a hpos => by
    obtain ⟨t, m, ht⟩ := Ts.pos_sh hpos
    have := Ts.sh_mem (a := a) (hy t m)
    omega
  have oky : Ts.ok g.c H ys := by rw [Ts.ok_iff]; exact fun t m => Ts.ok_iff.mp kx t (hy t m)
  have hnew : SR g H σ sl (ys.reverse ++ tm) := by
    refine s.tmp ?_ fun a => ?_
    · rw [Ts.ok_iff]
      intro t m
      rcases List.mem_append.mp m with m | m
      · exact Ts.ok_iff.mp oky t (List.mem_reverse.mp m)
      · exact Ts.ok_iff.mp s.xs.okT t m
    · have z1 := hO a
      have z2 := hS a
      have z3 := hw a
      rw [Ts.oc_append, Ts.sh_append, Ts.oc_rev, Ts.sh_rev]
      cases t1 with
      | none => simp only [xs?] at z3 ⊢; omega
      | some w => simp only [xs?, Ts.oc, Ts.sh] at z3 ⊢; omega
  exact hnew.newL hn hz oky fun z => by rw [Ts.oc_rev, Ts.sh_rev]; omega
def mNew (f : D → Option D) (oa : Opd) : Cm D := fun ρ => (oa.run ρ).bind fun t ρ => match oa.get t ρ with
  | some x => lift (f x) ρ
  | none => .stuck
def listD : D → Option D
  | .lst _ xs => if Ds.pur xs then some (.lst .own xs) else none
  | .tup xs => if Ds.pur xs then some (.lst .own xs) else none
  | _ => none
theorem e_list (hK : X.K = g.c.K) (hg : Gl X "list") (hm : X.mg "list" = none) (ha : PE X a (tO g W oa)) (he : starEach (a :: []) X.env = (false, eval a X.env) :: starEach [] X.env := by rfl) : PE X (.Call (.Name "list" p) [a] [] pos) (tE g W (mNew listD oa)) :=
  (pe_callTy call_list_of hg hm (by decide +kernel) (pa_cons ha pa_nil he) (he := he)).imp fun σ H Q ⟨sl, tm, s, h⟩ => by
    refine tO.of s h fun H1 sl1 t1 v1 s1 d1 h1 => ?_
    have hm1 : ∀ u, t1 = some u → u ∈ xs? t1 tm := fun u e => by subst e; simp [xs?]
    split at h1
    · rename_i x ex
      obtain ⟨w, kw, ew, fw, hw⟩ := d1.tree s1 hm1 ex
      subst fw ew
      cases w with
      | lst p o xs =>
        simp only [T.d, listD] at h1
        split at h1
        · rename_i hp
          have q := lst_sq kw
          refine ⟨p, _, rfl, .inl (by rw [hK]; exact q.1), fun n hn => ?_⟩
          exact h1 _ _ _ (s1.copy q.2.2 hp (fun a => by have := hw a; simp only [T.sh] at this; omega) (fun t m => m) q.2.1 hn) rfl rfl
        · exact h1.elim
      | tup p o xs =>
        simp only [T.d, listD] at h1
        split at h1
        · rename_i hp
          have q := tup_sq kw
          refine ⟨p, _, rfl, .inr (by rw [hK]; exact q.1), fun n hn => ?_⟩
          exact h1 _ _ _ (s1.copy q.2.2 hp (fun a => by have := hw a; simp only [T.sh] at this; omega) (fun t m => m) q.2.1 hn) rfl rfl
        · exact h1.elim
      | sc y => cases y <;> exact h1.elim
      | _ => exact h1.elim
    · exact h1.elim

/-! ### a list in a slot is changed -/
/-- x.append(e) -/
def mApp (i : Nat) (ma : Cm D) : Cm D := fun ρ => match ρ[i]? with
  | some (some (.lst _ _)) => (ma ρ).bind fun d ρ => match ρ[i]? with
    | some (some (.lst .own xs)) => if xs.length < 16777216 then .ok .non (ρ.set i (some (.lst .own (xs ++ [d])))) else .stuck
    | _ => .stuck
  | _ => .stuck
def mExt (i : Nat) (ma : Cm D) : Cm D := fun ρ => match ρ[i]? with
  | some (some (.lst _ _)) => (ma ρ).bind fun d ρ => match ρ[i]?, d with
    | some (some (.lst .own xs)), .lst o ys => if (o = .own ∨ o = .shr) ∧ xs.length + ys.length ≤ 16777216 then .ok .non (ρ.set i (some (.lst .own (xs ++ ys)))) else .stuck
    | _, _ => .stuck
  | _ => .stuck
/-- the tree in a slot is written: its list becomes zs, of its own items and of what is held on top -/
theorem SR.write {H : Hp} {σ : L2.St} {sl : List (Option T)} {tm es : List T} {i : Nat} {p : Addr} {xs zs : List T} (s : SR g H σ sl (es ++ tm)) (h : sl[i]? = some (some (T.lst p .own xs))) (hz : zs.length ≤ 16777216)
    (hk : Ts.ok g.c H zs) (ho : ∀ a, Ts.oc a zs ≤ Ts.oc a xs + Ts.oc a es) (hs : ∀ a, 0 < Ts.sh a zs → 0 < Ts.sh a xs + Ts.sh a es) :
    SR g (upd H p (.lst (zs.map T.v))) σ (sl.set i (some (T.lst p .own zs))) tm := by
  have hmem := s.slot h
  have k := s.okS _ hmem
  simp only [T.ok] at k
  have b1 : b2 (True ∧ True) = 1 := by simp [b2]
  have g1 := So_get (f := T.oc p) hmem
  simp only [T.oc] at g1
  rw [b1] at g1
  have iv := s.inv p
  rw [Ts.oc_append, Ts.sh_append] at iv
  have c1 : ∀ a, So (T.oc a) (sl.set i (some (T.lst p .own zs))) + (b2 (Ow.own = Ow.own ∧ p = a) + Ts.oc a xs) = So (T.oc a) sl + (b2 (Ow.own = Ow.own ∧ p = a) + Ts.oc a zs) := fun a => by
    have := So_set (f := T.oc a) (x := some (T.lst p .own zs)) h
    simpa [fO, T.oc] using this
  have c2 : ∀ a, So (T.sh a) (sl.set i (some (T.lst p .own zs))) + Ts.sh a xs = So (T.sh a) sl + Ts.sh a zs := fun a => by
    have := So_set (f := T.sh a) (x := some (T.lst p .own zs)) h
    simp only [fO, T.sh] at this
    omega
  have k0 : Ts.oc p zs = 0 ∧ Ts.sh p zs = 0 := by
    have h1 := ho p
    have h2 := hs p
    have g2 := So_get (f := T.sh p) hmem
    simp only [T.sh] at g2
    omega
  refine s.go (fun t m => ?_) ?_ (fun a => .inl ?_) (fun a => ?_) s.len (by simp [s.slen]) (fun j t hj => ?_) s.io
  · rcases mem_set m with e | e
    · cases e
      simp only [T.ok]
      exact ⟨upd_same, hz, Ts.stay zs hk fun a q => upd_ne fun e => by subst e; omega⟩
    · obtain ⟨j, hj⟩ := mem_get m
      rcases set_get hj with ⟨rfl, e'⟩ | ⟨ne, e'⟩
      · cases e'
        simp only [T.ok]
        exact ⟨upd_same, hz, Ts.stay zs hk fun a q => upd_ne fun e => by subst e; omega⟩
      · refine T.stay t (s.okS t e) fun a q => upd_ne fun ea => ?_
        subst ea
        -- another slot can't hold it
        have d0 := So_set (f := T.oc a) (x := none) h
        have d1 := So_get (f := T.oc a) (sl := sl.set i none) (t := t) (List.mem_of_getElem? (i := j) (by rw [List.getElem?_set_ne (Ne.symm ne)]; exact e'))
        have d2 := So_get (f := T.sh a) e
        simp only [fO, T.oc] at d0
        rw [b1] at d0
        omega
  · have kt := s.okT
    rw [Ts.ok_iff] at kt ⊢
    intro t m
    refine T.stay t (kt t (List.mem_append_right _ m)) fun a q => upd_ne fun ea => ?_
    subst ea
    have h1 := Ts.oc_mem (a := a) m; have h2 := Ts.sh_mem (a := a) m
    omega
  · have d1 := c1 a
    have d2 := c2 a
    have h1 := ho a
    have h2 := hs a
    have g2 := So_get (f := T.sh a) hmem
    have g3 := So_get (f := T.oc a) hmem
    simp only [T.sh, T.oc] at g2 g3
    rw [Ts.oc_append, Ts.sh_append]
    refine ⟨by omega, fun q => .inl ?_⟩
    omega
  · by_cases e : a = p
    · subst e
      refine .inr (.inr ?_)
      omega
    · exact .inl (upd_ne e)
  · rcases set_get hj with ⟨rfl, e⟩ | ⟨_, e⟩
    · cases e; have := s.at_ _ _ h; simpa [T.v] using this
    · exact s.at_ _ _ e
theorem own_list {H : Hp} {σ : L2.St} {sl : List (Option T)} {tm : List T} {i : Nat} {xs : List D} (s : SR g H σ sl tm) (h : (den sl)[i]? = some (some (.lst .own xs))) : ∃ p ts, sl[i]? = some (some (T.lst p .own ts)) ∧ Ts.d ts = xs ∧ H p = some (.lst (ts.map T.v)) ∧ Ts.ok g.c H ts ∧ σ[i]? = some (some (.ref p)) := by
  obtain ⟨t, e1, e2, e4, e3⟩ := s.val h
  cases t with
  | lst p o ts =>
    simp only [T.d, D.lst.injEq] at e2
    obtain ⟨rfl, rfl⟩ := e2
    simp only [T.ok] at e4
    exact ⟨p, ts, e1, rfl, e4.1, e4.2.2, e3⟩
  | _ => simp [T.d] at e2
theorem some_list {H : Hp} {σ : L2.St} {sl : List (Option T)} {tm : List T} {i : Nat} {o : Ow} {xs : List D} (hK : X.K = g.c.K) (s : SR g H σ sl tm) (h : (den sl)[i]? = some (some (.lst o xs))) : ∃ p, σ[i]? = some (some (.ref p)) ∧ tyV X.K "list" (.ref p) H := by
  obtain ⟨t, e1, e2, e4, e3⟩ := s.val h
  cases t with
  | lst p o ts => exact ⟨p, e3, .inl ⟨rfl, _, by rw [hK]; exact (lst_sq e4).1⟩⟩
  | _ => simp [T.d] at e2
theorem e_app {y : Str} {apos : Pos} {i : Nat} (hK : X.K = g.c.K) (hp : PE X (.Call (.Attribute (.Name y p) "append" apos) [a] [] pos) (tBM X.K "list" rAppend (tVar i) (tA g W [ma]))) : PE X (.Call (.Attribute (.Name y p) "append" apos) [a] [] pos) (tE g W (mApp i ma)) :=
  hp.imp fun σ H Q ⟨sl, tm, s, h⟩ => by
    unfold mApp at h
    split at h
    · rename_i o xs e0
      obtain ⟨p, e3, hty⟩ := some_list hK s e0
      refine ⟨_, e3, hty, tA1 s h fun H1 sl1 t s1 h1 => ?_⟩
      split at h1
      · rename_i ys e1
        obtain ⟨p', ts, g1, rfl, g3, g4, g5⟩ := own_list s1 e1
        rw [e3] at g5
        cases g5
        split at h1
        · rename_i hz
          rw [Ts.d_len] at hz
          refine ⟨_, _, t.v, rfl, rfl, g3, by rw [SZ_eq]; simpa using hz, ?_⟩
          have s2 := SR.write (zs := ts ++ [t]) (es := [t]) (tm := tm) s1 g1 (by simp; omega) (by
              rw [Ts.ok_iff]; intro u m
              rcases List.mem_append.mp m with m | m
              · exact Ts.ok_iff.mp g4 u m
              · have e := List.mem_singleton.mp m; subst e; exact s1.top) (fun a => by simp [Ts.oc_append, Ts.oc]) (fun a => by simp [Ts.sh_append, Ts.sh])
          rw [List.map_append] at s2
          exact h1 _ _ (.sc .non) (s2.push _ trivial) (by rw [den_set]; simp [T.d, Ts.d_append, Ts.d]) rfl
        · exact h1.elim
      · exact h1.elim
    · exact h.elim
theorem e_ext {y : Str} {apos : Pos} {i : Nat} (hK : X.K = g.c.K) (hp : PE X (.Call (.Attribute (.Name y p) "extend" apos) [a] [] pos) (tBM X.K "list" rExtend (tVar i) (tA g W [ma]))) : PE X (.Call (.Attribute (.Name y p) "extend" apos) [a] [] pos) (tE g W (mExt i ma)) :=
  hp.imp fun σ H Q ⟨sl, tm, s, h⟩ => by
    unfold mExt at h
    split at h
    · rename_i o xs e0
      obtain ⟨p, e3, hty⟩ := some_list hK s e0
      refine ⟨_, e3, hty, tA1 s h fun H1 sl1 t s1 h1 => ?_⟩
      split at h1
      · rename_i zs o2 ys e1 e2
        obtain ⟨p', ts, g1, rfl, g3, g4, g5⟩ := own_list s1 e1
        rw [e3] at g5
        cases g5
        split at h1
        · rename_i hz
          cases t with
          | lst q o3 us =>
            simp only [T.d, D.lst.injEq] at e2
            obtain ⟨rfl, rfl⟩ := e2
            rw [Ts.d_len, Ts.d_len] at hz
            have kt := s1.top
            have hq : H1 q = some (.lst (us.map T.v)) := by
              rcases hz.1 with rfl | rfl <;> (simp only [T.ok] at kt; exact kt.1)
            have ku := (lst_sq kt).2.2
            refine ⟨_, q, _, _, rfl, rfl, g3, hq, by rw [SZ_eq]; simpa using hz.2, ?_⟩
            have s2 := SR.write (zs := ts ++ us) (es := [T.lst q o3 us]) (tm := tm) s1 g1 (by simpa using hz.2) (by
                rw [Ts.ok_iff]; intro u m
                rcases List.mem_append.mp m with m | m
                · exact Ts.ok_iff.mp g4 u m
                · exact Ts.ok_iff.mp ku u m) (fun a => by simp [Ts.oc_append, Ts.oc, T.oc]) (fun a => by simp [Ts.sh_append, Ts.sh, T.sh]; omega)
            rw [List.map_append] at s2
            exact h1 _ _ (.sc .non) (s2.push _ trivial) (by rw [den_set]; simp [T.d, Ts.d_append]) rfl
          | _ => simp [T.d] at e2
        · exact h1.elim
      · exact h1.elim
    · exact h.elim
/-- x[i] = e -/
def mSetI (i : Nat) (mi : Cm D) : D → Cm Unit := fun d ρ => match ρ[i]? with
  | some (some (.lst _ _)) => (mi ρ).bind fun j ρ => match ρ[i]?, j with
    | some (some (.lst .own xs)), .sc (.int k) => match ixN xs.length k with
      | some n => .ok () (ρ.set i (some (.lst .own (xs.set n d))))
      | none => .stuck
    | _, _ => .stuck
  | _ => .stuck
theorem Ts.d_set (ts : List T) (n : Nat) (t : T) : Ts.d (ts.set n t) = (Ts.d ts).set n t.d := by simp [Ts.d_map, List.map_set]
theorem Ts.oc_set (a : Addr) (t : T) : ∀ (ts : List T) (n : Nat), Ts.oc a (ts.set n t) ≤ Ts.oc a ts + t.oc a
  | [], n => by simp [Ts.oc]
  | u :: ts, 0 => by simp [Ts.oc]; omega
  | u :: ts, n + 1 => by have := Ts.oc_set a t ts n; simp [Ts.oc]; omega
theorem Ts.sh_set (a : Addr) (t : T) : ∀ (ts : List T) (n : Nat), Ts.sh a (ts.set n t) ≤ Ts.sh a ts + t.sh a
  | [], n => by simp [Ts.sh]
  | u :: ts, 0 => by simp [Ts.sh]; omega
  | u :: ts, n + 1 => by have := Ts.sh_set a t ts n; simp [Ts.sh]; omega
theorem g_set {y : Str} {i : Nat} (hp : PG X (.Subscript (.Name y p) a pos) (gSub (tVar i) (tE g W ma) rSetL)) : PG X (.Subscript (.Name y p) a pos) (tG g W (mSetI i ma)) :=
  hp.imp fun v σ H Q ⟨sl, tm, t, s, e, h⟩ => by
    subst e
    unfold mSetI at h
    split at h
    · rename_i o xs e0
      obtain ⟨t0, _, e2, e4, e3⟩ := s.val e0
      refine ⟨t0.v, e3, tE.of s (Lands.drop h) fun H1 sl1 u s1 h1 => ?_⟩
      split at h1
      · rename_i ys k e1 ek
        obtain ⟨p', ts, g1, rfl, g3, g4, g5⟩ := own_list s1 e1
        rw [e3] at g5
        have ev : t0.v = .ref p' := Option.some.inj (Option.some.inj g5)
        cases u with
        | sc z =>
          simp only [T.d, D.int, D.sc.injEq] at ek
          subst ek
          rw [Ts.d_len] at h1
          cases en : ixN ts.length k with
          | none => rw [en] at h1; exact h1.elim
          | some n =>
            rw [en] at h1
            refine ⟨p', ts.map T.v, k, n, ev, rfl, g3, by rw [List.length_map]; exact en, ?_⟩
            have s1' := s1.pop
            have s2 := SR.write (zs := ts.set n t) (es := [t]) (tm := tm) s1' g1 (by simp; have := s1'.okS _ (s1'.slot g1); simp only [T.ok] at this; exact this.2.1) (by
                rw [Ts.ok_iff]; intro w m
                rcases mem_set m with e | m
                · subst e; exact s1'.top
                · exact Ts.ok_iff.mp g4 w m) (fun a => by have := Ts.oc_set a t ts n; simp only [Ts.oc]; omega) (fun a => by have := Ts.sh_set a t ts n; simp only [Ts.sh]; omega)
            rw [List.map_set] at s2
            exact h1 _ _ _ s2 (by rw [den_set]; simp [T.d, Ts.d_set])
        | _ => simp [T.d] at ek
      · exact h1.elim
    · exact h.elim
end
end VS

/-! VS, part m: the def of the text, the end of a law. -/
namespace VS
open PySem PySem.Spec PyProof.Rows L2
theorem fn_okD {P : Program} {w : World} {K : PySem.W.Frag} {mg : Str → Option Value} {base : Heap} {c : Cfg} {x qual : Str} {params : Arguments} {sbody : List Stmt} {scope : Scope} {dvs : List V} {kws : List (Str × V)} {f : Addr} {fd : FuncData} {N ps : List Str} {k np : Nat} {io : List Nat} {m : Cm Out}
    (F : FunD K x qual params sbody scope dvs kws f fd) (S : FnScope N ps scope) (hps : ps.length = np) (hN : np ≤ N.length) (hio : ∀ i ∈ io, i < np) (hnd : io.Nodup)
    (body : ∀ (g : Gh) (cdv : Value) (A : Around) (outer : List Env) (s : Shared) (H : Hp) (E : XK), Room k (A.deeper (envOfC qual scope s.heap.objs.size f cdv)) → g.c = c → g.N = N.length → g.io.map (·.1) = io →
      PSs (cxOf (L2.CX P w) P w K mg base N qual scope f cdv A outer s H E) sbody (tS g (fun cls d _ H => E cls d H) m)) :
    FnOk P w K mg base (L2.CX P w) (k + 1) f fd ps (spM c np io (runF N.length io m)) := by
  obtain ⟨oc, od, dV, kV, doc, pm, an, cdv, ct, osl, rfl, lk, hcd, _, _⟩ := F.ex
  refine fn_of lk hcd S (spM_len hps) fun A outer s H vs Q E hr h => ?_
  exact body_ok (fun g => body g cdv A outer s H E hr) S hps hN hio hnd h
/-- a law's end -/
theorem walk_ofEw {l : PySem.W.OpenLaw} {n k : Nat} {q : Program} {loose : List Str} {XP : (Str → Option Value) → Heap → Prop} {YP : World → Heap → Prop} {d : DefRec} {x : Str}
    (hn : l.most = some n) (hn2 : n ≤ sizeLine) (hdf : d.params.defaults = []) (hr : Room k callerA)
    (F : ∀ (w : World) (mg : Str → Option Value) (fa : Addr) (h : Heap), YP w h → h.Ns mainGlobals mg → mg d.name = some (.ref fa) →
      ∃ (K : PySem.W.Frag) (fd : FuncData) (c : Cfg) (M : List D → RF), K.In h ∧ (c.K = K ∧ c.tb = []) ∧ (∀ (s : Shared) (u : Value), BindsTo s fd ⟨[u], []⟩ [(x, u)]) ∧
        (∀ (o : Ow) (ns : List Int), o = .frz ∨ o = .stc → ns.length ≤ n → M [.lst o (ns.map D.int)] = .ok (.bl true) []) ∧
        ∀ base : Heap, K.In base → base.Ns mainGlobals mg → FnOk l.prog w K mg base (L2.CX l.prog w) k fa fd [x] (spM c 1 [] M)) :
    PySem.W.WalkO q loose XP YP l.row.toRowW d [] (fun f vs => PySem.call f vs) := by
  refine Att.attach_call hn hdf fun w s₀ s₁ mg mb fa o pm cd doc a vs ns G Y ho hd hcd hmg hobj hints hlen hg => ?_
  obtain ⟨K, fd, c, M, KX, ⟨hcK, hct⟩, hb, hM, hF⟩ := F w mg fa _ Y G.T.g hmg
  refine law_call KX G.T.g G.T.b G.T.builtins G.T.nolimit hg hobj hints (Nat.le_trans hlen hn2) hr hF hb (fun H hO hS => ?_) fun H e s' h => ?_
  · have gi : ∀ m : List Int, Ts.ok c H (m.map fun i => T.sc (.int i)) := fun m => by
      rw [Ts.ok_iff]; intro t ht
      obtain ⟨i, _, rfl⟩ := List.mem_map.mp ht
      exact trivial
    have dm : ∀ m : List Int, Ts.d (m.map fun i => T.sc (.int i)) = m.map D.int := fun m => by
      rw [Ts.d_map, List.map_map]; rfl
    have vm : ∀ m : List Int, (m.map fun i => T.sc (.int i)).map T.v = m.map V.int := fun m => by
      rw [List.map_map]; rfl
    have om : ∀ (a : Addr) (m : List Int), Ts.oc a (m.map fun i => T.sc (.int i)) = 0 ∧ Ts.sh a (m.map fun i => T.sc (.int i)) = 0 := fun a m => by
      induction m with
      | nil => simp [Ts.oc, Ts.sh]
      | cons i m ih => simp [Ts.oc, Ts.sh, T.oc, T.sh, ih]
    have hz : (ns.map fun i => T.sc (.int i)).length ≤ 16777216 := by
      rw [List.length_map]; have := Nat.le_trans hlen hn2; rw [SZ_eq] at this; exact this
    have key : ∀ o : Ow, o = .frz ∨ o = .stc → (T.lst a o (ns.map fun i => T.sc (.int i))).ok c H → spM c 1 [] M [.ref a] H (fun v _ => v = .bl true) fun _ _ _ => False := fun o ho k => by
      refine ⟨[T.lst a o (ns.map fun i => T.sc (.int i))], rfl, by simp [Ts.ok, k], (fun p hp => by rw [hct] at hp; cases hp), fun b => .inl ?_, rfl, ?_⟩
      · have := om b ns
        rcases ho with rfl | rfl <;> simp [Ts.oc, T.oc, b2, this]
      · rw [show Ts.d [T.lst a o (ns.map fun i => T.sc (.int i))] = [D.lst o (ns.map D.int)] by simp [Ts.d, T.d, dm], hM o ns ho hlen]
        intro H' t us _ ht _ _
        cases t with
        | sc s => simp [T.d] at ht; subst ht; rfl
        | _ => simp [T.d] at ht
    rcases hS with (h | ⟨o, h⟩) | h
    · rcases hO a with e | ⟨o, xs, e⟩
      · rw [h] at e; cases e
      · rw [h] at e; cases e
    · exact key .frz (.inl rfl) (by simp only [T.ok]; exact ⟨⟨o, by rw [vm]; exact h⟩, hz, gi ns⟩)
    · exact key .stc (.inr rfl) (by simp only [T.ok]; exact ⟨by rw [vm, hcK]; exact .inr h, hz, gi ns⟩)
  · obtain ⟨_, _, _, _, _, _, _, _, _, _, _, _, z⟩ := h
    exact z
end VS

/-! VS, part n: what a text's proof leans on. -/
namespace VS
open PySem PySem.Spec PyProof.Rows L2
def mStuckO : Cm Out := fun _ => .stuck
def mStuckD : Cm D := fun _ => .stuck
section
variable {X : Cx} {g : Gh} {W : WX} {pos : Pos} {K : PySem.W.Frag} {st : Stmt} {e a : Expr} {es : List Expr} {as : List Ag}
theorem s_never : PS X st (tS g W mStuckO) := ps_never.imp fun De σ H ⟨sl, tm, s, h⟩ => h
theorem hq_eq (hK : K = g.c.K) : HR2 g eqD (rEqD K) := by subst hK; exact hr_eq
theorem hq_ne (hK : K = g.c.K) : HR2 g neD (rNeD K) := by subst hK; exact hr_ne
theorem hq_in (hK : K = g.c.K) : HR2 g (inD false) (fun x y H Q => (∃ i j, x = .str i ∧ y = .str j ∧ Q (.bl (!(Builtin.Str.occurrences j i 0 j.length 1).isEmpty)) H) ∨ rIn K false x y H Q) := by subst hK; exact hr_in
theorem hq_notin (hK : K = g.c.K) : HR2 g (inD true) (fun x y H Q => (∃ i j, x = .str i ∧ y = .str j ∧ Q (.bl (!(!(Builtin.Str.occurrences j i 0 j.length 1).isEmpty))) H) ∨ rIn K true x y H Q) := by subst hK; exact hr_notin

/-- a def of the text: where it stands, its name in the module, how its arguments bind -/
structure At (K : PySem.W.Frag) (mg : Str → Option Value) (x : Str) (st : Stmt) (ps : List Str) (f : Addr) (fd : FuncData) : Prop where
  F : FunD K x x (defArgs st) (defBody st) (defScope st) [] [] f fd
  g : mg x = some (.ref f)
  b : Binds K fd ps []

/-! ### calls by keywords alone -/
/-- one keyword -/
theorem e_callK1 {f : Addr} {fd : FuncData} {x k1 : Str} {p kp : Pos} {c : Cfg} {M : List D → RF} {k : Nat} {m : Cm D} (F : FnOk X.prog X.w X.K X.mg X.base (L2.CX X.prog X.w) k f fd [k1] (spM c 1 [] M)) (hr : Room k X.A) (hg : Gl X x) (hm : X.mg x = some (.ref f)) (hk : PySem.W.keepIn X.K (.ref f) = true)
    (hb : ∀ (s : Shared) (u : Value), BindsTo s fd ⟨[], [(k1, u)]⟩ [(k1, u)]) (tk : Takes X W)
    (ha : PE X a (tE g W m)) (hc : g.c = c) (hdb : (x == ("__debug__" : Str)) = false := by decide) : PE X (.Call (.Name x p) [] [⟨some k1, a, kp⟩] pos) (tE g W (mCall M [.e m])) := by
  refine ⟨fun pins s σ H Q I h => ?_⟩
  refine wpAny_Call_Name_kw (ld_glob I hg hm ?_ hdb)
  refine PySem.W.callWith_KW0 (h₀ := X.base) I.ok.mod.kin hk rfl ?_ rfl
  -- the value of the keyword, as an argument alone
  have h2 := call_imp (as := [.e m]) (np := 1) (io := []) hc rfl rfl (by simp [agSlots]) σ H Q h
  obtain ⟨sl, tm, s1, h3⟩ := h2
  have hpk : PK X [⟨some k1, a, kp⟩] (tCons (tE g W m) tNil) := pk_cons ha pk_nil
  refine thn (hpk.run pos pins s σ H (fun vs H1 => spM c 1 [] M vs H1 Q (WE W σ)) I ?_) fun ws s2 ⟨zs, H2, I2, rz, q2⟩ => ⟨I2.kIn, ?_⟩
  · show tE g W m σ H _
    refine tE.of (f := fun d ρ => (agRun [] ρ).bind fun ts ρ => R.ok (some d :: ts) ρ) s1 h3 fun H' sl' t s' h' => ?_
    simp only [agRun, R.bind_ok, Lands] at h'
    have z := h' H' sl' [some t] [t.v] (by simpa [live] using s') rfl (by simp) (by simp [AgV])
    simp only [tNil]

    exact z
  · show wpAny _ _ (call (.ref f) [] ([some k1].filterMap id |>.zip ws)) _ _ _
    have hl : zs.length = 1 := by
      obtain ⟨ts, e, _, _, _, hl, _⟩ := q2
      rw [e]; simpa using hl
    obtain ⟨z, rfl⟩ : ∃ z, zs = [z] := List.length_eq_one_iff.mp hl
    obtain ⟨u, rfl, r⟩ : ∃ u, ws = [u] ∧ RelV z u := by
      cases rz with
      | cons r rr => cases rr; exact ⟨_, rfl, r⟩
    · refine wpAny_call (codeAny_mono (F.run X.A X.stack s2 H2 ⟨[], [(k1, u)]⟩ [u] [z] Q (WE W σ) hr I2.env0 (hb s2 u) (.cons r .nil) q2) fun r s' hq => ?_)
      cases r with
      | error e => exact (passAt tk σ) pins H2 s2 e s' I2 hq
      | ok fl =>
        cases fl with
        | ret u => exact I2.after hq
        | next => exact False.elim hq
        | brk => exact False.elim hq
        | cont => exact False.elim hq

theorem e_gI2 {x : Str} {i : Int} (hg : Gl X x) (h : ∃ t, X.mg x = some (.int i t)) (hd : (x == ("__debug__" : Str)) = false := by decide) : PE X (.Name x pos) (tE g W (mC (.int i))) := by
  obtain ⟨t, h⟩ := h
  exact e_gI hg h ⟨t, rfl⟩ hd
theorem e_gS2 {x : Str} {l : List Nat} (hg : Gl X x) (hl : (Sc.str l).good) (h : ∃ t, X.mg x = some (.str ⟨l.toArray⟩ t)) (hd : (x == ("__debug__" : Str)) = false := by decide) : PE X (.Name x pos) (tE g W (mC (.str l))) := by
  obtain ⟨t, h⟩ := h
  exact e_gS hg hl h ⟨t, rfl⟩ hd
/-- a tuple of the text: of ints and texts -/
def mK (l : List Sc) : Cm D := fun ρ => .ok (.tup (l.map D.sc)) ρ
theorem e_gT {x : Str} {l : List Sc} (hK : X.K = g.c.K) (hl : l.length ≤ 16777216 ∧ ∀ s ∈ l, s.good) (hg : Gl X x) (h : ∃ a, X.mg x = some (.ref a) ∧ StcT X.K a (l.map Sc.v)) (hd : (x == ("__debug__" : Str)) = false := by decide) : PE X (.Name x pos) (tE g W (mK l)) := by
  obtain ⟨a, h, hs⟩ := h
  refine (pe_glob (v := .ref a) hg h rfl hd).imp fun σ H Q ⟨sl, tm, s, q⟩ => ?_
  have vm : (l.map T.sc).map T.v = l.map Sc.v := by rw [List.map_map]; rfl
  have om : ∀ (a : Addr) (m : List Sc), Ts.oc a (m.map T.sc) = 0 ∧ Ts.sh a (m.map T.sc) = 0 := fun a m => by
    induction m with
    | nil => simp [Ts.oc, Ts.sh]
    | cons i m ih => simp [Ts.oc, Ts.sh, T.oc, T.sh, ih]
  exact q H sl (T.tup a true (l.map T.sc)) (s.tmp (by
    simp only [Ts.ok, T.ok]
    refine ⟨⟨by rw [vm, ← hK]; exact hs, by simpa using hl.1, ?_⟩, s.okT⟩
    rw [Ts.ok_iff]; intro t ht
    obtain ⟨i, hi, rfl⟩ := List.mem_map.mp ht
    exact hl.2 i hi) fun b => by have := om b l; simp only [Ts.oc, Ts.sh, T.oc, T.sh]; have := b2_false (p := (true = false ∧ a = b)) (by simp); omega) rfl (by simp [T.d, Ts.d_map])
theorem comp_io {l vs : List Nat} (h : g.io.map (·.1) = l) (hv : l.all (fun i => !vs.contains i) = true) : ∀ p ∈ g.io, p.1 ∉ vs := fun p hp hm => by
  have := List.all_eq_true.mp hv p.1 (by rw [← h]; exact List.mem_map_of_mem hp)
  simp at this
  exact this hm
theorem bindK1 {x qual : Str} {params : Arguments} {body : List Stmt} {scope : Scope} {k1 : Str} {f : Addr} {fd : FuncData} (F : FunD K x qual params body scope [] [] f fd)
    (h : ∀ (kV doc pm : Value) (an : Option Addr) (cdv ct u : Value), bindArgs (PySem.W.fnOf x qual params body scope .none kV doc pm an cdv ct) ⟨[], [(k1, u)]⟩ = pure [(k1, u)]) : ∀ (s : Shared) (u : Value), BindsTo s fd ⟨[], [(k1, u)]⟩ [(k1, u)] := fun s u => by
  obtain ⟨oc, od, dV, kV, doc, pm, an, cdv, ct, osl, rfl, lk, hcd, hD, hK⟩ := F.ex
  rcases hD with ⟨_, rfl⟩ | ⟨e, _⟩
  · exact .of_eq (h kV doc pm an cdv ct u)
  · exact absurd rfl e
/-- a tuple's items to several targets -/
def mTupT (fs : List (D → Cm Unit)) : D → Cm Unit := fun d ρ => match d with
  | .tup ds => if ds.length = fs.length then putAll fs ds ρ else .stuck
  | _ => .stuck
theorem g_tupT {es : List Expr} {k n : Nat} {fs : List (D → Cm Unit)} (hc : X.calm = true) (h : PGs X es (tGs g W fs)) (hK : X.K = g.c.K)
    (hn : (assignEach es X.env).length = n := by rfl) (hst : (assignEach es X.env).findIdx? (·.1) = none := by rfl) (hfn : fs.length = n := by rfl) : PG X (.Tuple es k pos) (tG g W (mTupT fs)) := g_tup hc h hK hn hst hfn
/-- int(flag), int(n), int(text) -/
theorem call_intA : CallR X (.type "int") (fun xs H Q => (∃ i, xs = [.int i] ∧ Q (.int i) H) ∨ ∃ k, xs = [.bl k] ∧ Q (.int (if k then 1 else 0)) H) := call_int1
theorem hr_intA : HR1 g intD (fun xs H Q => (∃ i, xs = [.int i] ∧ Q (.int i) H) ∨ ∃ k, xs = [.bl k] ∧ Q (.int (if k then 1 else 0)) H) := hr_int1
end
end VS

/-! VS, part o: a text's methods, join, replace, a loop over a text. -/
namespace VS
open PySem PySem.Spec PyProof.Rows L2
section
variable {X : Cx} {g : Gh} {W : WX} {pos : Pos} {a b e f : Expr} {ma mb m : Cm D} {oa ob : Opd}
theorem str_eq {x : Str} {l : List Nat} (h : x.cps.toList = l) : x = ⟨l.toArray⟩ := by
  subst h
  cases x
  simp
def mM (f : D → D → Option Sc) (x y : Opd) : Cm D := fun ρ => (x.run ρ).bind fun t ρ => match x.get t ρ with
  | some (.sc (.str _)) => (y.run ρ).bind fun u ρ => match x.get t ρ, y.get u ρ with
    | some v, some w => (lift (f v w) ρ).bind fun s ρ => .ok (.sc s) ρ
    | _, _ => .stuck
  | _ => .stuck
def HM1 (g : Gh) (f : D → D → Option Sc) (r : V → List V → Hp → VK → Prop) : Prop := ∀ H (u1 u2 : T) c Q, u1.ok g.c H → u2.ok g.c H → f u1.d u2.d = some c → (c.good → Q (c.v) H) → r u1.v [u2.v] H Q
theorem m1_imp {f : D → D → Option Sc} {r : V → List V → Hp → VK → Prop} (hr : HM1 g f r) : ∀ σ H Q, tE g W (mM f oa ob) σ H Q → tM1 r (tO g W oa) (tO g W ob) σ H Q := fun σ H Q ⟨sl, tm, s, h⟩ => by
  refine tO.of s h fun H1 sl1 t1 v1 s1 d1 h1 => ?_
  split at h1
  · rename_i x ex
    have hm0 : ∀ u, t1 = some u → u ∈ xs? t1 tm := fun u e => by subst e; simp [xs?]
    obtain ⟨u0, k0, e0, f0, _⟩ := d1.tree s1 hm0 ex
    refine ⟨?_, ?_⟩
    · subst f0
      cases u0 with
      | sc y => simp only [T.d, D.sc.injEq] at e0; subst e0; exact ⟨_, rfl⟩
      | _ => simp [T.d] at e0
    · refine tO.of s1 (Lands.drops h1) fun H2 sl2 t2 v2 s2 d2 h2 => ?_
      split at h2
      · rename_i x y ex ey
        have hm1 : ∀ u, t1 = some u → u ∈ xs? t2 (xs? t1 tm) := fun u e => by subst e; cases t2 <;> simp [xs?]
        have hm2 : ∀ u, t2 = some u → u ∈ xs? t2 (xs? t1 tm) := fun u e => by subst e; simp [xs?]
        have d1' : Held g H2 oa σ sl2 t1 v1 := ⟨d1.is⟩
        obtain ⟨u1, k1, e1, f1, _⟩ := d1'.tree s2 hm1 ex
        obtain ⟨u2, k2, e2, f2, _⟩ := d2.tree s2 hm2 ey
        subst f1 f2 e1 e2
        cases q : f u1.d u2.d with
        | none => rw [q] at h2; exact h2.elim
        | some c =>
          rw [q] at h2
          exact hr H2 u1 u2 c Q k1 k2 q fun gc => (h2 H2 sl2 (.sc c) (s2.xs.xs.push c gc) rfl rfl)
      · exact h2.elim
  · exact h1.elim
theorem e_m {id : String} {name : Str} {apos : Pos} {fm : D → D → Option Sc} {r : V → List V → Hp → VK → Prop} (slot : Slot "str" name id) (ty : typeOf (.builtin id) = pure (.type "method_descriptor")) (rule : MtR X id r) (hr : HM1 g fm r) (ho : PE X a (tO g W oa)) (he : PE X b (tO g W ob))
    (hs : starEach [b] X.env = [(false, eval b X.env)] := by rfl) (hbase : attributeBase a name X.env (eval a X.env) = eval a X.env := by rfl) (hline : (apos.endLine == pos.line) = true := by rfl) :
    PE X (.Call (.Attribute a name apos) [b] [] pos) (tE g W (mM fm oa ob)) := (pe_m1 slot ty rule ho he hs hbase hline).imp (m1_imp hr)
/-! ### join -/
def strL : List D → Option (List (List Nat))
  | [] => some []
  | .sc (.str b) :: r => (strL r).map (b :: ·)
  | _ => none
theorem strL_ok {c : Cfg} {H : Hp} : ∀ {ts : List T} {l : List (List Nat)}, Ts.ok c H ts → strL (Ts.d ts) = some l → ts.map T.v = (l.map fun z => (⟨z.toArray⟩ : Str)).map V.str ∧ ∀ z ∈ l, (Sc.str z).good
  | [], l, k, h => by simp [Ts.d, strL] at h; subst h; simp
  | t :: ts, l, k, h => by
    cases t with
    | sc x =>
      cases x <;> simp only [Ts.d, T.d, strL] at h <;> try cases h
      rename_i z
      obtain ⟨r, hr, rfl⟩ := Option.map_eq_some_iff.mp h
      simp only [Ts.ok] at k
      obtain ⟨q1, q2⟩ := strL_ok k.2 hr
      refine ⟨by simp only [List.map_cons, q1]; rfl, fun y hy => ?_⟩
      rcases List.mem_cons.1 hy with rfl | hy
      · simpa [T.ok] using k.1
      · exact q2 y hy
    | _ => simp [Ts.d, T.d, strL] at h
def glL (s : List Nat) : List (List Nat) → List Nat
  | [] => []
  | x :: r => s ++ x ++ glL s r
def joinL (s : List Nat) : List (List Nat) → List Nat
  | [] => []
  | x :: r => x ++ glL s r
theorem gl_glue (s : List Nat) : ∀ r : List (List Nat), StrLaws.glueL s (r.map fun z => (⟨z.toArray⟩ : Str)) = glL s r
  | [] => rfl
  | x :: r => by simp [StrLaws.glueL, glL, gl_glue s r]
theorem join_eq (s : List Nat) (ys : List (List Nat)) : Txt.join ⟨s.toArray⟩ (ys.map fun z => (⟨z.toArray⟩ : Str)) = ⟨(joinL s ys).toArray⟩ := by
  refine str_eq ?_
  cases ys with
  | nil => rfl
  | cons x r =>
    simp only [List.map_cons]
    show (Builtin.Str.glued _ _).cps.toList = _
    rw [StrLaws.glued_list]
    simp [StrLaws.glueT, joinL, gl_glue]
theorem gl_len (s : List Nat) : ∀ r : List (List Nat), (glL s r).length = (r.map List.length).sum + r.length * s.length
  | [] => by simp [glL]
  | x :: r => by simp [glL, gl_len s r, Nat.add_mul]; omega
theorem join_len (s : List Nat) (r : List (List Nat)) : (joinL s r).length ≤ (r.map List.length).sum + r.length * s.length := by
  cases r with
  | nil => simp [joinL]
  | cons x r => simp [joinL, gl_len s r, Nat.add_mul]; omega
theorem gl_mem (s : List Nat) (c : Nat) : ∀ r : List (List Nat), c ∈ glL s r → c ∈ s ∨ ∃ z ∈ r, c ∈ z
  | [], h => by simp [glL] at h
  | x :: r, h => by
    simp only [glL, List.mem_append] at h
    rcases h with (h | h) | h
    · exact Or.inl h
    · exact Or.inr ⟨x, by simp, h⟩
    · rcases gl_mem s c r h with h | ⟨z, h1, h2⟩
      · exact Or.inl h
      · exact Or.inr ⟨z, by simp [h1], h2⟩
theorem join_mem (s : List Nat) (c : Nat) (r : List (List Nat)) (h : c ∈ joinL s r) : c ∈ s ∨ ∃ z ∈ r, c ∈ z := by
  cases r with
  | nil => simp [joinL] at h
  | cons x r =>
    simp only [joinL, List.mem_append] at h
    rcases h with h | h
    · exact Or.inr ⟨x, by simp, h⟩
    · rcases gl_mem s c r h with h | ⟨z, h1, h2⟩
      · exact Or.inl h
      · exact Or.inr ⟨z, by simp [h1], h2⟩
def joinD : D → D → Option Sc
  | .sc (.str s), .lst _ xs => match strL xs with
    | some ys => if (ys.map List.length).sum + ys.length * s.length ≤ 16777216 then some (.str (joinL s ys)) else none
    | none => none
  | _, _ => none
theorem hs_join {K : PySem.W.Frag} (hK : K = g.c.K) : HM1 g joinD (fun x xs H Q => ∃ a p, ∃ ys : List Str, x = .str a ∧ xs = [.ref p] ∧ (SqL K H p (ys.map V.str) ∨ SqT K H p (ys.map V.str)) ∧
    (ys.map (·.length)).sum + ys.length * a.length ≤ 16777216 ∧ Q (.str (Txt.join a ys)) H) := fun H u1 u2 c Q k1 k2 h q => by
  subst hK
  cases u1 with
  | sc x =>
    cases u2 with
    | lst p o xs =>
      cases x <;> simp only [T.d, joinD] at h <;> try cases h
      rename_i s
      cases e : strL (Ts.d xs) with
      | none => rw [e] at h; cases h
      | some ys =>
        rw [e] at h
        simp only at h
        split at h
        · rename_i hl
          cases h
          have kk := lst_sq k2
          obtain ⟨e1, e2⟩ := strL_ok kk.2.2 e
          simp only [T.ok] at k1
          refine ⟨_, p, ys.map fun z => (⟨z.toArray⟩ : Str), rfl, rfl, .inl ?_, ?_, ?_⟩
          · rw [← e1]; exact kk.1
          · simpa [Str.length, Function.comp_def] using hl
          · rw [join_eq]
            refine q ⟨?_, fun c hc => ?_⟩
            · exact Nat.le_trans (join_len s ys) hl
            · rcases join_mem s c ys hc with h | ⟨z, h1, h2⟩
              · exact k1.2 c h
              · exact (e2 z h1).2 c h2
        · cases h
    | sc y => cases x <;> simp [T.d, joinD] at h
    | _ => cases x <;> simp [T.d, joinD] at h
  | _ => simp [T.d, joinD] at h
/-! ### replace, of two written texts -/
def mRepl (y z : List Nat) (m : Cm D) : Cm D := fun ρ => (m ρ).bind fun d ρ => match d with
  | .sc (.str x) => if x.length + (x.length + 1) * z.length ≤ 16777216 ∧ (StrLaws.replL y z x).all (fun c => decide (c < 1114112)) = true then .ok (.str (StrLaws.replL y z x)) ρ else .stuck
  | _ => .stuck
theorem repl_imp {y z : List Nat} (hy : 1 ≤ y.length) : ∀ σ H Q, tE g W (mRepl y z m) σ H Q → CwR.tReplC (tE g W m) ⟨y.toArray⟩ ⟨z.toArray⟩ σ H Q := fun σ H Q ⟨sl, tm, s, h⟩ => by
  refine tE.of s h fun H1 sl1 t1 s1 h1 => ?_
  cases t1 with
  | sc x =>
    cases x with
    | str x =>
      simp only [T.d] at h1
      split at h1
      · rename_i hl
        refine ⟨⟨x.toArray⟩, rfl, by simpa [Str.length] using hl.1, ?_⟩
        have e : Txt.replace ⟨x.toArray⟩ ⟨y.toArray⟩ ⟨z.toArray⟩ = ⟨(StrLaws.replL y z x).toArray⟩ := str_eq (by rw [StrLaws.replace_list (by simpa [Str.length] using hy)])
        have gl : (StrLaws.replL y z x).length ≤ 16777216 := by
          have := TK.replace_len ⟨x.toArray⟩ ⟨y.toArray⟩ ⟨z.toArray⟩
          rw [e] at this
          simp [Str.length] at this
          omega
        rw [e]
        exact h1 H1 sl1 (.sc (.str _)) (s1.pop.push _ ⟨gl, fun c hc => by simpa using List.all_eq_true.1 hl.2 c hc⟩) rfl rfl
      · exact h1.elim
    | _ => exact h1.elim
  | _ => exact h1.elim
theorem _root_.L2.PET.imp {X : Cx} {e : Expr} {t t' : TE} (h : PET X e t) (w : ∀ σ H Q, t' σ H Q → t σ H Q) : PET X e t' := fun pins s σ H Q h0 I q => h pins s σ H Q h0 I (w σ H Q q)
theorem e_repl1 {y z : List Nat} {ys zs : Str} {j k : Nat} {c0 c1 apos : Pos} (h1 : ys = ⟨y.toArray⟩) (h2 : zs = ⟨z.toArray⟩) (hy : 1 ≤ y.length) (ho : PE X a (tE g W m)) (hyz : (ys == zs) = false := by decide)
    (hst : starEach [.Constant (.str ys) j c0, .Constant (.str zs) k c1] X.env = [(false, eval (.Constant (.str ys) j c0) X.env), (false, eval (.Constant (.str zs) k c1) X.env)] := by rfl)
    (hbase : attributeBase a "replace" X.env (eval a X.env) = eval a X.env := by rfl) (hline : (apos.endLine == pos.line) = true := by rfl) :
    PET X (.Call (.Attribute a "replace" apos) [.Constant (.str ys) j c0, .Constant (.str zs) k c1] [] pos) (tE g W (mRepl y z m)) := by
  subst h1 h2
  exact (CwR.pet_replC ho hyz hst hbase hline).imp (repl_imp hy)
theorem e_repl2 {y z : List Nat} {ys zs : Str} {j k : Nat} {c0 c1 apos : Pos} (h1 : ys = ⟨y.toArray⟩) (h2 : zs = ⟨z.toArray⟩) (hy : 1 ≤ y.length) (ho : PET X a (tE g W m)) (hyz : (ys == zs) = false := by decide)
    (hst : starEach [.Constant (.str ys) j c0, .Constant (.str zs) k c1] X.env = [(false, eval (.Constant (.str ys) j c0) X.env), (false, eval (.Constant (.str zs) k c1) X.env)] := by rfl)
    (hbase : attributeBase a "replace" X.env (eval a X.env) = eval a X.env := by rfl) (hline : (apos.endLine == pos.line) = true := by rfl) :
    PET X (.Call (.Attribute a "replace" apos) [.Constant (.str ys) j c0, .Constant (.str zs) k c1] [] pos) (tE g W (mRepl y z m)) := by
  subst h1 h2
  exact (CwR.pet_replT ho hyz hst hbase hline).imp (repl_imp hy)
/-- a written text ahead of what wants a token -/
theorem pe_opT {op : Operator} {r : R2} {cs : Str} {j : Nat} {p : Pos} {tf : TE} (ho : OpR X (binaryOp op) r) (hb : PET X b tf) : PE X (.BinOp (.Constant (.str cs) j p) op b pos) (tOp r (tC (.str cs)) tf) := by
  refine ⟨fun pins s σ H Q I h => ?_⟩
  refine wpAny_BinOp (Calls.Constant_str ?_)
  exact thn (hb pins _ σ H _ (by show 1 ≤ s.toks + 1; omega) (I.tok _) h) fun u s2 ⟨y, H2, I2, r2, q2⟩ => ho pins s2 σ H2 _ y _ u Q I2 (show RelV (.str cs) (.str cs s.toks) from ⟨_, rfl⟩) r2 q2
theorem e_addT {c : List Nat} {cs : Str} {j : Nat} {p : Pos} (h1 : cs = ⟨c.toArray⟩) (hg : (Sc.str c).good) (hb : PET X b (tE g W mb)) : PE X (.BinOp (.Constant (.str cs) j p) .Add b pos) (tE g W (mBin addD (mC (.str c)) mb)) :=
  e_addW fun ho => (pe_opT ho hb).imp fun σ H Q ⟨sl, tm, s, h⟩ => by
    subst h1
    exact h H sl (.sc (.str c)) (s.push _ hg) rfl rfl
/-! ### a loop over a text -/
def mItemsS (ma : Cm D) : Cm (List D) := fun ρ => (ma ρ).bind fun d ρ => match d with
  | .sc (.str l) => .ok (l.map fun c => D.str [c]) ρ
  | _ => .stuck
theorem it_str {l : List Nat} (hl : (Sc.str l).good) : ItOk g (Its ⟨l.toArray⟩) [] (l.map fun c => D.str [c]) where
  stop := fun H σ sl tm s => by simp [Its]
  go := fun i d H σ sl tm s h => by
    rw [List.getElem?_map, Option.map_eq_some_iff] at h
    obtain ⟨c, hc, rfl⟩ := h
    obtain ⟨hlt, e⟩ := List.getElem?_eq_some_iff.1 hc
    refine ⟨by simpa [Its] using hlt, fun x H' hy => ?_⟩
    obtain ⟨rfl, c', hc', rfl⟩ := hy
    have : c' = c := by simp [hc] at hc'; omega
    subst this
    exact ⟨.sc (.str [c']), s.push _ ⟨by simp, fun z hz => by simp at hz; subst hz; exact hl.2 _ (List.mem_of_getElem? hc)⟩, rfl, rfl⟩
theorem i_str (h : PE X e (tE g W ma)) {tg : Expr} : PI X tg e (tI g W (mItemsS ma)) := (pi_str h).imp fun σ H R ⟨sl, tm, s, q⟩ => by
  refine tE.of s q fun H' sl' t s' h' => ?_
  cases t with
  | sc x =>
    cases x with
    | str l =>
      have k := s'.top
      simp only [T.ok] at k
      exact ⟨_, rfl, h' H' sl' [] _ s'.pop rfl (it_str k)⟩
    | _ => exact h'.elim
  | _ => exact h'.elim
end
end VS

/-! VS, part p: max with a default, two keywords. -/
namespace VS
open PySem PySem.Spec PyProof.Rows L2
section
variable {X : Cx} {g : Gh} {W : WX} {pos : Pos} {a b e f : Expr} {ma mb m : Cm D}
def maxDefD : D → D → Option D
  | .lst _ xs, .sc s => match intL xs with
    | some [] => some (.sc s)
    | some (y :: ys) => some (.int (ys.foldl (fun a y => if a < y then y else a) y))
    | none => none
  | _, _ => none
theorem max_imp (H : Hp) (σ : L2.St) (sl : List (Option T)) (tm : List T) (t1 t2 : T) (d : D) (Q : VK) (s : SR g H σ sl (t2 :: t1 :: tm)) (h : maxDefD t1.d t2.d = some d) (q : ∀ H' t, SR g H' σ sl (t :: tm) → t.d = d → Q t.v H') :
    ∃ p ns, t1.v = .ref p ∧ SqL g.c.K H p (ns.map V.int) ∧ (ns = [] → Q t2.v H) ∧ ∀ y ys, ns = y :: ys → Q (.int (ys.foldl (fun a y => if a < y then y else a) y)) H := by
  have k1 : t1.ok g.c H := by have := s.okT; simp only [Ts.ok] at this; exact this.2.1
  cases t1 with
  | lst p o xs =>
    cases t2 with
    | sc z =>
      simp only [T.d, maxDefD] at h
      cases e : intL (Ts.d xs) with
      | none => rw [e] at h; cases h
      | some l =>
        rw [e] at h
        have hq := intL_ok e
        refine ⟨p, l, rfl, by rw [← hq]; exact (lst_sq k1).1, fun hl => ?_, fun y ys hl => ?_⟩
        · subst hl
          cases h
          have kz := s.top
          exact q H (.sc z) (s.pop.pop.push _ kz) rfl
        · subst hl
          cases h
          exact q H (.sc (.int _)) (s.pop.pop.push _ trivial) rfl
    | _ => simp [T.d, maxDefD] at h
  | sc x => cases x <;> simp [T.d, maxDefD] at h
  | _ => simp [T.d, maxDefD] at h
theorem e_maxdef {p kp : Pos} {k : Nat} (hK : X.K = g.c.K) (hr : Room k X.A) (hg : Gl X "max") (hm : X.mg "max" = none) (ha : PE X a (tE g W ma)) (hb : PE X b (tE g W mb))
    (he : starEach [a] X.env = (false, eval a X.env) :: starEach [] X.env := by rfl) :
    PE X (.Call (.Name "max" p) [a] [⟨some "default", b, kp⟩] pos) (tE g W (mBin maxDefD ma mb)) := by
  refine ⟨fun pins s σ H Q I h => ?_⟩
  obtain ⟨sl, tm, s0, h0⟩ := h
  have hv : bootBuiltins "max" = some (.builtin "max") := by decide +kernel
  refine wpAny_Call_Name_kw (ld_blt I hg hm hv ?_ (by decide) (by decide))
  refine PyProof.Rows.callWith_kw ?_ (by rw [he]; rfl) (by rw [he]; rfl)
  have hpa : PA X [a] (tCons (tE g W ma) tNil) := pa_cons ha pa_nil he
  have hpk : PK X [⟨some "default", b, kp⟩] (tCons (tE g W mb) tNil) := pk_cons hb pk_nil
  let Post : V → List V → Hp → Prop := fun v ws H2 => ∃ u P ns, ws = [u] ∧ v = V.ref P ∧ SqL X.K H2 P (ns.map V.int) ∧ (ns = [] → Q u H2) ∧ ∀ y ys, ns = y :: ys → Q (.int (ys.foldl (fun a y => if a < y then y else a) y)) H2
  refine thn (hpa.run pos pins s σ H (fun vs H1 => ∃ v, vs = [v] ∧ tE g W mb σ H1 fun u H2 => Post v [u] H2) I ?_) fun us s1 ⟨vs, H1, I1, r1, v, ev, q1⟩ => ?_
  · show tE g W ma σ H _
    refine tE.of (f := fun x ρ => (mb ρ).bind fun y ρ => lift (maxDefD x y) ρ) s0 h0 fun H' sl' t s' h' => ?_
    refine ⟨t.v, rfl, ?_⟩
    refine tE.of s' (Lands.drop h') fun H2 sl2 t2 s2 h2 => ?_
    cases q : maxDefD t.d t2.d with
    | none => rw [q] at h2; exact h2.elim
    | some d =>
      rw [q] at h2
      obtain ⟨P, ns, e1, e2, e3, e4⟩ := max_imp H2 σ sl2 tm t t2 d Q s2 q fun H' t s' e => h2 H' sl2 t s' rfl e
      exact ⟨_, P, ns, rfl, e1, by rw [hK]; exact e2, e3, e4⟩
  · subst ev
    obtain ⟨z, rfl, rz0⟩ := Vals.one r1
    refine thn (hpk.run pos pins s1 σ H1 (Post v) I1 q1) fun ws s2 ⟨zs, H2, I2, rz, u, P, ns, ez, ep, hs, q0, qq⟩ => ?_
    subst ez ep
    obtain ⟨w, rfl, rw0⟩ := Vals.one rz
    cases rz0
    obtain ⟨its, rv, hl, _⟩ := I2.list hs
    have hun := hr.un
    show wpAny _ _ (call (.builtin "max") [.ref P] [(Str.ofString "default", w)]) _ _ _
    refine PySem.W.max_list_datum_default (α := Int) (xs := ns) hr.hd hl.isList (PySem.W.HoldAll.of_ints (by simpa using rv.ints)) (by show X.A.units + 1 + 0 < cLine; omega) (fun e h' tk hk => ?_) (fun y ys i v h' tk e hi hv hk => ?_)
    · exact ⟨u, H2, I2.kept hk, rw0, q0 e⟩
    · obtain ⟨t, rfl⟩ := PySem.W.int_of_holds hv
      refine ⟨.int _, H2, I2.kept hk, ⟨_, rfl⟩, ?_⟩
      have := qq y ys e
      simpa [PySem.W.maxOf, PySem.W.DatumOrd.lt] using this
end
end VS
namespace VS
open PySem PySem.Spec PyProof.Rows L2
section
variable {X : Cx} {g : Gh} {W : WX} {pos : Pos} {a b e f : Expr} {ma mb m : Cm D}
def swapM (M : List D → RF) : List D → RF
  | [x, y] => M [y, x]
  | _ => .stuck
theorem Ts_two {ts : List T} (h : ts.length = 2) : ∃ t u, ts = [t, u] := by
  match ts, h with
  | [t, u], _ => exact ⟨t, u, rfl⟩
theorem R.bind_bind {α β γ : Type} (r : R α) (f : α → Cm β) (h : β → Cm γ) : (r.bind f).bind h = r.bind fun x ρ => (f x ρ).bind h := by cases r <;> rfl
/-- two keywords, in the other order -/
def mCallS (M : List D → RF) (a b : Cm D) : Cm D := mCall (swapM M) [.e a, .e b]
theorem e_callK2s {f : Addr} {fd : FuncData} {x k1 k2 : Str} {p kp kq : Pos} {c : Cfg} {M : List D → RF} {k : Nat} (F : FnOk X.prog X.w X.K X.mg X.base (L2.CX X.prog X.w) k f fd [k1, k2] (spM c 2 [] M)) (hr : Room k X.A) (hg : Gl X x) (hm : X.mg x = some (.ref f)) (hk : PySem.W.keepIn X.K (.ref f) = true)
    (hb : ∀ (s : Shared) (u v : Value), BindsTo s fd ⟨[], [(k2, v), (k1, u)]⟩ [(k1, u), (k2, v)]) (tk : Takes X W)
    (ha : PE X a (tE g W ma)) (hbb : PE X b (tE g W mb)) (hc : g.c = c) (hdb : (x == ("__debug__" : Str)) = false := by decide) : PE X (.Call (.Name x p) [] [⟨some k2, a, kp⟩, ⟨some k1, b, kq⟩] pos) (tE g W (mCallS M ma mb)) := by
  refine ⟨fun pins s σ H Q I h => ?_⟩
  refine wpAny_Call_Name_kw (ld_glob I hg hm ?_ hdb)
  refine PySem.W.callWith_KW0 (h₀ := X.base) I.ok.mod.kin hk rfl ?_ rfl
  have h2 := call_imp (as := [.e ma, .e mb]) (np := 2) (io := []) hc rfl rfl (by simp [agSlots]) σ H Q h
  obtain ⟨sl, tm, s1, h3⟩ := h2
  have hpk : PK X [⟨some k2, a, kp⟩, ⟨some k1, b, kq⟩] (tCons (tE g W ma) (tCons (tE g W mb) tNil)) := pk_cons ha (pk_cons hbb pk_nil)
  refine thn (hpk.run pos pins s σ H (fun vs H1 => spM c 2 [] (swapM M) vs H1 Q (WE W σ)) I ?_) fun ws s2 ⟨zs, H2, I2, rz, q2⟩ => ⟨I2.kIn, ?_⟩
  · show tE g W ma σ H _
    refine tE.of (f := fun d ρ => ((mb ρ).bind fun d2 ρ => (agRun [] ρ).bind fun ts ρ => R.ok (some d2 :: ts) ρ).bind fun ts ρ => R.ok (some d :: ts) ρ) s1 h3 fun H' sl' t s' h' => ?_
    rw [R.bind_bind] at h'
    show tE g W mb σ H' _
    refine tE.of s' (Lands.drop h') fun H4 sl4 t4 s4 h4 => ?_
    simp only [agRun, R.bind_ok, Lands] at h4
    have z := h4 H4 sl4 [some t, some t4] [t.v, t4.v] (by simpa [live] using s4) rfl (by simp) (by simp [AgV])
    simp only [tNil]
    exact z
  · show wpAny _ _ (call (.ref f) [] ([some k2, some k1].filterMap id |>.zip ws)) _ _ _
    obtain ⟨ts, e, hok, htb, hoc, hl, q3⟩ := q2
    obtain ⟨t, u, rfl⟩ := Ts_two hl
    subst e
    obtain ⟨w0, w1, rfl, r0, r1⟩ := Vals.two rz
    have sp : spM c 2 [] M [u.v, t.v] H2 Q (WE W σ) := by
      refine ⟨[u, t], rfl, ?_, htb, ?_, rfl, ?_⟩
      · simp only [Ts.ok] at hok ⊢; exact ⟨hok.2.1, hok.1, trivial⟩
      · intro a; have := hoc a; simp only [Ts.oc, Ts.sh] at this ⊢; omega
      · have aft : ∀ {H' : Hp} {us : List T}, Aft c H2 [u, t] H' us → Aft c H2 [t, u] H' us := fun {H' us} A =>
          ⟨A.ok, A.inv, fun a h0 h1 => by
            have := A.prov a h0 (by simp only [Ts.oc] at h1 ⊢; omega)
            refine ⟨this.1, fun h2 => this.2 (by simp only [Ts.sh] at h2 ⊢; omega)⟩, fun a o h0 hn h1 => A.frame a o h0 hn (by simp only [Ts.oc] at h1 ⊢; omega), A.tabs⟩
        simp only [Ts.d, swapM] at q3 ⊢
        cases hM : M [u.d, t.d] with
        | ok d ds =>
          rw [hM] at q3
          intro H' t' us A e1 e2 e3
          exact q3 H' t' us (aft A) e1 e2 (by simpa [ioV] using e3)
        | exc x ds =>
          rw [hM] at q3
          intro H' a' dx us A e2 e3
          exact q3 H' a' dx us (aft A) e2 (by simpa [ioV] using e3)
        | stuck => rw [hM] at q3; exact q3
    refine wpAny_call (codeAny_mono (F.run X.A X.stack s2 H2 ⟨[], [(k2, w0), (k1, w1)]⟩ [w1, w0] [u.v, t.v] Q (WE W σ) hr I2.env0 (hb s2 w1 w0) (.cons r1 (.cons r0 .nil)) sp) fun r s' hq => ?_)
    cases r with
    | error e => exact (passAt tk σ) pins H2 s2 e s' I2 hq
    | ok fl =>
      cases fl with
      | ret u => exact I2.after hq
      | next => exact False.elim hq
      | brk => exact False.elim hq
      | cont => exact False.elim hq
theorem bindK2s {K : PySem.W.Frag} {x qual : Str} {params : Arguments} {body : List Stmt} {scope : Scope} {k1 k2 : Str} {f : Addr} {fd : FuncData} (F : FunD K x qual params body scope [] [] f fd)
    (h : ∀ (kV doc pm : Value) (an : Option Addr) (cdv ct u v : Value), bindArgs (PySem.W.fnOf x qual params body scope .none kV doc pm an cdv ct) ⟨[], [(k2, v), (k1, u)]⟩ = pure [(k1, u), (k2, v)]) : ∀ (s : Shared) (u v : Value), BindsTo s fd ⟨[], [(k2, v), (k1, u)]⟩ [(k1, u), (k2, v)] := fun s u v => by
  obtain ⟨oc, od, dV, kV, doc, pm, an, cdv, ct, osl, rfl, lk, hcd, hD, hK⟩ := F.ex
  rcases hD with ⟨_, rfl⟩ | ⟨e, _⟩
  · exact .of_eq (h kV doc pm an cdv ct u v)
  · exact absurd rfl e
end
end VS
namespace VS
open PySem PySem.Spec PyProof.Rows L2
/-! ### strip of some signs -/
def ldrop (p : Nat → Bool) (l : List Nat) : List Nat := l.dropWhile p
def rdrop (p : Nat → Bool) (l : List Nat) : List Nat := (l.reverse.dropWhile p).reverse
def stripL (b : List Nat) (l : List Nat) : List Nat := rdrop b.contains (ldrop b.contains l)
theorem drop_tw (p : Nat → Bool) : ∀ l : List Nat, l.drop (l.takeWhile p).length = l.dropWhile p
  | [] => rfl
  | x :: l => by
    by_cases h : p x = true
    · simp [h, drop_tw p l]
    · simp [h]
theorem take_tw (p : Nat → Bool) (d : List Nat) : d.take (d.length - (d.reverse.takeWhile p).length) = rdrop p d := by
  unfold rdrop
  rw [← drop_tw, List.drop_reverse, List.reverse_reverse]
theorem contains_arr (b : List Nat) : (⟨b.toArray⟩ : Str).cps.contains = b.contains := by
  funext c
  simp
theorem strip_eq (a b : List Nat) : Txt.stripChars ⟨a.toArray⟩ ⟨b.toArray⟩ = ⟨(stripL b a).toArray⟩ := by
  have e1 : stripLo b.contains true ⟨a.toArray⟩ = (a.takeWhile b.contains).length := by simp [stripLo]
  have e2 : stripHi b.contains true ⟨a.toArray⟩ (a.takeWhile b.contains).length = a.length - ((a.dropWhile b.contains).reverse.takeWhile b.contains).length := by
    simp [stripHi, Str.length, drop_tw]
  have hlen : a.length = (a.takeWhile b.contains).length + (a.dropWhile b.contains).length := by
    rw [← List.length_append, List.takeWhile_append_dropWhile]
  have hs : Builtin.Str.strSub ⟨a.toArray⟩ (a.takeWhile b.contains).length (a.length - ((a.dropWhile b.contains).reverse.takeWhile b.contains).length) = ⟨(stripL b a).toArray⟩ := by
    refine str_eq ?_
    unfold Builtin.Str.strSub stripL ldrop
    rw [← take_tw]
    simp only [Array.toList_extract]
    rw [List.extract_eq_take_drop, ← drop_tw]
    congr 1
    rw [drop_tw]
    omega
  unfold Txt.stripChars Txt.stripBy
  rw [contains_arr]
  unfold stripSame stripped
  rw [e1, e2, hs]
  split
  · rename_i h
    rw [Bool.and_eq_true] at h
    have h1 : (a.takeWhile b.contains).length = 0 := by simpa using h.1
    have h2 : a.length - ((a.dropWhile b.contains).reverse.takeWhile b.contains).length = a.length := by simpa [Str.length] using h.2
    rw [← hs, h1, h2]
    refine (str_eq ?_).symm
    simp [Builtin.Str.strSub]
  · rfl
def stripM : D → D → Option Sc
  | .sc (.str a), .sc (.str b) => some (.str (stripL b a))
  | _, _ => none
theorem strip_sub (b : List Nat) (a : List Nat) : ∀ c ∈ stripL b a, c ∈ a := fun c h => by
  unfold stripL rdrop ldrop at h
  rw [List.mem_reverse] at h
  have := (List.dropWhile_sublist _).subset h
  rw [List.mem_reverse] at this
  exact (List.dropWhile_sublist _).subset this
theorem strip_len (b : List Nat) (a : List Nat) : (stripL b a).length ≤ a.length := by
  unfold stripL rdrop ldrop
  have h1 := (List.dropWhile_sublist b.contains (l := (a.dropWhile b.contains).reverse)).length_le
  have h2 := (List.dropWhile_sublist b.contains (l := a)).length_le
  simp at h1 ⊢
  omega
theorem hs_strip {g : Gh} : HM1 g stripM (fun x xs H Q => ∃ a b, x = .str a ∧ xs = [.str b] ∧ a.length ≤ sizeLine ∧ Q (.str (Txt.stripChars a b)) H) := fun H u1 u2 c Q k1 k2 h q => by
  cases u1 with
  | sc x =>
    cases u2 with
    | sc y =>
      cases x <;> cases y <;> simp [T.d, stripM] at h
      rename_i a b
      subst h
      simp only [T.ok] at k1
      refine ⟨_, _, rfl, rfl, ?_, ?_⟩
      · rw [sizeLine_eq]; simpa [Str.length] using k1.1
      · rw [strip_eq]
        exact q ⟨Nat.le_trans (strip_len b a) k1.1, fun c hc => k1.2 c (strip_sub b a c hc)⟩
    | _ => cases x <;> simp [T.d, stripM] at h
  | _ => simp [T.d, stripM] at h
theorem dw_head (p : Nat → Bool) : ∀ (l : List Nat) (c : Nat), (l.dropWhile p).head? = some c → p c = false
  | [], c, h => by simp at h
  | x :: l, c, h => by
    by_cases hx : p x = true
    · rw [List.dropWhile_cons, if_pos hx] at h; exact dw_head p l c h
    · rw [List.dropWhile_cons, if_neg hx] at h
      simp at h; subst h; simpa using hx
theorem dw_id (p : Nat → Bool) (l : List Nat) (h : ∀ c, l.head? = some c → p c = false) : l.dropWhile p = l := by
  cases l with
  | nil => rfl
  | cons x l => rw [List.dropWhile_cons, if_neg (by rw [h x rfl]; simp)]
/-- no such sign at either end -/
def Tight (b : List Nat) (l : List Nat) : Prop := (∀ c, l.head? = some c → c ∉ b) ∧ ∀ c, l.reverse.head? = some c → c ∉ b
theorem strip_tight (b l : List Nat) (h : Tight b l) : stripL b l = l := by
  unfold stripL rdrop ldrop
  rw [dw_id _ l (fun c k => by simpa using h.1 c k), dw_id _ l.reverse (fun c k => by simpa using h.2 c k), List.reverse_reverse]
theorem tight_strip (b l : List Nat) : Tight b (stripL b l) := by
  unfold stripL rdrop ldrop
  refine ⟨fun c h => ?_, fun c h => ?_⟩
  · have h0 : ∀ c, (l.dropWhile b.contains).head? = some c → c ∉ b := fun c k => by simpa using dw_head _ l c k
    generalize l.dropWhile b.contains = d at *
    obtain ⟨t, e⟩ := List.dropWhile_suffix b.contains (l := d.reverse)
    have e2 : (List.dropWhile b.contains d.reverse).reverse ++ t.reverse = d := by
      rw [← List.reverse_append, e, List.reverse_reverse]
    refine h0 c ?_
    rw [← e2]
    cases hh : (List.dropWhile b.contains d.reverse).reverse with
    | nil => rw [hh] at h; simp at h
    | cons x r => rw [hh] at h; simpa using h
  · rw [List.reverse_reverse] at h
    simpa using dw_head _ _ c h
end VS

/-! VS, part q: range with a step, a list to several targets, or of texts, methods without arguments. -/
namespace VS
open PySem PySem.Spec PyProof.Rows L2
section
variable {X : Cx} {g : Gh} {W : WX} {pos : Pos} {a b c e f tg : Expr} {ma mb mc m : Cm D} {oa ob : Opd} {rest : List Expr}
/-! ### range(i, j, c) -/
def stepD (lo c : Int) (n : Nat) : List D := (List.range n).map fun k : Nat => D.int (lo + (k : Int) * c)
def mRange3 (ma mb mc : Cm D) : Cm (List D) := fun ρ => (ma ρ).bind fun d ρ => (mb ρ).bind fun d' ρ => (mc ρ).bind fun d'' ρ => match d, d', d'' with
  | .sc (.int i), .sc (.int j), .sc (.int c) => if c ≠ 0 ∧ c.natAbs < 1073741824 ∧ Builtin.Range.small i j c = true then .ok (stepD i c (Builtin.Range.rangeSize i j c).toNat) ρ else .stuck
  | _, _, _ => .stuck
theorem it_step {lo c : Int} {n : Nat} : ItOk g (Itc lo c n) [] (stepD lo c n) where
  stop := fun H σ sl tm s => by simp [stepD, Itc]
  go := fun i d H σ sl tm s h => by
    unfold stepD at h
    rw [List.getElem?_map, Option.map_eq_some_iff] at h
    obtain ⟨k, hk, rfl⟩ := h
    have hlt : i < n := by
      by_cases q : i < n
      · exact q
      · rw [List.getElem?_eq_none (by simp; omega)] at hk; cases hk
    rw [List.getElem?_range hlt] at hk
    cases hk
    refine ⟨hlt, fun x H' hy => ?_⟩
    obtain ⟨rfl, rfl⟩ := hy
    exact ⟨.sc (.int (lo + (i : Int) * c)), s.push _ trivial, rfl, rfl⟩
theorem tA3 {α : Type} {σ : L2.St} {H : Hp} {sl : List (Option T)} {tm : List T} {Q : List V → Hp → Prop} {f : D → D → D → Cm α} {k : α → DE → Prop} (s : SR g H σ sl tm) (h : Lands g W tm ((ma (den sl)).bind fun x ρ => (mb ρ).bind fun y ρ => (mc ρ).bind fun z ρ => f x y z ρ) k)
    (q : ∀ H' sl' t u v, SR g H' σ sl' (v :: u :: t :: tm) → Lands g W tm (f t.d u.d v.d (den sl')) k → Q [t.v, u.v, v.v] H') : tA g W [ma, mb, mc] σ H Q := by
  refine tA.of (f := fun ds ρ => match ds with | [x, y, z] => f x y z ρ | _ => .stuck) (k := k) s ?_ fun H' sl' ts s' h' => ?_
  · revert h
    simp only [mArgs]
    cases ma (den sl) with
    | ok x ρ =>
      cases e : mb ρ with
      | ok y ρ => cases e2 : mc ρ <;> simp [e, e2, R.bind, Lands]
      | exc x ρ => simp [e, R.bind, Lands]
      | stuck => simp [e, R.bind, Lands]
    | exc x ρ => simp [R.bind, Lands]
    | stuck => simp [R.bind, Lands]
  · match ts, s', h' with
    | [], _, h' => exact h'.elim
    | [_], _, h' => exact h'.elim
    | [_, _], _, h' => exact h'.elim
    | _ :: _ :: _ :: _ :: _, _, h' => exact h'.elim
    | [t, u, v], s', h' => exact q H' sl' t u v s' h'
theorem i_range3 {p : Pos} (hg : Gl X "range") (hm : X.mg "range" = none) (ha : PA X [a, b, c] (tA g W [ma, mb, mc])) (hs : starEach [a, b, c] X.env = (false, eval a X.env) :: starEach [b, c] X.env := by rfl) (hpl : (backTo pos (starEach [b, c] X.env)).any (·.1) = false := by rfl) :
    PI X tg (.Call (.Name "range" p) [a, b, c] [] pos) (tI g W (mRange3 ma mb mc)) := (pi_range3 hg hm ha hs hpl).imp fun σ H R ⟨sl, tm, s, q⟩ => by
  refine tA3 s q fun H' sl' t u v s' h' => ?_
  cases t with
  | sc x =>
    cases x with
    | int i =>
      cases u with
      | sc y =>
        cases y with
        | int j =>
          cases v with
          | sc z =>
            cases z with
            | int c =>
              simp only [T.d] at h'
              split at h'
              · rename_i hj
                exact ⟨i, j, c, _, rfl, ⟨hj.1, hj.2.1, hj.2.2, PyProof.Rows.rangeSize_toNat i j c⟩, h' H' sl' [] _ s'.pop.pop.pop rfl it_step⟩
              · exact h'.elim
            | _ => exact h'.elim
          | _ => exact h'.elim
        | _ => exact h'.elim
      | _ => exact h'.elim
    | _ => exact h'.elim
  | _ => exact h'.elim
/-! ### a list to several targets -/
def mTupL (fs : List (D → Cm Unit)) : D → Cm Unit := fun d ρ => match d with
  | .lst _ ds => if ds.length = fs.length ∧ ds.all D.isSc = true then putAll fs ds ρ else .stuck
  | _ => .stuck
theorem sc_free {xs : List T} (h : (Ts.d xs).all D.isSc = true) (p : Addr) : Ts.oc p xs = 0 ∧ Ts.sh p xs = 0 := by
  induction xs with
  | nil => simp [Ts.oc, Ts.sh]
  | cons t ts ih =>
    simp only [Ts.d, List.all_cons, Bool.and_eq_true] at h
    have := ih h.2
    cases t with
    | sc x => simp [Ts.oc, Ts.sh, T.oc, T.sh, this]
    | _ => simp [T.d, D.isSc] at h
theorem g_tupL {es : List Expr} {k n : Nat} {fs : List (D → Cm Unit)} (hc : X.calm = true) (h : PGs X es (tGs g W fs)) (hK : X.K = g.c.K)
    (hn : (assignEach es X.env).length = n := by rfl) (hst : (assignEach es X.env).findIdx? (·.1) = none := by rfl) (hfn : fs.length = n := by rfl) : PG X (.Tuple es k pos) (tG g W (mTupL fs)) := (pg_unl hc h hn hst).imp fun v σ H Q ⟨sl, tm, t, s, e, h⟩ => by
  subst e
  cases t with
  | lst p o xs =>
    simp only [T.d, mTupL] at h
    split at h
    · rename_i hl
      have q := lst_sq s.top
      have fr := sc_free hl.2
      refine ⟨p, _, rfl, by rw [hK]; exact q.1, by have := hl.1; rw [Ts.d_len] at this; simp; omega, sl, tm, xs, ?_, rfl, h⟩
      refine s.tmp ?_ fun a => ?_
      · have k := s.okT
        simp only [Ts.ok] at k
        rw [Ts.ok_iff]
        intro t ht
        rcases List.mem_append.mp ht with ht | ht
        · exact Ts.ok_iff.mp q.2.2 t ht
        · exact Ts.ok_iff.mp k.2 t ht
      · have := fr a
        rw [Ts.oc_append, Ts.sh_append]
        simp only [Ts.oc, Ts.sh]
        refine ⟨by omega, fun z => .inl (by omega)⟩
    · exact h.elim
  | _ => exact h.elim
/-! ### a text, or another -/
def mOrS (ma mb : Cm D) : Cm D := fun ρ => (ma ρ).bind fun d ρ => match d with
  | .sc .non => mb ρ
  | .sc (.str l) => if l = [] then mb ρ else .ok (.str l) ρ
  | _ => .stuck
theorem e_orS (ha : PE X a (tE g W ma)) (hb : PE X (.BoolOp .Or (b :: rest) pos) (tE g W mb)) : PE X (.BoolOp .Or (a :: b :: rest) pos) (tE g W (mOrS ma mb)) := (pe_orT ha hb).imp fun σ H Q ⟨sl, tm, s, h⟩ => by
  refine tE.of s h fun H' sl' t s' h' => ?_
  cases t with
  | sc x =>
    cases x with
    | non => exact ⟨false, rfl, sl', tm, s'.pop, h'⟩
    | str l =>
      simp only [T.d] at h'
      have k := s'.top
      simp only [T.ok] at k
      by_cases q : l = []
      · rw [if_pos q] at h'
        subst q
        exact ⟨false, ⟨by rw [sizeLine_eq]; simp [Str.length], by simp [Str.length]⟩, sl', tm, s'.pop, h'⟩
      · rw [if_neg q] at h'
        refine ⟨true, ⟨by rw [sizeLine_eq]; simpa [Str.length] using k.1, ?_⟩, ?_⟩
        · simp [Str.length, q]
        · exact h' H' sl' (.sc (.str l)) s' rfl rfl
    | _ => exact h'.elim
  | _ => exact h'.elim
/-! ### a text's method without arguments -/
def mM0 (f : D → Option Sc) (x : Opd) : Cm D := mP1 f x
def HM0 (g : Gh) (f : D → Option Sc) (r : V → List V → Hp → VK → Prop) : Prop := ∀ H (u1 : T) c Q, u1.ok g.c H → f u1.d = some c → (c.good → Q (c.v) H) → (∃ a, u1.v = .str a) ∧ r u1.v [] H Q
theorem e_m0 {id : String} {name : Str} {apos : Pos} {fm : D → Option Sc} {r : V → List V → Hp → VK → Prop} (slot : Slot "str" name id) (ty : typeOf (.builtin id) = pure (.type "method_descriptor")) (rule : MtR X id r) (hr : HM0 g fm r) (ho : PE X a (tO g W oa))
    (hbase : attributeBase a name X.env (eval a X.env) = eval a X.env := by rfl) (hline : (apos.endLine == pos.line) = true := by rfl) :
    PE X (.Call (.Attribute a name apos) [] [] pos) (tE g W (mP1 fm oa)) := (pe_m0 slot ty rule ho hbase hline).imp (p1_imp hr)
def isalnumM : D → Option Sc
  | .sc (.str l) => some (.bl (Txt.isalnum ⟨l.toArray⟩))
  | _ => none
theorem hs_isalnum {g : Gh} : HM0 g isalnumM (fun x xs H Q => ∃ a, x = .str a ∧ xs = [] ∧ True ∧ Q (.bl (Txt.isalnum a)) H) := fun H u c Q k h q => by
  cases u with
  | sc x =>
    cases x <;> simp [T.d, isalnumM] at h
    subst h
    exact ⟨⟨_, rfl⟩, _, rfl, rfl, trivial, q trivial⟩
  | _ => simp [T.d, isalnumM] at h
end
end VS
namespace VS
open PySem
theorem fits_of {i : Int} (h : -1000000 ≤ i) (h2 : i ≤ 1000000) : Builtin.Range.rangeFitsLong i = true := by
  unfold Builtin.Range.rangeFitsLong
  have e : (2 : Int) ^ 63 = 9223372036854775808 := by decide
  rw [e, Bool.and_eq_true, decide_eq_true_eq, decide_eq_true_eq]
  constructor <;> omega
theorem small_up (n c : Int) (hn : 0 ≤ n) (hn2 : n ≤ 500000) (hc : 0 < c) (hc2 : c ≤ 1000) (hz : 0 ≤ Builtin.Range.rangeSize 0 n c ∧ Builtin.Range.rangeSize 0 n c ≤ 500000) : Builtin.Range.small 0 n c = true := by
  unfold Builtin.Range.small
  rw [fits_of (i := 0) (by decide) (by decide), fits_of (i := n) (by omega) (by omega), fits_of (i := c) (by omega) (by omega), fits_of (i := Builtin.Range.rangeSize 0 n c) (by omega) (by omega), if_pos (by omega), fits_of (i := n + (c - 1)) (by omega) (by omega)]
  simp
theorem size_up (n c : Nat) (hc : 0 < c) : Builtin.Range.rangeSize 0 (n : Int) (c : Int) = (((n + c - 1) / c : Nat) : Int) := by
  unfold Builtin.Range.rangeSize
  rw [if_pos (by omega)]
  by_cases q : n = 0
  · subst q
    have : (0 + c - 1) / c = 0 := Nat.div_eq_of_lt (by omega)
    rw [this]; simp
  · rw [if_pos (by omega)]
    have e : (n + c - 1) = (n - 1) + c := by omega
    rw [e, Nat.add_div_right _ hc]
    have e2 : ((n : Int) - 0 - 1) = ((n - 1 : Nat) : Int) := by omega
    rw [e2]
    simp
end VS
namespace VS
open PySem
theorem range3_ok {ma mb mc : Cm D} {ρ ρ1 ρ2 ρ3 : DE} {n c N : Nat} (h1 : ma ρ = .ok (.int 0) ρ1) (h2 : mb ρ1 = .ok (.int n) ρ2) (h3 : mc ρ2 = .ok (.int c) ρ3) (hc : 0 < c) (hc2 : c ≤ 1000) (hn : n ≤ 500000) (hN : (n + c - 1) / c = N) : mRange3 ma mb mc ρ = .ok (stepD 0 c N) ρ3 := by
  have hz := size_up n c hc
  rw [hN] at hz
  have hb : N ≤ 500000 := by
    rw [← hN]
    have := Nat.div_le_div_left (c := 1) (b := c) hc (by decide) (a := n + c - 1)
    by_cases q : n = 0
    · subst q
      have : (0 + c - 1) / c = 0 := Nat.div_eq_of_lt (by omega)
      omega
    · have h : (n + c - 1) / c ≤ n := by
        rw [show n + c - 1 = (n - 1) + c by omega, Nat.add_div_right _ hc]
        have := Nat.div_le_self (n - 1) c
        omega
      omega
  have hs : Builtin.Range.small 0 (n : Int) (c : Int) = true := small_up _ _ (by omega) (by omega) (by omega) (by omega) (by rw [hz]; omega)
  unfold mRange3
  rw [h1, R.bind_ok, h2, R.bind_ok, h3, R.bind_ok]
  simp only
  rw [if_pos ⟨by omega, by omega, hs⟩, hz, Int.toNat_natCast]
end VS

/-! VS, part s: the mirror's words, for simp. -/
namespace VS
open PySem L2
section
variable (ρ : DE) (a b c : Cm D) (t u : Cm Bool) (m m' : Cm Out) (i j : Nat)
@[simp] theorem mC_ (s : Sc) : mC s ρ = .ok (.sc s) ρ := (rfl)
@[simp] theorem mK_ (l : List Sc) : mK l ρ = .ok (.tup (l.map D.sc)) ρ := (rfl)
@[simp] theorem mVar_ : mVar i ρ = match ρ[i]? with
  | some (some d) => .ok d.fz (ρ.set i (some d.fz))
  | _ => .stuck := (rfl)
@[simp] theorem mMove_ : mMove i ρ = match ρ[i]? with
  | some (some d) => .ok d (ρ.set i none)
  | _ => .stuck := (rfl)
@[simp] theorem mBin_ (f : D → D → Option D) : mBin f a b ρ = (a ρ).bind fun x ρ => (b ρ).bind fun y ρ => lift (f x y) ρ := (rfl)
@[simp] theorem mUn_ (f : D → Option D) : mUn f a ρ = (a ρ).bind fun x ρ => lift (f x) ρ := (rfl)
@[simp] theorem orun_v : (Opd.v i).run ρ = match ρ[i]? with
    | some (some _) => .ok none ρ
    | _ => .stuck := (rfl)
@[simp] theorem orun_e : (Opd.e a).run ρ = (a ρ).bind fun d ρ => .ok (some d) ρ := (rfl)
@[simp] theorem oget_v (o : Option D) : (Opd.v i).get o ρ = (ρ[i]?).join := (rfl)
@[simp] theorem oget_e (o : Option D) : (Opd.e a).get o ρ = o := (rfl)
@[simp] theorem mP1_ (f : D → Option Sc) (x : Opd) : mP1 f x ρ = (x.run ρ).bind fun t ρ => match x.get t ρ with
  | some y => (lift (f y) ρ).bind fun s ρ => .ok (.sc s) ρ
  | none => .stuck := (rfl)
@[simp] theorem mP2_ (f : D → D → Option Sc) (x y : Opd) : mP2 f x y ρ = (x.run ρ).bind fun t ρ => (y.run ρ).bind fun u ρ => match x.get t ρ, y.get u ρ with
  | some v, some w => (lift (f v w) ρ).bind fun s ρ => .ok (.sc s) ρ
  | _, _ => .stuck := (rfl)
@[simp] theorem mTest_ : mTest a ρ = (a ρ).bind fun d ρ => match d with
  | .sc (.bl b) => .ok b ρ
  | _ => .stuck := (rfl)
@[simp] theorem mAnd_ : mAnd t u ρ = (t ρ).bind fun c ρ => if c then u ρ else .ok false ρ := (rfl)
@[simp] theorem mOr_ : mOr t u ρ = (t ρ).bind fun c ρ => if c then .ok true ρ else u ρ := (rfl)
@[simp] theorem mNot_ : mNot t ρ = (t ρ).bind fun c ρ => .ok (!c) ρ := (rfl)
@[simp] theorem mIfE_ {α : Type} (x y : Cm α) : mIfE t x y ρ = (t ρ).bind fun k ρ => if k then x ρ else y ρ := (rfl)
@[simp] theorem mIf_ : mIf t m m' ρ = (t ρ).bind fun k ρ => if k then m ρ else m' ρ := (rfl)
@[simp] theorem mAndV_ : mAndV a b ρ = (a ρ).bind fun d ρ => match d with
  | .sc (.bl c) => if c then b ρ else .ok (.bl false) ρ
  | _ => .stuck := (rfl)
@[simp] theorem mOrV_ : mOrV a b ρ = (a ρ).bind fun d ρ => match d with
  | .sc (.bl c) => if c then .ok (.bl true) ρ else b ρ
  | _ => .stuck := (rfl)
@[simp] theorem mChain_ (f f' : D → D → Option Sc) : mChain f f' a b c ρ = (a ρ).bind fun x ρ => (b ρ).bind fun y ρ => (lift (f x y) ρ).bind fun k ρ => match k with
  | .bl true => (c ρ).bind fun z ρ => (lift (f' y z) ρ).bind fun s ρ => .ok (.sc s) ρ
  | .bl false => .ok (.bl false) ρ
  | _ => .stuck := (rfl)
@[simp] theorem mArgs_nil : mArgs [] ρ = .ok [] ρ := (rfl)
@[simp] theorem mArgs_cons (ms : List (Cm D)) : mArgs (a :: ms) ρ = (a ρ).bind fun d ρ => (mArgs ms ρ).bind fun ds ρ => .ok (d :: ds) ρ := (rfl)
@[simp] theorem mLst_ (ms : List (Cm D)) : mLst ms ρ = (mArgs ms ρ).bind fun ds ρ => if ds.length ≤ 16777216 then .ok (.lst .own ds) ρ else .stuck := (rfl)
@[simp] theorem mTup_ (ms : List (Cm D)) : mTup ms ρ = (mArgs ms ρ).bind fun ds ρ => if ds.length ≤ 16777216 then .ok (.tup ds) ρ else .stuck := (rfl)
@[simp] theorem mIdx_e : mIdx (.e a) b ρ = (a ρ).bind fun x ρ => (b ρ).bind fun j ρ => match j with
  | .sc (.int i) => match idxD x i with
    | some d => .ok d ρ
    | none => .stuck
  | _ => .stuck := by
  unfold mIdx
  cases e : a ρ with
  | ok x ρ =>
    simp only [orun_e, e, R.bind_ok]
    cases e2 : b ρ with
    | ok j ρ => simp only [R.bind_ok, oget_e]; cases j <;> first | rfl | (rename_i s; cases s <;> rfl)
    | exc _ _ => rfl
    | stuck => rfl
  | exc _ _ => simp only [orun_e, e]; rfl
  | stuck => simp only [orun_e, e]; rfl
@[simp] theorem mIdx_v : mIdx (.v i) b ρ = match ρ[i]? with
  | some (some _) => (b ρ).bind fun j ρ => match (ρ[i]?).join, j with
    | some x, .sc (.int k) => match idxD x k with
      | some d => if d.pur then .ok d ρ else .ok d.fz (ρ.set i (some x.fz))
      | none => .stuck
    | _, _ => .stuck
  | _ => .stuck := by
  unfold mIdx
  simp only [orun_v]
  split
  · simp only [R.bind_ok]
    rfl
  · rfl
@[simp] theorem mPart_none : mPart none ρ = .ok none ρ := (rfl)
@[simp] theorem mPart_some : mPart (some a) ρ = (a ρ).bind fun d ρ => match d with
    | .sc (.int i) => .ok (some i) ρ
    | _ => .stuck := (rfl)
@[simp] theorem mSlc_ (x : Opd) (lo hi : Option (Cm D)) : mSlc x lo hi ρ = (x.run ρ).bind fun t ρ => (mPart lo ρ).bind fun l ρ => (mPart hi ρ).bind fun u ρ => match x.get t ρ with
  | some y => lift (sliceD l u y) ρ
  | none => .stuck := (rfl)
@[simp] theorem mNew_ (f : D → Option D) (x : Opd) : mNew f x ρ = (x.run ρ).bind fun t ρ => match x.get t ρ with
  | some y => lift (f y) ρ
  | none => .stuck := (rfl)
@[simp] theorem mSeq_ : mSeq m m' ρ = (m ρ).bind fun o ρ => match o with
  | .nx => m' ρ
  | o => .ok o ρ := (rfl)
@[simp] theorem mNext_ : mNext ρ = .ok .nx ρ := (rfl)
@[simp] theorem mBreak_ : mBreak ρ = .ok .brk ρ := (rfl)
@[simp] theorem mCont_ : mCont ρ = .ok .ct ρ := (rfl)
@[simp] theorem mStuckO_ : mStuckO ρ = .stuck := (rfl)
@[simp] theorem mSet_ : mSet i a ρ = (a ρ).bind fun d ρ => .ok .nx (ρ.set i (some d)) := (rfl)
@[simp] theorem mAug_ (f : D → D → Option D) : mAug f i a ρ = match ρ[i]? with
  | some (some _) => (a ρ).bind fun y ρ => match ρ[i]? with
    | some (some x) => (lift (f x y) ρ).bind fun d ρ => .ok .nx (ρ.set i (some d))
    | _ => .stuck
  | _ => .stuck := (rfl)
@[simp] theorem mRet_ : mRet a ρ = (a ρ).bind fun d ρ => .ok (.ret d) ρ := (rfl)
@[simp] theorem mDrop_ : mDrop a ρ = (a ρ).bind fun _ ρ => .ok .nx ρ := (rfl)
@[simp] theorem mPar_ : mPar i j a b ρ = (a ρ).bind fun x ρ => (b ρ).bind fun y ρ => .ok .nx ((ρ.set i (some x)).set j (some y)) := (rfl)
@[simp] theorem mAsg_ (f : D → Cm Unit) : mAsg a f ρ = (a ρ).bind fun d ρ => (f d ρ).bind fun _ ρ => .ok .nx ρ := (rfl)
@[simp] theorem mPut_ (d : D) : mPut i d ρ = .ok () (ρ.set i (some d)) := (rfl)
@[simp] theorem mTupT_ (fs : List (D → Cm Unit)) (ds : List D) : mTupT fs (.tup ds) ρ = if ds.length = fs.length then putAll fs ds ρ else .stuck := (rfl)
@[simp] theorem mUnp_ (fs : List (D → Cm Unit)) (ds : List D) : mUnp fs (.tup ds) ρ = putAll fs ds ρ := (rfl)
@[simp] theorem putAll_nil : putAll [] [] ρ = .ok () ρ := (rfl)
@[simp] theorem putAll_cons (f : D → Cm Unit) (fs : List (D → Cm Unit)) (d : D) (ds : List D) : putAll (f :: fs) (d :: ds) ρ = (f d ρ).bind fun _ ρ => putAll fs ds ρ := (rfl)
@[simp] theorem mSetI_ (d : D) : mSetI i a d ρ = match ρ[i]? with
  | some (some (.lst _ _)) => (a ρ).bind fun j ρ => match ρ[i]?, j with
    | some (some (.lst .own xs)), .sc (.int k) => match ixN xs.length k with
      | some n => .ok () (ρ.set i (some (.lst .own (xs.set n d))))
      | none => .stuck
    | _, _ => .stuck
  | _ => .stuck := (rfl)
@[simp] theorem mApp_ : mApp i a ρ = match ρ[i]? with
  | some (some (.lst _ _)) => (a ρ).bind fun d ρ => match ρ[i]? with
    | some (some (.lst .own xs)) => if xs.length < 16777216 then .ok .non (ρ.set i (some (.lst .own (xs ++ [d])))) else .stuck
    | _ => .stuck
  | _ => .stuck := (rfl)
@[simp] theorem mExt_ : mExt i a ρ = match ρ[i]? with
  | some (some (.lst _ _)) => (a ρ).bind fun d ρ => match ρ[i]?, d with
    | some (some (.lst .own xs)), .lst o ys => if (o = .own ∨ o = .shr) ∧ xs.length + ys.length ≤ 16777216 then .ok .non (ρ.set i (some (.lst .own (xs ++ ys)))) else .stuck
    | _, _ => .stuck
  | _ => .stuck := (rfl)
@[simp] theorem mFor_ (mi : Cm (List D)) (g : D → Cm Unit) : mFor mi g m ρ = (mi ρ).bind fun ds ρ => forL g m ds ρ := (rfl)
@[simp] theorem mItemsL_ : mItemsL a ρ = (a ρ).bind fun d ρ => match d.fz with
  | .lst _ ds => .ok ds ρ
  | _ => .stuck := (rfl)
@[simp] theorem mItemsT_ : mItemsT a ρ = (a ρ).bind fun d ρ => match d.fz with
  | .tup ds => .ok ds ρ
  | _ => .stuck := (rfl)
@[simp] theorem mRange1_ : mRange1 a ρ = (a ρ).bind fun d ρ => match d with
  | .sc (.int j) => if smallR j then .ok (rangeD 0 j.toNat) ρ else .stuck
  | _ => .stuck := (rfl)
@[simp] theorem mRange2_ : mRange2 a b ρ = (a ρ).bind fun d ρ => (b ρ).bind fun d' ρ => match d, d' with
  | .sc (.int i), .sc (.int j) => if smallR i ∧ smallR j then .ok (rangeD i (j - i).toNat) ρ else .stuck
  | _, _ => .stuck := (rfl)
@[simp] theorem mLc_ (mi : Cm (List D)) (g : D → Cm Unit) (vs : List Nat) : mLc mi g t a vs ρ = (mi ρ).bind fun ds ρ => match saved ρ vs with
  | some ss => if ds.length ≤ 16777216 then (unexc (lcL g t a vs ds (wipeD ρ vs))).bind fun r ρ => .ok (.lst .own r) (restD ρ vs ss) else .stuck
  | none => .stuck := (rfl)
@[simp] theorem mYes_ : mYes ρ = .ok true ρ := (rfl)
@[simp] theorem mCall_ (M : List D → RF) (as : List Ag) : mCall M as ρ = (agRun as ρ).bind fun ts ρ => match agGet as ts ρ with
  | some (ds, ρ') => match M ds with
    | .ok d us => if us.length = (agOuts as).length then (if d.isFree && (agOuts as).isEmpty then .ok d ρ else .ok d (putD ρ' (agOuts as) us)) else .stuck
    | .exc x us => if us.length = (agOuts as).length then .exc x (putD ρ' (agOuts as) us) else .stuck
    | .stuck => .stuck
  | none => .stuck := (rfl)
@[simp] theorem agRun_nil : agRun [] ρ = .ok [] ρ := (rfl)
@[simp] theorem agRun_s (as : List Ag) : agRun (.s i :: as) ρ = match ρ[i]? with
    | some (some _) => (agRun as ρ).bind fun ts ρ => .ok (none :: ts) ρ
    | _ => .stuck := (rfl)
@[simp] theorem agRun_p (as : List Ag) : agRun (.p i :: as) ρ = match ρ[i]? with
    | some (some _) => (agRun as ρ).bind fun ts ρ => .ok (none :: ts) ρ
    | _ => .stuck := (rfl)
@[simp] theorem agRun_e (as : List Ag) : agRun (.e a :: as) ρ = (a ρ).bind fun d ρ => (agRun as ρ).bind fun ts ρ => .ok (some d :: ts) ρ := (rfl)
@[simp] theorem agRun_t (as : List Ag) : agRun (.t a :: as) ρ = (a ρ).bind fun d ρ => (agRun as ρ).bind fun ts ρ => .ok (some d :: ts) ρ := (rfl)
@[simp] theorem agGet_nil : agGet [] [] ρ = some ([], ρ) := (rfl)
@[simp] theorem agGet_s (as : List Ag) (ts : List (Option D)) : agGet (.s i :: as) (none :: ts) ρ = match ρ[i]? with
    | some (some d) => (agGet as ts (ρ.set i none)).map fun r => (d :: r.1, r.2)
    | _ => none := (rfl)
@[simp] theorem agGet_p (as : List Ag) (ts : List (Option D)) : agGet (.p i :: as) (none :: ts) ρ = match ρ[i]? with
    | some (some d) => (agGet as ts (ρ.set i (some d.fz))).map fun r => (d.fz :: r.1, r.2)
    | _ => none := (rfl)
@[simp] theorem agGet_e (d : D) (as : List Ag) (ts : List (Option D)) : agGet (.e a :: as) (some d :: ts) ρ = (agGet as ts ρ).map fun r => (d.fz :: r.1, r.2) := (rfl)
@[simp] theorem agGet_t (d : D) (as : List Ag) (ts : List (Option D)) : agGet (.t a :: as) (some d :: ts) ρ = (agGet as ts ρ).map fun r => (d :: r.1, r.2) := (rfl)
end
@[simp] theorem agOuts_nil : agOuts [] = [] := (rfl)
@[simp] theorem agOuts_s (i : Nat) (as : List Ag) : agOuts (.s i :: as) = some i :: agOuts as := (rfl)
@[simp] theorem agOuts_p (i : Nat) (as : List Ag) : agOuts (.p i :: as) = agOuts as := (rfl)
@[simp] theorem agOuts_e (m : Cm D) (as : List Ag) : agOuts (.e m :: as) = agOuts as := (rfl)
@[simp] theorem agOuts_t (m : Cm D) (as : List Ag) : agOuts (.t m :: as) = none :: agOuts as := (rfl)
@[simp] theorem putD_nil (ρ : DE) (ds : List D) : putD ρ [] ds = ρ := by simp [putD]
@[simp] theorem putD_s (ρ : DE) (i : Nat) (is : List (Option Nat)) (d : D) (ds : List D) : putD ρ (some i :: is) (d :: ds) = (putD ρ is ds).set i (some d) := (rfl)
@[simp] theorem putD_n (ρ : DE) (is : List (Option Nat)) (d : D) (ds : List D) : putD ρ (none :: is) (d :: ds) = putD ρ is ds := (rfl)
@[simp] theorem runF_ (n : Nat) (io : List Nat) (m : Cm Out) (args : List D) : runF n io m args = endF io (m (startD n args)) := (rfl)
@[simp] theorem startD_ (n : Nat) (args : List D) : startD n args = args.map some ++ List.replicate (n - args.length) none := (rfl)
@[simp] theorem endF_nx (io : List Nat) (ρ : DE) : endF io (.ok .nx ρ) = match ioGet ρ io with
    | some ds => .ok .non ds
    | none => .stuck := (rfl)
@[simp] theorem endF_ret (io : List Nat) (d : D) (ρ : DE) : endF io (.ok (.ret d) ρ) = match ioGet ρ io with
    | some ds => .ok d ds
    | none => .stuck := (rfl)
@[simp] theorem endF_exc (io : List Nat) (x : Ex) (ρ : DE) : endF io (.exc x ρ) = match ioGet ρ io with
    | some ds => .exc x ds
    | none => .stuck := (rfl)
@[simp] theorem ioGet_nil (ρ : DE) : ioGet ρ [] = some [] := (rfl)
@[simp] theorem ioGet_cons (ρ : DE) (i : Nat) (is : List Nat) : ioGet ρ (i :: is) = match ρ[i]? with
    | some (some d) => (ioGet ρ is).map (d :: ·)
    | _ => none := (rfl)
/-! ### data -/
@[simp] theorem fz_sc (s : Sc) : (D.sc s).fz = .sc s := by simp [D.fz]
@[simp] theorem fz_lst (o : Ow) (xs : List D) : (D.lst o xs).fz = .lst (if o = .own then .shr else o) (xs.map D.fz) := by simp [D.fz, Ds.fz_map]
@[simp] theorem fz_tup (xs : List D) : (D.tup xs).fz = .tup (xs.map D.fz) := by simp [D.fz, Ds.fz_map]
theorem Ds.pur_all : ∀ xs : List D, Ds.pur xs = xs.all D.pur
  | [] => by simp [Ds.pur]
  | x :: xs => by simp [Ds.pur, Ds.pur_all xs]
@[simp] theorem pur_sc (s : Sc) : (D.sc s).pur = true := by simp [D.pur]
@[simp] theorem pur_lst (o : Ow) (xs : List D) : (D.lst o xs).pur = (o != .own && xs.all D.pur) := by simp [D.pur, Ds.pur_all]
@[simp] theorem pur_tup (xs : List D) : (D.tup xs).pur = xs.all D.pur := by simp [D.pur, Ds.pur_all]
@[simp] theorem isFree_sc (s : Sc) : (D.sc s).isFree = true := (rfl)
@[simp] theorem isFree_own (xs : List D) : (D.lst .own xs).isFree = xs.all D.isSc := (rfl)
@[simp] theorem isFree_shr (xs : List D) : (D.lst .shr xs).isFree = false := (rfl)
@[simp] theorem isFree_tup (xs : List D) : (D.tup xs).isFree = false := (rfl)
@[simp] theorem isSc_sc (s : Sc) : (D.sc s).isSc = true := (rfl)
@[simp] theorem flat_sc (n : Nat) (s : Sc) : D.flatN n (.sc s) = true := by cases n <;> rfl
@[simp] theorem flat_lst (n : Nat) (o : Ow) (xs : List D) : D.flatN (n + 1) (.lst o xs) = xs.all (D.flatN n) := by simp [D.flatN]
@[simp] theorem flat_tup (n : Nat) (xs : List D) : D.flatN (n + 1) (.tup xs) = xs.all (D.flatN n) := by simp [D.flatN]
@[simp] theorem addD_int (i j : Int) : addD (.int i) (.int j) = some (.int (i + j)) := (rfl)
@[simp] theorem addD_str (a b : List Nat) : addD (.str a) (.str b) = if a.length + b.length ≤ 16777216 then some (.str (a ++ b)) else none := (rfl)
@[simp] theorem addD_lst (o p : Ow) (xs ys : List D) : addD (.lst o xs) (.lst p ys) = if (o = .own ∨ o = .shr) ∧ (p = .own ∨ p = .shr) ∧ xs.length + ys.length ≤ 16777216 then some (.lst .own (xs ++ ys)) else none := (rfl)
@[simp] theorem subD_int (i j : Int) : subD (.int i) (.int j) = some (.int (i - j)) := (rfl)
@[simp] theorem mulD_int (i j : Int) : mulD (.int i) (.int j) = if i.natAbs < 18446744073709551616 ∨ j.natAbs < 18446744073709551616 then some (.int (i * j)) else none := (rfl)
@[simp] theorem mulD_str (a : List Nat) (n : Int) : mulD (.str a) (.int n) = if a.length * n.toNat ≤ 16777216 ∧ n.natAbs < 4611686018427387904 then some (.str (List.replicate n.toNat a).flatten) else none := (rfl)
@[simp] theorem mulD_lst (o : Ow) (xs : List D) (n : Int) : mulD (.lst o xs) (.int n) = if (o = .own ∨ o = .shr) ∧ Ds.pur xs = true ∧ xs.length * n.toNat ≤ 16777216 ∧ n.natAbs < 4611686018427387904 then some (.lst .own (List.replicate n.toNat xs).flatten) else none := (rfl)
@[simp] theorem fdivD_int (i j : Int) : fdivD (.int i) (.int j) = if 0 < j ∧ j < 4611686018427387904 then some (.int (i / j)) else none := (rfl)
@[simp] theorem modD_int (i j : Int) : modD (.int i) (.int j) = if 0 < j then some (.int (i % j)) else none := (rfl)
@[simp] theorem powD_int (i j : Int) : powD (.int i) (.int j) = if 0 ≤ j ∧ j ≤ 1000000 ∧ i.natAbs < 18446744073709551616 then some (.int (i ^ j.toNat)) else none := (rfl)
@[simp] theorem negD_int (i : Int) : negD (.int i) = some (.int (-i)) := (rfl)
@[simp] theorem notD_bl (b : Bool) : notD (.bl b) = some (.bl (!b)) := (rfl)
@[simp] theorem ltD_int (i j : Int) : ltD (.int i) (.int j) = some (.bl (decide (i < j))) := (rfl)
@[simp] theorem leD_int (i j : Int) : leD (.int i) (.int j) = some (.bl (decide (i ≤ j))) := (rfl)
@[simp] theorem gtD_int (i j : Int) : gtD (.int i) (.int j) = some (.bl (decide (j < i))) := (rfl)
@[simp] theorem geD_int (i j : Int) : geD (.int i) (.int j) = some (.bl (decide (j ≤ i))) := (rfl)
@[simp] theorem augA_int (i j : Int) : augA (.int i) (.int j) = some (.int (i + j)) := (rfl)
@[simp] theorem augA_str (a b : List Nat) : augA (.str a) (.str b) = if a.length + b.length ≤ 16777216 then some (.str (a ++ b)) else none := (rfl)
@[simp] theorem isNon_ (x : D) : isNon x .non = some (.bl (match x with | .sc .non => true | _ => false)) := (rfl)
@[simp] theorem isntNon_ (x : D) : isntNon x .non = some (.bl (match x with | .sc .non => false | _ => true)) := (rfl)
@[simp] theorem lenD_str (l : List Nat) : lenD (.str l) = some (.int l.length) := (rfl)
@[simp] theorem lenD_lst (o : Ow) (xs : List D) : lenD (.lst o xs) = some (.int xs.length) := (rfl)
@[simp] theorem lenD_tup (xs : List D) : lenD (.tup xs) = some (.int xs.length) := (rfl)
@[simp] theorem intD_int (i : Int) : intD (.int i) = some (.int i) := (rfl)
@[simp] theorem intD_bl (b : Bool) : intD (.bl b) = some (.int (if b then 1 else 0)) := (rfl)
@[simp] theorem maxD_int (i j : Int) : maxD (.int i) (.int j) = some (.int (max i j)) := (rfl)
@[simp] theorem minD_int (i j : Int) : minD (.int i) (.int j) = some (.int (min i j)) := (rfl)
@[simp] theorem idxD_lst (o : Ow) (xs : List D) (i : Int) : idxD (.lst o xs) i = atI xs i := (rfl)
@[simp] theorem idxD_tup (xs : List D) (i : Int) : idxD (.tup xs) i = atI xs i := (rfl)
@[simp] theorem idxD_str (l : List Nat) (i : Int) : idxD (.str l) i = (atI l i).map fun c => .str [c] := (rfl)
@[simp] theorem sliceD_str (lo hi : Option Int) (l : List Nat) : sliceD lo hi (.str l) = some (.str (cutL l lo hi)) := (rfl)
@[simp] theorem sliceD_lst (lo hi : Option Int) (o : Ow) (xs : List D) : sliceD lo hi (.lst o xs) = if xs.all D.pur then some (.lst .own (cutL xs lo hi)) else none := by simp [sliceD, Ds.pur_all]
@[simp] theorem listD_lst (o : Ow) (xs : List D) : listD (.lst o xs) = if xs.all D.pur then some (.lst .own xs) else none := by simp [listD, Ds.pur_all]
@[simp] theorem listD_tup (xs : List D) : listD (.tup xs) = if xs.all D.pur then some (.lst .own xs) else none := by simp [listD, Ds.pur_all]
@[simp] theorem eqD_ (x y : D) : eqD x y = if D.flatN 8 x && D.flatN 8 y then some (.bl (x.eqB y)) else none := (rfl)
@[simp] theorem neD_ (x y : D) : neD x y = if D.flatN 8 x && D.flatN 8 y then some (.bl (!x.eqB y)) else none := (rfl)
@[simp] theorem eqB_int (i j : Int) : D.eqB (.int i) (.int j) = (i == j) := by simp [D.eqB, Sc.eqB]
@[simp] theorem eqB_str (i j : List Nat) : D.eqB (.str i) (.str j) = (i == j) := by simp [D.eqB, Sc.eqB]
@[simp] theorem eqB_bl (i j : Bool) : D.eqB (.bl i) (.bl j) = (i == j) := by simp [D.eqB, Sc.eqB]
@[simp] theorem eqB_lst (o p : Ow) (xs ys : List D) : D.eqB (.lst o xs) (.lst p ys) = Ds.eqB xs ys := by simp [D.eqB]
@[simp] theorem eqB_tup (xs ys : List D) : D.eqB (.tup xs) (.tup ys) = Ds.eqB xs ys := by simp [D.eqB]
@[simp] theorem eqB_nil : Ds.eqB [] [] = true := by simp [Ds.eqB]
@[simp] theorem eqB_cons (x y : D) (xs ys : List D) : Ds.eqB (x :: xs) (y :: ys) = (x.eqB y && Ds.eqB xs ys) := by simp [Ds.eqB]
@[simp] theorem eqB_nc (y : D) (ys : List D) : Ds.eqB [] (y :: ys) = false := by simp [Ds.eqB]
@[simp] theorem eqB_cn (y : D) (ys : List D) : Ds.eqB (y :: ys) [] = false := by simp [Ds.eqB]
theorem eqB_map {α : Type} [DecidableEq α] (f : α → D) (hf : ∀ x y, (f x).eqB (f y) = decide (x = y)) : ∀ xs ys : List α, Ds.eqB (xs.map f) (ys.map f) = decide (xs = ys)
  | [], [] => by simp
  | [], y :: ys => by simp
  | x :: xs, [] => by simp
  | x :: xs, y :: ys => by simp [hf, eqB_map f hf xs ys]
@[simp] theorem eqB_ints (xs ys : List Int) : Ds.eqB (xs.map fun i => D.sc (.int i)) (ys.map fun i => D.sc (.int i)) = decide (xs = ys) := eqB_map _ (fun x y => by simp [Bool.beq_eq_decide_eq]) xs ys
@[simp] theorem eqB_strs (xs ys : List (List Nat)) : Ds.eqB (xs.map fun i => D.sc (.str i)) (ys.map fun i => D.sc (.str i)) = decide (xs = ys) := eqB_map _ (fun x y => by simp [Bool.beq_eq_decide_eq]) xs ys
@[simp] theorem allD_ (o : Ow) (bs : List Bool) : allD (.lst o (bs.map fun b => D.sc (.bl b))) = some (.bl (bs.all id)) := by
  have : bls (bs.map fun b => D.sc (.bl b)) = some bs := by induction bs with | nil => rfl | cons b bs ih => simp [bls, ih]
  simp [allD, this]
@[simp] theorem anyD_ (o : Ow) (bs : List Bool) : anyD (.lst o (bs.map fun b => D.sc (.bl b))) = some (.bl (bs.any id)) := by
  have : bls (bs.map fun b => D.sc (.bl b)) = some bs := by induction bs with | nil => rfl | cons b bs ih => simp [bls, ih]
  simp [anyD, this]
@[simp] theorem sumD_ (o : Ow) (bs : List Int) : sumD (.lst o (bs.map fun b => D.sc (.int b))) = some (.int bs.sum) := by
  have : intL (bs.map fun b => D.sc (.int b)) = some bs := by induction bs with | nil => rfl | cons b bs ih => simp [intL, ih]
  simp [sumD, this]
@[simp] theorem isTy_int_int (i : Int) : isTy .int (.int i) = some (.bl true) := (rfl)
@[simp] theorem isTy_bool_int (i : Int) : isTy .bool (.int i) = some (.bl false) := (rfl)
@[simp] theorem isTy_list (o : Ow) (xs : List D) : isTy .list (.lst o xs) = some (.bl true) := (rfl)
@[simp] theorem isTy_str (xs : List Nat) : isTy .str (.str xs) = some (.bl true) := (rfl)
@[simp] theorem isTy_tuple (xs : List D) : isTy .tuple (.tup xs) = some (.bl true) := (rfl)
theorem atI_nn {α : Type} (xs : List α) (i : Nat) (h : i < xs.length) : atI xs (i : Int) = xs[i]? := by
  unfold atI ixN
  rw [if_pos (by omega), if_pos (by omega)]
  simp
/-- an index of a written list -/
@[simp] theorem atI_z {α : Type} (x : α) (xs : List α) : atI (x :: xs) 0 = some x := by
  unfold atI ixN
  rw [if_pos (by omega), if_pos (by simp)]
  simp
theorem atI_s {α : Type} (x : α) (xs : List α) (i : Int) (h : 0 < i) : atI (x :: xs) i = atI xs (i - 1) := by
  unfold atI ixN
  rw [if_pos (by omega), if_pos (show (0 : Int) ≤ i - 1 by omega)]
  by_cases q : i < ((x :: xs).length : Nat)
  · rw [if_pos q, if_pos (by simp at q; omega)]
    have : i.toNat = (i - 1).toNat + 1 := by omega
    show (x :: xs)[i.toNat]? = xs[(i-1).toNat]?
    rw [this, List.getElem?_cons_succ]
  · rw [if_neg q, if_neg (by simp at q; omega)]
    rfl

/-! ### loops -/
/-- a for whose turns are told by a function on states -/
theorem forL_fold {σ : Type} {α : Type} {g : D → Cm Unit} {b : Cm Out} (enc : σ → DE) (el : α → D) (f : σ → α → σ)
    (h : ∀ s x, (g (el x) (enc s)).bind (fun _ ρ => (b ρ).bind fun o ρ => match o with | .nx => .ok Out.nx ρ | .ct => .ok Out.nx ρ | .brk => .ok Out.brk ρ | .ret y => .ok (Out.ret y) ρ) = .ok .nx (enc (f s x))) :
    ∀ (xs : List α) (s : σ), forL g b (xs.map el) (enc s) = .ok .nx (enc (xs.foldl f s))
  | [], s => rfl
  | x :: xs, s => by
    have hx := h s x
    simp only [List.map_cons, forL, List.foldl_cons]
    cases e : g (el x) (enc s) with
    | exc _ _ => rw [e] at hx; simp at hx
    | stuck => rw [e] at hx; simp at hx
    | ok u ρ =>
      rw [e] at hx
      simp only [R.bind_ok] at hx ⊢
      cases e2 : b ρ with
      | exc _ _ => rw [e2] at hx; simp at hx
      | stuck => rw [e2] at hx; simp at hx
      | ok o ρ2 =>
        rw [e2] at hx
        cases o <;> simp at hx ⊢ <;> (subst hx; exact forL_fold enc el f h xs _)
/-- a for whose turns keep a relation; the turn may need its place -/
theorem forL_inv {g : D → Cm Unit} {b : Cm Out} {ds : List D} (I : Nat → DE → Prop)
    (h : ∀ i d ρ, ds[i]? = some d → I i ρ → ∃ ρ1, g d ρ = .ok () ρ1 ∧ ∃ o ρ2, b ρ1 = .ok o ρ2 ∧ (o = .nx ∨ o = .ct) ∧ I (i + 1) ρ2) :
    ∀ (n i : Nat) (ρ : DE), ds.length - i = n → i ≤ ds.length → I i ρ → ∃ ρ', forL g b (ds.drop i) ρ = .ok .nx ρ' ∧ I ds.length ρ'
  | 0, i, ρ, hn, hi, k => by
    have e : i = ds.length := by omega
    subst e
    rw [List.drop_length]
    exact ⟨ρ, rfl, k⟩
  | n + 1, i, ρ, hn, hi, k => by
    have hlt : i < ds.length := by omega
    rw [List.drop_eq_getElem_cons hlt]
    obtain ⟨ρ1, h1, o, ρ2, h2, h3, h4⟩ := h i _ ρ (List.getElem?_eq_getElem hlt) k
    obtain ⟨ρ', e1, e2⟩ := forL_inv I h n (i + 1) ρ2 (by omega) (by omega) h4
    refine ⟨ρ', ?_, e2⟩
    simp only [forL, h1, R.bind_ok, h2]
    rcases h3 with rfl | rfl <;> exact e1
theorem forL_inv0 {g : D → Cm Unit} {b : Cm Out} {ds : List D} {ρ : DE} (I : Nat → DE → Prop) (h0 : I 0 ρ)
    (h : ∀ i d ρ, ds[i]? = some d → I i ρ → ∃ ρ1, g d ρ = .ok () ρ1 ∧ ∃ o ρ2, b ρ1 = .ok o ρ2 ∧ (o = .nx ∨ o = .ct) ∧ I (i + 1) ρ2) : ∃ ρ', forL g b ds ρ = .ok .nx ρ' ∧ I ds.length ρ' := by
  simpa using forL_inv I h ds.length 0 ρ (by omega) (by omega) h0
/-- a comprehension whose steps are told by a function -/
theorem lcL_map {α : Type} {g : D → Cm Unit} {e : Cm D} {vs : List Nat} {ρ : DE} (el : α → D) (f : α → D) (hw : wipeD ρ vs = ρ)
    (h : ∀ x, ∃ ρ1 ρ2, g (el x) ρ = .ok () ρ1 ∧ e ρ1 = .ok (f x) ρ2 ∧ wipeD ρ2 vs = ρ) : ∀ xs : List α, lcL g mYes e vs (xs.map el) ρ = .ok (xs.map f) ρ
  | [] => rfl
  | x :: xs => by
    obtain ⟨ρ1, ρ2, h1, h2, h3⟩ := h x
    simp only [List.map_cons, lcL, h1, R.bind_ok, mYes_, if_true, h2, h3, lcL_map el f hw h xs]
end VS
namespace VS
/-- a product with a small side: for simp with a discharger -/
theorem mulD_intL (i j : Int) (h : -18446744073709551616 < i ∧ i < 18446744073709551616) : mulD (.int i) (.int j) = some (.int (i * j)) := by
  rw [mulD_int, if_pos (Or.inl (by omega))]
theorem mulD_intR (i j : Int) (h : -18446744073709551616 < j ∧ j < 18446744073709551616) : mulD (.int i) (.int j) = some (.int (i * j)) := by
  rw [mulD_int, if_pos (Or.inr (by omega))]
theorem modD_intP (i j : Int) (h : 0 < j) : modD (.int i) (.int j) = some (.int (i % j)) := by
  rw [modD_int, if_pos h]
theorem fdivD_intP (i j : Int) (h : 0 < j ∧ j < 4611686018427387904) : fdivD (.int i) (.int j) = some (.int (i / j)) := by
  rw [fdivD_int, if_pos h]
end VS
namespace VS
@[simp] theorem fz_comp_int : D.fz ∘ D.int = D.int := by funext i; simp
@[simp] theorem fz_comp_str : D.fz ∘ D.str = D.str := by funext i; simp
@[simp] theorem fz_comp_bl : D.fz ∘ D.bl = D.bl := by funext i; simp
@[simp] theorem fz_map_int (ns : List Int) : (ns.map D.int).map D.fz = ns.map D.int := by simp
@[simp] theorem fz_map_str (ns : List (List Nat)) : (ns.map D.str).map D.fz = ns.map D.str := by simp
@[simp] theorem pur_all_int (ns : List Int) : (ns.map D.int).all D.pur = true := by simp
@[simp] theorem pur_all_str (ns : List (List Nat)) : (ns.map D.str).all D.pur = true := by simp
@[simp] theorem isSc_all_int (ns : List Int) : (ns.map D.int).all D.isSc = true := by simp
@[simp] theorem isSc_all_str (ns : List (List Nat)) : (ns.map D.str).all D.isSc = true := by simp
@[simp] theorem flat_all_int (n : Nat) (ns : List Int) : (ns.map D.int).all (D.flatN n) = true := by simp
@[simp] theorem flat_all_str (n : Nat) (ns : List (List Nat)) : (ns.map D.str).all (D.flatN n) = true := by simp
end VS
namespace VS
open L2
/-- an entry of a row of ints, by an int -/
def pk (l : List Int) (i : Int) : Int := l.getD i.toNat 0
theorem atI_pk (l : List Int) (i : Int) (h : 0 ≤ i) (h2 : i < l.length) : atI (l.map D.int) i = some (D.int (pk l i)) := by
  obtain ⟨n, rfl⟩ := Int.eq_ofNat_of_zero_le h
  have : n < l.length := by omega
  rw [atI_nn _ _ (by simpa using this)]
  simp [pk, this]
theorem pk_mem (l : List Int) (i : Int) (h : 0 ≤ i) (h2 : i < l.length) : pk l i ∈ l := by
  obtain ⟨n, rfl⟩ := Int.eq_ofNat_of_zero_le h
  have : n < l.length := by omega
  simp [pk, this]
theorem pk_P {P : Int → Prop} (l : List Int) (i : Int) (h : 0 ≤ i) (h2 : i < l.length) (q : ∀ x ∈ l, P x) : P (pk l i) := q _ (pk_mem l i h h2)
theorem atI_pk1 (a i : Int) (h : 0 ≤ i) (h2 : i < 1) : atI [D.int a] i = some (D.int (pk [a] i)) := atI_pk [a] i h h2
theorem atI_pk2 (a b i : Int) (h : 0 ≤ i) (h2 : i < 2) : atI [D.int a, D.int b] i = some (D.int (pk [a, b] i)) := atI_pk [a, b] i h h2
theorem atI_pk3 (a b c i : Int) (h : 0 ≤ i) (h2 : i < 3) : atI [D.int a, D.int b, D.int c] i = some (D.int (pk [a, b, c] i)) := atI_pk [a, b, c] i h h2
theorem atI_pk4 (a b c d i : Int) (h : 0 ≤ i) (h2 : i < 4) : atI [D.int a, D.int b, D.int c, D.int d] i = some (D.int (pk [a, b, c, d] i)) := atI_pk [a, b, c, d] i h h2
theorem atI_pk5 (a b c d e i : Int) (h : 0 ≤ i) (h2 : i < 5) : atI [D.int a, D.int b, D.int c, D.int d, D.int e] i = some (D.int (pk [a, b, c, d, e] i)) := atI_pk [a, b, c, d, e] i h h2
theorem atI_pk6 (a b c d e f i : Int) (h : 0 ≤ i) (h2 : i < 6) : atI [D.int a, D.int b, D.int c, D.int d, D.int e, D.int f] i = some (D.int (pk [a, b, c, d, e, f] i)) := atI_pk [a, b, c, d, e, f] i h h2
theorem atI_pk12 (a b c d e f a' b' c' d' e' f' i : Int) (h : 0 ≤ i) (h2 : i < 12) : atI [D.int a, D.int b, D.int c, D.int d, D.int e, D.int f, D.int a', D.int b', D.int c', D.int d', D.int e', D.int f'] i = some (D.int (pk [a, b, c, d, e, f, a', b', c', d', e', f'] i)) := atI_pk [a, b, c, d, e, f, a', b', c', d', e', f'] i h h2
theorem cut_all {α : Type} (xs : List α) : cutL xs none none = xs := by simp [cutL, HT.sIx_none]
theorem cut_take {α : Type} (xs : List α) (n : Nat) (h : n ≤ xs.length) : cutL xs none (some (n : Int)) = xs.take n := by
  unfold cutL; rw [HT.sIx_none, HT.sIx_nat, Nat.min_eq_left h]; simp
theorem cut_drop {α : Type} (xs : List α) (n : Nat) (h : n ≤ xs.length) : cutL xs (some (n : Int)) none = xs.drop n := by
  unfold cutL; rw [HT.sIx_none, HT.sIx_nat, Nat.min_eq_left h]
  exact List.take_of_length_le (by simp)
theorem cut_mid {α : Type} (xs : List α) (a b : Nat) (h : a ≤ b) (h2 : b ≤ xs.length) : cutL xs (some (a : Int)) (some (b : Int)) = (xs.drop a).take (b - a) := by
  unfold cutL; rw [HT.sIx_nat, HT.sIx_nat, Nat.min_eq_left h2, Nat.min_eq_left (Nat.le_trans h h2)]
/-- a row's ends, whatever the cut -/
theorem cut_sub {α : Type} (xs : List α) (lo hi : Option Int) : ∀ x ∈ cutL xs lo hi, x ∈ xs := fun x h => cutL_mem h
theorem whileL_step {c : Cm Bool} {b : Cm Out} {n : Nat} {ρ ρ1 ρ2 : DE} (h : c ρ = .ok true ρ1) (h2 : b ρ1 = .ok .nx ρ2) : whileL c b (n + 1) ρ = whileL c b n ρ2 := by
  simp [whileL, h, h2]
theorem whileL_end {c : Cm Bool} {b : Cm Out} {n : Nat} {ρ ρ1 : DE} (h : c ρ = .ok false ρ1) : whileL c b (n + 1) ρ = .ok .nx ρ1 := by
  simp [whileL, h]
end VS
namespace VS
theorem allD_map {α : Type} (o : Ow) (f : α → Bool) (xs : List α) : allD (.lst o (xs.map fun x => D.sc (.bl (f x)))) = some (.bl (xs.all f)) := by
  have := allD_ o (xs.map f)
  simpa [Function.comp_def] using this
theorem anyD_map {α : Type} (o : Ow) (f : α → Bool) (xs : List α) : anyD (.lst o (xs.map fun x => D.sc (.bl (f x)))) = some (.bl (xs.any f)) := by
  have := anyD_ o (xs.map f)
  simpa [Function.comp_def] using this
end VS
namespace VS
theorem rangeD_get {lo : Int} {n i : Nat} {d : D} (h : (rangeD lo n)[i]? = some d) : i < n ∧ d = D.int (lo + i) := by
  unfold rangeD at h
  rw [List.getElem?_map, Option.map_eq_some_iff] at h
  obtain ⟨k, hk, rfl⟩ := h
  obtain ⟨hl, rfl⟩ := List.getElem?_eq_some_iff.1 hk
  simp at hl ⊢
  exact hl
@[simp] theorem rangeD_len (lo : Int) (n : Nat) : (rangeD lo n).length = n := by simp [rangeD]
end VS
namespace VS
open L2
@[simp] theorem mM_e (f : D → D → Option Sc) (a b : Cm D) (ρ : DE) : mM f (.e a) (.e b) ρ = (a ρ).bind fun d ρ => match d with
  | .sc (.str _) => (b ρ).bind fun w ρ => (lift (f d w) ρ).bind fun s ρ => .ok (.sc s) ρ
  | _ => .stuck := by
  unfold mM
  cases e : a ρ with
  | ok x ρ =>
    simp only [orun_e, e, R.bind_ok, oget_e]
    cases x with
    | sc s =>
      cases s <;> try rfl
      cases e2 : b ρ <;> simp [R.bind]
    | _ => rfl
  | exc _ _ => simp only [orun_e, e]; rfl
  | stuck => simp only [orun_e, e]; rfl
@[simp] theorem mRepl_ (y z : List Nat) (m : Cm D) (ρ : DE) : mRepl y z m ρ = (m ρ).bind fun d ρ => match d with
  | .sc (.str x) => if x.length + (x.length + 1) * z.length ≤ 16777216 ∧ (PySem.StrLaws.replL y z x).all (fun c => decide (c < 1114112)) = true then .ok (.str (PySem.StrLaws.replL y z x)) ρ else .stuck
  | _ => .stuck := (rfl)
@[simp] theorem mItemsS_ (a : Cm D) (ρ : DE) : mItemsS a ρ = (a ρ).bind fun d ρ => match d with
  | .sc (.str l) => .ok (l.map fun c => D.str [c]) ρ
  | _ => .stuck := (rfl)
theorem inStr_one (c : Nat) (b : List Nat) : inStr [c] b = decide (c ∈ b) := by
  have := PySem.StrLaws.found_one ⟨b.toArray⟩ c
  simpa [inStr, PySem.Str.length] using this
@[simp] theorem inD_one (neg : Bool) (c : Nat) (b : List Nat) : inD neg (.str [c]) (.str b) = some (.bl (neg ^^ decide (c ∈ b))) := by
  rw [← inStr_one]; rfl
@[simp] theorem eqB_nilr (xs : List D) : Ds.eqB xs [] = xs.isEmpty := by cases xs <;> simp
theorem strL_map (l : List (List Nat)) : strL (l.map D.str) = some l := by
  induction l with
  | nil => rfl
  | cons x l ih => simp [strL, ih]
theorem joinL_nil (cs : List Nat) : joinL [] (cs.map fun c => [c]) = cs := by
  cases cs with
  | nil => rfl
  | cons c cs =>
    have : ∀ l : List Nat, glL [] (l.map fun c => [c]) = l := fun l => by induction l with | nil => rfl | cons x l ih => simp [glL, ih]
    simp [joinL, this]
theorem join_signs (o : Ow) (cs : List Nat) (h : cs.length ≤ 16777216) : joinD (.str []) (.lst o (cs.map fun c => D.str [c])) = some (.str cs) := by
  have e := strL_map (cs.map fun c => [c])
  simp only [List.map_map, Function.comp_def] at e
  have s : ((cs.map fun c => [c]).map List.length).sum = cs.length := by
    clear h e
    induction cs with
    | nil => rfl
    | cons c cs ih => simp at ih ⊢; omega
  simp only [joinD, e, joinL_nil]
  rw [if_pos (by rw [s]; simpa using h)]
/-- a comprehension with a condition -/
theorem lcL_filter {α : Type} {g : D → Cm Unit} {t : Cm Bool} {e : Cm D} {vs : List Nat} {ρ : DE} (el : α → D) (p : α → Bool) (f : α → D) (hw : wipeD ρ vs = ρ)
    (h : ∀ x, ∃ ρ1 ρ2 ρ3, g (el x) ρ = .ok () ρ1 ∧ t ρ1 = .ok (p x) ρ2 ∧ wipeD ρ2 vs = ρ ∧ e ρ2 = .ok (f x) ρ3 ∧ wipeD ρ3 vs = ρ) : ∀ xs : List α, lcL g t e vs (xs.map el) ρ = .ok ((xs.filter p).map f) ρ
  | [] => rfl
  | x :: xs => by
    obtain ⟨ρ1, ρ2, ρ3, h1, h2, h3, h4, h5⟩ := h x
    cases q : p x with
    | true =>
      rw [q] at h2
      simp only [List.map_cons, lcL, h1, R.bind_ok, h2, if_true, h4, h5, lcL_filter el p f hw h xs, List.filter_cons, q]
    | false =>
      rw [q] at h2
      simp only [List.map_cons, lcL, h1, R.bind_ok, h2, h3, lcL_filter el p f hw h xs, List.filter_cons, q, Bool.false_eq_true, if_false]
/-- a comprehension whose steps draw -/
theorem lcL_draw {σ : Type} {g : D → Cm Unit} {e : Cm D} {vs : List Nat} (enc : σ → DE) (P : Nat → Prop)
    (h : ∀ s d, ∃ ρ1 ρ2 c s', g d (enc s) = .ok () ρ1 ∧ e ρ1 = .ok (.str [c]) ρ2 ∧ wipeD ρ2 vs = enc s' ∧ P c) : ∀ (ds : List D) (s : σ), ∃ (cs : List Nat) (s' : σ), lcL g mYes e vs ds (enc s) = .ok (cs.map fun c => D.str [c]) (enc s') ∧ cs.length = ds.length ∧ ∀ c ∈ cs, P c
  | [], s => ⟨[], s, rfl, rfl, by simp⟩
  | d :: ds, s => by
    obtain ⟨ρ1, ρ2, c, s1, h1, h2, h3, h4⟩ := h s d
    obtain ⟨cs, s', e1, e2, e3⟩ := lcL_draw enc P h ds s1
    refine ⟨c :: cs, s', by simp only [lcL, h1, R.bind_ok, mYes_, if_true, h2, h3, e1, List.map_cons], by simp [e2], fun x hx => ?_⟩
    rcases List.mem_cons.1 hx with rfl | hx
    · exact h4
    · exact e3 x hx
theorem repl_one (c : Nat) (z : List Nat) : ∀ l : List Nat, PySem.StrLaws.replL [c] z l = l.flatMap fun x => if x = c then z else [x]
  | [] => by rw [PySem.StrLaws.replL_nil]; rfl
  | x :: l => by
    by_cases q : x = c
    · subst q
      rw [PySem.StrLaws.replL_hit (by simp) (by simp)]
      simp [repl_one]
    · rw [PySem.StrLaws.replL_miss (by simpa using q), repl_one c z l]
      simp [q]
theorem at_app {α : Type} (A : List α) (b : α) (B : List α) : atI (A ++ b :: B) (A.length : Int) = some b := by
  rw [atI_nn _ _ (by simp)]
  simp
theorem cut_app {α : Type} (A : List α) (b : α) (B : List α) : cutL (A ++ b :: B) (some (A.length : Int)) (some ((A.length : Int) + 1)) = [b] := by
  have := cut_mid (A ++ b :: B) A.length (A.length + 1) (by omega) (by simp)
  rw [Int.natCast_add] at this
  simpa using this
end VS
namespace VS
open L2
theorem whileL_ret {c : Cm Bool} {b : Cm Out} {n : Nat} {ρ ρ1 ρ2 : DE} {d : D} (h : c ρ = .ok true ρ1) (h2 : b ρ1 = .ok (.ret d) ρ2) : whileL c b (n + 1) ρ = .ok (.ret d) ρ2 := by
  simp only [whileL, h, R.bind_ok, if_true, h2]
theorem whileL_exc {c : Cm Bool} {b : Cm Out} {n : Nat} {ρ ρ1 ρ2 : DE} {x : Ex} (h : c ρ = .ok true ρ1) (h2 : b ρ1 = .exc x ρ2) : whileL c b (n + 1) ρ = .exc x ρ2 := by
  simp only [whileL, h, R.bind_ok, if_true, h2, R.bind_exc]
end VS

/-! VS, part t: exceptions: raise, try .. except. -/
namespace VS
open PySem PySem.Spec PyProof.Rows L2
def mRaise (C : String) : Cm Out := fun ρ => .exc ⟨C, [], []⟩ ρ
/-- raise C(why), raise C(why, e): C's own field f -/
def mRaiseF (C f : String) (ms : List (Cm D)) : Cm Out := fun ρ => (mArgs ms ρ).bind fun ds ρ => match ds with
  | [_] => .exc ⟨C, [f], [.int 0]⟩ ρ
  | [_, .sc s] => .exc ⟨C, [f], [s]⟩ ρ
  | _ => .stuck
/-- try: mb / except D as i: ms -/
def mTryAs (exm : String → String → Option Bool) (i : Nat) (Dn : String) (mb : Cm Out) (ms : Ex → Cm Out) : Cm Out := fun ρ => match mb ρ with
  | .ok o ρ => .ok o ρ
  | .stuck => .stuck
  | .exc x ρ => if x.cls = "dict" then .stuck else match exm x.cls Dn with
    | none => .stuck
    | some false => .exc x ρ
    | some true => match ms x (ρ.set i none) with
      | .ok o ρ => .ok o (ρ.set i none)
      | _ => .stuck
def mTry (exm : String → String → Option Bool) (Dn : String) (mb ms : Cm Out) : Cm Out := fun ρ => match mb ρ with
  | .ok o ρ => .ok o ρ
  | .stuck => .stuck
  | .exc x ρ => match exm x.cls Dn with
    | none => .stuck
    | some false => .exc x ρ
    | some true => match ms ρ with
      | .ok o ρ => .ok o ρ
      | _ => .stuck
def exT (all ds : List String) (C Dn : String) : Option Bool := if all.contains C && ds.contains Dn then some (C == Dn || Dn == "LetterError") else none
def mIsX (exm : String → String → Option Bool) (x : Ex) (Dn : String) : Cm D := match exm x.cls Dn with
  | some b => mC (.bl b)
  | none => mStuckD
def mIsV (all : List String) (x : Ex) : Cm D := if all.contains x.cls then mC (.bl true) else mStuckD
def xfV : List String → List Sc → String → Option Sc
  | [f'], [s], f => if f' = f then some s else none
  | _, _, _ => none
theorem xfV_eq {ns : List String} {xs : List Sc} {f : String} {s : Sc} (h : xfV ns xs f = some s) : ns = [f] ∧ xs = [s] := by
  unfold xfV at h
  split at h
  · split at h
    · rename_i e
      cases h
      subst e
      exact ⟨rfl, rfl⟩
    · cases h
  · cases h
def mXf (x : Ex) (f : String) : Cm D := match xfV x.ns x.xs f with
  | some s => mC s
  | none => mStuckD
/-! ### what the written part says of the classes -/
def cB (K : PySem.W.Frag) (C : Addr) : Bool := xfB K C && (decide (PySem.W.typeIn K (.ref C) = some (.type "type")) && (PySem.W.keepIn K (.ref C) && (decide (PySem.W.findIn K (.ref C) "__class__" = some (some (.builtin "object.__class__"))) &&
  (decide (PySem.W.specialIn K (.builtin "object.__class__") "__get__" = some (some (.builtin "getset_descriptor.__get__"))) && (decide (PySem.W.takesIn K (.builtin "object.__class__") = some true) && (decide (PySem.W.mroIn K C (.type "object") = some true) && ((PySem.W.clsIn K C).isSome &&
  (decide (PySem.W.findIn K (.ref C) "at" = some none) && (decide (PySem.W.findIn K (.ref C) "line" = some none) && decide (PySem.W.kitOne K (.ref C) (.type "ValueError") = some true))))))))))
structure CB (K : PySem.W.Frag) (C : Addr) : Prop where
  xf : XfC K C
  ty : PySem.W.typeIn K (.ref C) = some (.type "type")
  kp : PySem.W.keepIn K (.ref C) = true
  ca : PySem.W.findIn K (.ref C) "__class__" = some (some (.builtin "object.__class__"))
  sp : PySem.W.specialIn K (.builtin "object.__class__") "__get__" = some (some (.builtin "getset_descriptor.__get__"))
  tk : PySem.W.takesIn K (.builtin "object.__class__") = some true
  mr : PySem.W.mroIn K C (.type "object") = some true
  cl : (PySem.W.clsIn K C).isSome = true
  nA : PySem.W.findIn K (.ref C) "at" = some none
  nL : PySem.W.findIn K (.ref C) "line" = some none
  kv : PySem.W.kitOne K (.ref C) (.type "ValueError") = some true
theorem cB_ok {K : PySem.W.Frag} {C : Addr} (h : cB K C = true) : CB K C := by
  unfold cB at h
  simp only [Bool.and_eq_true, decide_eq_true_eq] at h
  obtain ⟨h1, h2, h3, h4, h5, h6, h7, h8, h9, h10, h11⟩ := h
  exact ⟨xfB_ok h1, h2, h3, h4, h5, h6, h7, h8, h9, h10, h11⟩
/-- the classes that may fly (all), those that are named (ds) -/
structure XT (K : PySem.W.Frag) (cls : String → Addr) (all ds : List String) : Prop where
  c : ∀ C ∈ all, CB K (cls C)
  exm : ∀ C ∈ all, ∀ Dn ∈ ds, PySem.W.exmOne K (.ref (cls C)) (.ref (cls Dn)) = some (C == Dn || Dn == "LetterError")
  kit : ∀ C ∈ all, ∀ Dn ∈ ds, PySem.W.kitOne K (.ref (cls C)) (.ref (cls Dn)) = some (C == Dn || Dn == "LetterError")
def xtB (K : PySem.W.Frag) (cls : String → Addr) (all ds : List String) : Bool := all.all fun C => cB K (cls C) && ds.all fun Dn => decide (PySem.W.exmOne K (.ref (cls C)) (.ref (cls Dn)) = some (C == Dn || Dn == "LetterError")) && decide (PySem.W.kitOne K (.ref (cls C)) (.ref (cls Dn)) = some (C == Dn || Dn == "LetterError"))
theorem xtB_ok {K : PySem.W.Frag} {cls : String → Addr} {all ds : List String} (h : xtB K cls all ds = true) : XT K cls all ds := by
  unfold xtB at h
  simp only [List.all_eq_true, Bool.and_eq_true, decide_eq_true_eq] at h
  exact ⟨fun C hC => cB_ok (h C hC).1, fun C hC Dn hD => ((h C hC).2 Dn hD).1, fun C hC Dn hD => ((h C hC).2 Dn hD).2⟩
/-- an own class with an own __init__ -/
def oexB (K : PySem.W.Frag) (C : Addr) : Bool := (match K.lookup C with
  | some ⟨.type "type", _, .cls cd, sl⟩ => (match cd.mro, sl.toList with
    | .ref C' :: bm, [_, _, _, _, some (.builtin n), _] => C' == C && n == "ValueError.__new__" && !cd.hasDel && cd.hasDict && PySem.HandSPX.refsVE bm
    | _, _ => false)
  | _ => false) && (decide (PySem.W.findIn K (.ref C) "__setattr__" = some (some (.builtin "object.__setattr__"))) && (decide (PySem.W.subIn K (.ref C) (.type "BaseException") = some true) && (decide (PySem.W.typeIn K (.ref C) = some (.type "type")) && PySem.W.keepIn K (.ref C))))
theorem oexB_ok {K : PySem.W.Frag} {C : Addr} (h : oexB K C = true) : OexC K C := by
  unfold oexB at h
  simp only [Bool.and_eq_true, decide_eq_true_eq] at h
  obtain ⟨q, h2, h3, h4, h5⟩ := h
  refine ⟨?_, h2, h3, h4, h5⟩
  split at q
  · rename_i dd cd sl ho
    split at q
    · rename_i C' bm k0 k1 k2 k3 n k5 hm hs
      simp only [Bool.and_eq_true, beq_iff_eq, Bool.not_eq_true'] at q
      obtain ⟨⟨⟨⟨rfl, rfl⟩, hdel⟩, hdict⟩, hr⟩ := q
      obtain ⟨nm, bs, mro, ns, qn, hd, sn, sub, ab, col, del⟩ := cd
      dsimp only at hm hdel hdict
      subst hm hdel hdict
      have hsl : sl = #[k0, k1, k2, k3, some (.builtin "ValueError.__new__"), k5] := by
        obtain ⟨l⟩ := sl
        simp only at hs
        rw [hs]
      subst hsl
      exact ⟨nm, qn, ns, bs, bm, sn, sub, ab, col, dd, k0, k1, k2, k3, k5, ho, hr⟩
    · cases q
  · cases q

/-! ### the states -/
section
variable {g : Gh} {H : Hp} {σ : L2.St} {sl : List (Option T)} {tm : List T}
theorem SR.exn0 (s : SR g H σ sl tm) (a : Addr) (C : String) (hC : C ≠ "dict") : SR g H σ sl (T.exn a none C [] [] :: tm) :=
  s.tmp (by simp [Ts.ok, T.ok, hC]; exact s.okT) fun b => by simp [Ts.oc, Ts.sh, T.oc, T.sh, b2]; omega
theorem SR.exn1 {ts : List T} {d a : Addr} {C f : String} {v : Sc} (s : SR g H σ sl (ts ++ tm)) (hd : H d = none) (gv : v.good) (hC : C ≠ "dict") : SR g (upd H d (.xd [(Str.ofString f, v.v)])) σ sl (T.exn a (some d) C [f] [v] :: tm) := by
  have s := s.popL
  have fr := s.free hd
  refine s.go (s.stayS fun b q => upd_ne fun e => ?_) ?_ (fun b => ?_) (fun b => ?_) s.len s.slen s.at_ s.io
  · subst e; omega
  · simp only [Ts.ok, T.ok]
    refine ⟨⟨by simpa using gv, ?_⟩, s.stayT fun b q => upd_ne fun e => ?_⟩
    · rw [upd_same]; exact ⟨by unfold exnO; rw [if_neg hC]; rfl, fun e => absurd e hC⟩
    · subst e; omega
  · by_cases e : d = b
    · subst e
      refine .inr ⟨.inl hd, .inl ?_⟩
      simp only [Ts.oc, T.oc]; omega
    · refine .inl ?_
      simp [Ts.oc, Ts.sh, T.oc, T.sh, b2, e]
      omega
  · by_cases e : b = d
    · exact .inr (.inl (by rw [e]; exact hd))
    · exact .inl (upd_ne e)
/-- what stands while a suite holds the exception -/
abbrev Gh.sx (g : Gh) (i : Nat) (a : Addr) (d : Option Addr) (x : Ex) : Gh := { g with io := (i, .ref a) :: g.io, px := (match d with
  | none => []
  | some dd => [(dd, HO.xd (fieldsV x.ns (x.xs.map Sc.v)))]) ++ g.px }
theorem sx_io {i : Nat} {a : Addr} {d : Option Addr} {x : Ex} {l : List Nat} (h : g.io.map (·.1) = l) : (g.sx i a d x).io.map (·.1) = i :: l := by simp [Gh.sx, h]
theorem SR.unslot {i : Nat} (s : SR g H σ sl tm) (hio : ∀ p ∈ g.io, p.1 ≠ i) (v : Option V) : SR g H (σ.set i v) (sl.set i none) tm := by
  refine s.go (fun u hu => ?_) s.okT (fun a => .inl ?_) (fun _ => .inl rfl) (by simp [s.len]) (by simp [s.slen]) (fun j u hu => ?_) (fun p hp => ?_)
  · rcases mem_set hu with e | e
    · cases e
    · exact s.okS u e
  · by_cases hl : i < sl.length
    · have h1 := So_set (f := T.oc a) (x := none) (List.getElem?_eq_getElem hl)
      have h2 := So_set (f := T.sh a) (x := none) (List.getElem?_eq_getElem hl)
      simp only [fO] at h1 h2
      omega
    · rw [List.set_eq_of_length_le (by omega)]
      omega
  · rcases set_get hu with ⟨rfl, e⟩ | ⟨ne, e⟩
    · cases e
    · rw [List.getElem?_set_ne (Ne.symm ne)]
      exact s.at_ _ _ e
  · rw [List.getElem?_set_ne (Ne.symm (hio p hp))]
    exact s.io p hp
theorem SR.into {i : Nat} {a a0 : Addr} {d : Option Addr} {x : Ex} (s : SR g H σ sl (T.exn a0 d x.cls x.ns x.xs :: tm)) (hi : i < g.N) (hio : ∀ p ∈ g.io, p.1 ≠ i) (hx : x.cls ≠ "dict") : SR (g.sx i a d x) H (σ.set i (some (.ref a))) (sl.set i none) tm := by
  have s1 := s.pop.unslot hio (some (.ref a))
  have k := s.top
  refine ⟨s1.okS, s1.okT, s1.inv, s1.prov, s1.frame, s1.len, s1.slen, s1.at_, fun p hp => ?_, fun p hp => ?_, s1.tabs⟩
  · rcases List.mem_cons.mp hp with rfl | hp
    · exact List.getElem?_set_self (by rw [s.len]; exact hi)
    · exact s1.io p hp
  · rcases List.mem_append.mp hp with hp | hp
    · cases d with
      | none => exact (List.not_mem_nil hp).elim
      | some dd =>
        simp only [List.mem_singleton] at hp
        subst hp
        simp only [T.ok] at k
        refine ⟨by have := k.2.1; unfold exnO at this; rw [if_neg hx] at this; exact this, ?_, rfl⟩
        show So (T.oc dd) (sl.set i none) + Ts.oc dd tm = 0
        have iv := s.inv dd
        simp only [Ts.oc, Ts.sh, T.oc, T.sh, b2, if_true] at iv
        by_cases hl : i < sl.length
        · have h1 := So_set (f := T.oc dd) (x := none) (List.getElem?_eq_getElem hl)
          simp only [fO] at h1
          omega
        · rw [List.set_eq_of_length_le (by omega)]
          omega
    · exact s1.px p hp
theorem SR.outof {i : Nat} {a : Addr} {d : Option Addr} {x : Ex} (s : SR (g.sx i a d x) H σ sl tm) : SR g H σ sl tm :=
  ⟨s.okS, s.okT, s.inv, s.prov, s.frame, s.len, s.slen, s.at_, fun p hp => s.io p (List.mem_cons_of_mem _ hp), fun p hp => s.px p (List.mem_append_right _ hp), s.tabs⟩
end

/-! ### raise -/
section
variable {X : Cx} {g : Gh} {W : WX} {pos pos2 p p2 : Pos} {x m : Str} {j : Nat}
theorem s_raise {C : String} (hc : X.calm = true) (tk : Takes X W) (q : PySem.W.excIn X.K (g.c.cls C) He.veBase "ValueError.__new__" = true) (kC : PySem.W.keepIn X.K (.ref (g.c.cls C)) = true) (hs : PySem.W.subIn X.K (.ref (g.c.cls C)) (.type "BaseException") = some true)
    (ht : PySem.W.typeIn X.K (.ref (g.c.cls C)) = some (.type "type")) (gC : X.mg x = some (.ref (g.c.cls C))) (hg : Gl X x) (hC : C ≠ "dict" := by decide) (hdb : (x == ("__debug__" : Str)) = false := by decide) :
    PS X (.Raise (some (.Call (.Name x p) [.Constant (.str m) j p2] [] pos)) none pos2) (tS g W (mRaise C)) :=
  (ps_raise hc tk (pmk_own PySem.F.excBase_ValueError q gC kC (raises_own hs ht) hg hdb)).imp fun De σ H ⟨sl, tm, s, h⟩ => h H σ sl 0 none (s.exn0 0 C hC) rfl
/-- __init__(self, why, f=0): self.f = f -/
def spInit (K : PySem.W.Frag) (C : Addr) (f : Str) : Sp := fun vs H Q _ => ∃ (a : Addr) (why v : V), vs = [.ref a, why, v] ∧ OexC K C ∧ PySem.W.findIn K (.ref C) f = some none ∧ H a = some (exo a C none) ∧
  ∀ dx, H dx = none → dx ≠ a → Q .non (upd (upd H dx (exd dx [(f, v)])) a (exo a C (some dx)))
structure XIni (P : Program) (w : World) (K : PySem.W.Frag) (mg : Str → Option Value) (base : Heap) (c : Cfg) (C f : String) (fI : Addr) (fd : FuncData) : Prop where
  T : OexC K (c.cls C)
  no : PySem.W.findIn K (.ref (c.cls C)) (Str.ofString f) = some none
  iC : PySem.W.findIn K (.ref (c.cls C)) "__init__" = some (some (.ref fI))
  tI : PySem.W.typeIn K (.ref fI) = some (.type "function")
  g : mg (Str.ofString C) = some (.ref (c.cls C))
  F : FnOk P w K mg base (L2.CX P w) 1 fI fd ["self", "why", Str.ofString f] (spInit K (c.cls C) (Str.ofString f))
  b1 : ∃ ds, Vals [V.int 0] ds ∧ Binds K fd ["self", "why", Str.ofString f] ds
  b2 : Binds K fd ["self", "why", Str.ofString f] []
theorem passF {X : Cx} : Passes (L2.CX X.prog X.w) X (fun _ _ _ => False) := passL
theorem raiseF_heap {H1 : Hp} {a d C : Addr} {f : Str} {v : V} (ha : H1 a = none) (hda : d ≠ a) :
    upd (del (upd (upd (upd H1 a (exo a C none)) d (exd d [(f, v)])) a (exo a C (some d))) a) d (.xd [(f, v)]) = upd H1 d (.xd [(f, v)]) := by
  funext b
  by_cases e : b = d
  · subst e; rw [upd_same, upd_same]
  · rw [upd_ne e, upd_ne e]
    by_cases e2 : b = a
    · subst e2; rw [del_same, ha]
    · rw [del_ne e2, upd_ne e2, upd_ne e, upd_ne e2]
theorem raiseF_imp {C f : String} {ms : List (Cm D)} {dvs : List V} {fI : Addr} (T : OexC X.K (g.c.cls C)) (hno : PySem.W.findIn X.K (.ref (g.c.cls C)) (Str.ofString f) = some none) (hC : C ≠ "dict")
    (hd : (dvs = [V.int 0] ∧ ms.length = 1) ∨ (dvs = [] ∧ ms.length = 2)) (De : Ends) (σ : L2.St) (H : Hp) (h : tS g W (mRaiseF C f ms) De σ H) :
    tMkO (g.c.cls C) (spInit X.K (g.c.cls C) (Str.ofString f)) dvs (tA g W ms) σ H fun cls d H' => W cls d σ H' := by
  obtain ⟨sl, tm, s, h⟩ := h
  unfold mRaiseF at h
  have ml : ∀ {ms : List (Cm D)} {ρ ρ' : DE} {ds : List D}, mArgs ms ρ = .ok ds ρ' → ds.length = ms.length := by
    intro ms
    induction ms with
    | nil => intro ρ ρ' ds e; simp only [mArgs, R.ok.injEq] at e; rw [← e.1]; rfl
    | cons m ms ih =>
      intro ρ ρ' ds e
      unfold mArgs at e
      cases e1 : m ρ with
      | ok d ρ1 =>
        rw [e1, R.bind_ok] at e
        cases e2 : mArgs ms ρ1 with
        | ok ds2 ρ2 =>
          rw [e2, R.bind_ok] at e
          simp only [R.ok.injEq] at e
          rw [← e.1, List.length_cons, List.length_cons, ih e2]
        | exc x ρ2 => rw [e2] at e; cases e
        | stuck => rw [e2] at e; cases e
      | exc x ρ1 => rw [e1] at e; cases e
      | stuck => rw [e1] at e; cases e
  refine ⟨sl, tm, s, ?_⟩
  cases e : mArgs ms (den sl) with
  | exc x ρ => rw [e] at h; exact h
  | stuck => rw [e] at h; exact h
  | ok ds ρ =>
    rw [e, R.bind_ok] at h
    have hl := ml e
    intro H1 sl1 ts s1 e1 e2
    subst e1 e2
    have fin : ∀ (u : Sc) (w : V), u.good → exP g W tm ⟨C, [f], [u]⟩ (den sl1) → ∀ a d, H1 a = none → H1 d = none → d ≠ a → W (.ref (g.c.cls C)) (some d) σ (upd (del (upd (upd (upd H1 a (exo a (g.c.cls C) none)) d (exd d [(Str.ofString f, u.v)])) a (exo a (g.c.cls C) (some d))) a) d (.xd [(Str.ofString f, u.v)])) := fun u w gu hx a d na nd ne => by
      rw [raiseF_heap na ne]
      exact hx _ σ sl1 a (some d) (s1.exn1 nd gu hC) rfl
    have fin2 : ∀ (why : V) (u : Sc), u.good → exP g W tm ⟨C, [f], [u]⟩ (den sl1) → ∀ a, H1 a = none → spInit X.K (g.c.cls C) (Str.ofString f) [.ref a, why, u.v] (upd H1 a (exo a (g.c.cls C) none))
        (fun v H2 => v = .non ∧ ∃ (d : Addr) (fs : List (Str × V)), H2 a = some (exo a (g.c.cls C) (some d)) ∧ H2 d = some (exd d fs) ∧ H1 d = none ∧ W (.ref (g.c.cls C)) (some d) σ (upd (del H2 a) d (.xd fs))) (fun _ _ _ => False) := fun why u gu hx a na => by
      refine ⟨a, why, u.v, rfl, T, hno, upd_same, fun dx nd ne => ⟨rfl, dx, [(Str.ofString f, u.v)], upd_same, ?_, ?_, ?_⟩⟩
      · rw [upd_ne ne, upd_same]
      · rw [upd_ne ne] at nd; exact nd
      · rw [upd_ne ne] at nd
        exact fin u why gu hx a dx na nd ne
    rw [Ts.d_len] at hl
    rcases hd with ⟨rfl, hm⟩ | ⟨rfl, hm⟩
    · obtain ⟨t, rfl⟩ : ∃ t, ts = [t] := by
        match ts, hl with
        | [t], _ => exact ⟨t, rfl⟩
        | [], hl => simp at hl; omega
        | _ :: _ :: _, hl => simp at hl; omega
      exact ⟨by simp, fun a na => fin2 t.v (.int 0) trivial h a na⟩
    · obtain ⟨t, u, rfl⟩ : ∃ t u, ts = [t, u] := by
        match ts, hl with
        | [t, u], _ => exact ⟨t, u, rfl⟩
        | [], hl => simp at hl; omega
        | [_], hl => simp at hl; omega
        | _ :: _ :: _ :: _, hl => simp at hl; omega
      clear T
      cases u with
      | sc v =>
        have gv : v.good := by
          have := s1.okx
          simp only [Ts.ok, T.ok] at this
          exact this.2.1
        exact ⟨by simp, fun a na => fin2 t.v v gv h a na⟩
      | _ => exact h.elim
theorem s_raise1 {C f : String} {fI : Addr} {fd : FuncData} {k : Nat} {m1 : Cm D} {e : Expr} (hc : X.calm = true) (tk : Takes X W) (I : XIni X.prog X.w X.K X.mg X.base g.c C f fI fd) (hr : Room k X.A) (hk : 2 ≤ k) (hx : x = Str.ofString C) (hg : Gl X x) (ha : PA X [e] (tA g W [m1])) (hC : C ≠ "dict" := by decide)
    (hdb : (x == ("__debug__" : Str)) = false := by decide) (he : starEach (e :: []) X.env = (false, eval e X.env) :: starEach [] X.env := by rfl) (hpl : (backTo pos (starEach [] X.env)).any (·.1) = false := by rfl) :
    PS X (.Raise (some (.Call (.Name x p) [e] [] pos)) none pos2) (tS g W (mRaiseF C f [m1])) := by
  obtain ⟨ds, hv, hb⟩ := I.b1
  exact (ps_raise hc tk (pmk_oex I.T I.iC I.tI I.F (hr.mono hk) hb hv passF hg (by rw [hx]; exact I.g) ha hdb he hpl)).imp (raiseF_imp (fI := fI) I.T I.no hC (.inl ⟨rfl, rfl⟩))
theorem s_raise2 {C f : String} {fI : Addr} {fd : FuncData} {k : Nat} {m1 m2 : Cm D} {e e2 : Expr} (hc : X.calm = true) (tk : Takes X W) (I : XIni X.prog X.w X.K X.mg X.base g.c C f fI fd) (hr : Room k X.A) (hk : 2 ≤ k) (hx : x = Str.ofString C) (hg : Gl X x) (ha : PA X [e, e2] (tA g W [m1, m2])) (hC : C ≠ "dict" := by decide)
    (hdb : (x == ("__debug__" : Str)) = false := by decide) (he : starEach (e :: [e2]) X.env = (false, eval e X.env) :: starEach [e2] X.env := by rfl) (hpl : (backTo pos (starEach [e2] X.env)).any (·.1) = false := by rfl) :
    PS X (.Raise (some (.Call (.Name x p) [e, e2] [] pos)) none pos2) (tS g W (mRaiseF C f [m1, m2])) :=
  (ps_raise hc tk (pmk_oex I.T I.iC I.tI I.F (hr.mono hk) I.b2 .nil passF hg (by rw [hx]; exact I.g) ha hdb he hpl)).imp (raiseF_imp (fI := fI) I.T I.no hC (.inr ⟨rfl, rfl⟩))
end

/-! ### try -/
structure XIs (g : Gh) (cls : Value) (d : Option Addr) (x : Ex) : Prop where
  is : cls = .ref (g.c.cls x.cls)
  dn : d = none → x.ns = []
  good : ∀ s ∈ x.xs, s.good
theorem _root_.L2.PSs.ex {α : Type} {X : Cx} {sts : List Stmt} {P : α → Prop} {t : α → TS} (h : ∀ x, P x → PSs X sts (t x)) : PSs X sts (fun De σ H => ∃ x, P x ∧ t x De σ H) := ⟨fun pins s σ H De I q => by
  obtain ⟨x, hx, q⟩ := q
  exact (h x hx).run pins s σ H De I q⟩
section
variable {X : Cx} {g : Gh} {W : WX} {pos pos' np : Pos} {x n : Str} {body suite : List Stmt} {b₀ : Stmt} {i : Nat} {Dn : String} {mb : Cm Out} {ms : Ex → Cm Out} {exm : String → String → Option Bool}
theorem s_tryAs (hs : X.stack = X.env :: X.outer) (hf : X.env.frame = some X.env.locals) (hN : X.N.Nodup) (hi : X.N[i]? = some n) (hln : X.env.kindOf n = some .local) (hgl : Gl X x) (hdb : (x == ("__debug__" : Str)) = false) (gD : X.mg x = some (.ref (g.c.cls Dn)))
    (hx : ∀ C b, exm C Dn = some b → PySem.W.exmOne X.K (.ref (g.c.cls C)) (.ref (g.c.cls Dn)) = some b) (tk : Takes X W) (hi' : i < g.N) (hio : ∀ p ∈ g.io, p.1 ≠ i)
    (hb : ∀ (W' : WX) (pn : List (Addr × Obj)) (xe : Value → Shared → Prop), Takes (X.tr pn xe) W' → PassesOwn (model X.prog X.w) X.A X.env xe → PSs (X.tr pn xe) body (tS g W' mb))
    (hsu : ∀ (a : Addr) (oe : Obj) (cls : Value) (d : Option Addr) (pn : List (Addr × Obj)), Zc cls d oe → (∃ vs, oe.data = .fields vs) → ∀ y : Ex, XIs g cls d y ∧ exm y.cls Dn = some true → PSs (X.suite a ((a, oe) :: pn)) (b₀ :: suite) (tS (g.sx i a d y) (fun _ _ _ _ => False) (ms y))) :
    PS X (.Try body [.ExceptHandler (some (.Name x np)) (some n) (b₀ :: suite) pos'] [] [] pos) (tS g W (mTryAs exm i Dn mb ms)) := by
  refine (ps_try_as (c := .ref (g.c.cls Dn)) (ts := fun a cls d De σ H => ∃ y, (XIs g cls d y ∧ exm y.cls Dn = some true) ∧ tS (g.sx i a d y) (fun _ _ _ _ => False) (ms y) De σ H) (tb := fun W' => tS g W' mb) hs hf hN hi hln ⟨hgl, hdb, .inl gD⟩ tk hb
    (fun a oe cls d pn hz hv => PSs.ex (hsu a oe cls d pn hz hv))).imp fun De σ H ⟨sl, tm, s, h⟩ => ⟨sl, tm, s, ?_⟩
  unfold mTryAs at h
  cases e : mb (den sl) with
  | ok o ρ => rw [e] at h; exact h
  | stuck => rw [e] at h; exact h
  | exc y ρ =>
    rw [e] at h
    simp only [] at h
    by_cases hdi : y.cls = "dict"
    · rw [if_pos hdi] at h; exact h.elim
    rw [if_neg hdi] at h
    intro H1 σ1 sl1 a0 dx s1 e1
    subst e1
    cases eb : exm y.cls Dn with
    | none => rw [eb] at h; exact h.elim
    | some b =>
      rw [eb] at h
      refine ⟨b, hx _ _ eb, fun hb1 a na => ?_, fun hb1 => ?_⟩
      · subst hb1
        simp only [] at h
        have k := s1.top
        simp only [T.ok] at k
        refine ⟨y, ⟨⟨rfl, fun hd => ?_, k.1⟩, eb⟩, sl1.set i none, tm, s1.into hi' hio hdi, ?_⟩
        · subst hd; exact k.2.1
        · rw [den_set]
          show Lands (g.sx i a dx y) _ tm (ms y ((den sl1).set i none)) _
          cases e2 : ms y ((den sl1).set i none) with
          | exc _ _ => rw [e2] at h; exact h.elim
          | stuck => rw [e2] at h; exact h.elim
          | ok o ρ =>
            rw [e2] at h
            cases o with
            | nx => exact fun H' σ' sl' s' e' => h H' _ (sl'.set i none) (s'.outof.unslot hio none) (by rw [den_set, e']; rfl)
            | brk => exact fun H' σ' sl' s' e' => h H' _ (sl'.set i none) (s'.outof.unslot hio none) (by rw [den_set, e']; rfl)
            | ct => exact fun H' σ' sl' s' e' => h H' _ (sl'.set i none) (s'.outof.unslot hio none) (by rw [den_set, e']; rfl)
            | ret d => exact fun H' σ' sl' t s' e' ed => h H' _ (sl'.set i none) t (s'.outof.unslot hio none) (by rw [den_set, e']; rfl) ed
      · subst hb1
        exact h H1 σ1 sl1 a0 dx s1 rfl
theorem s_try {ms : Cm Out} (hs : X.stack = X.env :: X.outer) (hf : X.env.frame = some X.env.locals) (hgl : Gl X x) (hdb : (x == ("__debug__" : Str)) = false) (gD : X.mg x = some (.ref (g.c.cls Dn)))
    (hx : ∀ C b, exm C Dn = some b → PySem.W.exmOne X.K (.ref (g.c.cls C)) (.ref (g.c.cls Dn)) = some b) (tk : Takes X W)
    (hb : ∀ (W' : WX) (pn : List (Addr × Obj)) (xe : Value → Shared → Prop), Takes (X.tr pn xe) W' → PassesOwn (model X.prog X.w) X.A X.env xe → PSs (X.tr pn xe) body (tS g W' mb))
    (hsu : ∀ (a : Addr) (oe : Obj) (cls : Value) (d : Option Addr) (pn : List (Addr × Obj)), Zc cls d oe → (∃ vs, oe.data = .fields vs) → PSs (X.suite a ((a, oe) :: pn)) (b₀ :: suite) (tS g (fun _ _ _ _ => False) ms)) :
    PS X (.Try body [.ExceptHandler (some (.Name x np)) none (b₀ :: suite) pos'] [] [] pos) (tS g W (mTry exm Dn mb ms)) := by
  refine (ps_try_only (c := .ref (g.c.cls Dn)) (ts := fun a cls d => tS g (fun _ _ _ _ => False) ms) (tb := fun W' => tS g W' mb) hs hf ⟨hgl, hdb, .inl gD⟩ tk hb hsu).imp fun De σ H ⟨sl, tm, s, h⟩ => ⟨sl, tm, s, ?_⟩
  unfold mTry at h
  cases e : mb (den sl) with
  | ok o ρ => rw [e] at h; exact h
  | stuck => rw [e] at h; exact h
  | exc y ρ =>
    rw [e] at h
    simp only [] at h
    intro H1 σ1 sl1 a0 dx s1 e1
    subst e1
    cases eb : exm y.cls Dn with
    | none => rw [eb] at h; exact h.elim
    | some b =>
      rw [eb] at h
      refine ⟨b, hx _ _ eb, fun hb1 a na => ?_, fun hb1 => ?_⟩
      · subst hb1
        simp only [] at h
        refine ⟨sl1, tm, s1.pop, ?_⟩
        cases e2 : ms (den sl1) with
        | exc _ _ => rw [e2] at h; exact h.elim
        | stuck => rw [e2] at h; exact h.elim
        | ok o ρ => rw [e2] at h; exact h
      · subst hb1
        exact h H1 σ1 sl1 a0 dx s1 rfl
end
section
/-! the exception that a suite holds: its field, its class -/
variable {X : Cx} {g : Gh} {W : WX} {p p1 p2 pos : Pos} {n y : Str} {i : Nat} {a : Addr} {oe : Obj} {cls : Value} {d : Option Addr} {pn : List (Addr × Obj)} {x : Ex}
theorem e_xf {f : String} (hz : Zc cls d oe) (hf : ∃ vs, oe.data = .fields vs) (hx : XIs g cls d x) (T : XfC X.K (g.c.cls x.cls)) (hno : PySem.W.findIn X.K (.ref (g.c.cls x.cls)) n = some none) (hn : n = Str.ofString f)
    (hp : PE (X.suite a ((a, oe) :: pn)) (.Name y p) (tVar i)) (hb : attributeBase (.Name y p) n (X.suite a ((a, oe) :: pn)).env (eval (.Name y p) (X.suite a ((a, oe) :: pn)).env) = eval (.Name y p) (X.suite a ((a, oe) :: pn)).env := by rfl) :
    PE (X.suite a ((a, oe) :: pn)) (.Attribute (.Name y p) n pos) (tE (g.sx i a d x) W (mXf x f)) := by
  subst hn
  refine (pe_xf (X := X) (cls := cls) (d := d) (C := g.c.cls x.cls) T hno hz hf hp hb).imp fun σ H Q ⟨sl, tm, s, h⟩ => ?_
  unfold mXf at h
  cases ev : xfV x.ns x.xs f with
  | none => rw [ev] at h; exact h.elim
  | some v =>
    rw [ev] at h
    obtain ⟨en, es⟩ := xfV_eq ev
    cases d with
    | none =>
      have := hx.dn rfl
      rw [en] at this
      cases this
    | some dd =>
      have hpx := (s.px (dd, HO.xd (fieldsV x.ns (x.xs.map Sc.v))) (by simp [Gh.sx])).1
      refine ⟨.ref a, s.io (i, .ref a) (by simp [Gh.sx]), rfl, hx.is, dd, _, v.v, rfl, hpx, ?_, ?_⟩
      · rw [en, es]
        simp [fieldsV, List.lookup]
      · exact h H sl (.sc v) (s.push v (hx.good v (by rw [es]; simp))) rfl rfl
def rIsX (K : PySem.W.Frag) (C a : Addr) (d : Option Addr) : List V → Hp → VK → Prop := fun xs H Q => ∃ (c : V) (cv : Value) (b : Bool), xs = [.ref a, c] ∧ (∀ u, RelV c u → u = cv) ∧ PySem.W.kitOne K (.ref C) cv = some b ∧ (match d with
  | none => True
  | some dd => ∃ fs, H dd = some (.xd fs)) ∧ Q (.bl b) H
theorem call_isX {C : Addr} (T : CB X.K C) (hz : Zc (.ref C) d oe) (hf : ∃ vs, oe.data = .fields vs) : CallR (X.suite a ((a, oe) :: pn)) (.builtin "isinstance") (rIsX X.K C a d) := by
  intro pins s σ H xs us Q I r h
  obtain ⟨c, cv, b, rfl, hcv, e, hd, q⟩ := h
  cases r with
  | cons rx rr =>
    cases rr with
    | cons rt rr =>
      cases rr
      cases rx
      have ec := hcv _ rt
      subst ec
      obtain ⟨hget, _⟩ := I.pin (a, oe) (List.mem_append.mpr (.inl List.mem_cons_self))
      obtain ⟨vs, hv⟩ := hf
      have J : ∃ od, PySem.W.InstAt s.heap a oe C od := by
        cases d with
        | none => exact ⟨none, hget, hz.1, by unfold PySem.W.notCls; rw [hv] <;> rfl, by rw [hz.2]; trivial⟩
        | some dd =>
          obtain ⟨fs, hd⟩ := hd
          have hx : ObjOk X.prog X.w H s.heap dd (.xd fs) := I.hok dd _ hd
          obtain ⟨mA, hns, hr⟩ := hx
          obtain ⟨od, ho, hl⟩ := lookIn_ns hns
          exact ⟨some od, hget, hz.1, by unfold PySem.W.notCls; rw [hv] <;> rfl, by rw [hz.2]; exact ho⟩
      obtain ⟨od, J⟩ := J
      exact PySem.W.kia_one (PySem.W.kitx_exc T.cl T.xf.ga T.xf.gg T.xf.exC T.ca T.sp T.tk T.mr) I.kIn J e (fun z => nomatch z) fun tk => ⟨.bl b, H, I.kept (t' := tk) fun _ _ z => z, rfl, q⟩
theorem isx_imp {b : Bool} {c : V} {cv : Value} (hx : XIs g cls d x) (hcv : ∀ u, RelV c u → u = cv) (hk : PySem.W.kitOne X.K (.ref (g.c.cls x.cls)) cv = some b) {m : Cm D} (hm : m = mC (.bl b)) (σ : L2.St) (H : Hp) (Q : VK) (h : tE (g.sx i a d x) W m σ H Q) :
    tCons (tVar i) (tCons (tC c) tNil) σ H fun vs H1 => rIsX X.K (g.c.cls x.cls) a d vs H1 Q := by
  obtain ⟨sl, tm, s, h⟩ := h
  subst hm
  refine ⟨.ref a, s.io (i, .ref a) (by simp [Gh.sx]), c, cv, b, rfl, hcv, hk, ?_, h H sl (.sc (.bl b)) (s.push _ trivial) rfl rfl⟩
  cases d with
  | none => trivial
  | some dd => exact ⟨_, (s.px (dd, HO.xd (fieldsV x.ns (x.xs.map Sc.v))) (by simp [Gh.sx])).1⟩
end
end VS

/-! VS, part u: split, partition, index, pop, clear, isinstance of a caught exception. -/
namespace VS
open PySem PySem.Spec PyProof.Rows L2
/-! ### a text cut at a sign -/
def splitC (c : Nat) : List Nat → List (List Nat)
  | [] => [[]]
  | x :: r => if x = c then [] :: splitC c r else match splitC c r with
    | [] => [[x]]
    | w :: ws => (x :: w) :: ws
theorem splitC_ne (c : Nat) (l : List Nat) : splitC c l ≠ [] := by
  cases l with
  | nil => simp [splitC]
  | cons x r =>
    unfold splitC
    split
    · simp
    · split <;> simp
theorem splitC_free (c : Nat) : ∀ l : List Nat, ∀ w ∈ splitC c l, c ∉ w
  | [], w, h => by simp [splitC] at h; subst h; simp
  | x :: r, w, h => by
    have ih := splitC_free c r
    unfold splitC at h
    split at h
    · rcases List.mem_cons.mp h with rfl | h
      · simp
      · exact ih w h
    · rename_i hx
      split at h
      · simp at h; subst h; simpa using fun e => hx e.symm
      · rename_i w0 ws e
        rw [e] at ih
        rcases List.mem_cons.mp h with rfl | h
        · simp only [List.mem_cons, not_or]
          exact ⟨fun e => hx e.symm, ih w0 (by simp)⟩
        · exact ih w (by simp [h])
theorem splitC_append (c : Nat) (w : List Nat) (hw : c ∉ w) : splitC c w = [w] := by
  induction w with
  | nil => rfl
  | cons x r ih =>
    simp only [List.mem_cons, not_or] at hw
    unfold splitC
    rw [if_neg (fun e => hw.1 e.symm), ih hw.2]
theorem splitC_cons (c : Nat) (w r : List Nat) (hw : c ∉ w) : splitC c (w ++ c :: r) = w :: splitC c r := by
  induction w with
  | nil => simp [splitC]
  | cons x u ih =>
    simp only [List.mem_cons, not_or] at hw
    rw [List.cons_append, splitC, if_neg (fun e => hw.1 e.symm), ih hw.2]
/-- cut again, what was put together comes back -/
theorem splitC_join (c : Nat) : ∀ ws : List (List Nat), ws ≠ [] → (∀ w ∈ ws, c ∉ w) → splitC c (joinL [c] ws) = ws
  | [], h, _ => absurd rfl h
  | [w], _, h => by
    show splitC c (w ++ []) = _
    rw [List.append_nil]
    exact splitC_append c w (h w (by simp))
  | w :: v :: r, _, h => by
    have ih := splitC_join c (v :: r) (by simp) (fun u hu => h u (by simp [hu]))
    have e : joinL [c] (w :: v :: r) = w ++ c :: joinL [c] (v :: r) := by simp [joinL, glL]
    rw [e, splitC_cons c w _ (h w (by simp)), ih]
theorem join_splitC (c : Nat) : ∀ l : List Nat, joinL [c] (splitC c l) = l
  | [] => rfl
  | x :: r => by
    have ih := join_splitC c r
    have ne := splitC_ne c r
    unfold splitC
    split
    · rename_i e
      cases hs : splitC c r with
      | nil => exact absurd hs ne
      | cons w ws =>
        rw [hs] at ih
        rw [← ih, e]
        simp [joinL, glL]
    · split
      · rename_i e; exact absurd e ne
      · rename_i w ws e
        rw [e] at ih
        rw [← ih]
        simp [joinL]
theorem split_eq (l : List Nat) (c : Nat) : Txt.split ⟨l.toArray⟩ ⟨#[c]⟩ = (splitC c l).map fun z => (⟨z.toArray⟩ : Str) := by
  have h1 := PySem.StrLaws.join_split ⟨l.toArray⟩ ⟨#[c]⟩
  have h2 := PySem.StrLaws.split_free ⟨l.toArray⟩ c
  generalize hS : Txt.split ⟨l.toArray⟩ ⟨#[c]⟩ = S at *
  have hne : S ≠ [] := by
    intro e
    have := PyProof.Rows.split_pos ⟨l.toArray⟩ ⟨#[c]⟩
    rw [hS, e] at this
    exact absurd this (by simp)
  obtain ⟨ws, rfl⟩ : ∃ ws : List (List Nat), S = ws.map fun z => (⟨z.toArray⟩ : Str) := ⟨S.map fun z => z.cps.toList, by
    rw [List.map_map]
    conv => lhs; rw [← List.map_id S]
    apply List.map_congr_left
    intro z _
    cases z; simp⟩
  have hj : joinL [c] ws = l := by
    have e := join_eq [c] ws
    have e2 : Txt.join ⟨[c].toArray⟩ (ws.map fun z => (⟨z.toArray⟩ : Str)) = Str.join ⟨#[c]⟩ (ws.map fun z => (⟨z.toArray⟩ : Str)) := PySem.StrLaws.glued_eq_join _ _
    rw [e2, h1] at e
    have := congrArg (fun z : Str => z.cps.toList) e
    simpa using this.symm
  have := splitC_join c ws (by simpa using hne) (fun w hw => by
    have := h2 ⟨w.toArray⟩ (List.mem_map.mpr ⟨w, hw, rfl⟩)
    simpa using this)
  rw [hj] at this
  rw [this]
theorem splitC_sub (c : Nat) (l : List Nat) : ∀ w ∈ splitC c l, w.length ≤ l.length ∧ ∀ x ∈ w, x ∈ l := by
  induction l with
  | nil => intro w h; simp [splitC] at h; subst h; simp
  | cons x r ih =>
    intro w h
    unfold splitC at h
    split at h
    · rcases List.mem_cons.mp h with rfl | h
      · simp
      · obtain ⟨h1, h2⟩ := ih w h
        exact ⟨by simp; omega, fun y hy => by simp [h2 y hy]⟩
    · split at h
      · simp at h; subst h; simp
      · rename_i w0 ws e
        rw [e] at ih
        rcases List.mem_cons.mp h with rfl | h
        · obtain ⟨h1, h2⟩ := ih w0 (by simp)
          refine ⟨by simp; omega, fun y hy => ?_⟩
          rcases List.mem_cons.mp hy with rfl | hy
          · simp
          · simp [h2 y hy]
        · obtain ⟨h1, h2⟩ := ih w (by simp [h])
          exact ⟨by simp; omega, fun y hy => by simp [h2 y hy]⟩
theorem splitC_len (c : Nat) (l : List Nat) : (splitC c l).length ≤ l.length + 1 := by
  induction l with
  | nil => simp [splitC]
  | cons x r ih =>
    unfold splitC
    split
    · simp; omega
    · split
      · simp
      · rename_i w ws e; rw [e] at ih; simp at ih ⊢; omega
/-! ### a method of a text with one argument whose answer is made -/
def splitD : D → D → Option D
  | .sc (.str a), .sc (.str [c]) => if a.length + 2 ≤ 16777216 then some (.lst .own ((splitC c a).map D.str)) else none
  | _, _ => none
def mMN (f : D → D → Option D) (x y : Opd) : Cm D := fun ρ => (x.run ρ).bind fun t ρ => match x.get t ρ with
  | some (.sc (.str _)) => (y.run ρ).bind fun u ρ => match x.get t ρ, y.get u ρ with
    | some v, some w => lift (f v w) ρ
    | _, _ => .stuck
  | _ => .stuck
section
variable {X : Cx} {g : Gh} {W : WX} {pos p : Pos} {a b : Expr} {oa ob : Opd} {α : Type}
def HMN (g : Gh) (f : D → D → Option D) (r : V → List V → Hp → VK → Prop) : Prop := ∀ H (u1 u2 : T) d Q, u1.ok g.c H → u2.ok g.c H → f u1.d u2.d = some d →
  (∀ (σ : L2.St) (sl : List (Option T)) (tm : List T), SR g H σ sl tm → ∀ k : D → DE → Prop, (∀ H' t, SR g H' σ sl (t :: tm) → t.d = d → Q t.v H') → r u1.v [u2.v] H Q)
theorem mN_imp {f : D → D → Option D} {r : V → List V → Hp → VK → Prop} (hr : HMN g f r) : ∀ σ H Q, tE g W (mMN f oa ob) σ H Q → tM1 r (tO g W oa) (tO g W ob) σ H Q := fun σ H Q ⟨sl, tm, s, h⟩ => by
  refine tO.of s h fun H1 sl1 t1 v1 s1 d1 h1 => ?_
  split at h1
  · rename_i z ex
    have hm1 : ∀ u, t1 = some u → u ∈ xs? t1 tm := fun u e => by subst e; simp [xs?]
    obtain ⟨w, kw, ew, fw, _⟩ := d1.tree s1 hm1 ex
    have hv : ∃ a, v1 = .str a := by
      cases w with
      | sc y => cases y <;> simp [T.d] at ew; exact ⟨_, fw.symm⟩
      | _ => simp [T.d] at ew
    refine ⟨hv, tO.of s1 (Lands.drops h1) fun H2 sl2 t2 v2 s2 d2 h2 => ?_⟩
    split at h2
    · rename_i x y ex ey
      have hm1 : ∀ u, t1 = some u → u ∈ xs? t2 (xs? t1 tm) := fun u e => by subst e; cases t2 <;> simp [xs?]
      have hm2 : ∀ u, t2 = some u → u ∈ xs? t2 (xs? t1 tm) := fun u e => by subst e; simp [xs?]
      have d1' : Held g H2 oa σ sl2 t1 v1 := ⟨d1.is⟩
      obtain ⟨u1, k1, e1, f1, _⟩ := d1'.tree s2 hm1 ex
      obtain ⟨u2, k2, e2, f2, _⟩ := d2.tree s2 hm2 ey
      subst f1 f2 e1 e2
      cases q : f u1.d u2.d with
      | none => rw [q] at h2; exact h2.elim
      | some d =>
        rw [q] at h2
        exact hr H2 u1 u2 d Q k1 k2 q σ sl2 tm s2.xs.xs (fun _ _ => True) fun H' t s' e => h2 H' sl2 t s' rfl e
    · exact h2.elim
  · exact h1.elim
theorem e_mN {id : String} {name : Str} {apos : Pos} {fm : D → D → Option D} {r : V → List V → Hp → VK → Prop} (slot : Slot "str" name id) (ty : typeOf (.builtin id) = pure (.type "method_descriptor")) (rule : MtR X id r) (hr : HMN g fm r) (ho : PE X a (tO g W oa)) (he : PE X b (tO g W ob))
    (hs : starEach [b] X.env = [(false, eval b X.env)] := by rfl) (hbase : attributeBase a name X.env (eval a X.env) = eval a X.env := by rfl) (hline : (apos.endLine == pos.line) = true := by rfl) :
    PE X (.Call (.Attribute a name apos) [b] [] pos) (tE g W (mMN fm oa ob)) := (pe_m1 slot ty rule ho he hs hbase hline).imp (mN_imp hr)
theorem strs_new {g : Gh} {H : Hp} {σ : L2.St} {sl : List (Option T)} {tm : List T} {p : Addr} (s : SR g H σ sl tm) (hp : H p = none) (l : List (List Nat)) (hz : l.length ≤ 16777216) (hg : ∀ z ∈ l, (Sc.str z).good) :
    SR g (upd H p (.lst ((l.map fun z => (⟨z.toArray⟩ : Str)).map V.str))) σ sl (T.lst p .own (l.map fun z => T.sc (.str z)) :: tm) := by
  have z : ∀ a (l : List (List Nat)), Ts.oc a (l.map fun z => T.sc (.str z)) = 0 ∧ Ts.sh a (l.map fun z => T.sc (.str z)) = 0 := fun a l => by
    induction l with
    | nil => simp [Ts.oc, Ts.sh]
    | cons w l ih => simp [Ts.oc, Ts.sh, T.oc, T.sh, ih]
  have k := s.newL (xs := []) (tm := tm) (ts := l.map fun z => T.sc (.str z)) hp (by simpa using hz) (by
    rw [Ts.ok_iff]; intro t m
    obtain ⟨w, hw, rfl⟩ := List.mem_map.mp m
    exact hg w hw) (fun a => by rw [(z a l).1, (z a l).2]; simp)
  have e : (l.map fun z => T.sc (.str z)).map T.v = (l.map fun z => (⟨z.toArray⟩ : Str)).map V.str := by
    rw [List.map_map, List.map_map]; rfl
  rw [e] at k
  exact k
theorem hs_split : HMN g splitD (fun x xs H Q => ∃ a b, x = .str a ∧ xs = [.str b] ∧ (b.length == 0) = false ∧ a.length + 2 ≤ sizeLine ∧ rNewStrs (Txt.split a b) H Q) := fun H u1 u2 d Q k1 k2 h σ sl tm s _ q => by
  unfold splitD at h
  split at h
  · rename_i x y a c e1 e2
    split at h
    · rename_i hz
      cases h
      cases u1 with
      | sc z1 =>
        cases u2 with
        | sc z2 =>
          simp only [T.d, D.sc.injEq] at e1 e2
          subst e1 e2
          simp only [T.ok] at k1
          refine ⟨⟨a.toArray⟩, ⟨#[c]⟩, rfl, rfl, rfl, by rw [SZ_eq]; simpa [Str.length] using hz, fun p hp => ?_⟩
          rw [split_eq]
          refine q _ _ (strs_new s hp (splitC c a) (by have := splitC_len c a; omega) fun w hw => ?_) ?_
          · obtain ⟨h1, h2⟩ := splitC_sub c a w hw
            exact ⟨by have := k1.1; omega, fun x hx => k1.2 x (h2 x hx)⟩
          · simp [T.d, Ts.d_map]
        | _ => simp [T.d] at e2
      | _ => simp [T.d] at e1
    · cases h
  · cases h
/-! ### partition at a sign -/
def partC (c : Nat) (l : List Nat) : List Nat × List Nat × List Nat := if c ∈ l then (l.takeWhile (· != c), [c], (l.dropWhile (· != c)).drop 1) else (l, [], [])
def partD : D → D → Option D
  | .sc (.str a), .sc (.str [c]) => some (.tup [.str (partC c a).1, .str (partC c a).2.1, .str (partC c a).2.2])
  | _, _ => none
/-! ### where a sign stands -/
def idxC (c : Nat) (l : List Nat) : Nat := (l.takeWhile (· != c)).length
theorem tw_get (c : Nat) : ∀ (l : List Nat), c ∈ l → l[idxC c l]? = some c ∧ ∀ j, j < idxC c l → l[j]? ≠ some c
  | [], h => by simp at h
  | x :: r, h => by
    unfold idxC
    by_cases e : x = c
    · subst e; simp
    · have ih := tw_get c r (by simpa [Ne.symm e] using h)
      have : (x != c) = true := by simpa using e
      rw [List.takeWhile_cons, if_pos this]
      refine ⟨by simpa [idxC] using ih.1, fun j hj => ?_⟩
      cases j with
      | zero => simpa using e
      | succ j => simp at hj ⊢; exact ih.2 j hj
theorem occ1 (c : Nat) (l : List Nat) (h : c ∈ l) : ∃ r, Builtin.Str.occurrences ⟨l.toArray⟩ ⟨#[c]⟩ 0 (⟨l.toArray⟩ : Str).length 1 = idxC c l :: r := by
  obtain ⟨g1, g2⟩ := tw_get c l h
  have key : ∀ i, PySem.StrLaws.At (⟨l.toArray⟩ : Str) ⟨#[c]⟩ (⟨l.toArray⟩ : Str).length i ↔ l[i]? = some c := fun i => PySem.StrLaws.subAt_one ⟨l.toArray⟩ c i
  rcases PySem.StrLaws.occ_head ⟨l.toArray⟩ ⟨#[c]⟩ 1 (by omega) with ⟨_, hn⟩ | ⟨i, r, e, ha, hn⟩
  · exact absurd ((key _).mpr g1) (hn _)
  · refine ⟨r, ?_⟩
    rw [e]
    congr 1
    rcases Nat.lt_trichotomy i (idxC c l) with q | q | q
    · exact absurd ((key i).mp ha) (g2 i q)
    · exact q
    · exact absurd ((key _).mpr g1) (hn _ q)
theorem occ0 (c : Nat) (l : List Nat) (h : c ∉ l) : Builtin.Str.occurrences ⟨l.toArray⟩ ⟨#[c]⟩ 0 (⟨l.toArray⟩ : Str).length 1 = [] := by
  have key : ∀ i, PySem.StrLaws.At (⟨l.toArray⟩ : Str) ⟨#[c]⟩ (⟨l.toArray⟩ : Str).length i ↔ l[i]? = some c := fun i => PySem.StrLaws.subAt_one ⟨l.toArray⟩ c i
  rcases PySem.StrLaws.occ_head ⟨l.toArray⟩ ⟨#[c]⟩ 1 (by omega) with ⟨e, _⟩ | ⟨i, r, e, ha, hn⟩
  · exact e
  · exact absurd (List.mem_of_getElem? ((key i).mp ha)) h
def sindexM : D → D → Option Sc
  | .sc (.str a), .sc (.str [c]) => if c ∈ a then some (.int (idxC c a)) else none
  | _, _ => none
theorem hs_sindex : HM1 g sindexM (fun x xs H Q => ∃ a b i rest, x = .str a ∧ xs = [.str b] ∧ Builtin.Str.occurrences a b 0 a.length 1 = i :: rest ∧ Q (.int (i : Nat)) H) := fun H u1 u2 d Q k1 k2 h q => by
  unfold sindexM at h
  split at h
  · rename_i x y a c e1 e2
    split at h
    · rename_i hz
      cases h
      cases u1 with
      | sc z1 =>
        cases u2 with
        | sc z2 =>
          simp only [T.d, D.sc.injEq] at e1 e2
          subst e1 e2
          obtain ⟨r, e⟩ := occ1 c a hz
          exact ⟨⟨a.toArray⟩, ⟨#[c]⟩, _, r, rfl, rfl, e, q trivial⟩
        | _ => simp [T.d] at e2
      | _ => simp [T.d] at e1
    · cases h
  · cases h
theorem tw_take (c : Nat) (l : List Nat) : l.take (idxC c l) = l.takeWhile (· != c) := by
  unfold idxC
  induction l with
  | nil => rfl
  | cons x r ih =>
    rw [List.takeWhile_cons]
    split
    · rw [List.length_cons, List.take_succ_cons, ih]
    · rfl
theorem tw_drop (c : Nat) (l : List Nat) : l.drop (idxC c l) = l.dropWhile (· != c) := by
  unfold idxC
  exact drop_tw _ l
theorem part_eq (c : Nat) (l : List Nat) : Txt.partition ⟨l.toArray⟩ ⟨#[c]⟩ = (⟨(partC c l).1.toArray⟩, ⟨(partC c l).2.1.toArray⟩, ⟨(partC c l).2.2.toArray⟩) := by
  unfold Txt.partition partC
  by_cases h : c ∈ l
  · obtain ⟨r, e⟩ := occ1 c l h
    rw [e, if_pos h]
    have hs : ∀ (i j : Nat), Builtin.Str.strSub (⟨l.toArray⟩ : Str) i j = ⟨((l.drop i).take (j - i)).toArray⟩ := fun i j => str_eq (PySem.StrLaws.strSub_toList _ _ _)
    simp only [hs]
    have hl : (⟨l.toArray⟩ : Str).length = l.length := by simp [Str.length]
    have h1 : (⟨#[c]⟩ : Str).length = 1 := rfl
    have e3 : (List.drop (idxC c l + (⟨#[c]⟩ : Str).length) l).take ((⟨l.toArray⟩ : Str).length - (idxC c l + (⟨#[c]⟩ : Str).length)) = (l.dropWhile (· != c)).drop 1 := by
      rw [h1, hl, ← List.drop_drop, tw_drop]
      apply List.take_of_length_le
      have : ((l.dropWhile (· != c)).drop 1).length = l.length - idxC c l - 1 := by rw [← tw_drop]; simp; omega
      omega
    have e1 : (List.drop 0 l).take (idxC c l - 0) = l.takeWhile (· != c) := by rw [List.drop_zero, Nat.sub_zero, tw_take]
    rw [e1, e3]
  · rw [occ0 c l h, if_neg h]; rfl
theorem part_mem (c : Nat) (l : List Nat) : ((partC c l).1.length ≤ l.length ∧ ∀ x ∈ (partC c l).1, x ∈ l) ∧ ((partC c l).2.1.length ≤ 1 ∧ ∀ x ∈ (partC c l).2.1, x ∈ l) ∧ ((partC c l).2.2.length ≤ l.length ∧ ∀ x ∈ (partC c l).2.2, x ∈ l) := by
  unfold partC
  split
  · rename_i h
    refine ⟨⟨?_, fun x hx => (List.takeWhile_sublist _).mem hx⟩, ⟨by simp, by simpa using h⟩, ?_, fun x hx => ?_⟩
    · exact (List.takeWhile_sublist _).length_le
    · exact Nat.le_trans (List.drop_sublist _ _).length_le (List.dropWhile_sublist _).length_le
    · exact (List.dropWhile_sublist _).mem ((List.drop_sublist _ _).mem hx)
  · simp
theorem hs_part : HMN g partD (fun x xs H Q => ∃ a b, x = .str a ∧ xs = [.str b] ∧ (b.length == 0) = false ∧ a.length ≤ sizeLine ∧ ∀ p, H p = none → Q (.ref p) (upd H p (.tup [.str (Txt.partition a b).1, .str (Txt.partition a b).2.1, .str (Txt.partition a b).2.2]))) := fun H u1 u2 d Q k1 k2 h σ sl tm s _ q => by
  unfold partD at h
  split at h
  · rename_i x y a c e1 e2
    cases h
    cases u1 with
    | sc z1 =>
      cases u2 with
      | sc z2 =>
        simp only [T.d, D.sc.injEq] at e1 e2
        subst e1 e2
        simp only [T.ok] at k1
        refine ⟨⟨a.toArray⟩, ⟨#[c]⟩, rfl, rfl, rfl, by rw [SZ_eq]; simpa [Str.length] using k1.1, fun p hp => ?_⟩
        rw [part_eq]
        obtain ⟨⟨m1, m2⟩, ⟨m3, m4⟩, m5, m6⟩ := part_mem c a
        have k := s.newT (xs := []) (tm := tm) (ts := [T.sc (.str (partC c a).1), T.sc (.str (partC c a).2.1), T.sc (.str (partC c a).2.2)]) hp (by simp) (by
          have := k1.1
          simp only [Ts.ok, T.ok, Sc.good]
          exact ⟨⟨by omega, fun x hx => k1.2 x (m2 x hx)⟩, ⟨by omega, fun x hx => k1.2 x (m4 x hx)⟩, ⟨by omega, fun x hx => k1.2 x (m6 x hx)⟩, trivial⟩) (fun a => by simp [Ts.oc, Ts.sh, T.oc, T.sh])
        exact q _ _ k (by simp [T.d, Ts.d])
      | _ => simp [T.d] at e2
    | _ => simp [T.d] at e1
  · cases h
/-! ### t.index(x), t a tuple of the text -/
def idxL (l : List Sc) (z : List Nat) : Option Nat := l.findIdx? (· == .str z)
def allStr : List Sc → Option (List (List Nat))
  | [] => some []
  | .str z :: r => (allStr r).map (z :: ·)
  | _ => none
def mTidx (l : List (List Nat)) (m : Cm D) : Cm D := fun ρ => (m ρ).bind fun d ρ => match d with
  | .sc (.str z) => match l.findIdx? (· == z) with
    | some j => .ok (.int j) ρ
    | none => .stuck
  | _ => .stuck
theorem e_tidx {x : Str} {l : List (List Nat)} {mb : Cm D} {apos : Pos} (hg : Gl X x) (hm : ∃ a, X.mg x = some (.ref a) ∧ StcT X.K a (l.map fun z => V.str ⟨z.toArray⟩) ∧ ∃ o, X.K.lookup a = some o ∧ o.cls = .type "tuple" ∧ o.dict = none) (hb : PE X b (tE g W mb)) (hd : (x == ("__debug__" : Str)) = false := by decide)
    (hbase : attributeBase (.Name x p) "index" X.env (eval (.Name x p) X.env) = eval (.Name x p) X.env := by rfl)
    (hfew : ((backTo pos (starEach [b] X.env)).all (fun x => !x.1) && (backToKw pos (keywordEach [] X.env)).all (fun x => x.1.isSome)
      && decide (([b] : List Expr).length + ([] : List Keyword).length + (if ([] : List Keyword).isEmpty then 0 else 1) < 30)) = true := by rfl)
    (hline : (apos.endLine == pos.line) = true := by rfl) (hs : starEach [b] X.env = (false, eval b X.env) :: starEach [] X.env := by rfl) (hplain : (backTo pos (starEach [] X.env)).any (·.1) = false := by rfl) :
    PE X (.Call (.Attribute (.Name x p) "index" apos) [b] [] pos) (tE g W (mTidx l mb)) := by
  obtain ⟨a, ha, hst, hty⟩ := hm
  refine (pe_bm PySem.F.plainAttrs_tuple PySem.F.slot_tuple_index PySem.F.type_tuple_index mt_tup_index (pe_glob (v := .ref a) hg ha rfl hd) (a_cons hb a_nil hs) hbase hfew hline hs hplain).imp fun σ H Q ⟨sl, tm, s, h⟩ => ?_
  refine ⟨.inr (.inl ⟨rfl, hty⟩), ?_⟩
  refine tA1 s h fun H1 sl1 t s1 h1 => ?_
  cases t with
  | sc z =>
    cases z with
    | str z =>
      simp only [T.d] at h1
      cases e : l.findIdx? (· == z) with
      | none => rw [e] at h1; exact h1.elim
      | some j =>
        rw [e] at h1
        obtain ⟨hj, hz, hno⟩ := List.findIdx?_eq_some_iff_getElem.mp e
        refine ⟨a, l.map fun z => (⟨z.toArray⟩ : Str), ⟨z.toArray⟩, j, rfl, rfl, ?_, ?_, fun m hm he => ?_, h1 H1 sl1 (.sc (.int j)) (s1.pop.push _ trivial) rfl rfl⟩
        · rw [List.map_map]
          rcases hst with hst | hst
          · rcases hst with h | ⟨o, h⟩ <;> cases h
          · exact .inr hst
        · rw [List.getElem?_map, List.getElem?_eq_getElem hj]
          simp only [beq_iff_eq] at hz
          rw [hz]; rfl
        · rw [List.getElem?_map, Option.map_eq_some_iff] at he
          obtain ⟨w, hw, he⟩ := he
          have hml : m < l.length := by omega
          rw [List.getElem?_eq_getElem hml] at hw
          have hwz : w = z := by
            have := congrArg (fun q : Str => q.cps.toList) he
            simpa using this
          have := hno m hm
          simp only [Option.some.inj hw, hwz] at this
          simp at this
    | _ => exact h1.elim
  | _ => exact h1.elim
/-! ### x.clear(), x.pop() of a list without parts -/
def mClr (i : Nat) : Cm D := fun ρ => match ρ[i]? with
  | some (some (.lst .own xs)) => if xs.all D.isSc then .ok .non (ρ.set i (some (.lst .own []))) else .stuck
  | _ => .stuck
theorem e_clr {y : Str} {apos : Pos} {i : Nat} (hK : X.K = g.c.K) (hp : PE X (.Call (.Attribute (.Name y p) "clear" apos) [] [] pos) (tBM0 X.K "list" rClear (tVar i))) : PE X (.Call (.Attribute (.Name y p) "clear" apos) [] [] pos) (tE g W (mClr i)) :=
  hp.imp fun σ H Q ⟨sl, tm, s, h⟩ => by
    unfold mClr at h
    split at h
    · rename_i xs e0
      split at h
      · obtain ⟨q, e3, hty⟩ := some_list hK s e0
        obtain ⟨p', ts, g1, rfl, g3, g4, g5⟩ := own_list s e0
        rw [e3] at g5
        cases g5
        refine ⟨_, e3, hty, _, _, rfl, rfl, g3, ?_⟩
        have s2 := SR.write (zs := []) (es := []) (tm := tm) s g1 (by simp) (by simp [Ts.ok]) (fun a => by simp [Ts.oc]) (fun a => by simp [Ts.sh])
        exact h _ _ (.sc .non) (s2.push _ trivial) (by rw [den_set]; simp [T.d, Ts.d]) rfl
      · exact h.elim
    · exact h.elim
def mPopS (i : Nat) : Cm D := fun ρ => match ρ[i]? with
  | some (some (.lst .own xs)) => match xs.getLast? with
    | some (.sc v) => .ok (.sc v) (ρ.set i (some (.lst .own xs.dropLast)))
    | _ => .stuck
  | _ => .stuck
theorem e_popS {y : Str} {apos : Pos} {i : Nat} (hK : X.K = g.c.K) (hp : PE X (.Call (.Attribute (.Name y p) "pop" apos) [] [] pos) (tBM0 X.K "list" rPop (tVar i))) : PE X (.Call (.Attribute (.Name y p) "pop" apos) [] [] pos) (tE g W (mPopS i)) :=
  hp.imp fun σ H Q ⟨sl, tm, s, h⟩ => by
    unfold mPopS at h
    split at h
    · rename_i xs e0
      split at h
      · rename_i v ev
        obtain ⟨q, e3, hty⟩ := some_list hK s e0
        obtain ⟨p', ts, g1, rfl, g3, g4, g5⟩ := own_list s e0
        rw [e3] at g5
        cases g5
        rw [Ts.d_map, List.getLast?_map, Option.map_eq_some_iff] at ev
        obtain ⟨t, ht, hv⟩ := ev
        have htv : t = .sc v := by
          cases t with
          | sc w => simpa [T.d] using hv
          | _ => simp [T.d] at hv
        subst htv
        have gv : v.good := by
          have := Ts.ok_iff.mp g4 _ (List.mem_of_getLast? ht)
          simpa [T.ok] using this
        refine ⟨_, e3, hty, _, _, v.v, rfl, rfl, g3, ?_, ?_⟩
        · rw [List.length_map, List.getElem?_map, ← List.getLast?_eq_getElem?, ht]; rfl
        have s2 := SR.write (zs := ts.dropLast) (es := []) (tm := tm) s g1 (by
            have hz : ts.length ≤ 16777216 := by have := s.okS _ (s.slot g1); simp only [T.ok] at this; exact this.2.1
            simp; omega) (by
            rw [Ts.ok_iff]; intro u m
            exact Ts.ok_iff.mp g4 u ((List.dropLast_sublist _).mem m)) (fun a => by
            have : ts = ts.dropLast ++ [T.sc v] := by
              obtain ⟨zs, hz⟩ := List.getLast?_eq_some_iff.mp ht
              rw [hz]; simp
            have h2 := congrArg (Ts.oc a) this
            rw [Ts.oc_append] at h2
            simp only [Ts.oc, T.oc] at h2 ⊢
            omega) (fun a => by
            have : ts = ts.dropLast ++ [T.sc v] := by
              obtain ⟨zs, hz⟩ := List.getLast?_eq_some_iff.mp ht
              rw [hz]; simp
            have h2 := congrArg (Ts.sh a) this
            rw [Ts.sh_append] at h2
            simp only [Ts.sh, T.sh] at h2 ⊢
            omega)
        rw [← List.map_dropLast]
        exact h _ _ (.sc v) (s2.push _ gv) (by rw [den_set]; simp [T.d, Ts.d_map]) rfl
      · exact h.elim
    · exact h.elim
end
/-! ### isinstance of the exception that a suite holds -/
section
variable {X : Cx} {g : Gh} {W : WX} {p p1 p2 pos : Pos} {y xD : Str} {i : Nat} {a : Addr} {oe : Obj} {cls : Value} {d : Option Addr} {pn : List (Addr × Obj)} {x : Ex} {exm : String → String → Option Bool} {Dn : String}
theorem e_isX (hz : Zc cls d oe) (hf : ∃ vs, oe.data = .fields vs) (hx : XIs g cls d x) (T : CB X.K (g.c.cls x.cls)) (hk : ∀ b, exm x.cls Dn = some b → PySem.W.kitOne X.K (.ref (g.c.cls x.cls)) (.ref (g.c.cls Dn)) = some b)
    (hm : X.mg "isinstance" = none) (hgD : Gl X xD) (gD : X.mg xD = some (.ref (g.c.cls Dn))) (hp : PE (X.suite a ((a, oe) :: pn)) (.Name y p1) (tVar i)) (hg : Gl X "isinstance" := by rfl) (hdD : (xD == ("__debug__" : Str)) = false := by decide)
    (hs1 : starEach [.Name y p1, .Name xD p2] (X.suite a ((a, oe) :: pn)).env = (false, eval (.Name y p1) (X.suite a ((a, oe) :: pn)).env) :: starEach [.Name xD p2] (X.suite a ((a, oe) :: pn)).env := by rfl) (hs2 : starEach [.Name xD p2] (X.suite a ((a, oe) :: pn)).env = (false, eval (.Name xD p2) (X.suite a ((a, oe) :: pn)).env) :: starEach [] (X.suite a ((a, oe) :: pn)).env := by rfl) (hpl : (backTo pos (starEach [.Name xD p2] (X.suite a ((a, oe) :: pn)).env)).any (·.1) = false := by rfl) :
    PE (X.suite a ((a, oe) :: pn)) (.Call (.Name "isinstance" p) [.Name y p1, .Name xD p2] [] pos) (tE (g.sx i a d x) W (mIsX exm x Dn)) := by
  have hb : PE (X.suite a ((a, oe) :: pn)) (.Name xD p2) (tC (.ref (g.c.cls Dn))) := pe_glob (X := X.suite a ((a, oe) :: pn)) hgD gD rfl hdD
  have hz2 : Zc (.ref (g.c.cls x.cls)) d oe := by rw [← hx.is]; exact hz
  refine (pe_callB (call_isX (X := X) T hz2 hf) hg hm (by decide +kernel) (pa_cons hp (pa_cons hb pa_nil hs2) hs1) (hpl := hpl) (he := hs1)).imp fun σ H Q h => ?_
  cases e : exm x.cls Dn with
  | none =>
    obtain ⟨sl, tm, s, h⟩ := h
    unfold mIsX at h
    rw [e] at h
    exact h.elim
  | some b => exact isx_imp (c := .ref (g.c.cls Dn)) (cv := .ref (g.c.cls Dn)) hx (fun u h => h) (hk b e) (by unfold mIsX; rw [e]) σ H Q h
theorem e_isV {all : List String} (hz : Zc cls d oe) (hf : ∃ vs, oe.data = .fields vs) (hx : XIs g cls d x) (T : CB X.K (g.c.cls x.cls)) (hm : X.mg "isinstance" = none) (hgD : Gl X "ValueError") (gD : X.mg "ValueError" = none) (hp : PE (X.suite a ((a, oe) :: pn)) (.Name y p1) (tVar i)) (hg : Gl X "isinstance" := by rfl)
    (hs1 : starEach [.Name y p1, .Name "ValueError" p2] (X.suite a ((a, oe) :: pn)).env = (false, eval (.Name y p1) (X.suite a ((a, oe) :: pn)).env) :: starEach [.Name "ValueError" p2] (X.suite a ((a, oe) :: pn)).env := by rfl) (hs2 : starEach [.Name "ValueError" p2] (X.suite a ((a, oe) :: pn)).env = (false, eval (.Name "ValueError" p2) (X.suite a ((a, oe) :: pn)).env) :: starEach [] (X.suite a ((a, oe) :: pn)).env := by rfl) (hpl : (backTo pos (starEach [.Name "ValueError" p2] (X.suite a ((a, oe) :: pn)).env)).any (·.1) = false := by rfl) :
    PE (X.suite a ((a, oe) :: pn)) (.Call (.Name "isinstance" p) [.Name y p1, .Name "ValueError" p2] [] pos) (tE (g.sx i a d x) W (mIsV all x)) := by
  have hb : PE (X.suite a ((a, oe) :: pn)) (.Name "ValueError" p2) (tC (.ty "ValueError")) := pe_bltn (X := X.suite a ((a, oe) :: pn)) hgD gD (by decide +kernel) rfl (by decide) (by decide)
  have hz2 : Zc (.ref (g.c.cls x.cls)) d oe := by rw [← hx.is]; exact hz
  refine (pe_callB (call_isX (X := X) T hz2 hf) hg hm (by decide +kernel) (pa_cons hp (pa_cons hb pa_nil hs2) hs1) (hpl := hpl) (he := hs1)).imp fun σ H Q h => ?_
  by_cases e : all.contains x.cls = true
  · exact isx_imp (c := .ty "ValueError") (cv := .type "ValueError") hx (fun u h => h) T.kv (by unfold mIsV; rw [if_pos e]) σ H Q h
  · obtain ⟨sl, tm, s, h⟩ := h
    unfold mIsV at h
    rw [if_neg e] at h
    exact h.elim
theorem exT_all {all ds : List String} {C Dn : String} {b : Bool} (h : exT all ds C Dn = some b) : C ∈ all ∧ Dn ∈ ds ∧ b = (C == Dn || Dn == "LetterError") := by
  unfold exT at h
  split at h
  · rename_i q
    simp only [Bool.and_eq_true, List.contains_iff_mem] at q
    cases h
    exact ⟨q.1, q.2, rfl⟩
  · cases h
theorem XT.exm' {K : PySem.W.Frag} {cl : String → Addr} {all ds : List String} {C Dn : String} {b : Bool} (T : XT K cl all ds) (h : exT all ds C Dn = some b) : PySem.W.exmOne K (.ref (cl C)) (.ref (cl Dn)) = some b := by
  obtain ⟨h1, h2, rfl⟩ := exT_all h
  exact T.exm C h1 Dn h2
theorem XT.kit' {K : PySem.W.Frag} {cl : String → Addr} {all ds : List String} {C Dn : String} {b : Bool} (T : XT K cl all ds) (h : exT all ds C Dn = some b) : PySem.W.kitOne K (.ref (cl C)) (.ref (cl Dn)) = some b := by
  obtain ⟨h1, h2, rfl⟩ := exT_all h
  exact T.kit C h1 Dn h2
end
end VS
namespace VS
open PySem PySem.Spec PyProof.Rows L2
/-! ### {} -/
def mDct : Cm D := fun ρ => .ok (.exn "dict" [] []) ρ
theorem SR.newD {g : Gh} {H : Hp} {σ : L2.St} {sl : List (Option T)} {tm : List T} {p : Addr} (s : SR g H σ sl tm) (hp : H p = none) : SR g (upd H p (.dK [])) σ sl (T.exn p (some p) "dict" [] [] :: tm) := by
  have fr := s.free hp
  refine s.go (s.stayS fun b q => upd_ne fun e => ?_) ?_ (fun b => ?_) (fun b => ?_) s.len s.slen s.at_ s.io
  · subst e; omega
  · simp only [Ts.ok, T.ok]
    refine ⟨⟨by simp, ?_, by simp⟩, s.stayT fun b q => upd_ne fun e => ?_⟩
    · rw [upd_same]; simp [exnO]
    · subst e; omega
  · by_cases e : p = b
    · subst e
      refine .inr ⟨.inl hp, .inl ?_⟩
      simp only [Ts.oc, T.oc]; omega
    · refine .inl ?_
      simp [Ts.oc, Ts.sh, T.oc, T.sh, b2, e]
      omega
  · by_cases e : b = p
    · exact .inr (.inl (by rw [e]; exact hp))
    · exact .inl (upd_ne e)
theorem e_dct {X : Cx} {g : Gh} {W : WX} {pos : Pos} : PE X (.Dict [] [] pos) (tE g W mDct) := pe_dnewK.imp fun σ H Q ⟨sl, tm, s, h⟩ => fun p hp => h _ sl (T.exn p (some p) "dict" [] []) (s.newD hp) rfl rfl
end VS

/-! VS, part v: the end of a law with exceptions, with tuples of the text. -/
namespace VS
open PySem PySem.Spec PyProof.Rows L2
def hookE (n : Nat) (fa : List He.Fa) (fn : List He.DefD) (ex : PySem.W.Frag → Bool) : PySem.W.Hook where
  α := He.AlD × Bool
  obs := fun s => (He.obsDG n fa fn s.heap.get?, ex (He.frG s.heap.get? (He.asD s.heap.get? n)))
  val := fun _ => (He.valD fn, true)
  says := fun _ h => ∃ K : PySem.W.Frag, K.In h ∧ He.SaysD fa fn K ∧ ex K = true
  of := fun _ _ e => ⟨_, He.frG_in, congrArg (fun z : He.AlD × Bool => z.1) e, congrArg (fun z : He.AlD × Bool => z.2) e⟩
  keeps := fun _ _ _ ⟨K, hK, c⟩ k => ⟨K, PySem.W.Frag.In.keeps hK k, c⟩
def obsE (n : Nat) (fa : List He.Fa) (fn : List He.DefD) (ex : PySem.W.Frag → Bool) (g : Addr → Option Obj) : He.AlD × Bool := (He.obsDG n fa fn g, ex (He.frG g (He.asD g n)))
theorem obsE_eq {n : Nat} {fa : List He.Fa} {fn : List He.DefD} {ex : PySem.W.Frag → Bool} {g : Addr → Option Obj} {s : Shared} (h : ∀ a, g a = s.heap.get? a) : obsE n fa fn ex g = (hookE n fa fn ex).obs s := by
  have e : g = s.heap.get? := funext h
  rw [e] <;> rfl
abbrev clsOf (K : PySem.W.Frag) : String → Addr := fun x => He.ga K (Str.ofString x)
/-- of a class with its own __init__ -/
def iniB (K : PySem.W.Frag) (C f : String) : Bool := oexB K (clsOf K C) && (decide (PySem.W.findIn K (.ref (clsOf K C)) (Str.ofString f) = some none) && (decide (PySem.W.findIn K (.ref (clsOf K C)) "__init__" = some (some (.ref (He.ma K (clsOf K C) "__init__")))) && decide (PySem.W.typeIn K (.ref (He.ma K (clsOf K C) "__init__")) = some (.type "function"))))
theorem iniB_ok {K : PySem.W.Frag} {C f : String} (h : iniB K C f = true) : OexC K (clsOf K C) ∧ PySem.W.findIn K (.ref (clsOf K C)) (Str.ofString f) = some none ∧ PySem.W.findIn K (.ref (clsOf K C)) "__init__" = some (some (.ref (He.ma K (clsOf K C) "__init__"))) ∧ PySem.W.typeIn K (.ref (He.ma K (clsOf K C) "__init__")) = some (.type "function") := by
  unfold iniB at h
  simp only [Bool.and_eq_true, decide_eq_true_eq] at h
  exact ⟨oexB_ok h.1, h.2.1, h.2.2.1, h.2.2.2⟩
/-- a tuple of the text, of texts and ints -/
def Sc.dv : Sc → He.Dv
  | .non => .non
  | .bl b => .bl b
  | .int i => .int i
  | .str s => .str ⟨s.toArray⟩
theorem Sc.dv_v (K : PySem.W.Frag) (s : Sc) : (s.dv).v K = s.v := by cases s <;> rfl
def tupE (K : PySem.W.Frag) (x : Str) (l : List Sc) : Bool := He.tupB K x (l.map Sc.dv) && (match K.lookup (He.ga K x) with
  | some ⟨.type c, none, _, _⟩ => decide (c = "tuple")
  | _ => false)
theorem tupE_ok {K : PySem.W.Frag} {x : Str} {l : List Sc} (h : tupE K x l = true) : StcT K (He.ga K x) (l.map Sc.v) ∧ ∃ o, K.lookup (He.ga K x) = some o ∧ o.cls = .type "tuple" ∧ o.dict = none := by
  obtain ⟨h1, h2⟩ := Bool.and_eq_true_iff.mp h
  constructor
  · have := He.tupB_ok h1 (fun _ => none)
    rw [List.map_map] at this
    have e : (He.Dv.v K ∘ Sc.dv) = Sc.v := funext (Sc.dv_v K)
    rw [e] at this
    exact this
  · split at h2
    · rename_i c dt sl ho
      exact ⟨_, ho, by rw [of_decide_eq_true h2], rfl⟩
    · cases h2
theorem tupE_strs {K : PySem.W.Frag} {a : Addr} {l : List Sc} {z : List (List Nat)} (h : StcT K a (l.map Sc.v)) (e : l = z.map Sc.str) : StcT K a (z.map fun w => V.str ⟨w.toArray⟩) := by
  subst e
  rw [List.map_map] at h
  exact h
theorem init_ok {P : Program} {w : World} {K : PySem.W.Frag} {mg : Str → Option Value} {base : Heap} {C : Addr} {F : Str} {qual : Str} {params : Arguments} {body : List Stmt} {scope : Scope} {f : Addr} {fd : FuncData}
    (D : FunD K "__init__" qual params body scope [V.int 0] [] f fd) (S : FnScope ["self", "why", F] ["self", "why", F] scope)
    (hb : ∀ (cdv : Value) (A : Around) (outer : List Env) (s : Shared) (H : Hp) (E : XK), PSs (cxOf (L2.CX P w) P w K mg base ["self", "why", F] qual scope f cdv A outer s H E) body (tOst K F (tVar 0) (tVar 2))) : FnOk P w K mg base (L2.CX P w) 1 f fd ["self", "why", F] (spInit K C F) :=
  FunD.ok (k := 0) D S (fun vs H Q E ⟨a, why, v, e, _⟩ => by rw [e]; rfl) fun cdv A outer s H vs Q E hr ⟨a, why, v, e, T, no, ha, q⟩ => ⟨_, hb cdv A outer s H E, by
    subst e
    exact ⟨v, rfl, .ref a, rfl, a, C, rfl, T, no, .inl ⟨ha, fun dx n ne => q dx n ne⟩⟩⟩
end VS

/-! VS, part w: enumerate, str(n), int(text). -/
namespace VS
open PySem PySem.Spec PyProof.Rows L2
set_option maxHeartbeats 1000000 in
theorem meets_enumT {v : Value} {o : Obj} {H : Heap → Prop} (B : Begins v o H) :
    Meets (Builtin.«enumerate.__new__» ⟨[.type "enumerate", v], []⟩) (fun _ R s => H s.heap ∧
      R (.ok (.ret (.ref (s.heap.push o).objs.size))) { s with heap := (s.heap.push o).push { cls := .type "enumerate", data := .fields #[.none, .bool false, .ref s.heap.objs.size, rawInt 0, .none, .none] } }) :=
  .of_wp fun prog w A R s h => by
    obtain ⟨hp, g, d, tk, os⟩ := s; obtain ⟨h1, h⟩ := h
    have hsub := sub_enumerate
    have q1 : ∀ {A' : Around} {E : Value → Shared → Prop} {Q : Value → Shared → Prop}, Q (.ref hp.objs.size) ⟨hp.push o, g, d, tk, os⟩ → wpAny (model prog w) A' (pyIter v) Q E ⟨hp, g, d, tk, os⟩ :=
      fun q => B.iter prog w _ _ ⟨hp, g, d, tk, os⟩ _ h1 q
    wp_walk using q1
    refine wpAny_stack_any fun st => wpAny_pure ?_
    split
    · rename_i c _ _ _ _ _
      cases (c == Value.type "enumerate")
      · wp_walk using q1
        exact ⟨_, rfl, h⟩
      · wp_walk using q1
        exact ⟨_, rfl, h⟩
    · wp_walk using q1
      exact ⟨_, rfl, h⟩
theorem call_enumT {prog : Program} {w : World} {A : Around} {E : Value → Shared → Prop} {s : Shared} {v : Value} {o : Obj} {H : Heap → Prop} {Q : Value → Shared → Prop} (B : Begins v o H) (h1 : H s.heap)
    (h : ∀ h', IsEnum h' (s.heap.objs.size + 1) s.heap.objs.size 0 .none → h'.get? s.heap.objs.size = some o → h'.objs.size = s.heap.objs.size + 2 →
      (∀ b o, s.heap.get? b = some o → h'.get? b = some o) → Q (.ref (s.heap.objs.size + 1)) { s with heap := h' }) :
    wpAny (model prog w) A (call (.type "enumerate") [v]) Q E s := by
  refine callType_new F.called_enumerate (by decide) (F.typeCall_enumerate_1 _) (F.newCall_enumerate_1 _) (fun obj => F.args_object_init_2 obj _) F.entry_enumerate_new
    (meets_enumT B) ⟨h1, ?_⟩
  have hz : (s.heap.push o).objs.size = s.heap.objs.size + 1 := Heap.size_push ..
  show _ ∧ _
  rw [hz]
  have he : IsEnum ((s.heap.push o).push { cls := .type "enumerate", data := .fields #[.none, .bool false, .ref s.heap.objs.size, rawInt 0, .none, .none] }) (s.heap.objs.size + 1) s.heap.objs.size 0 .none := by
    have := Heap.get?_push_size (s.heap.push o) (o := { cls := .type "enumerate", data := .fields #[.none, .bool false, .ref s.heap.objs.size, rawInt 0, .none, .none] }) rfl
    rw [hz] at this; exact this
  refine ⟨⟨_, he, rfl⟩, h _ he (Heap.get?_push_of_some _ (Heap.get?_push_size _ B.free)) (by rw [Heap.size_push, hz]) fun b o x => Heap.get?_push_of_some _ (Heap.get?_push_of_some _ x)⟩
/-- the tuple at a as it stands at each turn, each item in a new pair -/
def IteT (K : PySem.W.Frag) (a : Addr) : It :=
  ⟨fun i H => ∃ (xs : List V) (x : V), SqT K H a xs ∧ xs[i]? = some x, fun i H v H' => ∃ T x, v = .ref T ∧ H T = none ∧ H' = upd H T (.tup [.int (i : Nat), x]) ∧ ∀ xs, SqT K H a xs → xs[i]? = some x, fun i H => ∃ xs : List V, SqT K H a xs ∧ xs.length = i⟩
theorem turn_enumT {P : Program} {w : World} {K : PySem.W.Frag} {elts : List Expr} {kk : Nat} {tpos : Pos} (a e it : Addr) :
    Turn P w K (.Tuple elts kk tpos) (IteT K a) [e, it] e (fun i h => (∃ old, IsEnum h e it ((i : Nat) : Int) old) ∧ h.IsTupleIter it a i ∧ e ≠ it ∧ e ≠ a ∧ a ≠ it) where
  mem := by simp
  obj := fun i h st b hb => by
    obtain ⟨⟨old, he⟩, ⟨o, ho, hc, hd⟩, _⟩ := st
    have e' : b = e ∨ b = it := by simpa using hb
    rcases e' with z | z
    · rw [z]; exact ⟨_, he, fun v q => nomatch q⟩
    · rw [z]; exact ⟨o, ho, fun v q => by rw [hd] at q; cases q⟩
  keep := fun i h h' st k => let ⟨⟨old, he⟩, hi, hne⟩ := st; ⟨⟨old, k e (by simp) _ he⟩, hi.at fun o q => k it (by simp) o q, hne⟩
  item := by
    intro X hP hw hK hc i pins s σ H E I hf st hg
    subst hP hw hK
    obtain ⟨⟨old, he⟩, hit, hne, hea, hai⟩ := st
    obtain ⟨xs, x, hq, hx⟩ := hg
    obtain ⟨its, rv, p, hz⟩ := I.tuple hq
    obtain ⟨u, hu, ru⟩ := rv.get hx
    have hel : e < s.heap.objs.size := Heap.lt_size he
    have hil : it < s.heap.objs.size := by obtain ⟨_, q, _⟩ := hit; exact Heap.lt_size q
    have hlt : i < its.toArray.size := by
      have := (List.getElem?_eq_some_iff.mp hu).1
      simpa using this
    refine wpAny_pyNext_enum_itemD (Draws.tuple (A := X.A.in1) (I.ok.hd hc) it a hai its.toArray) he ⟨hit, p⟩ hlt hne (by simp [hne, hea]) fun y h' tk hy ho hst hT hsz hk => ?_
    obtain rfl : y = u := by
      have hy' : its.toArray[i]? = some y := hy
      rw [List.getElem?_toArray, hu] at hy'
      exact (Option.some.inj hy').symm
    have hit' := hst.1
    refine ⟨_, rfl, wpAny_letOwnedTupleGo_enum (s := { s with heap := h', toks := tk + 1 }) ho fun h'' he' sb => ?_⟩
    have hT2 : h''.get? s.heap.objs.size = some { cls := .type "tuple", data := .seq #[.int i tk, y] } := (sb.2 _ (Nat.ne_of_gt hel)).trans hT
    have new : ObjOk X.prog X.w (upd H s.heap.objs.size (.tup [.int (i : Nat), x])) h'' s.heap.objs.size (.tup [.int (i : Nat), x]) :=
      ⟨by show 2 ≤ sizeLine; decide, [.int i tk, y], .cons ⟨_, rfl⟩ (.cons ru .nil), ⟨_, hT2, rfl, _, rfl⟩⟩
    have I1 : Inv X pins σ (upd H s.heap.objs.size (.tup [.int (i : Nat), x])) { s with heap := h'', toks := tk + 1 } :=
      I.turnedNew (ch := [e, it]) (fun b ob hb q => (sb.2 b (fun z => hb (by simp [z]))).trans (hk b ob (fun z => hb (by simp [z])) (fun z => hb (by simp [z])) q)) hf (Nat.le_refl _) new
    refine ⟨.ref s.heap.objs.size, _, I1, rfl, ⟨_, x, rfl, I.hok.fresh (Nat.le_refl _), rfl, fun ys hy => by rw [I.tuple_inj hy hq]; exact hx⟩, ⟨⟨y, ?_⟩, hit'.at fun o q => (sb.2 it (Ne.symm hne)).trans q, hne, hea, hai⟩, fun b hb => ?_⟩
    · have e1 : ((i + 1 : Nat) : Int) = (i : Int) + 1 := by omega
      rw [e1]; exact he'
    · have hb' : b < s.heap.objs.size := by
        have e' : b = e ∨ b = it := by simpa using hb
        rcases e' with z | z
        · rw [z]; exact hel
        · rw [z]; exact hil
      rw [upd_ne (Nat.ne_of_lt hb')]
      exact (hf b hb).1
  done := by
    intro X hP hw hK hc i pins s σ H E I hf st hg
    subst hP hw hK
    obtain ⟨⟨old, he⟩, hit, hne, hea, hai⟩ := st
    obtain ⟨xs, hq, hx⟩ := hg
    obtain ⟨its, rv, p, hz⟩ := I.tuple hq
    obtain ⟨f0, f1, f2, f3, f4, f5⟩ := hf it (by simp)
    have hl := rv.length
    have hn : its.toArray.size = i := by simp; omega
    subst hn
    exact wpAny_pyNext_enum_endD (Draws.tuple (A := X.A.in1) (I.ok.hd hc) it a hai its.toArray) he ⟨hit, p⟩ fun h' eb => ⟨rfl, I.turned (t' := s.toks) (fun b o hb q => eb b o hb q) f0 f1 f3 f4 f5⟩
  self := fun A i s Q E st h => let ⟨⟨_, he⟩, _⟩ := st; wpAny_pyIter_enum he h
def iEnumT (K : PySem.W.Frag) (ta : TA) : TI := fun σ H R => ta σ H fun vs H1 => ∃ a xs, vs = [.ref a] ∧ SqT K H1 a xs ∧ R (IteT K a) H1
theorem pi_enumT {X : Cx} {e : Expr} {ta : TA} {p pos tpos : Pos} {elts : List Expr} {kk : Nat} (hg : Gl X "enumerate") (hm : X.mg "enumerate" = none) (ha : PA X [e] ta) (hs : starEach [e] X.env = [(false, eval e X.env)] := by rfl) :
    PI X (.Tuple elts kk tpos) (.Call (.Name "enumerate" p) [e] [] pos) (iEnumT X.K ta) := by
  refine ⟨fun pins s σ H R I h => ?_⟩
  refine Call_ (ld_blt I hg hm boot_enumerate (PyProof.Rows.callWith_type1 (thn (ha.run pos pins s σ H _ I h) fun us s1 ⟨vs, H1, I1, r1, q1⟩ => ?_) hs rfl))
  obtain ⟨a, xs, ex, hq, q⟩ := q1
  subst ex
  cases r1 with
  | cons r rr =>
    cases rr
    cases r
    obtain ⟨its, rv, p', hz⟩ := I1.tuple hq
    have hal : a < s1.heap.objs.size := by obtain ⟨_, q, _⟩ := id p'; exact Heap.lt_size q
    refine call_enumT (begins_tuple a its.toArray) p' fun h' he hit hsz hk => wpAny_pyIter_enum he ?_
    have I2 : Inv X pins σ H1 { s1 with heap := h' } := I1.kept (t' := s1.toks) hk
    refine ⟨s1.heap.objs.size + 1, [s1.heap.objs.size + 1, s1.heap.objs.size], _, _, H1, rfl, I2, turn_enumT a (s1.heap.objs.size + 1) s1.heap.objs.size, ⟨⟨.none, he⟩, ⟨_, hit, rfl, rfl⟩, Nat.succ_ne_self _, Nat.ne_of_gt (Nat.lt_succ_of_lt hal), Nat.ne_of_lt hal⟩, fun b hb => ?_, q⟩
    have e' : b = s1.heap.objs.size + 1 ∨ b = s1.heap.objs.size := by simpa using hb
    have hle : s1.heap.objs.size ≤ b := by
      rcases e' with z | z
      · rw [z]; exact Nat.le_add_right _ _
      · rw [z]; exact Nat.le_refl _
    exact I1.fpOk hle (I1.hok.fresh hle)
/-! ### enumerate over data -/
section
variable {X : Cx} {g : Gh} {W : WX} {pos : Pos} {a b c e tg iter : Expr} {ma mb : Cm D}
def enumD (ds : List D) : List D := ds.mapIdx fun i d => D.tup [.sc (.int (i : Nat)), d]
theorem enumD_len (ds : List D) : (enumD ds).length = ds.length := by simp [enumD]
theorem enum_pair {H : Hp} {σ : L2.St} {sl : List (Option T)} {tm : List T} {t : T} {i : Int} {p : Addr} (s : SR g H σ sl tm) (s2 : SR g H σ sl (t :: tm)) (hp : H p = none) :
    ∃ u : T, SR g (upd H p (.tup [.int i, t.v])) σ sl (u :: tm) ∧ u.d = .tup [.sc (.int i), t.d] ∧ u.v = .ref p := by
  have s3 : SR g H σ sl (T.sc (.int i) :: t :: tm) := s2.push (.int i) trivial
  have ok : Ts.ok g.c H [T.sc (.int i), t] := by
    have := s3.okT
    simp only [Ts.ok] at this ⊢
    exact ⟨this.1, this.2.1, trivial⟩
  have s4 : SR g H σ sl ([T.sc (.int i), t] ++ tm) := s3
  exact ⟨_, s4.newT (ts := [T.sc (.int i), t]) hp (by simp) ok (fun a => ⟨Nat.le_refl _, id⟩), rfl, rfl⟩
theorem it_enum {K : PySem.W.Frag} (hK : K = g.c.K) {p : Addr} {o : Ow} {xs : List T} (hx : ∀ a, Ts.oc a xs = 0) : ItOk g (Ite K p) [T.lst p o xs] (enumD (Ts.d xs)) where
  stop := fun H σ sl tm s => by
    have q := lst_sq s.top
    exact ⟨_, by rw [hK]; exact q.1, by simp [enumD_len, Ts.d_len]⟩
  go := fun i d H σ sl tm s h => by
    have q := lst_sq s.top
    unfold enumD at h
    rw [List.getElem?_mapIdx, Ts.d_map, List.getElem?_map, Option.map_map, Option.map_eq_some_iff] at h
    obtain ⟨t, ht, rfl⟩ := h
    have m := List.mem_of_getElem? ht
    refine ⟨⟨_, t.v, by rw [hK]; exact q.1, by rw [List.getElem?_map, ht]; rfl⟩, fun x H' hy => ?_⟩
    obtain ⟨T', x', rfl, hT, rfl, hy⟩ := hy
    have e := hy _ (by rw [hK]; exact q.1)
    rw [List.getElem?_map, ht] at e
    obtain rfl : t.v = x' := Option.some.inj e
    have s2 : SR g H σ sl (t :: ([T.lst p o xs] ++ tm)) := s.dupK (tms := []) (Ts.ok_iff.mp q.2.2 t m) (fun a => by
      have h1 := Ts.oc_mem (a := a) m; have := hx a; omega) (fun a => by
      have h1 := Ts.sh_mem (a := a) m
      simp only [List.singleton_append, Ts.sh, T.sh]; omega)
    exact enum_pair s s2 hT
theorem it_enumT {K : PySem.W.Frag} (hK : K = g.c.K) {p : Addr} {o : Bool} {xs : List T} (hx : ∀ a, Ts.oc a xs = 0) : ItOk g (IteT K p) [T.tup p o xs] (enumD (Ts.d xs)) where
  stop := fun H σ sl tm s => by
    have q := tup_sq s.top
    exact ⟨_, by rw [hK]; exact q.1, by simp [enumD_len, Ts.d_len]⟩
  go := fun i d H σ sl tm s h => by
    have q := tup_sq s.top
    unfold enumD at h
    rw [List.getElem?_mapIdx, Ts.d_map, List.getElem?_map, Option.map_map, Option.map_eq_some_iff] at h
    obtain ⟨t, ht, rfl⟩ := h
    have m := List.mem_of_getElem? ht
    refine ⟨⟨_, t.v, by rw [hK]; exact q.1, by rw [List.getElem?_map, ht]; rfl⟩, fun x H' hy => ?_⟩
    obtain ⟨T', x', rfl, hT, rfl, hy⟩ := hy
    have e := hy _ (by rw [hK]; exact q.1)
    rw [List.getElem?_map, ht] at e
    obtain rfl : t.v = x' := Option.some.inj e
    have s2 : SR g H σ sl (t :: ([T.tup p o xs] ++ tm)) := s.dupK (tms := []) (Ts.ok_iff.mp q.2.2 t m) (fun a => by
      have h1 := Ts.oc_mem (a := a) m; have := hx a; omega) (fun a => by
      have h1 := Ts.sh_mem (a := a) m
      simp only [List.singleton_append, Ts.sh, T.sh]; omega)
    exact enum_pair s s2 hT
def mEnum (ma : Cm D) : Cm (List D) := fun ρ => (ma ρ).bind fun d ρ => match d.fz with
  | .lst _ ds => .ok (enumD ds) ρ
  | _ => .stuck
def mEnumT (ma : Cm D) : Cm (List D) := fun ρ => (ma ρ).bind fun d ρ => match d.fz with
  | .tup ds => .ok (enumD ds) ρ
  | _ => .stuck
theorem i_enum {elts : List Expr} {kk : Nat} {tpos p : Pos} (hK : X.K = g.c.K) (hg : Gl X "enumerate") (hm : X.mg "enumerate" = none) (ha : PA X [e] (tA g W [ma])) (hs : starEach [e] X.env = [(false, eval e X.env)] := by rfl) :
    PI X (.Tuple elts kk tpos) (.Call (.Name "enumerate" p) [e] [] pos) (tI g W (mEnum ma)) := (pi_enum hg hm ha hs).imp fun σ H R ⟨sl, tm, s, q⟩ => by
  refine tA1 s q fun H' sl' t s' h' => ?_
  rw [← T.fz_d] at h'
  have s2 := s'.fz1
  rw [← T.fz_v]
  cases e : t.fz with
  | lst p o xs =>
    rw [e] at h' s2
    refine ⟨p, _, rfl, by rw [hK]; exact (lst_sq s2.top).1, h' H' sl' [_] _ s2 rfl (it_enum hK fun a => ?_)⟩
    have := T.fz_oc a t
    rw [e] at this
    simp only [T.oc] at this
    omega
  | _ => rw [e] at h'; exact h'.elim
theorem i_enumT {elts : List Expr} {kk : Nat} {tpos p : Pos} (hK : X.K = g.c.K) (hg : Gl X "enumerate") (hm : X.mg "enumerate" = none) (ha : PA X [e] (tA g W [ma])) (hs : starEach [e] X.env = [(false, eval e X.env)] := by rfl) :
    PI X (.Tuple elts kk tpos) (.Call (.Name "enumerate" p) [e] [] pos) (tI g W (mEnumT ma)) := (pi_enumT hg hm ha hs).imp fun σ H R ⟨sl, tm, s, q⟩ => by
  refine tA1 s q fun H' sl' t s' h' => ?_
  rw [← T.fz_d] at h'
  have s2 := s'.fz1
  rw [← T.fz_v]
  cases e : t.fz with
  | tup p o xs =>
    rw [e] at h' s2
    refine ⟨p, _, rfl, by rw [hK]; exact (tup_sq s2.top).1, h' H' sl' [_] _ s2 rfl (it_enumT hK fun a => ?_)⟩
    have := T.fz_oc a t
    rw [e] at this
    simp only [T.oc] at this
    omega
  | _ => rw [e] at h'; exact h'.elim
@[simp] theorem mEnum_ {ρ : DE} : mEnum ma ρ = (ma ρ).bind fun d ρ => match d.fz with
  | .lst _ ds => .ok (enumD ds) ρ
  | _ => .stuck := (rfl)
@[simp] theorem mEnumT_ {ρ : DE} : mEnumT ma ρ = (ma ρ).bind fun d ρ => match d.fz with
  | .tup ds => .ok (enumD ds) ρ
  | _ => .stuck := (rfl)

/-! ### str(n), int(text) -/
def numL (i : Int) : List Nat := (Str.ofString (toString i)).cps.toList
def strD : D → Option Sc
  | .sc (.int i) => if i.natAbs < 1000000000000000000 then some (.str (numL i)) else none
  | _ => none
theorem log_small {n : Nat} (h : n < 1000000000000000000) : n.log2 < 1920 := by
  by_cases q : n = 0
  · subst q; decide
  · have h1 : n.log2 < 60 := (Nat.log2_lt q).2 (Nat.lt_of_lt_of_le h (by decide))
    omega
theorem numL_good {i : Int} (h : i.natAbs < 1000000000000000000) : (Sc.str (numL i)).good := by
  have h1 := PySem.int_text_fits (log_small h)
  have h2 := PySem.W.KSb.asc_num i
  have h3 : (numL i).length = (Str.ofString (toString i)).length := Array.length_toList
  rw [SZ_eq] at h1
  exact ⟨by rw [h3]; exact h1, fun c hc => Nat.lt_trans (h2 c hc) (by decide)⟩
theorem call_strA : CallR X (.type "str") (fun xs H Q => ∃ i, xs = [.int i] ∧ i.natAbs.log2 < 1920 ∧ Q (.str (toString i)) H) := call_str_int
theorem hr_strA : HR1 g strD (fun xs H Q => ∃ i, xs = [.int i] ∧ i.natAbs.log2 < 1920 ∧ Q (.str (toString i)) H) := fun H u c Q k h q => by
  cases u with
  | sc s =>
    cases s with
    | int i =>
      simp only [T.d, strD] at h
      split at h
      · rename_i hi
        cases h
        refine ⟨i, rfl, log_small hi, ?_⟩
        have := q (numL_good hi)
        have e : (Sc.str (numL i)).v = V.str (toString i : String) := by
          show V.str ⟨(numL i).toArray⟩ = V.str (Str.ofString (toString i))
          unfold numL
          simp
        rwa [e] at this
      · cases h
    | _ => simp [T.d, strD] at h
  | _ => simp [T.d, strD] at h
def isDg (l : List Nat) : Bool := (!l.isEmpty) && (l.all fun c => decide (48 ≤ c) && decide (c ≤ 57)) && decide (l.length ≤ 640)
def intBD : D → Option Sc
  | .sc (.int i) => some (.int i)
  | .sc (.bl b) => some (.int (if b then 1 else 0))
  | .sc (.str l) => if isDg l then some (.int (NumText.digitsVal l : Nat)) else none
  | _ => none
theorem call_intC : CallR X (.type "int") (fun xs H Q => ((∃ i, xs = [.int i] ∧ Q (.int i) H) ∨ ∃ k, xs = [.bl k] ∧ Q (.int (if k then 1 else 0)) H) ∨ ∃ a n, xs = [.str a] ∧ PySem.intText? a = some n ∧ a.length ≤ 640 ∧ Q (.int n) H) := by
  intro pins s σ H xs us Q I r h
  rcases h with h | h
  · exact call_int1 pins s σ H xs us Q I r h
  · exact call_int_str pins s σ H xs us Q I r h
theorem hr_intC : HR1 g intBD (fun xs H Q => ((∃ i, xs = [.int i] ∧ Q (.int i) H) ∨ ∃ k, xs = [.bl k] ∧ Q (.int (if k then 1 else 0)) H) ∨ ∃ a n, xs = [.str a] ∧ PySem.intText? a = some n ∧ a.length ≤ 640 ∧ Q (.int n) H) := fun H u c Q k h q => by
  cases u with
  | sc s =>
    cases s with
    | int i => simp only [T.d, intBD] at h; cases h; exact .inl (.inl ⟨_, rfl, q trivial⟩)
    | bl b => simp only [T.d, intBD] at h; cases h; exact .inl (.inr ⟨_, rfl, q trivial⟩)
    | str l =>
      simp only [T.d, intBD] at h
      split at h
      · rename_i hd
        cases h
        simp only [isDg, Bool.and_eq_true, List.all_eq_true, decide_eq_true_eq, Bool.not_eq_true', List.isEmpty_eq_false_iff] at hd
        have e : PySem.intText? ⟨l.toArray⟩ = some ((NumText.digitsVal l : Nat) : Int) := by
          have := intText_digits (x := ⟨l.toArray⟩) (by simpa [NumText.AllDigits] using hd.1.2) (by simpa using hd.1.1) (by have := hd.2; simp [Str.length]; omega)
          simpa using this
        exact .inr ⟨_, _, rfl, e, by simpa [Str.length] using hd.2, q trivial⟩
      · cases h
    | _ => simp [T.d, intBD] at h
  | _ => simp [T.d, intBD] at h
/-! ### rows -/
@[simp] theorem intBD_int (i : Int) : intBD (.int i) = some (.int i) := (rfl)
@[simp] theorem intBD_bl (b : Bool) : intBD (.bl b) = some (.int (if b then 1 else 0)) := (rfl)
theorem intBD_str (l : List Nat) (h : isDg l = true) : intBD (.str l) = some (.int (NumText.digitsVal l : Nat)) := by
  show (if isDg l then some (Sc.int (NumText.digitsVal l : Nat)) else none) = _
  rw [if_pos h]
theorem strD_int (i : Int) (h : i.natAbs < 1000000000000000000) : strD (.int i) = some (.str (numL i)) := by
  show (if i.natAbs < 1000000000000000000 then some (Sc.str (numL i)) else none) = _
  rw [if_pos h]
theorem numL_nat (n : Nat) : numL (n : Int) = (Nat.toDigits 10 n).map Char.toNat := PySem.W.KIN.signs_num n

/-! ### a slice of a tuple, never the whole -/
def wholeT (n : Nat) (lo hi : Option Int) : Bool := decide (HT.sIx n 0 lo = 0) && decide (HT.sIx n n hi = n)
def sliceT (lo hi : Option Int) : D → Option D
  | .tup xs => if Ds.pur xs && !(wholeT xs.length lo hi) then some (.tup (cutL xs lo hi)) else none
  | _ => none
def mSlcT (oa : Opd) (lo hi : Option (Cm D)) : Cm D := fun ρ => (oa.run ρ).bind fun t ρ => (mPart lo ρ).bind fun l ρ => (mPart hi ρ).bind fun u ρ => match oa.get t ρ with
  | some x => lift (sliceT l u x) ρ
  | none => .stuck
theorem e_slcT {oa : Opd} {lo hi : Option Expr} {ml mh : Option (Cm D)} {p2 : Pos} (ha : PE X a (tO g W oa)) (hl : PO X lo (tPt g W (mPart ml))) (hh : PO X hi (tPt g W (mPart mh))) (hK : X.K = g.c.K) : PE X (.Subscript a (.Slice lo hi none p2) pos) (tE g W (mSlcT oa ml mh)) :=
  (pe_slice sl_tup ha hl hh).imp fun σ H Q ⟨sl, tm, s, h⟩ => by
  refine tO.of s h fun H1 sl1 t1 v1 s1 d1 h1 => ?_
  refine tPt.of s1 (Lands.drops h1) fun H2 sl2 l s2 h2 => ?_
  refine tPt.of s2 h2 fun H3 sl3 u s3 h3 => ?_
  have d1' : Held g H3 oa σ sl3 t1 v1 := ⟨d1.is⟩
  have hm1 : ∀ u, t1 = some u → u ∈ xs? t1 tm := fun u e => by subst e; simp [xs?]
  split at h3
  · rename_i x ex
    obtain ⟨w, kw, ew, fw, hw⟩ := d1'.tree s3 hm1 ex
    subst fw ew
    cases w with
    | tup p o xs =>
      simp only [T.d, sliceT] at h3
      split at h3
      · rename_i hp
        rw [Bool.and_eq_true, Bool.not_eq_true'] at hp
        obtain ⟨hp, hwh⟩ := hp
        have q := tup_sq kw
        have hwh' : ¬ (HT.sIx (xs.map T.v).length 0 l = 0 ∧ HT.sIx (xs.map T.v).length (xs.map T.v).length u = (xs.map T.v).length) := by
          unfold wholeT at hwh
          rw [Ts.d_len] at hwh
          rw [List.length_map]
          intro ⟨e1, e2⟩
          simp [e1, e2] at hwh
        refine ⟨p, _, rfl, by rw [hK]; exact q.1, hwh', fun n hn => ?_⟩
        have ec : cutV (xs.map T.v) l u = (cutL xs l u).map T.v := cutL_map T.v xs l u
        rw [ec]
        have hnew : SR g H3 σ sl3 ((cutL xs l u).reverse ++ tm) := by
          have hO : ∀ a, Ts.oc a (cutL xs l u) = 0 := fun a => Nat.eq_zero_of_not_pos fun hpos => by
            obtain ⟨t, m, ht⟩ := Ts.pos_oc hpos
            have := T.pur_oc a t (Ds.pur_mem hp (cutL_mem m))
            omega
          have hS : ∀ a, 0 < Ts.sh a (cutL xs l u) → 0 < Ts.sh a xs := fun a hpos => by
            obtain ⟨t, m, ht⟩ := Ts.pos_sh hpos
            have := Ts.sh_mem (a := a) (cutL_mem m)
            omega
          have okc : Ts.ok g.c H3 ((cutL xs l u).reverse ++ tm) := by
            rw [Ts.ok_iff]
            intro t m
            rcases List.mem_append.mp m with m | m
            · exact Ts.ok_iff.mp q.2.2 t (cutL_mem (List.mem_reverse.mp m))
            · exact Ts.ok_iff.mp s3.xs.okT t m
          refine s3.tmp okc fun a => ?_
          have z1 := hO a
          have z2 := hS a
          have z3 := hw a
          have z4 : Ts.sh a xs ≤ (T.tup p o xs).sh a := by simp only [T.sh]; omega
          rw [Ts.oc_append, Ts.sh_append, Ts.oc_rev, Ts.sh_rev]
          cases t1 with
          | none => simp only [xs?] at z3 ⊢; omega
          | some w => simp only [xs?, Ts.oc, Ts.sh] at z3 ⊢; omega
        exact h3 _ _ _ (hnew.newT hn (Nat.le_trans (cutL_len _ _ _) q.2.1) (by
          rw [Ts.ok_iff]; exact fun t m => Ts.ok_iff.mp q.2.2 t (cutL_mem m)) fun z => by rw [Ts.oc_rev, Ts.sh_rev]; omega) rfl (by simp [T.d, Ts.d_map, cutL_map])
      · exact h3.elim
    | _ => exact h3.elim
  · exact h3.elim
@[simp] theorem mSlcT_ {oa : Opd} {lo hi : Option (Cm D)} {ρ : DE} : mSlcT oa lo hi ρ = (oa.run ρ).bind fun t ρ => (mPart lo ρ).bind fun l ρ => (mPart hi ρ).bind fun u ρ => match oa.get t ρ with
  | some x => lift (sliceT l u x) ρ
  | none => .stuck := (rfl)
end
end VS

/-! VS, part x: more rows for simp; constants that are good. -/
namespace VS
open PySem PySem.Spec PyProof.Rows L2
def Sc.goodB : Sc → Bool
  | .str l => decide (l.length ≤ 16777216) && l.all fun c => decide (c < 1114112)
  | _ => true
theorem goodB_ok (ls : List Sc) (h : ls.all Sc.goodB = true) : ∀ s ∈ ls, s.good := fun s hs => by
  have q := List.all_eq_true.1 h s hs
  cases s with
  | str l =>
    simp only [Sc.goodB, Bool.and_eq_true, decide_eq_true_eq, List.all_eq_true] at q
    exact q
  | _ => trivial
@[simp] theorem mM_ev (f : D → D → Option Sc) (a : Cm D) (i : Nat) (ρ : DE) : mM f (.e a) (.v i) ρ = (a ρ).bind fun d ρ => match d with
  | .sc (.str _) => match ρ[i]? with
    | some (some w) => (lift (f d w) ρ).bind fun s ρ => .ok (.sc s) ρ
    | _ => .stuck
  | _ => .stuck := by
  unfold mM
  cases e : a ρ with
  | ok x ρ =>
    simp only [orun_e, e, R.bind_ok, oget_e]
    cases x with
    | sc s =>
      cases s <;> try rfl
      simp only [orun_v, oget_v]
      cases e2 : ρ[i]? with
      | none => rfl
      | some o => cases o <;> simp [e2]
    | _ => rfl
  | exc _ _ => simp only [orun_e, e]; rfl
  | stuck => simp only [orun_e, e]; rfl
@[simp] theorem mM_ve (f : D → D → Option Sc) (b : Cm D) (i : Nat) (ρ : DE) : mM f (.v i) (.e b) ρ = match (ρ[i]?).join with
  | some (.sc (.str l)) => (b ρ).bind fun w ρ => match (ρ[i]?).join with
    | some d => (lift (f d w) ρ).bind fun s ρ => .ok (.sc s) ρ
    | none => .stuck
  | _ => .stuck := by
  unfold mM
  simp only [orun_v, oget_v]
  cases e : ρ[i]? with
  | none => rfl
  | some o =>
    cases o with
    | none => rfl
    | some d =>
      simp only [R.bind_ok, e, Option.join_some]
      cases d with
      | sc s =>
        cases s <;> try rfl
        cases e2 : b ρ with
        | ok w ρ2 => simp [e2]; cases (ρ2[i]?).join <;> rfl
        | exc _ _ => simp [e2]
        | stuck => simp [e2]
      | _ => rfl
@[simp] theorem mMN_ (f : D → D → Option D) (x y : Opd) (ρ : DE) : mMN f x y ρ = (x.run ρ).bind fun t ρ => match x.get t ρ with
  | some (.sc (.str _)) => (y.run ρ).bind fun u ρ => match x.get t ρ, y.get u ρ with
    | some v, some w => lift (f v w) ρ
    | _, _ => .stuck
  | _ => .stuck := rfl
@[simp] theorem mTidx_ (l : List (List Nat)) (m : Cm D) (ρ : DE) : mTidx l m ρ = (m ρ).bind fun d ρ => match d with
  | .sc (.str z) => match l.findIdx? (· == z) with
    | some j => .ok (.int j) ρ
    | none => .stuck
  | _ => .stuck := rfl
theorem splitD_ (a : List Nat) (c : Nat) (h : a.length + 2 ≤ 16777216) : splitD (.str a) (.str [c]) = some (.lst .own ((splitC c a).map D.str)) := by
  simp [splitD, h]
theorem addD_strC (a b : List Nat) (h : a.length + b.length ≤ 16777216) : addD (.str a) (.str b) = some (.str (a ++ b)) := by
  rw [addD_str, if_pos h]
end VS

/-! VS, part y: tuples put together. -/
namespace VS
open PySem PySem.Spec PyProof.Rows L2
def catD : D → D → Option D
  | .tup xs, .tup ys => if xs.length + ys.length ≤ 16777216 then some (.tup (xs ++ ys)) else none
  | _, _ => none
@[simp] theorem catD_ (xs ys : List D) : catD (.tup xs) (.tup ys) = if xs.length + ys.length ≤ 16777216 then some (.tup (xs ++ ys)) else none := (rfl)
section
variable {X : Cx} {g : Gh} {W : WX} {pos : Pos} {a b : Expr} {ma mb : Cm D}
theorem SR.under {H : Hp} {σ : L2.St} {sl : List (Option T)} {tm : List T} {t u : T} (s : SR g H σ sl (t :: u :: tm)) : SR g H σ sl (t :: tm) :=
  s.tmp (by have := s.okT; simp only [Ts.ok] at this ⊢; exact ⟨this.1, this.2.2⟩) fun b => by simp only [Ts.oc, Ts.sh]; omega
theorem e_cat (hK : X.K = g.c.K) (ha : PE X a (tE g W ma)) (hb : PE X b (tE g W mb)) : PE X (.BinOp a .Add b pos) (tE g W (mBin catD ma mb)) := by
  refine (pe_op op_catA ha hb).imp (bin_imp fun H σ sl tm t1 t2 d Q s h k => ?_)
  have k1 : t1.ok g.c H := by have := s.okT; simp only [Ts.ok] at this; exact this.2.1
  have k2 := s.top
  rw [hK]
  cases t1 with
  | tup a o xs =>
    cases t2 with
    | tup b p ys =>
      simp only [T.d, catD, Ts.d_len] at h
      split at h
      · rename_i hc
        cases h
        have q1 := tup_sq k1
        have q2 := tup_sq k2
        refine ⟨a, b, xs.map T.v, ys.map T.v, rfl, rfl, q1.1, q2.1, by rw [SZ_eq]; simpa using hc, fun e => ?_, fun _ e => ?_, fun _ _ q nq => ?_⟩
        · have : xs = [] := by simpa using e
          subst this
          exact k H _ s.under (by simp [T.d, Ts.d])
        · have : ys = [] := by simpa using e
          subst this
          exact k H _ s.pop (by simp [T.d, Ts.d])
        · have s' := s.newT (xs := [.tup b p ys, .tup a o xs]) (tm := tm) (ts := xs ++ ys) nq (by simpa using hc)
            (Ts.ok_iff.mpr fun t m => by
              rcases List.mem_append.mp m with m | m
              · exact Ts.ok_iff.mp q1.2.2 t m
              · exact Ts.ok_iff.mp q2.2.2 t m) (fun z => by
              simp only [Ts.oc_append, Ts.sh_append, Ts.oc, Ts.sh, T.oc, T.sh]; omega)
          rw [List.map_append] at s'
          exact k _ _ s' (by simp [T.d, Ts.d_append])
      · cases h
    | sc y => simp [T.d, catD] at h
    | _ => simp [T.d, catD] at h
  | _ => simp [T.d, catD] at h
end
end VS

/-! VS, part z: xs.index(x) of a list in a slot. -/
namespace VS
open PySem PySem.Spec PyProof.Rows L2
section
variable {X : Cx} {g : Gh} {W : WX} {pos p : Pos} {a b : Expr} {ma mb : Cm D}
def mLidx (i : Nat) (ma : Cm D) : Cm D := fun ρ => match ρ[i]? with
  | some (some (.lst _ _)) => (ma ρ).bind fun d ρ => match (ρ[i]?).join, d with
    | some (.lst _ xs), .sc z => match scs xs with
      | some l => match l.findIdx? (fun y => y.eqB z) with
        | some j => .ok (.int j) ρ
        | none => .stuck
      | none => .stuck
    | _, _ => .stuck
  | _ => .stuck
@[simp] theorem mLidx_ (i : Nat) (ma : Cm D) (ρ : DE) : mLidx i ma ρ = match ρ[i]? with
  | some (some (.lst _ _)) => (ma ρ).bind fun d ρ => match (ρ[i]?).join, d with
    | some (.lst _ xs), .sc z => match scs xs with
      | some l => match l.findIdx? (fun y => y.eqB z) with
        | some j => .ok (.int j) ρ
        | none => .stuck
      | none => .stuck
    | _, _ => .stuck
  | _ => .stuck := rfl
theorem e_lidx {y : Str} {apos : Pos} {i : Nat} (hK : X.K = g.c.K) (hp : PE X (.Call (.Attribute (.Name y p) "index" apos) [a] [] pos) (tBM X.K "list" (rIndex X.K) (tVar i) (tA g W [ma]))) : PE X (.Call (.Attribute (.Name y p) "index" apos) [a] [] pos) (tE g W (mLidx i ma)) :=
  hp.imp fun σ H Q ⟨sl, tm, s, h⟩ => by
    unfold mLidx at h
    split at h
    · rename_i o xs e0
      obtain ⟨p, e3, hty⟩ := some_list hK s e0
      refine ⟨_, e3, hty, tA1 s h fun H1 sl1 t s1 h1 => ?_⟩
      split at h1
      · rename_i zo ys z e1 e2
        have e1' : (den sl1)[i]? = some (some (.lst zo ys)) := by
          cases q : (den sl1)[i]? with
          | none => rw [q] at e1; simp at e1
          | some o => rw [q] at e1; simp at e1; rw [e1]
        obtain ⟨u, g1, g2, g4, g3⟩ := s1.val e1'
        cases u with
        | lst p' o' ts =>
          simp only [T.d, D.lst.injEq] at g2
          obtain ⟨rfl, rfl⟩ := g2
          rw [e3] at g3
          cases g3
          split at h1
          · rename_i l hl
            split at h1
            · rename_i j hj
              have sk := scs_ok hl
              obtain ⟨q1, q2, q3⟩ := List.findIdx?_eq_some_iff_getElem.mp hj
              cases t with
              | sc w =>
                simp only [T.d, D.sc.injEq] at e2
                subst e2
                have fw : flatV w.v = true := by cases w <;> rfl
                refine ⟨p, _, w.v, j, l[j].v, rfl, rfl, by rw [hK]; exact (lst_sq g4).1, fw, sk.2, ?_, ?_, fun m z' hm he => ?_, h1 H1 sl1 (.sc (.int j)) (s1.pop.push _ trivial) rfl rfl⟩
                · rw [sk.1, List.getElem?_map, List.getElem?_eq_getElem q1]; rfl
                · rw [eqV_sc]; exact q2
                · rw [sk.1, List.getElem?_map, Option.map_eq_some_iff] at he
                  obtain ⟨v, hv, rfl⟩ := he
                  have hml : m < l.length := by omega
                  rw [List.getElem?_eq_getElem hml] at hv
                  cases hv
                  rw [eqV_sc]
                  have := q3 m hm
                  simpa using this
              | _ => simp [T.d] at e2
            · exact h1.elim
          · exact h1.elim
        | _ => simp [T.d] at g2
      · exact h1.elim
    · exact h.elim
/-! ### xs[::-1], tuple(xs) -/
def revD : D → Option D
  | .lst _ xs => if Ds.pur xs then some (.lst .own xs.reverse) else none
  | _ => none
@[simp] theorem revD_lst (o : Ow) (xs : List D) : revD (.lst o xs) = if xs.all D.pur then some (.lst .own xs.reverse) else none := by simp [revD, Ds.pur_all]
theorem Ts.d_rev (xs : List T) : Ts.d xs.reverse = (Ts.d xs).reverse := by simp [Ts.d_map]
theorem e_revL {oa : Opd} {k : Nat} {p1 p2 p3 : Pos} (hK : X.K = g.c.K) (ha : PE X a (tO g W oa)) : PE X (.Subscript a (.Slice none none (some (.UnaryOp .USub (.Constant (.int 1) k p1) p2)) p3) pos) (tE g W (mNew revD oa)) :=
  (pe_revL ha).imp fun σ H Q ⟨sl, tm, s, h⟩ => by
    refine tO.of s h fun H1 sl1 t1 v1 s1 d1 h1 => ?_
    have hm1 : ∀ u, t1 = some u → u ∈ xs? t1 tm := fun u e => by subst e; simp [xs?]
    split at h1
    · rename_i x ex
      obtain ⟨w, kw, ew, fw, hw⟩ := d1.tree s1 hm1 ex
      subst fw ew
      cases w with
      | lst p o xs =>
        simp only [T.d, revD] at h1
        split at h1
        · rename_i hp
          have q := lst_sq kw
          refine ⟨p, _, rfl, by rw [hK]; exact q.1, fun n hn => ?_⟩
          have s2 := s1.copy (ys := xs.reverse) q.2.2 hp (fun a => by have := hw a; simp only [T.sh] at this; omega) (fun t m => List.mem_reverse.mp m) (by simpa using q.2.1) hn
          rw [List.map_reverse] at s2
          exact h1 _ _ _ s2 rfl (by simp [T.d, Ts.d_rev])
        · exact h1.elim
      | sc y => cases y <;> exact h1.elim
      | _ => exact h1.elim
    · exact h1.elim
theorem SR.copyT {H : Hp} {σ : L2.St} {sl : List (Option T)} {tm : List T} {t1 : Option T} {n : Addr} {xs : List T} (s : SR g H σ sl (xs? t1 tm)) (kx : Ts.ok g.c H xs) (hp : Ds.pur (Ts.d xs) = true)
    (hw : ∀ a, Ts.sh a xs ≤ So (T.sh a) sl + Ts.sh a (xs? t1 tm)) (hz : xs.length ≤ 16777216) (hn : H n = none) : SR g (upd H n (.tup (xs.map T.v))) σ sl (.tup n false xs :: tm) := by
  have hO : ∀ a, Ts.oc a xs = 0 := fun a => Nat.eq_zero_of_not_pos fun hpos => by
    obtain ⟨t, m, ht⟩ := Ts.pos_oc hpos
    have := T.pur_oc a t (Ds.pur_mem hp m)
    omega
  have hnew : SR g H σ sl (xs ++ tm) := by
    refine s.tmp ?_ fun a => ?_
    · rw [Ts.ok_iff]
      intro t m
      rcases List.mem_append.mp m with m | m
      · exact Ts.ok_iff.mp kx t m
      · exact Ts.ok_iff.mp s.xs.okT t m
    · have z1 := hO a
      have z3 := hw a
      rw [Ts.oc_append, Ts.sh_append]
      cases t1 with
      | none => simp only [xs?] at z3 ⊢; omega
      | some w => simp only [xs?, Ts.oc, Ts.sh] at z3 ⊢; omega
  exact hnew.newT hn hz kx fun z => by omega
def tupD : D → Option D
  | .lst _ xs => if Ds.pur xs then some (.tup xs) else none
  | _ => none
@[simp] theorem tupD_lst (o : Ow) (xs : List D) : tupD (.lst o xs) = if xs.all D.pur then some (.tup xs) else none := by simp [tupD, Ds.pur_all]
theorem e_tuple {oa : Opd} (hK : X.K = g.c.K) (hg : Gl X "tuple") (hm : X.mg "tuple" = none) (ha : PE X a (tO g W oa)) (he : starEach (a :: []) X.env = (false, eval a X.env) :: starEach [] X.env := by rfl) : PE X (.Call (.Name "tuple" p) [a] [] pos) (tE g W (mNew tupD oa)) :=
  (pe_callTy call_tuple_of hg hm (by decide +kernel) (pa_cons ha pa_nil he) (he := he)).imp fun σ H Q ⟨sl, tm, s, h⟩ => by
    refine tO.of s h fun H1 sl1 t1 v1 s1 d1 h1 => ?_
    have hm1 : ∀ u, t1 = some u → u ∈ xs? t1 tm := fun u e => by subst e; simp [xs?]
    split at h1
    · rename_i x ex
      obtain ⟨w, kw, ew, fw, hw⟩ := d1.tree s1 hm1 ex
      subst fw ew
      cases w with
      | lst p o xs =>
        simp only [T.d, tupD] at h1
        split at h1
        · rename_i hp
          have q := lst_sq kw
          refine ⟨p, _, rfl, .inl ⟨by rw [hK]; exact q.1, fun n hn => ?_⟩⟩
          exact h1 _ _ _ (s1.copyT q.2.2 hp (fun a => by have := hw a; simp only [T.sh] at this; omega) q.2.1 hn) rfl rfl
        · exact h1.elim
      | sc y => cases y <;> exact h1.elim
      | _ => exact h1.elim
    · exact h1.elim
/-! ### xs + ys of lists whoever holds them -/
def rCatLA (K : PySem.W.Frag) : R2 := fun x y H Q => ∃ l b xs zs, x = .ref l ∧ y = .ref b ∧ SqL K H l xs ∧ SqL K H b zs ∧ xs.length + zs.length ≤ sizeLine ∧ ∀ p, H p = none → Q (.ref p) (upd H p (.lst (xs ++ zs)))
theorem op_catLA : OpR X (binaryOp .Add) (rCatLA X.K) := by
  intro pins s σ H x y v u Q I rx ry h
  obtain ⟨l, b, xs, zs, rfl, rfl, hH, hB, hz, q⟩ := h
  cases rx
  cases ry
  obtain ⟨its, r, ⟨⟨cls, dd, data, sl⟩, n, ho, hc, hdn, hd⟩, hl⟩ := I.list hH
  obtain ⟨its2, r2, ⟨⟨cls2, dd2, data2, sl2⟩, n2, ho2, hc2, hdn2, hd2⟩, hl2⟩ := I.list hB
  simp only at hc hd hc2 hd2
  subst hc hd hc2 hd2
  have e1 := r.length
  have e2 := r2.length
  refine concat_meets ⟨_, ho, rfl⟩ ⟨_, ho2, rfl⟩ noFill_list_add seq_list_add PySem.F.slot_list_add PySem.F.entry_list_add (PySem.F.args_list_add_2 _ _) (list_addW l b its.toArray its2.toArray n n2 dd dd2 sl sl2 (by rw [List.size_toArray, List.size_toArray]; omega)) ⟨ho, ho2, ?_⟩
  have ea : its.toArray ++ its2.toArray = (its ++ its2).toArray := by simp
  rw [ea]
  exact ⟨.ref _, _, I.lnew (t' := s.toks) (r.append r2) (by rw [List.length_append]; omega), rfl, q _ I.fresh⟩
def catLD : D → D → Option D
  | .lst _ xs, .lst _ ys => if xs.length + ys.length ≤ 16777216 then some (.lst .own (xs ++ ys)) else none
  | _, _ => none
@[simp] theorem catLD_ (o p : Ow) (xs ys : List D) : catLD (.lst o xs) (.lst p ys) = if xs.length + ys.length ≤ 16777216 then some (.lst .own (xs ++ ys)) else none := (rfl)
theorem e_catL (hK : X.K = g.c.K) (ha : PE X a (tE g W ma)) (hb : PE X b (tE g W mb)) : PE X (.BinOp a .Add b pos) (tE g W (mBin catLD ma mb)) := by
  refine (pe_op op_catLA ha hb).imp (bin_imp fun H σ sl tm t1 t2 d Q s h k => ?_)
  have k1 : t1.ok g.c H := by have := s.okT; simp only [Ts.ok] at this; exact this.2.1
  have k2 := s.top
  rw [hK]
  cases t1 with
  | lst a o xs =>
    cases t2 with
    | lst b p ys =>
      simp only [T.d, catLD, Ts.d_len] at h
      split at h
      · rename_i hc
        cases h
        have q1 := lst_sq k1
        have q2 := lst_sq k2
        refine ⟨a, b, xs.map T.v, ys.map T.v, rfl, rfl, q1.1, q2.1, by rw [SZ_eq]; simpa using hc, fun q nq => ?_⟩
        have s' := s.newL (xs := [.lst b p ys, .lst a o xs]) (tm := tm) (ts := xs ++ ys) nq (by simpa using hc)
            (Ts.ok_iff.mpr fun t m => by
              rcases List.mem_append.mp m with m | m
              · exact Ts.ok_iff.mp q1.2.2 t m
              · exact Ts.ok_iff.mp q2.2.2 t m) (fun z => by
              simp only [Ts.oc_append, Ts.sh_append, Ts.oc, Ts.sh, T.oc, T.sh]; omega)
        rw [List.map_append] at s'
        exact k _ _ s' (by simp [T.d, Ts.d_append])
      · cases h
    | sc y => simp [T.d, catLD] at h
    | _ => simp [T.d, catLD] at h
  | _ => simp [T.d, catLD] at h
end
end VS

/-! VS, part A: a list within a slot's list is changed. -/
namespace VS
open PySem PySem.Spec PyProof.Rows L2
theorem Ts.oc_setE (a : Addr) (x : T) : ∀ (ts : List T) (n : Nat) (y : T), ts[n]? = some y → Ts.oc a (ts.set n x) + y.oc a = Ts.oc a ts + x.oc a
  | [], n, y, h => by simp at h
  | u :: ts, 0, y, h => by simp at h; subst h; simp [Ts.oc]; omega
  | u :: ts, n + 1, y, h => by have := Ts.oc_setE a x ts n y (by simpa using h); simp [Ts.oc]; omega
theorem Ts.sh_setE (a : Addr) (x : T) : ∀ (ts : List T) (n : Nat) (y : T), ts[n]? = some y → Ts.sh a (ts.set n x) + y.sh a = Ts.sh a ts + x.sh a
  | [], n, y, h => by simp at h
  | u :: ts, 0, y, h => by simp at h; subst h; simp [Ts.sh]; omega
  | u :: ts, n + 1, y, h => by have := Ts.sh_setE a x ts n y (by simpa using h); simp [Ts.sh]; omega
section
variable {g : Gh}
theorem SR.writeN {H : Hp} {σ : L2.St} {sl : List (Option T)} {tm es : List T} {i n : Nat} {P p : Addr} {ts xs zs : List T} (s : SR g H σ sl (es ++ tm)) (h : sl[i]? = some (some (T.lst P .own ts))) (hn : ts[n]? = some (T.lst p .own xs)) (hz : zs.length ≤ 16777216)
    (hk : Ts.ok g.c H zs) (ho : ∀ a, Ts.oc a zs ≤ Ts.oc a xs + Ts.oc a es) (hs : ∀ a, 0 < Ts.sh a zs → 0 < Ts.sh a xs + Ts.sh a es) :
    SR g (upd H p (.lst (zs.map T.v))) σ (sl.set i (some (T.lst P .own (ts.set n (T.lst p .own zs))))) tm := by
  have hmem := s.slot h
  have k := s.okS _ hmem
  simp only [T.ok] at k
  have hm := List.mem_of_getElem? hn
  have b1 : b2 (True ∧ True) = 1 := by simp [b2]
  have so : ∀ a, Ts.oc a (ts.set n (T.lst p .own zs)) + Ts.oc a xs = Ts.oc a ts + Ts.oc a zs := fun a => by
    have := Ts.oc_setE a (T.lst p .own zs) ts n _ hn
    simp only [T.oc] at this
    omega
  have ss : ∀ a, Ts.sh a (ts.set n (T.lst p .own zs)) + Ts.sh a xs = Ts.sh a ts + Ts.sh a zs := fun a => by
    have := Ts.sh_setE a (T.lst p .own zs) ts n _ hn
    simp only [T.sh] at this
    omega
  have xo : ∀ a, b2 (Ow.own = Ow.own ∧ p = a) + Ts.oc a xs ≤ Ts.oc a ts := fun a => by
    have := Ts.oc_mem (a := a) hm
    simpa [T.oc] using this
  have xsh : ∀ a, Ts.sh a xs ≤ Ts.sh a ts := fun a => by
    have := Ts.sh_mem (a := a) hm
    simp only [T.sh] at this
    omega
  have g1 := So_get (f := T.oc p) hmem
  have g1s := So_get (f := T.sh p) hmem
  simp only [T.oc] at g1
  simp only [T.sh] at g1s
  have iv := s.inv p
  rw [Ts.oc_append, Ts.sh_append] at iv
  have xp := xo p
  rw [show b2 (Ow.own = Ow.own ∧ p = p) = 1 from by simp [b2]] at xp
  have hP : P ≠ p := fun e => by
    subst e
    rw [show b2 (True ∧ P = P) = 1 from by simp [b2]] at g1
    omega
  have c1 : ∀ a, So (T.oc a) (sl.set i (some (T.lst P .own (ts.set n (T.lst p .own zs))))) + Ts.oc a xs = So (T.oc a) sl + Ts.oc a zs := fun a => by
    have := So_set (f := T.oc a) (x := some (T.lst P .own (ts.set n (T.lst p .own zs)))) h
    simp only [fO, T.oc] at this
    have := so a
    omega
  have c2 : ∀ a, So (T.sh a) (sl.set i (some (T.lst P .own (ts.set n (T.lst p .own zs))))) + Ts.sh a xs = So (T.sh a) sl + Ts.sh a zs := fun a => by
    have := So_set (f := T.sh a) (x := some (T.lst P .own (ts.set n (T.lst p .own zs)))) h
    simp only [fO, T.sh] at this
    have := ss a
    omega
  have k0 : Ts.oc p zs = 0 ∧ Ts.sh p zs = 0 ∧ Ts.sh p ts = 0 ∧ Ts.oc p ts = 1 := by
    have h1 := ho p
    have h2 := hs p
    have h3 := xsh p
    omega
  have kin : T.ok g.c (upd H p (.lst (zs.map T.v))) (T.lst P .own (ts.set n (T.lst p .own zs))) := by
    simp only [T.ok]
    refine ⟨?_, by simpa using k.2.1, ?_⟩
    · rw [upd_ne hP, k.1, List.map_set]
      congr 2
      have e2 : (ts.map T.v)[n]? = some (T.lst p .own xs).v := by rw [List.getElem?_map, hn]; rfl
      obtain ⟨hl, e3⟩ := List.getElem?_eq_some_iff.1 e2
      exact ((List.set_getElem_self hl).symm.trans (by rw [e3]; rfl))
    · rw [Ts.ok_iff]
      intro t m
      obtain ⟨j, hj⟩ := mem_get m
      rcases set_get hj with ⟨rfl, e'⟩ | ⟨ne, e'⟩
      · subst e'
        simp only [T.ok]
        exact ⟨upd_same, hz, Ts.stay zs hk fun a q => upd_ne fun e => by subst e; omega⟩
      · refine T.stay t (Ts.ok_iff.mp k.2.2 t (List.mem_of_getElem? e')) fun a q => upd_ne fun ea => ?_
        subst ea
        have d0 := Ts.oc_setE a (T.sc .non) ts n _ hn
        have d1 := Ts.oc_mem (a := a) (ts := ts.set n (T.sc .non)) (t := t) (List.mem_of_getElem? (i := j) (by rw [List.getElem?_set_ne (Ne.symm ne)]; exact e'))
        have d2 := Ts.sh_mem (a := a) (List.mem_of_getElem? e')
        simp only [T.oc] at d0
        rw [b1] at d0
        omega
  refine s.go (fun t m => ?_) ?_ (fun a => .inl ?_) (fun a => ?_) s.len (by simp [s.slen]) (fun j t hj => ?_) s.io
  · obtain ⟨j, hj⟩ := mem_get m
    rcases set_get hj with ⟨rfl, e'⟩ | ⟨ne, e'⟩
    · cases e'; exact kin
    · have e := List.mem_of_getElem? e'
      refine T.stay t (s.okS t e) fun a q => upd_ne fun ea => ?_
      subst ea
      have d0 := So_set (f := T.oc a) (x := none) h
      have d1 := So_get (f := T.oc a) (sl := sl.set i none) (t := t) (List.mem_of_getElem? (i := j) (by rw [List.getElem?_set_ne (Ne.symm ne)]; exact e'))
      have d2 := So_get (f := T.sh a) e
      simp only [fO, T.oc] at d0
      omega
  · have kt := s.okT
    rw [Ts.ok_iff] at kt ⊢
    intro t m
    refine T.stay t (kt t (List.mem_append_right _ m)) fun a q => upd_ne fun ea => ?_
    subst ea
    have h1 := Ts.oc_mem (a := a) m; have h2 := Ts.sh_mem (a := a) m
    omega
  · have d1 := c1 a
    have d2 := c2 a
    have h1 := ho a
    have h2 := hs a
    have g2 := So_get (f := T.sh a) hmem
    have g3 := So_get (f := T.oc a) hmem
    simp only [T.sh, T.oc] at g2 g3
    have g4 := xsh a
    have g5 := xo a
    rw [Ts.oc_append, Ts.sh_append]
    refine ⟨by omega, fun q => .inl ?_⟩
    omega
  · by_cases e : a = p
    · subst e
      refine .inr (.inr ?_)
      omega
    · exact .inl (upd_ne e)
  · rcases set_get hj with ⟨rfl, e⟩ | ⟨_, e⟩
    · cases e; have := s.at_ _ _ h; simpa [T.v] using this
    · exact s.at_ _ _ e
variable {X : Cx} {W : WX} {pos p : Pos} {a b : Expr} {ma mb : Cm D}
/-- x[m].append(y): y a name (v), or a constant (c) -/
inductive Sm where
  | v (j : Nat)
  | c (s : Sc)
def Sm.get (x : Sm) (i : Nat) (ρ : DE) : Option (D × DE) := match x with
  | .c s => some (.sc s, ρ)
  | .v j => match ρ[j]? with
    | some (some d) => if j = i then none else some (d.fz, ρ.set j (some d.fz))
    | _ => none
def mAppN (i : Nat) (mb : Cm D) (x : Sm) : Cm D := fun ρ => match ρ[i]? with
  | some (some (.lst .own _)) => (mb ρ).bind fun kx ρ => match ρ[i]?, kx with
    | some (some (.lst .own xs)), .sc (.int k) => match ixN xs.length k with
      | some n => match xs[n]?, x.get i ρ with
        | some (.lst .own zs), some (d, ρ) => if zs.length < 16777216 then .ok .non (ρ.set i (some (.lst .own (xs.set n (.lst .own (zs ++ [d])))))) else .stuck
        | _, _ => .stuck
      | none => .stuck
    | _, _ => .stuck
  | _ => .stuck
@[simp] theorem mAppN_ (i : Nat) (mb : Cm D) (x : Sm) (ρ : DE) : mAppN i mb x ρ = match ρ[i]? with
  | some (some (.lst .own _)) => (mb ρ).bind fun kx ρ => match ρ[i]?, kx with
    | some (some (.lst .own xs)), .sc (.int k) => match ixN xs.length k with
      | some n => match xs[n]?, x.get i ρ with
        | some (.lst .own zs), some (d, ρ) => if zs.length < 16777216 then .ok .non (ρ.set i (some (.lst .own (xs.set n (.lst .own (zs ++ [d])))))) else .stuck
        | _, _ => .stuck
      | none => .stuck
    | _, _ => .stuck
  | _ => .stuck := rfl
@[simp] theorem Smget_c (s : Sc) (i : Nat) (ρ : DE) : (Sm.c s).get i ρ = some (.sc s, ρ) := rfl
@[simp] theorem Smget_v (j i : Nat) (ρ : DE) : (Sm.v j).get i ρ = match ρ[j]? with
    | some (some d) => if j = i then none else some (d.fz, ρ.set j (some d.fz))
    | _ => none := rfl
/-- the reading of the argument -/
def tSm : Sm → TE
  | .v j => tVar j
  | .c s => fun _ H Q => s.good ∧ Q s.v H
theorem own_sub {H : Hp} {σ : L2.St} {sl : List (Option T)} {tm : List T} {i n : Nat} {xs zs : List D} (s : SR g H σ sl tm) (h : (den sl)[i]? = some (some (.lst .own xs))) (hn : xs[n]? = some (.lst .own zs)) :
    ∃ P p ts us, sl[i]? = some (some (T.lst P .own ts)) ∧ Ts.d ts = xs ∧ ts[n]? = some (T.lst p .own us) ∧ Ts.d us = zs ∧ H P = some (.lst (ts.map T.v)) ∧ H p = some (.lst (us.map T.v)) ∧ Ts.ok g.c H us ∧ us.length ≤ 16777216 ∧ σ[i]? = some (some (.ref P)) := by
  obtain ⟨P, ts, g1, rfl, g3, g4, g5⟩ := own_list s h
  rw [Ts.d_map, List.getElem?_map, Option.map_eq_some_iff] at hn
  obtain ⟨u, hu, e⟩ := hn
  cases u with
  | lst p o us =>
    simp only [T.d, D.lst.injEq] at e
    obtain ⟨rfl, rfl⟩ := e
    have k := Ts.ok_iff.mp g4 _ (List.mem_of_getElem? hu)
    simp only [T.ok] at k
    exact ⟨P, p, ts, us, g1, rfl, hu, rfl, g3, k.1, k.2.2, k.2.1, g5⟩
  | _ => simp [T.d] at e
theorem ixN_rIx {K : PySem.W.Frag} {P : Addr} {xs : List V} {k : Int} {n : Nat} {v : V} {H : Hp} {Q : VK} (h : H P = some (.lst xs)) (hk : ixN xs.length k = some n) (hv : xs[n]? = some v) (q : Q v H) : rIx K (.ref P) (.int k) H Q := by
  refine .inl ⟨P, xs, k, v, rfl, rfl, .of h, ?_, q⟩
  unfold atI
  rw [hk]
  exact hv
theorem e_appN {y : Str} {apos spos : Pos} {i : Nat} {x : Sm} (hK : X.K = g.c.K) (hp : PE X (.Call (.Attribute (.Subscript (.Name y p) b spos) "append" apos) [a] [] pos) (tBM X.K "list" rAppend (tOp (rIx X.K) (tVar i) (tE g W mb)) (tCons (tSm x) tNil)))
    (hx : ∀ s, x = .c s → s.good := by intro s h; first | (cases h; done) | (cases h; trivial)) : PE X (.Call (.Attribute (.Subscript (.Name y p) b spos) "append" apos) [a] [] pos) (tE g W (mAppN i mb x)) :=
  hp.imp fun σ H Q ⟨sl, tm, s, h⟩ => by
    unfold mAppN at h
    split at h
    · rename_i xs0 e0
      obtain ⟨P0, ts0, _, _, _, _, e3⟩ := own_list s e0
      refine ⟨_, e3, tE.of s h fun H1 sl1 t s1 h1 => ?_⟩
      split at h1
      · rename_i xs k e1 ek
        split at h1
        · rename_i n hn
          split at h1
          · rename_i zs d ρ hz hg
            have s1' := s1.pop
            obtain ⟨P, p, ts, us, g1, rfl, g2, rfl, g3, g4, g5, g6, g7⟩ := own_sub s1' e1 hz
            rw [e3] at g7
            cases g7
            have hl : ixN (ts.map T.v).length k = some n := by rw [List.length_map, ← Ts.d_len]; exact hn
            cases t with
            | sc w =>
              simp only [T.d, D.sc.injEq] at ek
              subst ek
              refine ixN_rIx g3 hl (by rw [List.getElem?_map, g2]; rfl) ?_
              show tyV X.K "list" (.ref p) H1 ∧ _
              refine ⟨.inl ⟨rfl, _, .of g4⟩, ?_⟩
              split at h1
              · rename_i hlen
                rw [Ts.d_len] at hlen
                cases x with
                | c sx =>
                  simp only [Sm.get, Option.some.injEq, Prod.mk.injEq] at hg
                  obtain ⟨rfl, rfl⟩ := hg
                  have gx := hx sx rfl
                  refine ⟨gx, p, _, sx.v, rfl, rfl, g4, by rw [SZ_eq]; simpa using hlen, ?_⟩
                  have s2 := s1'.push sx gx
                  have s3 := SR.writeN (zs := us ++ [T.sc sx]) (es := [T.sc sx]) (tm := tm) s2 g1 g2 (by simp; omega) (by
                    rw [Ts.ok_iff]; intro u m
                    rcases List.mem_append.mp m with m | m
                    · exact Ts.ok_iff.mp g5 u m
                    · have e := List.mem_singleton.mp m; subst e; exact gx) (fun a => by simp [Ts.oc_append, Ts.oc]) (fun a => by simp [Ts.sh_append, Ts.sh])
                  rw [List.map_append] at s3
                  exact h1 _ _ (.sc .non) (s3.push _ trivial) (by rw [den_set]; simp [T.d, Ts.d_set, Ts.d_append, Ts.d]) rfl
                | v j =>
                  simp only [Sm.get] at hg
                  split at hg
                  · rename_i dj hj
                    split at hg
                    · cases hg
                    · rename_i hji
                      simp only [Option.some.injEq, Prod.mk.injEq] at hg
                      obtain ⟨rfl, rfl⟩ := hg
                      obtain ⟨tj, f1, f2, _, f3⟩ := s1'.val hj
                      refine ⟨tj.v, f3, p, _, tj.v, rfl, rfl, g4, by rw [SZ_eq]; simpa using hlen, ?_⟩
                      have s2 := s1'.read f1
                      have g1' : (sl1.set j (some tj.fz))[i]? = some (some (T.lst P0 .own ts)) := by rw [List.getElem?_set_ne hji]; exact g1
                      have s3 := SR.writeN (zs := us ++ [tj.fz]) (es := [tj.fz]) (tm := tm) s2 g1' g2 (by simp; omega) (by
                        rw [Ts.ok_iff]; intro u m
                        rcases List.mem_append.mp m with m | m
                        · exact Ts.ok_iff.mp g5 u m
                        · have e := List.mem_singleton.mp m; subst e; exact s2.top) (fun a => by simp [Ts.oc_append, Ts.oc]) (fun a => by simp [Ts.sh_append, Ts.sh])
                      rw [List.map_append, List.map_cons, List.map_nil, T.fz_v] at s3
                      exact h1 _ _ (.sc .non) (s3.push _ trivial) (by rw [den_set, den_set]; subst f2; simp [T.d, Ts.d_set, Ts.d_append, Ts.d, T.fz_d]) rfl
                  · cases hg
              · exact h1.elim
            | _ => simp [T.d] at ek
          · exact h1.elim
        · exact h1.elim
      · exact h1.elim
    · exact h.elim
/-- x[m][k2] = e, k2 a number -/
def mSetIN (i : Nat) (mb : Cm D) (k2 : Int) : D → Cm Unit := fun d ρ => match ρ[i]? with
  | some (some (.lst .own _)) => (mb ρ).bind fun kx ρ => match ρ[i]?, kx with
    | some (some (.lst .own xs)), .sc (.int k) => match ixN xs.length k with
      | some n => match xs[n]? with
        | some (.lst .own zs) => match ixN zs.length k2 with
          | some n2 => .ok () (ρ.set i (some (.lst .own (xs.set n (.lst .own (zs.set n2 d))))))
          | none => .stuck
        | _ => .stuck
      | none => .stuck
    | _, _ => .stuck
  | _ => .stuck
@[simp] theorem mSetIN_ (i : Nat) (mb : Cm D) (k2 : Int) (d : D) (ρ : DE) : mSetIN i mb k2 d ρ = match ρ[i]? with
  | some (some (.lst .own _)) => (mb ρ).bind fun kx ρ => match ρ[i]?, kx with
    | some (some (.lst .own xs)), .sc (.int k) => match ixN xs.length k with
      | some n => match xs[n]? with
        | some (.lst .own zs) => match ixN zs.length k2 with
          | some n2 => .ok () (ρ.set i (some (.lst .own (xs.set n (.lst .own (zs.set n2 d))))))
          | none => .stuck
        | _ => .stuck
      | none => .stuck
    | _, _ => .stuck
  | _ => .stuck := rfl
theorem g_setN {y : Str} {spos tpos : Pos} {i : Nat} {k2 : Int} (hp : PG X (.Subscript (.Subscript (.Name y p) b spos) a tpos) (gSub (tOp (rIx X.K) (tVar i) (tE g W mb)) (tC (.int k2)) rSetL)) : PG X (.Subscript (.Subscript (.Name y p) b spos) a tpos) (tG g W (mSetIN i mb k2)) :=
  hp.imp fun v σ H Q ⟨sl, tm, t, s, e, h⟩ => by
    subst e
    unfold mSetIN at h
    split at h
    · rename_i xs0 e0
      obtain ⟨P0, ts0, _, _, _, _, e3⟩ := own_list s e0
      refine ⟨_, e3, tE.of s (Lands.drop h) fun H1 sl1 u s1 h1 => ?_⟩
      split at h1
      · rename_i xs k e1 ek
        split at h1
        · rename_i n hn
          split at h1
          · rename_i zs hz
            split at h1
            · rename_i n2 hn2
              have s1' := s1.pop
              obtain ⟨P, p, ts, us, g1, rfl, g2, rfl, g3, g4, g5, g6, g7⟩ := own_sub s1' e1 hz
              rw [e3] at g7
              cases g7
              have hl : ixN (ts.map T.v).length k = some n := by rw [List.length_map, ← Ts.d_len]; exact hn
              cases u with
              | sc w =>
                simp only [T.d, D.sc.injEq] at ek
                subst ek
                refine ixN_rIx g3 hl (by rw [List.getElem?_map, g2]; rfl) ?_
                refine ⟨p, us.map T.v, k2, n2, rfl, rfl, g4, by rw [List.length_map, ← Ts.d_len]; exact hn2, ?_⟩
                have s3 := SR.writeN (zs := us.set n2 t) (es := [t]) (tm := tm) s1' g1 g2 (by simpa using g6) (by
                  rw [Ts.ok_iff]; intro w m
                  rcases mem_set m with e | m
                  · subst e; exact s1'.top
                  · exact Ts.ok_iff.mp g5 w m) (fun a => by have := Ts.oc_set a t us n2; simp only [Ts.oc]; omega) (fun a => by have := Ts.sh_set a t us n2; simp only [Ts.sh]; omega)
                rw [List.map_set] at s3
                exact h1 _ _ _ s3 (by rw [den_set]; simp [T.d, Ts.d_set])
              | _ => simp [T.d] at ek
            · exact h1.elim
          · exact h1.elim
        · exact h1.elim
      · exact h1.elim
    · exact h.elim
theorem sm_v {x : Str} {j : Nat} (hp : PE X (.Name x pos) (tVar j)) : PE X (.Name x pos) (tSm (.v j)) := hp
theorem sm_int {k : Int} {j : Nat} : PE X (.Constant (.int k) j pos) (tSm (.c (.int k))) := pe_int.imp fun _ _ _ h => h.2
theorem sm_non {j : Nat} : PE X (.Constant .none j pos) (tSm (.c .non)) := pe_non.imp fun _ _ _ h => h.2
end
/-! ### startswith, endswith -/
def startswithM : D → D → Option Sc
  | .sc (.str a), .sc (.str b) => some (.bl (a.take b.length == b))
  | _, _ => none
def endswithM : D → D → Option Sc
  | .sc (.str a), .sc (.str b) => some (.bl (a.drop (a.length - b.length) == b))
  | _, _ => none
@[simp] theorem startswithM_ (a b : List Nat) : startswithM (.str a) (.str b) = some (.bl (a.take b.length == b)) := rfl
@[simp] theorem endswithM_ (a b : List Nat) : endswithM (.str a) (.str b) = some (.bl (a.drop (a.length - b.length) == b)) := rfl
theorem arr_beq (x y : List Nat) : (x.toArray == y.toArray) = (x == y) := by
  cases h : x == y with
  | true => have := beq_iff_eq.1 h; subst this; simp
  | false =>
    have : x ≠ y := by intro e; subst e; simp at h
    simpa using this
theorem starts_eq (a b : List Nat) : Txt.startswith ⟨a.toArray⟩ ⟨b.toArray⟩ = (a.take b.length == b) := by
  have e : (⟨a.toArray⟩ : Str).cps.extract 0 (0 + (⟨b.toArray⟩ : Str).length) = (a.take b.length).toArray := by simp [Str.length]
  unfold Txt.startswith Builtin.Str.subAt
  rw [e, arr_beq]
  by_cases q : b.length ≤ a.length
  · have : decide (0 + (⟨b.toArray⟩ : Str).length ≤ (⟨a.toArray⟩ : Str).length) = true := by simpa [Str.length] using q
    rw [this, Bool.true_and]
  · have : decide (0 + (⟨b.toArray⟩ : Str).length ≤ (⟨a.toArray⟩ : Str).length) = false := by simpa [Str.length] using q
    rw [this, Bool.false_and]
    have n : a.take b.length ≠ b := fun e => by have := congrArg List.length e; simp at this; omega
    exact (beq_eq_false_iff_ne.2 n).symm
theorem ends_eq (a b : List Nat) : Txt.endswith ⟨a.toArray⟩ ⟨b.toArray⟩ = (a.drop (a.length - b.length) == b) := by
  unfold Txt.endswith Builtin.Str.subAt
  by_cases q : b.length ≤ a.length
  · have : decide (0 + (⟨b.toArray⟩ : Str).length ≤ (⟨a.toArray⟩ : Str).length) = true := by simpa [Str.length] using q
    rw [this, Bool.true_and]
    have e : (⟨a.toArray⟩ : Str).cps.extract ((⟨a.toArray⟩ : Str).length - (⟨b.toArray⟩ : Str).length) ((⟨a.toArray⟩ : Str).length - (⟨b.toArray⟩ : Str).length + (⟨b.toArray⟩ : Str).length) = (a.drop (a.length - b.length)).toArray := by
      simp only [Str.length, List.size_toArray, List.extract_toArray]
      rw [Nat.sub_add_cancel q, List.extract_eq_drop_take]
      congr 1
      exact List.take_of_length_le (by simp)
    rw [e, arr_beq]
  · have : decide (0 + (⟨b.toArray⟩ : Str).length ≤ (⟨a.toArray⟩ : Str).length) = false := by simpa [Str.length] using q
    rw [this, Bool.false_and]
    have n : a.drop (a.length - b.length) ≠ b := fun e => by have := congrArg List.length e; simp at this; omega
    exact (beq_eq_false_iff_ne.2 n).symm
theorem hs_startswith {g : Gh} : HM1 g startswithM (fun x xs H Q => ∃ a b, x = .str a ∧ xs = [.str b] ∧ Q (.bl (Txt.startswith a b)) H) := fun H u1 u2 c Q k1 k2 h q => by
  cases u1 with
  | sc x =>
    cases u2 with
    | sc y =>
      cases x <;> cases y <;> simp [T.d, startswithM] at h
      subst h
      exact ⟨_, _, rfl, rfl, by rw [starts_eq]; exact q trivial⟩
    | _ => cases x <;> simp [T.d, startswithM] at h
  | _ => simp [T.d, startswithM] at h
theorem hs_endswith {g : Gh} : HM1 g endswithM (fun x xs H Q => ∃ a b, x = .str a ∧ xs = [.str b] ∧ Q (.bl (Txt.endswith a b)) H) := fun H u1 u2 c Q k1 k2 h q => by
  cases u1 with
  | sc x =>
    cases u2 with
    | sc y =>
      cases x <;> cases y <;> simp [T.d, endswithM] at h
      subst h
      exact ⟨_, _, rfl, rfl, by rw [ends_eq]; exact q trivial⟩
    | _ => cases x <;> simp [T.d, endswithM] at h
  | _ => simp [T.d, endswithM] at h
end VS

/-! VS, part B: x[m][k] looked at where it stands; pairs that are lists. -/
namespace VS
open PySem PySem.Spec PyProof.Rows L2
section
variable {X : Cx} {g : Gh} {W : WX} {pos p : Pos} {a b : Expr} {ma mb : Cm D}
/-- x[m][k], a scalar, looked at where it stands -/
def mPeek (i : Nat) (mb : Cm D) (k2 : Int) : Cm D := fun ρ => match ρ[i]? with
  | some (some (.lst .own _)) => (mb ρ).bind fun kx ρ => match ρ[i]?, kx with
    | some (some (.lst .own xs)), .sc (.int k) => match ixN xs.length k with
      | some n => match xs[n]? with
        | some (.lst .own zs) => match atI zs k2 with
          | some (.sc s) => .ok (.sc s) ρ
          | _ => .stuck
        | _ => .stuck
      | none => .stuck
    | _, _ => .stuck
  | _ => .stuck
@[simp] theorem mPeek_ (i : Nat) (mb : Cm D) (k2 : Int) (ρ : DE) : mPeek i mb k2 ρ = match ρ[i]? with
  | some (some (.lst .own _)) => (mb ρ).bind fun kx ρ => match ρ[i]?, kx with
    | some (some (.lst .own xs)), .sc (.int k) => match ixN xs.length k with
      | some n => match xs[n]? with
        | some (.lst .own zs) => match atI zs k2 with
          | some (.sc s) => .ok (.sc s) ρ
          | _ => .stuck
        | _ => .stuck
      | none => .stuck
    | _, _ => .stuck
  | _ => .stuck := rfl
theorem e_peek {y : Str} {spos tpos : Pos} {i : Nat} {k2 : Int} (hp : PE X (.Subscript (.Subscript (.Name y p) b spos) a tpos) (tOp (rIx X.K) (tOp (rIx X.K) (tVar i) (tE g W mb)) (tC (.int k2)))) : PE X (.Subscript (.Subscript (.Name y p) b spos) a tpos) (tE g W (mPeek i mb k2)) :=
  hp.imp fun σ H Q ⟨sl, tm, s, h⟩ => by
    unfold mPeek at h
    split at h
    · rename_i xs0 e0
      obtain ⟨P0, ts0, _, _, _, _, e3⟩ := own_list s e0
      refine ⟨_, e3, tE.of s h fun H1 sl1 u s1 h1 => ?_⟩
      split at h1
      · rename_i xs k e1 ek
        split at h1
        · rename_i n hn
          split at h1
          · rename_i zs hz
            split at h1
            · rename_i sx hsx
              have s1' := s1.pop
              obtain ⟨P, p, ts, us, g1, rfl, g2, rfl, g3, g4, g5, g6, g7⟩ := own_sub s1' e1 hz
              rw [e3] at g7
              cases g7
              have hl : ixN (ts.map T.v).length k = some n := by rw [List.length_map, ← Ts.d_len]; exact hn
              cases u with
              | sc w =>
                simp only [T.d, D.sc.injEq] at ek
                subst ek
                refine ixN_rIx g3 hl (by rw [List.getElem?_map, g2]; rfl) ?_
                rw [Ts.d_map, atI_map, Option.map_eq_some_iff] at hsx
                obtain ⟨t, ht, hd⟩ := hsx
                have tm' := atI_mem ht
                cases t with
                | sc v =>
                  simp only [T.d, D.sc.injEq] at hd
                  subst hd
                  have gk := Ts.ok_iff.mp g5 _ tm'
                  simp only [T.ok] at gk
                  refine .inl ⟨p, us.map T.v, k2, v.v, rfl, rfl, .of g4, by rw [atI_map, ht]; rfl, ?_⟩
                  exact h1 _ _ (.sc v) (s1'.push v gk) rfl rfl
                | _ => simp [T.d] at hd
              | _ => simp [T.d] at ek
            · exact h1.elim
          · exact h1.elim
        · exact h1.elim
      · exact h1.elim
    · exact h.elim
/-- x, y = a list of two -/
def mUnpL (fs : List (D → Cm Unit)) : D → Cm Unit
  | .lst _ ds => putAll fs ds
  | _ => fun _ => .stuck
@[simp] theorem mUnpL_ (fs : List (D → Cm Unit)) (o : Ow) (ds : List D) (ρ : DE) : mUnpL fs (.lst o ds) ρ = putAll fs ds ρ := (rfl)
theorem SR.openL {H : Hp} {σ : L2.St} {sl : List (Option T)} {tm : List T} {q : Addr} {o : Ow} {xs : List T} (s : SR g H σ sl (T.lst q o xs :: tm)) : SR g H σ sl (xs ++ tm) := by
  have k := lst_sq s.top
  refine s.tmp ?_ fun a => ?_
  · rw [Ts.ok_iff]
    intro t m
    rcases List.mem_append.mp m with m | m
    · exact Ts.ok_iff.mp k.2.2 t m
    · exact Ts.ok_iff.mp s.okT t (List.mem_cons_of_mem _ m)
  · simp only [Ts.oc_append, Ts.sh_append, Ts.oc, Ts.sh, T.oc, T.sh]
    omega
theorem hg_pairL {i j : Nat} (hij : i ≠ j) (hi : i < g.N) (hio : ∀ p ∈ g.io, p.1 ≠ i) (hj : j < g.N) (hjo : ∀ p ∈ g.io, p.1 ≠ j) {K : PySem.W.Frag} (hK : K = g.c.K) (v : V) (σ : L2.St) (H : Hp) (Q : L2.St → Hp → Prop)
    (h : tG g W0 (mUnpL [mPut i, mPut j]) v (L2.wipe σ [i, j]) H (fun σ2 H2 => L2.wipe σ2 [i, j] = L2.wipe σ [i, j] → Q σ2 H2)) :
    gLst K 2 (gCons (gName i) (gCons (gName j) gNil)) v (L2.wipe σ [i, j]) H fun σ2 H2 => L2.wipe σ2 [i, j] = L2.wipe σ [i, j] ∧ Q σ2 H2 := by
  obtain ⟨sl, tm, t, s, rfl, h⟩ := h
  cases t with
  | lst q o xs =>
    simp only [T.d, mUnpL] at h
    match xs, s, h with
    | [], _, h => exact h.elim
    | [_], _, h => exact absurd h (by simp [putAll, Ts.d, mPut, R.bind, Lands])
    | _ :: _ :: _ :: _, _, h => exact absurd h (by simp [putAll, Ts.d, mPut, R.bind, Lands])
    | [x, y], s, h =>
      have z := lst_sq s.top
      refine ⟨q, _, rfl, by rw [hK]; exact z.1, rfl, x.v, [y.v], rfl, y.v, [], rfl, rfl, ?_⟩
      have e : L2.wipe (((L2.wipe σ [i, j]).set i (some x.v)).set j (some y.v)) [i, j] = L2.wipe σ [i, j] := by
        simp only [L2.wipe]
        rw [List.set_set, List.set_comm _ _ hij, List.set_set, List.set_comm _ _ hij]
        simp [List.set_set]
      exact ⟨e, h H _ _ ((s.openL.store hi hio).store hj hjo) (by rw [den_set, den_set]; rfl) e⟩
  | _ => exact h.elim
end
end VS

/-! VS, part C: try with several clauses, the first one 'as e': the others are never asked. -/
namespace VS
open PySem PySem.Spec PyProof.Rows L2
/-- how the frame's ends look once the clause's name is gone -/
def endsAs (i : Nat) (D : Ends) : Ends where
  nx := fun τ h => D.nx (τ.set i none) h
  rt := D.rt
  bk := fun τ h => D.bk (τ.set i none) h
  ct := fun τ h => D.ct (τ.set i none) h
/-- what the first clause wishes of what the body raises: it is the clause's -/
def wFst (K : PySem.W.Frag) (c : Value) (i : Nat) (ts : Addr → Value → Option Addr → TS) (D : Ends) : WX := fun cls d τ h =>
  PySem.W.exmOne K cls c = some true ∧ ∀ a : Addr, h a = none → ts a cls d (endsAs i D) (τ.set i (some (V.ref a))) h
section
variable {X : Cx} {x n : Str} {c : Value} {i : Nat} {body suite : List Stmt} {s0 : Stmt} {np pos p2 : Pos} {others : List ExceptHandler} {tb : WX → TS} {ts : Addr → Value → Option Addr → TS}
theorem ps_first (hs : X.stack = X.env :: X.outer) (hf : X.env.frame = some X.env.locals) (hN : X.N.Nodup) (hi : X.N[i]? = some n) (hln : X.env.kindOf n = some .local) (hc : Names X x c)
    (hb : ∀ (W1 : WX) (q : List (Addr × Obj)) (xe : Value → Shared → Prop), Takes (X.tr q xe) W1 →
      PassesOwn (model X.prog X.w) X.A X.env xe → PSs (X.tr q xe) body (tb W1))
    (hsu : ∀ (a : Addr) (oe : Obj) (cls : Value) (d : Option Addr) (q : List (Addr × Obj)), Zc cls d oe →
      (∃ vs, oe.data = .fields vs) → PSs (X.suite a ((a, oe) :: q)) (s0 :: suite) (ts a cls d)) :
    PS X (.Try body (.ExceptHandler (some (.Name x np)) (some n) (s0 :: suite) p2 :: others) [] [] pos) (fun D τ h => tb (wFst X.K c i ts D) D τ h) := by
  constructor
  intro pins s σ H D I h
  have ok := I.ok
  have frames : X.A.frames = some (X.env :: X.outer) := by rw [ok.frames, hs]
  have loc : Loc X.env.scope n := .inl hln
  refine wpAny_Try_except ?_
  have walk := hb (wFst X.K c i ts D) (X.pn ++ pins)
    (fun e t1 => wpAny (model X.prog X.w) X.A (noteFrame e X.env)
      (fun _ t2 => wpAny (model X.prog X.w) X.A (setFlight e none)
        (fun _ t3 => wpAny (model X.prog X.w) X.A
          (handleBy e X.env (.ExceptHandler (some (.Name x np)) (some n) (s0 :: suite) p2 :: others)) (SP X pins D) X.xe t3) X.xe t2) X.xe t1)
    (by
      intro u s' raised
      obtain ⟨a, B, sI, pins', τ, h1, cls, d, rfl, J0, nb, up, sky, na, os, ag, w⟩ := raised
      obtain ⟨hit, wish⟩ := w
      have J : Inv X pins τ h1 sI := J0.ofTry ok
      rw [hs] at sky
      show wpAny (model X.prog X.w) X.A (noteFrame (.ref a) X.env) _ _ _
      refine Sky.land Zc.steady frames hf sky ?_
      intro h3 fl3 up3
      have J3 : Inv X pins τ h1 { s' with heap := h3 } := J.landed nb fl3.1 (up.trans up3) os ag
      obtain ⟨o3, v3, e3, z3, d3⟩ := fl3.there
      have out : a ∉ frs (X.env :: X.outer) := by
        intro m
        obtain ⟨_, o', e', no⟩ := fl3.2.2.1.mem m
        rw [e3] at e'
        cases e'
        exact no _ d3
      have nL : a ≠ X.env.locals := by
        intro z
        exact out (List.mem_filterMap.mpr ⟨X.env, List.mem_cons_self, by rw [hf, z]⟩)
      have nF : a ∉ X.fs := by
        intro m
        obtain ⟨e, he, q⟩ := List.mem_filterMap.mp m
        exact out (List.mem_filterMap.mpr ⟨e, List.mem_cons_of_mem _ he, q⟩)
      have S3 := J3.suite e3 d3 na nL nF
      refine wpAny_handleBy_cons (codeAny_handlers_test ?_) (by intro q; cases q)
      have looks : PySem.W.Looks (model X.prog X.w) h3 (typeOf (.ref a)) cls := by
        intro A Q E s k q
        exact wpAny_typeOf_ref (k _ _ e3) (by rw [z3.1]; exact q)
      have match_ := PySem.W.exm_one (M := model X.prog X.w) (J3.kIn) looks hit
      have named : ∀ {Q : Value → Shared → Prop} {E : Value → Shared → Prop}, Q c { s' with heap := h3 } →
          wpAny (model X.prog X.w) (X.A.mark (some (.ref a))) (eval (.Name x np) X.env) Q E { s' with heap := h3 } := by
        intro Q E q
        obtain ⟨g1, g2, g3 | ⟨g3, g4, g5⟩⟩ := hc
        · exact ld_glob (X := X.suite a ((a, o3) :: (X.pn ++ pins))) S3 g1 g3 q g2
        · exact ld_blt (X := X.suite a ((a, o3) :: (X.pn ++ pins))) S3 g1 g3 g4 q g5 g2
      refine named (match_.here ?_)
      refine codeAny_handlers_suite_as ?_
      refine HandSPX.lands_againZ fl3 ?_
      intro h4 fl4 up4
      have J4 : Inv X pins τ h1 { s' with heap := h4 } := J.landed nb fl4.1 ((up.trans up3).trans up4) os ag
      obtain ⟨o4, v4, e4, z4, d4⟩ := fl4.there
      have S4 := J4.suite e4 d4 na nL nF
      refine store_ok (X := X.suite a ((a, o4) :: (X.pn ++ pins))) (v := .ref a) S4 hN hi loc rfl ?_ (.inr hln)
      intro s5 S5
      have inner := (hsu a o4 cls d (X.pn ++ pins) z4 ⟨_, d4⟩).run [] s5 _ h1 _ S5 (wish a na)
      refine wpAny_mono inner ?_ (fun _ _ z => False.elim z)
      intro f s6 post
      have gone : ∀ {τ6 : L2.St} {h6 : Hp} {Q : Shared → Prop}, Inv (X.suite a ((a, o4) :: (X.pn ++ pins))) [] τ6 h6 s6 →
          (∀ s7, Inv X pins (τ6.set i none) h6 s7 → Q s7) →
          wpAny (model X.prog X.w) X.A (do bindName X.env n .none; unbindBehindTheSuite X.env n p2) (fun _ s7 => Q s7) X.xe s6 := by
        intro τ6 h6 Q S6 k
        exact gone_ok (S6.unsuite ok) hN hi hln k
      cases f with
      | next => obtain ⟨_, _, S6, k⟩ := post; exact gone S6 (fun s7 J7 => ⟨_, _, J7, k⟩)
      | brk => obtain ⟨_, _, S6, k⟩ := post; exact gone S6 (fun s7 J7 => ⟨_, _, J7, k⟩)
      | cont => obtain ⟨_, _, S6, k⟩ := post; exact gone S6 (fun s7 J7 => ⟨_, _, J7, k⟩)
      | ret u => obtain ⟨_, _, _, S6, r, k⟩ := post; exact gone S6 (fun s7 J7 => ⟨_, _, _, J7, r, k⟩))
    PassesOwn.looking
  refine wpAny_mono (walk.run [] s σ H D (I.toTry _) h) ?_ (fun e s1 he => he)
  intro f s1 post
  cases f with
  | next => obtain ⟨_, _, J', q⟩ := post; exact wpAny_execs_nil ⟨_, _, J'.ofTry ok, q⟩
  | brk => obtain ⟨_, _, J', q⟩ := post; exact ⟨_, _, J'.ofTry ok, q⟩
  | cont => obtain ⟨_, _, J', q⟩ := post; exact ⟨_, _, J'.ofTry ok, q⟩
  | ret u => obtain ⟨_, _, _, J', r, q⟩ := post; exact ⟨_, _, _, J'.ofTry ok, r, q⟩
end
/-- try: mb / except D as i: ms / other clauses, never asked -/
def mTryF (exm : String → String → Option Bool) (i : Nat) (Dn : String) (mb : Cm Out) (ms : Ex → Cm Out) : Cm Out := fun ρ => match mb ρ with
  | .ok o ρ => .ok o ρ
  | .stuck => .stuck
  | .exc x ρ => if x.cls = "dict" then .stuck else match exm x.cls Dn with
    | some true => match ms x (ρ.set i none) with
      | .ok o ρ => .ok o (ρ.set i none)
      | _ => .stuck
    | _ => .stuck
section
variable {X : Cx} {g : Gh} {W : WX} {pos pos' np : Pos} {x n : Str} {body suite : List Stmt} {b₀ : Stmt} {others : List ExceptHandler} {i : Nat} {Dn : String} {mb : Cm Out} {ms : Ex → Cm Out} {exm : String → String → Option Bool}
theorem s_tryF (hs : X.stack = X.env :: X.outer) (hf : X.env.frame = some X.env.locals) (hN : X.N.Nodup) (hi : X.N[i]? = some n) (hln : X.env.kindOf n = some .local) (hgl : Gl X x) (hdb : (x == ("__debug__" : Str)) = false) (gD : X.mg x = some (.ref (g.c.cls Dn)))
    (hx : ∀ C b, exm C Dn = some b → PySem.W.exmOne X.K (.ref (g.c.cls C)) (.ref (g.c.cls Dn)) = some b) (hi' : i < g.N) (hio : ∀ p ∈ g.io, p.1 ≠ i)
    (hb : ∀ (W' : WX) (pn : List (Addr × Obj)) (xe : Value → Shared → Prop), Takes (X.tr pn xe) W' → PassesOwn (model X.prog X.w) X.A X.env xe → PSs (X.tr pn xe) body (tS g W' mb))
    (hsu : ∀ (a : Addr) (oe : Obj) (cls : Value) (d : Option Addr) (pn : List (Addr × Obj)), Zc cls d oe → (∃ vs, oe.data = .fields vs) → ∀ y : Ex, XIs g cls d y ∧ exm y.cls Dn = some true → PSs (X.suite a ((a, oe) :: pn)) (b₀ :: suite) (tS (g.sx i a d y) (fun _ _ _ _ => False) (ms y))) :
    PS X (.Try body (.ExceptHandler (some (.Name x np)) (some n) (b₀ :: suite) pos' :: others) [] [] pos) (tS g W (mTryF exm i Dn mb ms)) := by
  refine (ps_first (c := .ref (g.c.cls Dn)) (ts := fun a cls d De σ H => ∃ y, (XIs g cls d y ∧ exm y.cls Dn = some true) ∧ tS (g.sx i a d y) (fun _ _ _ _ => False) (ms y) De σ H) (tb := fun W' => tS g W' mb) hs hf hN hi hln ⟨hgl, hdb, .inl gD⟩ hb
    (fun a oe cls d pn hz hv => PSs.ex (hsu a oe cls d pn hz hv))).imp fun De σ H ⟨sl, tm, s, h⟩ => ⟨sl, tm, s, ?_⟩
  unfold mTryF at h
  cases e : mb (den sl) with
  | ok o ρ => rw [e] at h; exact h
  | stuck => rw [e] at h; exact h
  | exc y ρ =>
    rw [e] at h
    simp only [] at h
    by_cases hdi : y.cls = "dict"
    · rw [if_pos hdi] at h; exact h.elim
    rw [if_neg hdi] at h
    intro H1 σ1 sl1 a0 dx s1 e1
    subst e1
    cases eb : exm y.cls Dn with
    | none => rw [eb] at h; exact h.elim
    | some b =>
      rw [eb] at h
      cases b with
      | false => exact h.elim
      | true =>
        refine ⟨hx _ _ eb, fun a na => ?_⟩
        simp only [] at h
        have k := s1.top
        simp only [T.ok] at k
        refine ⟨y, ⟨⟨rfl, fun hd => ?_, k.1⟩, eb⟩, sl1.set i none, tm, s1.into hi' hio hdi, ?_⟩
        · subst hd; exact k.2.1
        · rw [den_set]
          show Lands (g.sx i a dx y) _ tm (ms y ((den sl1).set i none)) _
          cases e2 : ms y ((den sl1).set i none) with
          | exc _ _ => rw [e2] at h; exact h.elim
          | stuck => rw [e2] at h; exact h.elim
          | ok o ρ =>
            rw [e2] at h
            cases o with
            | nx => exact fun H' σ' sl' s' e' => h H' _ (sl'.set i none) (s'.outof.unslot hio none) (by rw [den_set, e']; rfl)
            | brk => exact fun H' σ' sl' s' e' => h H' _ (sl'.set i none) (s'.outof.unslot hio none) (by rw [den_set, e']; rfl)
            | ct => exact fun H' σ' sl' s' e' => h H' _ (sl'.set i none) (s'.outof.unslot hio none) (by rw [den_set, e']; rfl)
            | ret d => exact fun H' σ' sl' t s' e' ed => h H' _ (sl'.set i none) t (s'.outof.unslot hio none) (by rw [den_set, e']; rfl) ed
end
end VS

namespace VS
open PySem PySem.Spec PySem.Builtin.Str PyProof L2
/-! ### find of one sign, rstrip of signs -/
def findM : D → D → Option Sc
  | .sc (.str a), .sc (.str [c]) => some (.int (if c ∈ a then ((idxC c a : Nat) : Int) else -1))
  | _, _ => none
@[simp] theorem findM_ (a : List Nat) (c : Nat) : findM (.str a) (.str [c]) = some (.int (if c ∈ a then ((idxC c a : Nat) : Int) else -1)) := rfl
theorem hs_find {g : Gh} : HM1 g findM (fun x xs H Q => ∃ a b, x = .str a ∧ xs = [.str b] ∧ Q (.int (Txt.find a b)) H) := fun H u1 u2 d Q k1 k2 h q => by
  unfold findM at h
  split at h
  · rename_i x y a c e1 e2
    cases h
    cases u1 with
    | sc z1 =>
      cases u2 with
      | sc z2 =>
        simp only [T.d, D.sc.injEq] at e1 e2
        subst e1 e2
        refine ⟨⟨a.toArray⟩, ⟨#[c]⟩, rfl, rfl, ?_⟩
        have e : Txt.find ⟨a.toArray⟩ ⟨#[c]⟩ = (if c ∈ a then ((idxC c a : Nat) : Int) else -1) := by
          unfold Txt.find
          by_cases hz : c ∈ a
          · obtain ⟨r, e⟩ := occ1 c a hz
            rw [e, if_pos hz]
          · rw [occ0 c a hz, if_neg hz]
        rw [e]
        exact q trivial
      | _ => simp [T.d] at e2
    | _ => simp [T.d] at e1
  · cases h
def rstripM : D → D → Option Sc
  | .sc (.str a), .sc (.str b) => some (.str (rdrop b.contains a))
  | _, _ => none
@[simp] theorem rstripM_ (a b : List Nat) : rstripM (.str a) (.str b) = some (.str (rdrop b.contains a)) := rfl
theorem rstrip_eq (a b : List Nat) : Txt.rstripChars ⟨a.toArray⟩ ⟨b.toArray⟩ = ⟨(rdrop b.contains a).toArray⟩ := by
  have e1 : stripLo b.contains false ⟨a.toArray⟩ = 0 := by simp [stripLo]
  have e2 : stripHi b.contains true ⟨a.toArray⟩ 0 = a.length - (a.reverse.takeWhile b.contains).length := by
    simp [stripHi, Str.length]
  have hs : Builtin.Str.strSub ⟨a.toArray⟩ 0 (a.length - (a.reverse.takeWhile b.contains).length) = ⟨(rdrop b.contains a).toArray⟩ := by
    refine str_eq ?_
    unfold Builtin.Str.strSub
    rw [← take_tw]
    simp
  unfold Txt.rstripChars Txt.stripBy
  rw [contains_arr]
  unfold stripSame stripped
  rw [e1, e2, hs]
  split
  · rename_i h
    rw [Bool.and_eq_true] at h
    have h2 : a.length - (a.reverse.takeWhile b.contains).length = a.length := by simpa [Str.length] using h.2
    rw [← hs, h2]
    refine (str_eq ?_).symm
    simp [Builtin.Str.strSub]
  · rfl
theorem rstrip_sub (p : Nat → Bool) (a : List Nat) : ∀ c ∈ rdrop p a, c ∈ a := fun c h => by
  unfold rdrop at h
  rw [List.mem_reverse] at h
  have := (List.dropWhile_sublist _).subset h
  rwa [List.mem_reverse] at this
theorem rstrip_len (p : Nat → Bool) (a : List Nat) : (rdrop p a).length ≤ a.length := by
  unfold rdrop
  have h1 := (List.dropWhile_sublist p (l := a.reverse)).length_le
  simp at h1 ⊢
  omega
theorem hs_rstrip {g : Gh} : HM1 g rstripM (fun x xs H Q => ∃ a b, x = .str a ∧ xs = [.str b] ∧ a.length ≤ sizeLine ∧ Q (.str (Txt.rstripChars a b)) H) := fun H u1 u2 c Q k1 k2 h q => by
  cases u1 with
  | sc x =>
    cases u2 with
    | sc y =>
      cases x <;> cases y <;> simp [T.d, rstripM] at h
      rename_i a b
      subst h
      simp only [T.ok] at k1
      refine ⟨_, _, rfl, rfl, ?_, ?_⟩
      · rw [sizeLine_eq]; simpa [Str.length] using k1.1
      · rw [rstrip_eq]
        exact q ⟨Nat.le_trans (rstrip_len _ a) k1.1, fun c hc => k1.2 c (rstrip_sub _ a c hc)⟩
    | _ => cases x <;> simp [T.d, rstripM] at h
  | _ => simp [T.d, rstripM] at h
/-! ### zip of two lists -/
section
variable {X : Cx} {g : Gh} {W : WX} {pos : Pos} {a b c e tg iter : Expr} {ma mb : Cm D}
def zipD (ds es : List D) : List D := List.zipWith (fun x y => D.tup [x, y]) ds es
theorem it_zip {K : PySem.W.Frag} (hK : K = g.c.K) {p q : Addr} {o o2 : Ow} {xs ys : List T} (hx : ∀ a, Ts.oc a xs = 0) (hy : ∀ a, Ts.oc a ys = 0) : ItOk g (Itz K p q) [T.lst q o2 ys, T.lst p o xs] (zipD (Ts.d xs) (Ts.d ys)) where
  stop := fun H σ sl tm s => by
    have k2 := lst_sq s.top
    have k1 := lst_sq s.pop.top
    refine ⟨_, _, by rw [hK]; exact k1.1, by rw [hK]; exact k2.1, ?_⟩
    simp only [zipD, List.length_zipWith, Ts.d_len, List.length_map]
    omega
  go := fun i d H σ sl tm s h => by
    have k2 := lst_sq s.top
    have k1 := lst_sq s.pop.top
    unfold zipD at h
    rw [List.getElem?_zipWith', Ts.d_map, Ts.d_map, List.getElem?_map, List.getElem?_map] at h
    cases h1 : xs[i]? with
    | none => rw [h1] at h; simp at h
    | some t =>
    cases h2 : ys[i]? with
    | none => rw [h1, h2] at h; simp at h
    | some u =>
    rw [h1, h2] at h
    simp at h
    subst h
    have m1 := List.mem_of_getElem? h1
    have m2 := List.mem_of_getElem? h2
    refine ⟨⟨_, _, t.v, u.v, by rw [hK]; exact k1.1, by rw [hK]; exact k2.1, by rw [List.getElem?_map, h1]; rfl, by rw [List.getElem?_map, h2]; rfl⟩, fun x H' hz => ?_⟩
    obtain ⟨T', x', y', rfl, hT, rfl, hz1, hz2⟩ := hz
    have e1 := hz1 _ (by rw [hK]; exact k1.1)
    rw [List.getElem?_map, h1] at e1
    obtain rfl : t.v = x' := Option.some.inj e1
    have e2 := hz2 _ (by rw [hK]; exact k2.1)
    rw [List.getElem?_map, h2] at e2
    obtain rfl : u.v = y' := Option.some.inj e2
    have s2 : SR g H σ sl (u :: ([T.lst q o2 ys, T.lst p o xs] ++ tm)) := s.dupK (tms := []) (Ts.ok_iff.mp k2.2.2 u m2) (fun a => by
      have h1 := Ts.oc_mem (a := a) m2; have := hy a; omega) (fun a => by
      have h1 := Ts.sh_mem (a := a) m2
      simp only [List.cons_append, List.nil_append, Ts.sh, T.sh]; omega)
    have s3 : SR g H σ sl (t :: u :: ([T.lst q o2 ys, T.lst p o xs] ++ tm)) := s2.dupK (tms := []) (Ts.ok_iff.mp k1.2.2 t m1) (fun a => by
      have h1 := Ts.oc_mem (a := a) m1; have := hx a; omega) (fun a => by
      have h1 := Ts.sh_mem (a := a) m1
      simp only [List.cons_append, List.nil_append, Ts.sh, T.sh]; omega)
    have ok : Ts.ok g.c H [t, u] := by
      have := s3.okT
      simp only [Ts.ok] at this ⊢
      exact ⟨this.1, this.2.1, trivial⟩
    have s4 : SR g H σ sl ([t, u] ++ ([T.lst q o2 ys, T.lst p o xs] ++ tm)) := s3
    exact ⟨_, s4.newT (ts := [t, u]) hT (by simp) ok (fun a => ⟨Nat.le_refl _, id⟩), rfl, rfl⟩
def mZip (ma mb : Cm D) : Cm (List D) := fun ρ => (ma ρ).bind fun d ρ => (mb ρ).bind fun e ρ => match d.fz, e.fz with
  | .lst _ ds, .lst _ es => .ok (zipD ds es) ρ
  | _, _ => .stuck
@[simp] theorem mZip_ {ρ : DE} : mZip ma mb ρ = (ma ρ).bind fun d ρ => (mb ρ).bind fun e ρ => match d.fz, e.fz with
  | .lst _ ds, .lst _ es => .ok (zipD ds es) ρ
  | _, _ => .stuck := rfl
theorem i_zip {elts : List Expr} {kk : Nat} {tpos p : Pos} (hK : X.K = g.c.K) (hg : Gl X "zip") (hm : X.mg "zip" = none) (ha : PA X [a, b] (tA g W [ma, mb]))
    (hs : starEach [a, b] X.env = (false, eval a X.env) :: starEach [b] X.env := by rfl) (hpl : (backTo pos (starEach [b] X.env)).any (·.1) = false := by rfl) :
    PI X (.Tuple elts kk tpos) (.Call (.Name "zip" p) [a, b] [] pos) (tI g W (mZip ma mb)) := (pi_zip hg hm ha hs hpl).imp fun σ H R ⟨sl, tm, s, q⟩ => by
  refine tA2 s q fun H' sl' t u s' h' => ?_
  rw [← T.fz_d, ← T.fz_d] at h'
  have s2 := s'.fz1
  have s3 : SR g H' σ sl' (u.fz :: t.fz :: tm) := s2.tmp (by have := s2.okT; simp only [Ts.ok] at this ⊢; exact ⟨this.1, T.fz_ok t this.2.1, this.2.2⟩) fun a => by
    have i := s2.inv a
    simp only [Ts.oc, Ts.sh, T.fz_oc, T.fz_sh] at i ⊢
    omega
  rw [← T.fz_v t, ← T.fz_v u]
  cases e : t.fz with
  | lst p o xs =>
    cases e2 : u.fz with
    | lst q2 o2 ys =>
      rw [e, e2] at h' s3
      refine ⟨p, q2, _, _, rfl, by rw [hK]; exact (lst_sq s3.pop.top).1, by rw [hK]; exact (lst_sq s3.top).1, h' H' sl' [_, _] _ s3 rfl (it_zip hK (fun a => ?_) (fun a => ?_))⟩
      · have := T.fz_oc a t
        rw [e] at this
        simp only [T.oc] at this
        omega
      · have := T.fz_oc a u
        rw [e2] at this
        simp only [T.oc] at this
        omega
    | _ => rw [e, e2] at h'; exact h'.elim
  | _ => rw [e] at h'; revert h'; cases u.fz <;> exact fun h' => h'.elim
/-! ### a list, or another -/
def mOrL (ma mb : Cm D) : Cm D := fun ρ => (ma ρ).bind fun d ρ => match d with
  | .lst o xs => if xs.isEmpty then mb ρ else .ok (.lst o xs) ρ
  | _ => .stuck
@[simp] theorem mOrL_ {ρ : DE} : mOrL ma mb ρ = (ma ρ).bind fun d ρ => match d with
  | .lst o xs => if xs.isEmpty then mb ρ else .ok (.lst o xs) ρ
  | _ => .stuck := rfl
theorem e_orL {rest : List Expr} (hK : X.K = g.c.K) (ha : PE X a (tE g W ma)) (hb : PE X (.BoolOp .Or (b :: rest) pos) (tE g W mb)) : PE X (.BoolOp .Or (a :: b :: rest) pos) (tE g W (mOrL ma mb)) := (pe_orT ha hb).imp fun σ H Q ⟨sl, tm, s, h⟩ => by
  refine tE.of s h fun H' sl' t s' h' => ?_
  cases t with
  | lst p o xs =>
    simp only [T.d] at h'
    have q := lst_sq s'.top
    cases k : (Ts.d xs).isEmpty with
    | true =>
      rw [k, if_pos rfl] at h'
      refine ⟨false, .inl ⟨_, by rw [hK]; exact q.1, ?_⟩, sl', tm, s'.pop, h'⟩
      cases xs with
      | nil => rfl
      | cons _ _ => simp [Ts.d] at k
    | false =>
      rw [k, if_neg Bool.false_ne_true] at h'
      refine ⟨true, .inl ⟨_, by rw [hK]; exact q.1, ?_⟩, h' H' sl' (.lst p o xs) s' rfl rfl⟩
      cases xs with
      | nil => simp [Ts.d] at k
      | cons _ _ => rfl
  | _ => exact h'.elim
end
end VS

/-! VS, part E: objects of the text's own classes: fields read and written, methods called. -/
namespace VS
open PySem PySem.Spec PyProof.Rows L2
theorem ofString_inj {a b : String} (h : Str.ofString a = Str.ofString b) : a = b := by
  rw [Str.ofString_eq_toList, Str.ofString_eq_toList] at h
  have h1 : a.toList.map Char.toNat = b.toList.map Char.toNat := by
    have := congrArg (fun s : Str => s.cps.toList) h
    simpa using this
  have h2 : a.toList = b.toList := (List.map_inj_right fun x y e => Char.toNat_inj.1 e).1 h1
  exact String.toList_inj.1 h2
/-- the place of a field -/
def fIx (f : String) : List String → Option Nat
  | [] => none
  | n :: ns => if n = f then some 0 else (fIx f ns).map (· + 1)
theorem fIx_lookup {f : String} {v : V} : ∀ {ns : List String} {vs : List V} {j : Nat}, fIx f ns = some j → vs[j]? = some v → (fieldsV ns vs).lookup (Str.ofString f) = some v
  | [], vs, j, h, _ => by cases h
  | n :: ns, [], j, h, hv => by simp at hv
  | n :: ns, u :: vs, j, h, hv => by
    unfold fIx at h
    have e : fieldsV (n :: ns) (u :: vs) = (Str.ofString n, u) :: fieldsV ns vs := rfl
    rw [e, List.lookup_cons]
    by_cases q : n = f
    · subst q
      rw [if_pos rfl] at h
      cases h
      simp at hv
      simp [hv]
    · rw [if_neg q] at h
      obtain ⟨k, hk, rfl⟩ := Option.map_eq_some_iff.1 h
      have : (Str.ofString f == Str.ofString n) = false := by
        rw [beq_eq_false_iff_ne]
        exact fun e => q (ofString_inj e).symm
      rw [this]
      exact fIx_lookup hk (by simpa using hv)
theorem fIx_none {f : String} : ∀ {ns : List String} {vs : List V}, fIx f ns = none → (fieldsV ns vs).lookup (Str.ofString f) = none
  | [], vs, h => by cases vs <;> rfl
  | n :: ns, [], h => rfl
  | n :: ns, u :: vs, h => by
    unfold fIx at h
    have e : fieldsV (n :: ns) (u :: vs) = (Str.ofString n, u) :: fieldsV ns vs := rfl
    rw [e, List.lookup_cons]
    by_cases q : n = f
    · rw [if_pos q] at h; cases h
    · rw [if_neg q, Option.map_eq_none_iff] at h
      have : (Str.ofString f == Str.ofString n) = false := by
        rw [beq_eq_false_iff_ne]
        exact fun e => q (ofString_inj e).symm
      rw [this]
      exact fIx_none h
theorem fIx_lt {f : String} : ∀ {ns : List String} {j : Nat}, fIx f ns = some j → j < ns.length
  | [], j, h => by cases h
  | n :: ns, j, h => by
    unfold fIx at h
    by_cases q : n = f
    · rw [if_pos q] at h; cases h; simp
    · rw [if_neg q] at h
      obtain ⟨k, hk, rfl⟩ := Option.map_eq_some_iff.1 h
      have := fIx_lt hk
      simp; omega
theorem fIx_put {f : String} {y : V} : ∀ {ns : List String} {vs : List V} {j : Nat}, fIx f ns = some j → ns.length = vs.length → putF (Str.ofString f) y (fieldsV ns vs) = fieldsV ns (vs.set j y)
  | [], vs, j, h, _ => by cases h
  | n :: ns, [], j, h, hl => by simp at hl
  | n :: ns, u :: vs, j, h, hl => by
    unfold fIx at h
    have e : fieldsV (n :: ns) (u :: vs) = (Str.ofString n, u) :: fieldsV ns vs := rfl
    rw [e]
    unfold putF
    by_cases q : n = f
    · subst q
      rw [if_pos rfl] at h
      cases h
      rw [if_pos rfl]
      rfl
    · rw [if_neg q] at h
      obtain ⟨k, hk, rfl⟩ := Option.map_eq_some_iff.1 h
      rw [if_neg fun e => q (ofString_inj e), fIx_put hk (by simpa using hl)]
      rfl
theorem fIx_new {f : String} {y : V} : ∀ {ns : List String} {vs : List V}, fIx f ns = none → ns.length = vs.length → putF (Str.ofString f) y (fieldsV ns vs) = fieldsV (ns ++ [f]) (vs ++ [y])
  | [], vs, h, hl => by
    cases vs with
    | nil => rfl
    | cons u vs => simp at hl
  | n :: ns, [], h, hl => by simp at hl
  | n :: ns, u :: vs, h, hl => by
    unfold fIx at h
    have e : fieldsV (n :: ns) (u :: vs) = (Str.ofString n, u) :: fieldsV ns vs := rfl
    rw [e]
    unfold putF
    by_cases q : n = f
    · rw [if_pos q] at h; cases h
    · rw [if_neg q, Option.map_eq_none_iff] at h
      rw [if_neg fun e => q (ofString_inj e), fIx_new h (by simpa using hl)]
      rfl
section
variable {g : Gh}
/-- an address that a slot's tree owns is written: the tree is another -/
theorem SR.writeS {H : Hp} {σ : L2.St} {sl : List (Option T)} {tm es : List T} {i : Nat} {t t' : T} {p : Addr} {o : HO} (s : SR g H σ sl (es ++ tm)) (h : sl[i]? = some (some t)) (hp : 0 < t.oc p) (hv : t'.v = t.v) (hk : t'.ok g.c (upd H p o))
    (ho : ∀ a, t'.oc a ≤ t.oc a + Ts.oc a es) (hs : ∀ a, 0 < t'.sh a → 0 < t.sh a + Ts.sh a es) : SR g (upd H p o) σ (sl.set i (some t')) tm := by
  have hmem := s.slot h
  have g1 := So_get (f := T.oc p) hmem
  have g1s := So_get (f := T.sh p) hmem
  have iv := s.inv p
  rw [Ts.oc_append, Ts.sh_append] at iv
  have c1 : ∀ a, So (T.oc a) (sl.set i (some t')) + t.oc a = So (T.oc a) sl + t'.oc a := fun a => by
    have := So_set (f := T.oc a) (x := some t') h
    simpa [fO] using this
  have c2 : ∀ a, So (T.sh a) (sl.set i (some t')) + t.sh a = So (T.sh a) sl + t'.sh a := fun a => by
    have := So_set (f := T.sh a) (x := some t') h
    simpa [fO] using this
  refine s.go (fun u m => ?_) ?_ (fun a => .inl ?_) (fun a => ?_) s.len (by simp [s.slen]) (fun j u hj => ?_) s.io
  · obtain ⟨j, hj⟩ := mem_get m
    rcases set_get hj with ⟨rfl, e'⟩ | ⟨ne, e'⟩
    · cases e'; exact hk
    · have e := List.mem_of_getElem? e'
      refine T.stay u (s.okS u e) fun a q => upd_ne fun ea => ?_
      subst ea
      have d0 := So_set (f := T.oc a) (x := none) h
      have d1 := So_get (f := T.oc a) (sl := sl.set i none) (t := u) (List.mem_of_getElem? (i := j) (by rw [List.getElem?_set_ne (Ne.symm ne)]; exact e'))
      have d2 := So_get (f := T.sh a) e
      simp only [fO] at d0
      omega
  · have kt := s.okT
    rw [Ts.ok_iff] at kt ⊢
    intro u m
    refine T.stay u (kt u (List.mem_append_right _ m)) fun a q => upd_ne fun ea => ?_
    subst ea
    have h1 := Ts.oc_mem (a := a) m; have h2 := Ts.sh_mem (a := a) m
    omega
  · have d1 := c1 a
    have d2 := c2 a
    have h1 := ho a
    have h2 := hs a
    have g2 := So_get (f := T.sh a) hmem
    have g3 := So_get (f := T.oc a) hmem
    rw [Ts.oc_append, Ts.sh_append]
    refine ⟨by omega, fun q => .inl ?_⟩
    omega
  · by_cases e : a = p
    · subst e
      refine .inr (.inr ?_)
      rw [Ts.oc_append]
      omega
    · exact .inl (upd_ne e)
  · rcases set_get hj with ⟨rfl, e⟩ | ⟨_, e⟩
    · cases e; rw [hv]; exact s.at_ _ _ h
    · exact s.at_ _ _ e
end

/-! ### what of the text a class must have -/
structure ClF (K : PySem.W.Frag) (C : Addr) : Prop where
  cl : Cls K C
section
variable {X : Cx} {g : Gh} {W : WX} {pos p apos : Pos} {a b e : Expr} {es : List Expr} {ma mb : Cm D} {as : List Ag} {y x : Str}
/-- an object in a slot -/
theorem obj_at {H : Hp} {σ : L2.St} {sl : List (Option T)} {tm : List T} {i : Nat} {o : Ow} {C : String} {ns : List String} {xs : List D} (s : SR g H σ sl tm) (h : (den sl)[i]? = some (some (.obj o C ns xs))) :
    ∃ q dx ts, sl[i]? = some (some (T.obj q dx o C ns ts)) ∧ Ts.d ts = xs ∧ H q = some (.ins (g.c.cls C) dx (fieldsV ns (ts.map T.v))) ∧ H dx = some (.own q) ∧ dx ≠ q ∧ ns.length = ts.length ∧ Ts.ok g.c H ts ∧ σ[i]? = some (some (.ref q)) := by
  obtain ⟨t, e1, e2, e4, e3⟩ := s.val h
  cases t with
  | obj q dx o' C' ns' ts =>
    simp only [T.d, D.obj.injEq] at e2
    obtain ⟨rfl, rfl, rfl, rfl⟩ := e2
    refine ⟨q, dx, ts, e1, rfl, ?_⟩
    cases o' <;> simp only [T.ok] at e4 <;> first | exact ⟨e4.1, e4.2.1, e4.2.2.1, e4.2.2.2.1, e4.2.2.2.2, e3⟩ | exact e4.elim
  | _ => simp [T.d] at e2
/-- self.f read; what is no scalar is held by two from now on -/
def mFld (i : Nat) (C f : String) : Cm D := fun ρ => match ρ[i]? with
  | some (some (.obj o C' ns xs)) => if C' = C then (match fIx f ns with
    | some j => match xs[j]? with
      | some d => if d.pur then .ok d ρ else .ok d.fz (ρ.set i (some (.obj o C ns (xs.set j d.fz))))
      | none => .stuck
    | none => .stuck) else .stuck
  | _ => .stuck
theorem Ts.d_at {ts : List T} {j : Nat} {d : D} (h : (Ts.d ts)[j]? = some d) : ∃ t, ts[j]? = some t ∧ t.d = d := by
  rw [Ts.d_map, List.getElem?_map, Option.map_eq_some_iff] at h
  exact h
theorem v_set_fz (ts : List T) (j : Nat) (t : T) (h : ts[j]? = some t) : (ts.set j t.fz).map T.v = ts.map T.v := by
  rw [List.map_set, T.fz_v]
  have e : (ts.map T.v)[j]? = some t.v := by rw [List.getElem?_map, h]; rfl
  obtain ⟨hl, e2⟩ := List.getElem?_eq_some_iff.1 e
  rw [← e2, List.set_getElem_self]
theorem SR.readF {H : Hp} {σ : L2.St} {sl : List (Option T)} {tm : List T} {i j : Nat} {q dx : Addr} {o : Ow} {C : String} {ns : List String} {ts : List T} {t : T} (s : SR g H σ sl tm) (h : sl[i]? = some (some (T.obj q dx o C ns ts))) (hj : ts[j]? = some t) :
    SR g H σ (sl.set i (some (T.obj q dx o C ns (ts.set j t.fz)))) (t.fz :: tm) := by
  have hm := s.slot h
  have k := s.okS _ hm
  have kt : t.ok g.c H := by
    cases o <;> simp only [T.ok] at k <;> first | exact Ts.ok_iff.mp k.2.2.2.2 t (List.mem_of_getElem? hj) | exact k.elim
  have so := fun a => Ts.oc_setE a t.fz ts j t hj
  have ss := fun a => Ts.sh_setE a t.fz ts j t hj
  have c1 : ∀ a, So (T.oc a) (sl.set i (some (T.obj q dx o C ns (ts.set j t.fz)))) + t.oc a = So (T.oc a) sl := fun a => by
    have := So_set (f := T.oc a) (x := some (T.obj q dx o C ns (ts.set j t.fz))) h
    have := so a
    simp only [fO, T.oc, T.fz_oc] at *
    omega
  have c2 : ∀ a, So (T.sh a) (sl.set i (some (T.obj q dx o C ns (ts.set j t.fz)))) = So (T.sh a) sl + t.oc a := fun a => by
    have := So_set (f := T.sh a) (x := some (T.obj q dx o C ns (ts.set j t.fz))) h
    have := ss a
    simp only [fO, T.sh, T.fz_sh] at *
    omega
  refine s.turn (fun u hu => ?_) ?_ (fun a => ?_) (by simp [s.slen]) fun j' u hu => ?_
  · rcases mem_set hu with e | e
    · cases e
      have kk : Ts.ok g.c H (ts.set j t.fz) := by
        have k2 : Ts.ok g.c H ts := by cases o <;> simp only [T.ok] at k <;> first | exact k.2.2.2.2 | exact k.elim
        rw [Ts.ok_iff] at k2 ⊢
        intro u m
        rcases List.mem_or_eq_of_mem_set m with m | m
        · exact k2 u m
        · subst m; exact T.fz_ok t kt
      cases o <;> simp only [T.ok] at k ⊢ <;> first | exact ⟨by rw [v_set_fz ts j t hj]; exact k.1, k.2.1, k.2.2.1, by simpa using k.2.2.2.1, kk⟩ | exact k.elim
    · exact s.okS u e
  · simp only [Ts.ok]; exact ⟨T.fz_ok t kt, s.okT⟩
  · have h1 := c1 a
    have h2 := c2 a
    have iv := s.inv a
    have z := So_get (f := T.oc a) hm
    have z2 := So_get (f := T.sh a) hm
    have m1 := Ts.oc_mem (a := a) (List.mem_of_getElem? hj)
    have m2 := Ts.sh_mem (a := a) (List.mem_of_getElem? hj)
    simp only [T.oc, T.sh] at z z2
    simp only [T.fz_oc, T.fz_sh, Ts.oc, Ts.sh]
    refine ⟨by omega, fun q => ?_⟩
    omega
  · rcases set_get hu with ⟨rfl, e⟩ | ⟨_, e⟩
    · cases e; have := s.at_ _ _ h; simpa [T.v] using this
    · exact s.at_ _ _ e
theorem SR.dupF {H : Hp} {σ : L2.St} {sl : List (Option T)} {tm : List T} {i j : Nat} {q dx : Addr} {o : Ow} {C : String} {ns : List String} {ts : List T} {t : T} (s : SR g H σ sl tm) (h : sl[i]? = some (some (T.obj q dx o C ns ts))) (hj : ts[j]? = some t) (hp : t.d.pur = true) :
    SR g H σ sl (t :: tm) := by
  have k := s.okS _ (s.slot h)
  have k2 : Ts.ok g.c H ts := by cases o <;> simp only [T.ok] at k <;> first | exact k.2.2.2.2 | exact k.elim
  refine s.dup h (Ts.ok_iff.mp k2 t (List.mem_of_getElem? hj)) (fun a => T.pur_oc a t hp) fun a => ?_
  have := Ts.sh_mem (a := a) (List.mem_of_getElem? hj)
  simp only [T.sh]
  omega
theorem e_fld {i : Nat} {C f : String} (cl : Cls X.K (g.c.cls C)) (na : NoAttr X.K (g.c.cls C) (Str.ofString f)) (hp : PE X (.Attribute e (Str.ofString f) pos) (tFld X.K (tVar i) (Str.ofString f))) : PE X (.Attribute e (Str.ofString f) pos) (tE g W (mFld i C f)) := hp.imp fun σ H Q ⟨sl, tm, s, h⟩ => by
  unfold mFld at h
  split at h
  · rename_i o C' ns xs e0
    split at h
    · rename_i hC
      subst hC
      split at h
      · rename_i j hj
        split at h
        · rename_i d hd
          obtain ⟨q, dx, ts, g1, rfl, g3, g4, g5, g6, g7, g8⟩ := obj_at s e0
          obtain ⟨t, ht, rfl⟩ := Ts.d_at hd
          have lk : (fieldsV ns (ts.map T.v)).lookup (Str.ofString f) = some t.v := fIx_lookup hj (by rw [List.getElem?_map, ht]; rfl)
          refine ⟨.ref q, g8, q, _, dx, _, t.v, rfl, g3, cl, na, lk, ?_⟩
          split at h
          · rename_i hpu
            exact h H sl t (s.dupF g1 ht hpu) rfl rfl
          · have := h H _ t.fz (s.readF g1 ht) (by rw [den_set]; simp [T.d, Ts.d_set, T.fz_d]) (T.fz_d t)
            rwa [T.fz_v] at this
        · exact h.elim
      · exact h.elim
    · exact h.elim
  · exact h.elim
/-- the object goes, a field of it stays: return x.f -/
def mFldM (i : Nat) (C f : String) : Cm D := fun ρ => match ρ[i]? with
  | some (some (.obj _ C' ns xs)) => if C' = C then (match fIx f ns with
    | some j => match xs[j]? with
      | some d => .ok d (ρ.set i none)
      | none => .stuck
    | none => .stuck) else .stuck
  | _ => .stuck
theorem e_fldM {i : Nat} {C f : String} (cl : Cls X.K (g.c.cls C)) (na : NoAttr X.K (g.c.cls C) (Str.ofString f)) (hp : PE X (.Attribute e (Str.ofString f) pos) (tFld X.K (tVar i) (Str.ofString f))) : PE X (.Attribute e (Str.ofString f) pos) (tE g W (mFldM i C f)) := hp.imp fun σ H Q ⟨sl, tm, s, h⟩ => by
  unfold mFldM at h
  split at h
  · rename_i o C' ns xs e0
    split at h
    · rename_i hC
      subst hC
      split at h
      · rename_i j hj
        split at h
        · rename_i d hd
          obtain ⟨q, dx, ts, g1, rfl, g3, g4, g5, g6, g7, g8⟩ := obj_at s e0
          obtain ⟨t, ht, rfl⟩ := Ts.d_at hd
          have lk : (fieldsV ns (ts.map T.v)).lookup (Str.ofString f) = some t.v := fIx_lookup hj (by rw [List.getElem?_map, ht]; rfl)
          refine ⟨.ref q, g8, q, _, dx, _, t.v, rfl, g3, cl, na, lk, ?_⟩
          have kt := Ts.ok_iff.mp g7 t (List.mem_of_getElem? ht)
          exact h H _ t ((s.move g1).part kt fun a => by
            have m1 := Ts.oc_mem (a := a) (List.mem_of_getElem? ht)
            have m2 := Ts.sh_mem (a := a) (List.mem_of_getElem? ht)
            simp only [T.oc, T.sh]
            omega) (by rw [den_set]; rfl) rfl
        · exact h.elim
      · exact h.elim
    · exact h.elim
  · exact h.elim
/-- a built-in of a field that is only looked at: len(self.f) -/
def mP1F (f : D → Option Sc) (i : Nat) (C nm : String) : Cm D := fun ρ => match ρ[i]? with
  | some (some (.obj _ C' ns xs)) => if C' = C then (match fIx nm ns with
    | some j => match xs[j]? with
      | some d => (lift (f d) ρ).bind fun s ρ => .ok (.sc s) ρ
      | none => .stuck
    | none => .stuck) else .stuck
  | _ => .stuck
theorem e_b1F {id : String} {f : D → Option Sc} {r : List V → Hp → VK → Prop} {i : Nat} {C nm : String} (cl : Cls X.K (g.c.cls C)) (na : NoAttr X.K (g.c.cls C) (Str.ofString nm)) (hc : CallR X (.builtin id) r) (hr : HR1 g f r) (hg : Gl X x) (hm : X.mg x = none) (hv : bootBuiltins x = some (.builtin id))
    (hp : PE X a (tFld X.K (tVar i) (Str.ofString nm))) (hn : x ≠ "__name__" := by decide) (hdb : (x == ("__debug__" : Str)) = false := by decide)
    (he : starEach (a :: []) X.env = (false, eval a X.env) :: starEach [] X.env := by rfl) : PE X (.Call (.Name x p) [a] [] pos) (tE g W (mP1F f i C nm)) :=
  (pe_callB hc hg hm hv (pa_cons hp pa_nil he) hn hdb he rfl).imp fun σ H Q ⟨sl, tm, s, h⟩ => by
    unfold mP1F at h
    split at h
    · rename_i o C' ns xs e0
      split at h
      · rename_i hC
        subst hC
        split at h
        · rename_i j hj
          split at h
          · rename_i d hd
            obtain ⟨q, dx, ts, g1, rfl, g3, g4, g5, g6, g7, g8⟩ := obj_at s e0
            obtain ⟨t, ht, rfl⟩ := Ts.d_at hd
            have lk : (fieldsV ns (ts.map T.v)).lookup (Str.ofString nm) = some t.v := fIx_lookup hj (by rw [List.getElem?_map, ht]; rfl)
            refine ⟨.ref q, g8, q, _, dx, _, t.v, rfl, g3, cl, na, lk, ?_⟩
            have kt := Ts.ok_iff.mp g7 t (List.mem_of_getElem? ht)
            cases q : f t.d with
            | none => rw [q] at h; exact h.elim
            | some c =>
              rw [q] at h
              exact hr H t c Q kt q fun gc => h H sl (.sc c) (s.push c gc) rfl rfl
          · exact h.elim
        · exact h.elim
      · exact h.elim
    · exact h.elim
end
end VS


namespace VS
open PySem PySem.Spec PyProof.Rows L2
section
variable {X : Cx} {g : Gh} {W : WX} {pos p apos : Pos} {a b e o : Expr} {es : List Expr} {ma mb : Cm D} {as : List Ag} {y x : Str}
/-- a field is written -/
theorem SR.writeF {H : Hp} {σ : L2.St} {sl : List (Option T)} {tm es : List T} {i : Nat} {q dx : Addr} {C : String} {ns ns' : List String} {ts zs : List T} (s : SR g H σ sl (es ++ tm)) (h : sl[i]? = some (some (T.obj q dx .own C ns ts)))
    (hl : ns'.length = zs.length) (hk : Ts.ok g.c H zs) (ho : ∀ a, Ts.oc a zs ≤ Ts.oc a ts + Ts.oc a es) (hs : ∀ a, 0 < Ts.sh a zs → 0 < Ts.sh a ts + Ts.sh a es) :
    SR g (upd H q (.ins (g.c.cls C) dx (fieldsV ns' (zs.map T.v)))) σ (sl.set i (some (T.obj q dx .own C ns' zs))) tm := by
  have k := s.okS _ (s.slot h)
  simp only [T.ok] at k
  have b1 : b2 (True ∧ True) = 1 := by simp [b2]
  have g1 := So_get (f := T.oc q) (s.slot h)
  have g2 := So_get (f := T.sh q) (s.slot h)
  have iv := s.inv q
  rw [Ts.oc_append, Ts.sh_append] at iv
  simp only [T.oc, T.sh] at g1 g2
  rw [b1] at g1
  have h1 := ho q
  have h2 := hs q
  have k0 : Ts.oc q zs = 0 ∧ Ts.sh q zs = 0 := by omega
  refine s.writeS h (by simp only [T.oc]; rw [b1]; omega) (by simp [T.v]) ?_ (fun a => ?_) fun a => ?_
  · simp only [T.ok]
    refine ⟨upd_same, by rw [upd_ne k.2.2.1]; exact k.2.1, k.2.2.1, hl, Ts.stay zs hk fun a c => upd_ne fun e => by subst e; omega⟩
  · have := ho a
    simp only [T.oc]
    omega
  · have := hs a
    simp only [T.sh]
    omega
/-- a field's list is written -/
theorem SR.writeFL {H : Hp} {σ : L2.St} {sl : List (Option T)} {tm es : List T} {i j : Nat} {q dx r : Addr} {C : String} {ns : List String} {ts xs zs : List T} (s : SR g H σ sl (es ++ tm)) (h : sl[i]? = some (some (T.obj q dx .own C ns ts))) (hj : ts[j]? = some (T.lst r .own xs))
    (hz : zs.length ≤ 16777216) (hk : Ts.ok g.c H zs) (ho : ∀ a, Ts.oc a zs ≤ Ts.oc a xs + Ts.oc a es) (hs : ∀ a, 0 < Ts.sh a zs → 0 < Ts.sh a xs + Ts.sh a es) :
    SR g (upd H r (.lst (zs.map T.v))) σ (sl.set i (some (T.obj q dx .own C ns (ts.set j (T.lst r .own zs))))) tm := by
  have k := s.okS _ (s.slot h)
  simp only [T.ok] at k
  have kj := Ts.ok_iff.mp k.2.2.2.2 _ (List.mem_of_getElem? hj)
  simp only [T.ok] at kj
  have g1 := So_get (f := T.oc r) (s.slot h)
  have g2 := So_get (f := T.sh r) (s.slot h)
  have iv := s.inv r
  rw [Ts.oc_append, Ts.sh_append] at iv
  simp only [T.oc, T.sh] at g1 g2
  have xo : ∀ a, b2 (Ow.own = Ow.own ∧ r = a) + Ts.oc a xs ≤ Ts.oc a ts := fun a => by
    have := Ts.oc_mem (a := a) (List.mem_of_getElem? hj)
    simpa [T.oc] using this
  have xs_ : ∀ a, Ts.sh a xs ≤ Ts.sh a ts := fun a => by
    have := Ts.sh_mem (a := a) (List.mem_of_getElem? hj)
    simp only [T.sh] at this
    omega
  have so := fun a => Ts.oc_setE a (T.lst r .own zs) ts j _ hj
  have ss := fun a => Ts.sh_setE a (T.lst r .own zs) ts j _ hj
  simp only [T.oc, T.sh] at so ss
  have xr := xo r
  rw [show b2 (Ow.own = Ow.own ∧ r = r) = 1 from by simp [b2]] at xr
  have h1 := ho r
  have h2 := hs r
  have x2 := xs_ r
  have k0 : Ts.oc r zs = 0 ∧ Ts.sh r zs = 0 ∧ Ts.oc r ts = 1 ∧ Ts.sh r ts = 0 := by omega
  have hq : q ≠ r := fun e => by have := k.1; rw [e, kj.1] at this; cases this
  have hd : dx ≠ r := fun e => by have := k.2.1; rw [e, kj.1] at this; cases this
  refine s.writeS h (by simp only [T.oc]; omega) (by simp [T.v]) ?_ (fun a => ?_) fun a => ?_
  · simp only [T.ok]
    refine ⟨?_, by rw [upd_ne hd]; exact k.2.1, k.2.2.1, by simpa using k.2.2.2.1, ?_⟩
    · rw [upd_ne hq, k.1, List.map_set]
      congr 3
      have e2 : (ts.map T.v)[j]? = some (T.lst r .own xs).v := by rw [List.getElem?_map, hj]; rfl
      obtain ⟨hl, e3⟩ := List.getElem?_eq_some_iff.1 e2
      exact ((List.set_getElem_self hl).symm.trans (by rw [e3]; rfl))
    · rw [Ts.ok_iff]
      intro t m
      obtain ⟨n, hn⟩ := mem_get m
      rcases set_get hn with ⟨rfl, e'⟩ | ⟨ne, e'⟩
      · subst e'
        simp only [T.ok]
        exact ⟨upd_same, hz, Ts.stay zs hk fun a c => upd_ne fun e => by subst e; omega⟩
      · refine T.stay t (Ts.ok_iff.mp k.2.2.2.2 t (List.mem_of_getElem? e')) fun a c => upd_ne fun ea => ?_
        subst ea
        have d0 := Ts.oc_setE a (T.sc .non) ts j _ hj
        have d1 := Ts.oc_mem (a := a) (ts := ts.set j (T.sc .non)) (t := t) (List.mem_of_getElem? (i := n) (by rw [List.getElem?_set_ne (Ne.symm ne)]; exact e'))
        have d2 := Ts.sh_mem (a := a) (List.mem_of_getElem? e')
        simp only [T.oc] at d0
        rw [show b2 (True ∧ True) = 1 by simp [b2]] at d0
        omega
  · have := ho a
    have := so a
    have := xo a
    simp only [T.oc]
    omega
  · have := hs a
    have := ss a
    have := xs_ a
    simp only [T.sh]
    omega
/-- self.f = e -/
def mSetF (i : Nat) (C f : String) (m : Cm D) : Cm Out := fun ρ => (m ρ).bind fun d ρ => match ρ[i]? with
  | some (some (.obj .own C' ns xs)) => if C' = C ∧ ns.length < 1000 then (match fIx f ns with
    | some j => .ok .nx (ρ.set i (some (.obj .own C ns (xs.set j d))))
    | none => .ok .nx (ρ.set i (some (.obj .own C (ns ++ [f]) (xs ++ [d]))))) else .stuck
  | _ => .stuck
theorem fieldsV_len (ns : List String) (vs : List V) : (fieldsV ns vs).length ≤ ns.length := by
  unfold fieldsV
  simp
  omega
theorem s_setF {i : Nat} {C f : String} {pos' : Pos} (cl : Cls X.K (g.c.cls C)) (na : NoAttr X.K (g.c.cls C) (Str.ofString f)) (hp : PS X (.Assign [.Attribute o (Str.ofString f) pos'] e pos) (sFld X.K (tVar i) (tE g W ma) (Str.ofString f))) : PS X (.Assign [.Attribute o (Str.ofString f) pos'] e pos) (tS g W (mSetF i C f ma)) :=
  hp.imp fun De σ H ⟨sl, tm, s, h⟩ => by
    unfold mSetF at h
    refine tE.of s h fun H1 sl1 t s1 h1 => ?_
    split at h1
    · rename_i C' ns xs e0
      split at h1
      · rename_i hC
        obtain ⟨rfl, hn⟩ := hC
        obtain ⟨q, dx, ts, g1, rfl, g3, g4, g5, g6, g7, g8⟩ := obj_at s1 e0
        have kt := s1.top
        refine ⟨.ref q, g8, q, _, dx, _, rfl, g3, cl, na, Nat.lt_of_le_of_lt (fieldsV_len _ _) hn, ?_⟩
        have s1' : SR g H1 σ sl1 ([t] ++ tm) := s1
        split at h1
        · rename_i j hj
          have w := s1'.writeF (ns' := ns) (zs := ts.set j t) g1 (by simpa using g6) (by
              rw [Ts.ok_iff] at g7 ⊢
              intro u m
              rcases List.mem_or_eq_of_mem_set m with m | m
              · exact g7 u m
              · subst m; exact kt) (fun a => by have := Ts.oc_set a t ts j; simp only [Ts.oc]; omega) (fun a => by have := Ts.sh_set a t ts j; simp only [Ts.sh]; omega)
          rw [fIx_put hj (by simpa using g6)]
          rw [List.map_set] at w
          exact h1 _ _ _ w (by rw [den_set]; simp [T.d, Ts.d_set])
        · rename_i hj
          have w := s1'.writeF (ns' := ns ++ [f]) (zs := ts ++ [t]) g1 (by simpa using g6) (by
              rw [Ts.ok_iff] at g7 ⊢
              intro u m
              rcases List.mem_append.1 m with m | m
              · exact g7 u m
              · have e := List.mem_singleton.mp m; subst e; exact kt) (fun a => by simp [Ts.oc_append, Ts.oc]) (fun a => by simp [Ts.sh_append, Ts.sh])
          rw [fIx_new hj (by simpa using g6)]
          rw [List.map_append] at w
          exact h1 _ _ _ w (by rw [den_set]; simp [T.d, Ts.d_append, Ts.d])
      · exact h1.elim
    · exact h1.elim
/-- self.f += e, self.f -= e of numbers -/
def mAugF (i : Nat) (C f : String) (op : Int → Int → Int) (m : Cm D) : Cm Out := fun ρ => match ρ[i]? with
  | some (some (.obj _ C' ns xs)) => if C' = C then (match fIx f ns with
    | some j => match xs[j]? with
      | some (.sc (.int u)) => (m ρ).bind fun d ρ => match d, ρ[i]? with
        | .sc (.int v), some (some (.obj .own C2 ns2 xs2)) => if C2 = C ∧ ns2.length < 1000 then (match fIx f ns2 with
          | some j2 => .ok .nx (ρ.set i (some (.obj .own C ns2 (xs2.set j2 (.int (op u v))))))
          | none => .stuck) else .stuck
        | _, _ => .stuck
      | _ => .stuck
    | none => .stuck) else .stuck
  | _ => .stuck
theorem s_augF {i : Nat} {C f : String} {op : Int → Int → Int} {O : Operator} {tpos : Pos} (cl : Cls X.K (g.c.cls C)) (na : NoAttr X.K (g.c.cls C) (Str.ofString f)) (hp : PS X (.AugAssign (.Attribute o (Str.ofString f) tpos) O e pos) (sFldAug X.K (tVar i) (tE g W ma) (fun x y H Q => ∃ i j, x = .int i ∧ y = .int j ∧ Q (.int (op i j)) H) (Str.ofString f))) :
    PS X (.AugAssign (.Attribute o (Str.ofString f) tpos) O e pos) (tS g W (mAugF i C f op ma)) := hp.imp fun De σ H ⟨sl, tm, s, h⟩ => by
  unfold mAugF at h
  split at h
  · rename_i o0 C' ns xs e0
    split at h
    · rename_i hC
      subst hC
      split at h
      · rename_i j hj
        split at h
        · rename_i u hd
          obtain ⟨q, dx, ts, g1, rfl, g3, g4, g5, g6, g7, g8⟩ := obj_at s e0
          obtain ⟨t, ht, htd⟩ := Ts.d_at hd
          have htv : t.v = .int u := by
            cases t with
            | sc z => simp only [T.d, D.sc.injEq] at htd; subst htd; rfl
            | _ => simp [T.d] at htd
          have lk : (fieldsV ns (ts.map T.v)).lookup (Str.ofString f) = some t.v := fIx_lookup hj (by rw [List.getElem?_map, ht]; rfl)
          refine ⟨.ref q, g8, q, _, dx, _, t.v, rfl, g3, cl, na, lk, ?_⟩
          refine tE.of s h fun H1 sl1 t1 s1 h1 => ?_
          split at h1
          · rename_i v C2 ns2 xs2 ed e1
            split at h1
            · rename_i hC2
              obtain ⟨rfl, hn⟩ := hC2
              split at h1
              · rename_i j2 hj2
                have htv1 : t1.v = .int v := by
                  cases t1 with
                  | sc z => simp only [T.d, D.sc.injEq] at ed; subst ed; rfl
                  | _ => simp [T.d] at ed
                obtain ⟨q2, dx2, ts2, k1, rfl, k3, k4, k5, k6, k7, k8⟩ := obj_at s1 e1
                have eq : q2 = q := by rw [k8] at g8; cases g8; rfl
                subst eq
                refine ⟨u, v, htv, htv1, dx2, _, k3, Nat.lt_of_le_of_lt (fieldsV_len _ _) hn, ?_⟩
                have s2 : SR g H1 σ sl1 ([] ++ tm) := s1.pop
                have w := s2.writeF (ns' := ns2) (zs := ts2.set j2 (.sc (.int (op u v)))) k1 (by simpa using k6) (by
                    rw [Ts.ok_iff] at k7 ⊢
                    intro z m
                    rcases List.mem_or_eq_of_mem_set m with m | m
                    · exact k7 z m
                    · subst m; simp [T.ok, Sc.good]) (fun a => by have := Ts.oc_set a (.sc (.int (op u v))) ts2 j2; simp only [T.oc, Ts.oc] at *; omega) (fun a => by have := Ts.sh_set a (.sc (.int (op u v))) ts2 j2; simp only [T.sh, Ts.sh] at *; omega)
                rw [fIx_put hj2 (by simpa using k6)]
                rw [List.map_set] at w
                exact h1 _ _ _ w (by rw [den_set]; simp [T.d, Ts.d_set])
              · exact h1.elim
            · exact h1.elim
          · exact h1.elim
        · exact h.elim
      · exact h.elim
    · exact h.elim
  · exact h.elim
end
end VS

namespace VS
open PySem PySem.Spec PyProof.Rows L2
section
variable {X : Cx} {g : Gh} {W : WX} {pos p apos : Pos} {a b e o : Expr} {es : List Expr} {ma mb : Cm D} {as : List Ag} {y x : Str}
/-- self.f.append(e), self.f.extend(e); e does not look at the object -/
def mAppF (i : Nat) (C f : String) (ma : Cm D) : Cm D := fun ρ => match ρ[i]? with
  | some (some (.obj .own C' ns xs)) => if C' = C then (match fIx f ns with
    | some j => match xs[j]? with
      | some (.lst .own ys) => (ma (ρ.set i none)).bind fun d ρ => match ρ[i]? with
        | some none => if ys.length < 16777216 then .ok .non (ρ.set i (some (.obj .own C ns (xs.set j (.lst .own (ys ++ [d])))))) else .stuck
        | _ => .stuck
      | _ => .stuck
    | none => .stuck) else .stuck
  | _ => .stuck
def mExtF (i : Nat) (C f : String) (ma : Cm D) : Cm D := fun ρ => match ρ[i]? with
  | some (some (.obj .own C' ns xs)) => if C' = C then (match fIx f ns with
    | some j => match xs[j]? with
      | some (.lst .own ys) => (ma (ρ.set i none)).bind fun d ρ => match ρ[i]?, d with
        | some none, .lst o zs => if (o = .own ∨ o = .shr) ∧ ys.length + zs.length ≤ 16777216 then .ok .non (ρ.set i (some (.obj .own C ns (xs.set j (.lst .own (ys ++ zs)))))) else .stuck
        | _, _ => .stuck
      | _ => .stuck
    | none => .stuck) else .stuck
  | _ => .stuck
/-- the field's list, the object hidden -/
theorem own_fld {H : Hp} {σ : L2.St} {sl : List (Option T)} {tm : List T} {i j : Nat} {C f : String} {ns : List String} {xs ys : List D} (s : SR g H σ sl tm) (h : (den sl)[i]? = some (some (.obj .own C ns xs))) (hj : fIx f ns = some j) (hd : xs[j]? = some (.lst .own ys)) :
    ∃ q dx ts r us, Ts.d ts = xs ∧ Ts.d us = ys ∧ ts[j]? = some (T.lst r .own us) ∧ sl[i]? = some (some (T.obj q dx .own C ns ts)) ∧ σ[i]? = some (some (.ref q)) ∧ H q = some (.ins (g.c.cls C) dx (fieldsV ns (ts.map T.v))) ∧
      (fieldsV ns (ts.map T.v)).lookup (Str.ofString f) = some (.ref r) ∧ H r = some (.lst (us.map T.v)) ∧ SR g H σ (sl.set i none) (T.obj q dx .own C ns ts :: tm) := by
  obtain ⟨q, dx, ts, g1, rfl, g3, g4, g5, g6, g7, g8⟩ := obj_at s h
  obtain ⟨t, ht, htd⟩ := Ts.d_at hd
  cases t with
  | lst r o' us =>
    simp only [T.d, D.lst.injEq] at htd
    obtain ⟨rfl, rfl⟩ := htd
    have kt := Ts.ok_iff.mp g7 _ (List.mem_of_getElem? ht)
    simp only [T.ok] at kt
    have lk : (fieldsV ns (ts.map T.v)).lookup (Str.ofString f) = some (T.lst r .own us).v := fIx_lookup hj (by rw [List.getElem?_map, ht]; rfl)
    exact ⟨q, dx, ts, r, us, rfl, rfl, ht, g1, g8, g3, lk, kt.1, s.move g1⟩
  | _ => simp [T.d] at htd
theorem swap_top {H : Hp} {σ : L2.St} {sl : List (Option T)} {tm : List T} {t u : T} (s : SR g H σ sl (t :: u :: tm)) : SR g H σ sl (u :: t :: tm) := s.tmp (by
  have := s.okT
  simp only [Ts.ok] at this ⊢
  exact ⟨this.2.1, this.1, this.2.2⟩) fun a => by simp only [Ts.oc, Ts.sh]; omega
theorem none_at {sl : List (Option T)} {i : Nat} (h : (den sl)[i]? = some none) : sl[i]? = some none := by
  unfold den at h
  rw [List.getElem?_map] at h
  cases q : sl[i]? with
  | none => rw [q] at h; cases h
  | some o =>
    cases o with
    | none => rfl
    | some t => rw [q] at h; simp at h
theorem set_set_none {α : Type} (l : List α) (i : Nat) (x y : α) : (l.set i x).set i y = l.set i y := by simp
theorem e_appF {i : Nat} {C f : String} (cl : Cls X.K (g.c.cls C)) (na : NoAttr X.K (g.c.cls C) (Str.ofString f)) (hK : X.K = g.c.K) (hp : PE X (.Call (.Attribute e "append" apos) [a] [] pos) (tBM X.K "list" rAppend (tFld X.K (tVar i) (Str.ofString f)) (tA g W [ma]))) : PE X (.Call (.Attribute e "append" apos) [a] [] pos) (tE g W (mAppF i C f ma)) :=
  hp.imp fun σ H Q ⟨sl, tm, s, h⟩ => by
    unfold mAppF at h
    split at h
    · rename_i C' ns xs e0
      split at h
      · rename_i hC
        subst hC
        split at h
        · rename_i j hj
          split at h
          · rename_i ys hd
            obtain ⟨q, dx, ts, r, us, rfl, rfl, ht, g1, g8, g3, lk, hr, s1⟩ := own_fld s e0 hj hd
            have kl : T.ok g.c H (T.lst r .own us) := by
              have k := s.okS _ (s.slot g1)
              simp only [T.ok] at k
              exact Ts.ok_iff.mp k.2.2.2.2 _ (List.mem_of_getElem? ht)
            refine ⟨.ref q, g8, q, _, dx, _, .ref r, rfl, g3, cl, na, lk, .inl ⟨rfl, _, by rw [hK]; exact (lst_sq kl).1⟩, ?_⟩
            have e2 : den (sl.set i none) = (den sl).set i none := den_set sl i none
            rw [← e2] at h
            refine tA1 s1 (Lands.drop h) fun H1 sl1 t s2 h1 => ?_
            split at h1
            · rename_i en
              split at h1
              · rename_i hz
                rw [Ts.d_len] at hz
                have s3 := (swap_top s2).back (i := i) (by simpa [T.v] using g8) (none_at en)
                have nl : i < sl1.length := by
                  have := none_at en
                  exact (List.getElem?_eq_some_iff.1 this).1
                have gi : (sl1.set i (some (T.obj q dx .own C' ns ts)))[i]? = some (some (T.obj q dx .own C' ns ts)) := List.getElem?_set_self nl
                have k3 := s3.okS _ (s3.slot gi)
                simp only [T.ok] at k3
                have kr := Ts.ok_iff.mp k3.2.2.2.2 _ (List.mem_of_getElem? ht)
                simp only [T.ok] at kr
                refine ⟨r, _, t.v, rfl, rfl, kr.1, by rw [SZ_eq]; simpa using hz, ?_⟩
                have s4 : SR g H1 σ (sl1.set i (some (T.obj q dx .own C' ns ts))) ([t] ++ tm) := s3
                have w := s4.writeFL (zs := us ++ [t]) gi ht (by simp; omega) (by
                    rw [Ts.ok_iff]; intro u m
                    rcases List.mem_append.mp m with m | m
                    · exact Ts.ok_iff.mp kr.2.2 u m
                    · have e := List.mem_singleton.mp m; subst e; exact s3.top) (fun a => by simp [Ts.oc_append, Ts.oc]) (fun a => by simp [Ts.sh_append, Ts.sh])
                rw [List.map_append, List.set_set] at w
                exact h1 _ _ (.sc .non) (w.push _ trivial) (by rw [den_set]; simp [T.d, Ts.d_set, Ts.d_append, Ts.d]) rfl
              · exact h1.elim
            · exact h1.elim
          · exact h.elim
        · exact h.elim
      · exact h.elim
    · exact h.elim
theorem e_extF {i : Nat} {C f : String} (cl : Cls X.K (g.c.cls C)) (na : NoAttr X.K (g.c.cls C) (Str.ofString f)) (hK : X.K = g.c.K) (hp : PE X (.Call (.Attribute e "extend" apos) [a] [] pos) (tBM X.K "list" rExtend (tFld X.K (tVar i) (Str.ofString f)) (tA g W [ma]))) : PE X (.Call (.Attribute e "extend" apos) [a] [] pos) (tE g W (mExtF i C f ma)) :=
  hp.imp fun σ H Q ⟨sl, tm, s, h⟩ => by
    unfold mExtF at h
    split at h
    · rename_i C' ns xs e0
      split at h
      · rename_i hC
        subst hC
        split at h
        · rename_i j hj
          split at h
          · rename_i ys hd
            obtain ⟨q, dx, ts, r, us, rfl, rfl, ht, g1, g8, g3, lk, hr, s1⟩ := own_fld s e0 hj hd
            have kl : T.ok g.c H (T.lst r .own us) := by
              have k := s.okS _ (s.slot g1)
              simp only [T.ok] at k
              exact Ts.ok_iff.mp k.2.2.2.2 _ (List.mem_of_getElem? ht)
            refine ⟨.ref q, g8, q, _, dx, _, .ref r, rfl, g3, cl, na, lk, .inl ⟨rfl, _, by rw [hK]; exact (lst_sq kl).1⟩, ?_⟩
            have e2 : den (sl.set i none) = (den sl).set i none := den_set sl i none
            rw [← e2] at h
            refine tA1 s1 (Lands.drop h) fun H1 sl1 t s2 h1 => ?_
            split at h1
            · rename_i o2 zs en ed
              split at h1
              · rename_i hz
                cases t with
                | lst qq o3 vs =>
                  simp only [T.d, D.lst.injEq] at ed
                  obtain ⟨rfl, rfl⟩ := ed
                  rw [Ts.d_len, Ts.d_len] at hz
                  have kt := s2.top
                  have hq : H1 qq = some (.lst (vs.map T.v)) := by
                    rcases hz.1 with rfl | rfl <;> (simp only [T.ok] at kt; exact kt.1)
                  have ku := (lst_sq kt).2.2
                  have s3 := (swap_top s2).back (i := i) (by simpa [T.v] using g8) (none_at en)
                  have nl : i < sl1.length := by
                    have := none_at en
                    exact (List.getElem?_eq_some_iff.1 this).1
                  have gi : (sl1.set i (some (T.obj q dx .own C' ns ts)))[i]? = some (some (T.obj q dx .own C' ns ts)) := List.getElem?_set_self nl
                  have k3 := s3.okS _ (s3.slot gi)
                  simp only [T.ok] at k3
                  have kr := Ts.ok_iff.mp k3.2.2.2.2 _ (List.mem_of_getElem? ht)
                  simp only [T.ok] at kr
                  refine ⟨r, qq, _, _, rfl, rfl, kr.1, hq, by rw [SZ_eq]; simpa using hz.2, ?_⟩
                  have s4 : SR g H1 σ (sl1.set i (some (T.obj q dx .own C' ns ts))) ([T.lst qq o3 vs] ++ tm) := s3
                  have w := s4.writeFL (zs := us ++ vs) gi ht (by simpa using hz.2) (by
                      rw [Ts.ok_iff]; intro u m
                      rcases List.mem_append.mp m with m | m
                      · exact Ts.ok_iff.mp kr.2.2 u m
                      · exact Ts.ok_iff.mp ku u m) (fun a => by simp [Ts.oc_append, Ts.oc, T.oc]) (fun a => by simp [Ts.sh_append, Ts.sh, T.sh]; omega)
                  rw [List.map_append, List.set_set] at w
                  exact h1 _ _ (.sc .non) (w.push _ trivial) (by rw [den_set]; simp [T.d, Ts.d_set, Ts.d_append]) rfl
                | _ => simp [T.d] at ed
              · exact h1.elim
            · exact h1.elim
          · exact h.elim
        · exact h.elim
      · exact h.elim
    · exact h.elim
/-! ### methods -/
def tMethE (C : Addr) (m : Str) (sp : Sp) (E : L2.St → XK) (ta : TE) (t : TA) : TE := fun σ H Q => ta σ H fun x H1 => ∃ a dx fs, x = .ref a ∧ H1 a = some (.ins C dx fs) ∧ fs.lookup m = none ∧ t σ H1 fun vs H2 => sp (x :: vs) H2 Q (E σ)
variable {k : Nat} {f C : Addr} {fd : FuncData} {ps : List Str} {sp : Sp} {E : L2.St → XK} {m : Str} {ta : TE} {t : TA} {CX : CXT}
theorem pe_methE {pl : Sem Bool} (he : PE X o ta) (c : Cls X.K C) (hm : Meth X.K C m f) (F : FnOk X.prog X.w X.K X.mg X.base CX k f fd ps sp) (hr : Room k X.A) (hb : Binds X.K fd ps []) (hx : ∀ σ, PassesAt CX X σ (E σ)) (ha : PA X (e :: es) t)
    (hst : starEach (e :: es) X.env = (false, eval e X.env) :: starEach es X.env := by rfl) (hpl : (backTo pos (starEach es X.env)).any (·.1) = false := by rfl)
    (ht : eval (.Call (.Attribute o m apos) (e :: es) [] pos) X.env = (do
      let ov ← eval o X.env
      standAt apos.atName
      let (f, first) ← holding [ov] (getMethod ov m pl)
      callWith pos f first (backTo pos (starEach (e :: es) X.env)) (backToKw pos (keywordEach [] X.env))) := by rfl) :
    PE X (.Call (.Attribute o m apos) (e :: es) [] pos) (tMethE C m sp E ta t) := by
  refine ⟨fun pins s σ H Q I h => ?_⟩
  refine PySem.W.methodCall_KW (pl := pl) (thn (he.run pins s σ H _ I h) fun u s1 ⟨x, H1, I1, rx, a, dx, fs, ex, ea, l, q⟩ => ?_) ht
  subst ex
  obtain rfl : u = Value.ref a := rx
  refine getmeth_ok I1 ea c hm l ?_
  refine PySem.W.callWith_K (first := [.ref a]) (h₀ := X.base) I.ok.mod.kin hm.kp (thn (ha.run pos pins s1 σ H1 _ I1 q) fun us s2 ⟨vs, H2, I2, r, q2⟩ => ⟨I2.kIn, ?_⟩) hst hpl
  exact run_fnS (us := .ref a :: us) (vs := .ref a :: vs) F hr hb (hx σ) I2 (.cons rfl r) q2
theorem pe_methE0 {pl : Sem Bool} (he : PE X o ta) (c : Cls X.K C) (hm : Meth X.K C m f) (F : FnOk X.prog X.w X.K X.mg X.base CX k f fd ps sp) (hr : Room k X.A) (hb : Binds X.K fd ps []) (hx : ∀ σ, PassesAt CX X σ (E σ))
    (ht : eval (.Call (.Attribute o m apos) [] [] pos) X.env = (do
      let ov ← eval o X.env
      standAt apos.atName
      let (f, first) ← holding [ov] (getMethod ov m pl)
      callWith pos f first (backTo pos (starEach [] X.env)) (backToKw pos (keywordEach [] X.env))) := by rfl) :
    PE X (.Call (.Attribute o m apos) [] [] pos) (fun σ H Q => ta σ H fun x H1 => ∃ a dx fs, x = .ref a ∧ H1 a = some (.ins C dx fs) ∧ fs.lookup m = none ∧ sp [x] H1 Q (E σ)) := by
  refine ⟨fun pins s σ H Q I h => ?_⟩
  refine PySem.W.methodCall_KW (pl := pl) (thn (he.run pins s σ H _ I h) fun u s1 ⟨x, H1, I1, rx, a, dx, fs, ex, ea, l, q⟩ => ?_) ht
  subst ex
  obtain rfl : u = Value.ref a := rx
  refine getmeth_ok I1 ea c hm l ?_
  exact PySem.W.callWith_K0 (first := [.ref a]) I1.kIn hm.kp (run_fnS (us := [.ref a]) (vs := [.ref a]) F hr hb (hx σ) I1 (.cons rfl .nil) q)
end
end VS

namespace VS
open PySem PySem.Spec PyProof.Rows L2
section
variable {X : Cx} {g : Gh} {W : WX} {pos p apos : Pos} {a b e o : Expr} {es : List Expr} {ma mb : Cm D} {as : List Ag} {y x : Str}
/-- o.m(..) of an object in a slot, which is handed in to be changed -/
def mMeth (i : Nat) (C m : String) (M : List D → RF) (as : List Ag) : Cm D := fun ρ => match ρ[i]? with
  | some (some (.obj _ C' ns _)) => if C' = C ∧ fIx m ns = none then mCall M (.s i :: as) ρ else .stuck
  | _ => .stuck
theorem meth_imp {c : Cfg} {M : List D → RF} {np i : Nat} {io : List Nat} {C m : String} (hc : g.c = c) (hio : agIo 0 (.s i :: as) = io) (hl : (Ag.s i :: as).length = np) (hnd : (agSlots (.s i :: as)).Nodup) (σ : L2.St) (H : Hp) (Q : VK) (q : tE g W (mMeth i C m M as) σ H Q) :
    tMethE (g.c.cls C) (Str.ofString m) (spM c np io M) (WE W) (tVar i) (tAs g W as) σ H Q := by
  obtain ⟨sl, tm, s, h⟩ := q
  unfold mMeth at h
  split at h
  · rename_i o' C' ns xs e0
    split at h
    · rename_i hC
      obtain ⟨rfl, hm⟩ := hC
      obtain ⟨q, dx, ts, g1, rfl, g3, g4, g5, g6, g7, g8⟩ := obj_at s e0
      obtain ⟨sl2, tm2, s2, h2⟩ := call_imp (as := .s i :: as) hc hio hl hnd σ H Q ⟨sl, tm, s, h⟩
      simp only [agRun] at h2
      split at h2
      · rename_i d e1
        refine ⟨.ref q, g8, q, dx, _, rfl, g3, fIx_none hm, tAs.go s2 h2 fun H1 sl1 us vs s3 hv h3 => ?_⟩
        exact h3 H1 sl1 (none :: us) (.ref q :: vs) s3 rfl rfl ⟨g8, hv⟩
      · exact h2.elim
    · exact h.elim
  · exact h.elim
theorem e_meth {f : Addr} {fd : FuncData} {ps : List Str} {c : Cfg} {M : List D → RF} {k np i : Nat} {io : List Nat} {C m : String} (cl : Cls X.K (g.c.cls C)) (hm : Meth X.K (g.c.cls C) (Str.ofString m) f) (F : FnOk X.prog X.w X.K X.mg X.base (L2.CX X.prog X.w) k f fd ps (spM c np io M)) (hr : Room k X.A) (hb : Binds X.K fd ps []) (tk : Takes X W)
    (ho : PE X o (tVar i)) (ha : PA X (e :: es) (tAs g W as)) (hc : g.c = c) (hio : agIo 0 (.s i :: as) = io) (hl : (Ag.s i :: as).length = np) (hnd : (agSlots (.s i :: as)).Nodup) {pl : Sem Bool}
    (hst : starEach (e :: es) X.env = (false, eval e X.env) :: starEach es X.env := by rfl) (hpl : (backTo pos (starEach es X.env)).any (·.1) = false := by rfl)
    (ht : eval (.Call (.Attribute o (Str.ofString m) apos) (e :: es) [] pos) X.env = (do
      let ov ← eval o X.env
      standAt apos.atName
      let (f, first) ← holding [ov] (getMethod ov (Str.ofString m) pl)
      callWith pos f first (backTo pos (starEach (e :: es) X.env)) (backToKw pos (keywordEach [] X.env))) := by rfl) :
    PE X (.Call (.Attribute o (Str.ofString m) apos) (e :: es) [] pos) (tE g W (mMeth i C m M as)) := (pe_methE (E := WE W) ho cl hm F hr hb (fun σ => passAt tk σ) ha hst hpl ht).imp (meth_imp hc hio hl hnd)
theorem e_meth0 {f : Addr} {fd : FuncData} {ps : List Str} {c : Cfg} {M : List D → RF} {k np i : Nat} {io : List Nat} {C m : String} (cl : Cls X.K (g.c.cls C)) (hm : Meth X.K (g.c.cls C) (Str.ofString m) f) (F : FnOk X.prog X.w X.K X.mg X.base (L2.CX X.prog X.w) k f fd ps (spM c np io M)) (hr : Room k X.A) (hb : Binds X.K fd ps []) (tk : Takes X W)
    (ho : PE X o (tVar i)) (hc : g.c = c) (hio : agIo 0 [.s i] = io) (hl : [Ag.s i].length = np) {pl : Sem Bool}
    (ht : eval (.Call (.Attribute o (Str.ofString m) apos) [] [] pos) X.env = (do
      let ov ← eval o X.env
      standAt apos.atName
      let (f, first) ← holding [ov] (getMethod ov (Str.ofString m) pl)
      callWith pos f first (backTo pos (starEach [] X.env)) (backToKw pos (keywordEach [] X.env))) := by rfl) :
    PE X (.Call (.Attribute o (Str.ofString m) apos) [] [] pos) (tE g W (mMeth i C m M [])) := (pe_methE0 (E := WE W) ho cl hm F hr hb (fun σ => passAt tk σ) ht).imp fun σ H Q q => by
    obtain ⟨v, hv, a, dx, fs, h1, h2, h3, h4⟩ := meth_imp (as := []) hc hio hl (by simp [agSlots]) σ H Q q
    refine ⟨v, hv, a, dx, fs, h1, h2, h3, ?_⟩
    obtain ⟨sl, tm, s, h5⟩ := h4
    exact h5 H sl [] [] s rfl rfl trivial
/-- C(): a new object -/
def mNewO (C : String) (M : List D → RF) : Cm D := fun ρ => match M [.obj .own C [] []] with
  | .ok (.sc .non) [d] => .ok d ρ
  | _ => .stuck
theorem SR.newO {H : Hp} {σ : L2.St} {sl : List (Option T)} {tm : List T} {q dx : Addr} {C : String} (s : SR g H σ sl tm) (hq : H q = none) (hd : H dx = none) (hn : dx ≠ q) :
    SR g (upd (upd H dx (.own q)) q (.ins (g.c.cls C) dx [])) σ sl (T.obj q dx .own C [] [] :: tm) := by
  have f1 := s.free hq
  have f2 := s.free hd
  have kept : ∀ a, 0 < So (T.oc a) sl + So (T.sh a) sl + Ts.oc a tm + Ts.sh a tm → (upd (upd H dx (.own q)) q (.ins (g.c.cls C) dx [])) a = H a := fun a h => by
    by_cases e : a = q
    · subst e; omega
    · by_cases e2 : a = dx
      · subst e2; omega
      · rw [upd_ne e, upd_ne e2]
  refine s.go (s.stayS fun a h => kept a (by omega)) ?_ (fun a => ?_) (fun a => ?_) s.len s.slen s.at_ s.io
  · simp only [Ts.ok, T.ok]
    refine ⟨⟨upd_same, by rw [upd_ne hn, upd_same], hn, rfl, trivial⟩, ?_⟩
    exact s.stayT fun a h => kept a (by omega)
  · simp only [Ts.oc, Ts.sh, T.oc, T.sh]
    by_cases e : q = a
    · subst e
      refine .inr ⟨.inl hq, .inr ?_⟩
      simp [b2, hn]
      omega
    · by_cases e2 : dx = a
      · subst e2
        refine .inr ⟨.inl hd, .inr ?_⟩
        simp [b2, e]
        omega
      · simp [b2, e, e2]
        refine .inl (by omega)
  · by_cases e : a = q
    · subst e; exact .inr (.inl hq)
    · by_cases e2 : a = dx
      · subst e2; exact .inr (.inl hd)
      · exact .inl (by rw [upd_ne e, upd_ne e2])
theorem newO_imp {c : Cfg} {M : List D → RF} {C : String} (hc : g.c = c) (σ : L2.St) (H : Hp) (Q : VK) (q : tE g W (mNewO C M) σ H Q) : tMake (g.c.cls C) (spM c 1 [0] M) [] (fun _ _ _ => False) tNil σ H Q := by
  subst hc
  obtain ⟨sl, tm, s, h⟩ := q
  unfold mNewO at h
  intro x dx hx hdx hne
  have s1 := s.newO (C := C) hx hdx hne
  split at h
  · rename_i d em
    refine ⟨[T.obj x dx .own C [] []], rfl, ?_, s1.tabs, fun a => ?_, rfl, ?_⟩
    · have := s1.okT
      simp only [Ts.ok] at this ⊢
      exact ⟨this.1, trivial⟩
    · simp only [Ts.oc, Ts.sh, T.oc, T.sh]
      by_cases e : x = a
      · subst e; simp [b2, hne]
      · by_cases e2 : dx = a
        · subst e2; simp [b2, e]
        · simp [b2, e, e2]
    · have ed : Ts.d [T.obj x dx .own C [] []] = [D.obj .own C [] []] := by simp [Ts.d, T.d]
      rw [ed, em]
      intro H' t us ha et eu hi
      have s2 : SR g H' σ sl ((t :: us) ++ tm) := SR.call (ts := [T.obj x dx .own C [] []]) (by simpa using s1) ha
      cases us with
      | nil => simp [Ts.d] at eu
      | cons u us =>
        cases us with
        | cons _ _ => simp [Ts.d] at eu
        | nil =>
          simp only [Ts.d, List.cons.injEq, and_true] at eu
          have uv : u.v = .ref x := by
            simp [ioV, T.v] at hi
            exact hi.symm
          refine ⟨?_, ?_⟩
          · cases t with
            | sc z => simp only [T.d, D.sc.injEq] at et; subst et; rfl
            | _ => simp [T.d] at et
          · have := h H' sl u s2.pop rfl eu
            rwa [uv] at this
  · exact h.elim
theorem e_newO {f : Addr} {fd : FuncData} {ps : List Str} {c : Cfg} {M : List D → RF} {k : Nat} {C : String} (Mk_ : Mk X.K (g.c.cls C) f) (F : FnOk X.prog X.w X.K X.mg X.base (L2.CX X.prog X.w) k f fd ps (spM c 1 [0] M)) (hr : Room (k + 1) X.A) (hb : Binds X.K fd ps [])
    (hg : Gl X x) (hm : X.mg x = some (.ref (g.c.cls C))) (hc : g.c = c) (hdb : (x == ("__debug__" : Str)) = false := by decide) : PE X (.Call (.Name x p) [] [] pos) (tE g W (mNewO C M)) :=
  (pe_make0 Mk_ F hr hg hm hb .nil passF hdb).imp (newO_imp hc)
end
end VS

namespace VS
open PySem PySem.Spec PyProof.Rows L2
section
variable {X : Cx} {g : Gh} {W : WX} {pos p apos : Pos} {a b e o : Expr} {es : List Expr} {ma mb : Cm D} {as : List Ag} {y x : Str}
/-- self.f[e]; e does not look at the object, what stands there is no made thing -/
def mIdxF (i : Nat) (C nm : String) (mb : Cm D) : Cm D := fun ρ => match ρ[i]? with
  | some (some (.obj o C' ns xs)) => if C' = C then (match fIx nm ns with
    | some j => match xs[j]? with
      | some d => (mb (ρ.set i none)).bind fun k ρ => match ρ[i]?, k with
        | some none, .sc (.int k) => match idxD d k with
          | some z => if z.pur then .ok z (ρ.set i (some (.obj o C ns xs))) else .stuck
          | none => .stuck
        | _, _ => .stuck
      | none => .stuck
    | none => .stuck) else .stuck
  | _ => .stuck
theorem e_idxF {i : Nat} {C nm : String} (cl : Cls X.K (g.c.cls C)) (na : NoAttr X.K (g.c.cls C) (Str.ofString nm)) (hK : X.K = g.c.K) (hp : PE X a (tFld X.K (tVar i) (Str.ofString nm))) (hb : PE X b (tE g W mb)) (hs : PlainIx b := by exact fun _ _ => rfl) : PE X (.Subscript a b pos) (tE g W (mIdxF i C nm mb)) :=
  (pe_ix (hK ▸ ix_seq) hp hb hs).imp fun σ H Q ⟨sl, tm, s, h⟩ => by
    unfold mIdxF at h
    split at h
    · rename_i o C' ns xs e0
      split at h
      · rename_i hC
        subst hC
        split at h
        · rename_i j hj
          split at h
          · rename_i d hd
            obtain ⟨q, dx, ts, g1, rfl, g3, g4, g5, g6, g7, g8⟩ := obj_at s e0
            obtain ⟨t, ht, rfl⟩ := Ts.d_at hd
            have lk : (fieldsV ns (ts.map T.v)).lookup (Str.ofString nm) = some t.v := fIx_lookup hj (by rw [List.getElem?_map, ht]; rfl)
            refine ⟨.ref q, g8, q, _, dx, _, t.v, rfl, g3, cl, na, lk, ?_⟩
            have s1 := s.move g1
            have e2 : den (sl.set i none) = (den sl).set i none := den_set sl i none
            rw [← e2] at h
            refine tE.of s1 (Lands.drop h) fun H1 sl1 u s2 h1 => ?_
            split at h1
            · rename_i k en ek
              split at h1
              · rename_i z hz
                split at h1
                · rename_i hpu
                  cases u with
                  | sc w =>
                    simp only [T.d, D.int, D.sc.injEq] at ek
                    subst ek
                    have s3 := (swap_top s2).back (i := i) (by simpa [T.v] using g8) (none_at en)
                    have nl : i < sl1.length := (List.getElem?_eq_some_iff.1 (none_at en)).1
                    have gi : (sl1.set i (some (T.obj q dx o C' ns ts)))[i]? = some (some (T.obj q dx o C' ns ts)) := List.getElem?_set_self nl
                    have k3 := s3.okS _ (s3.slot gi)
                    have kt : t.ok g.c H1 := by
                      cases o <;> simp only [T.ok] at k3 <;> first | exact Ts.ok_iff.mp k3.2.2.2.2 t (List.mem_of_getElem? ht) | exact k3.elim
                    obtain ⟨x, rfl, kx, hc, _, _, qq⟩ := idx_tree kt hz
                    have s4 : SR g H1 σ (sl1.set i (some (T.obj q dx o C' ns ts))) (x :: tm) := s3.pop.dup gi kx (fun a => T.pur_oc a x hpu) fun a => by
                      have := (hc a).2
                      have := Ts.sh_mem (a := a) (List.mem_of_getElem? ht)
                      simp only [T.sh]
                      omega
                    exact qq Q (h1 H1 _ x s4 (by rw [den_set]; simp [T.d]) rfl)
                  | _ => simp [T.d] at ek
                · exact h1.elim
              · exact h1.elim
            · exact h1.elim
          · exact h.elim
        · exact h.elim
      · exact h.elim
    · exact h.elim
end
/-! ### what the head of the text is asked of a class -/
/-- a method: where it stands -/
structure AtM (K : PySem.W.Frag) (c : Cfg) (C m : String) (nm qual : Str) (st : Stmt) (ps : List Str) (f : Addr) (fd : FuncData) : Prop where
  F : FunD K nm qual (defArgs st) (defBody st) (defScope st) [] [] f fd
  m : Meth K (c.cls C) (Str.ofString m) f
  b : Binds K fd ps []
def clsB (K : PySem.W.Frag) (C : String) (fs ms : List String) : Bool :=
  PySem.W.plainGet K (clsOf K C) Str.empty && (PySem.W.hasDictIn K (clsOf K C) && (PySem.W.plainOver K (clsOf K C) && (decide (PySem.W.findIn K (.ref (clsOf K C)) "__setattr__" = some (some (.builtin "object.__setattr__"))) && (PySem.W.makesIn K (clsOf K C) && (PySem.W.keepIn K (.ref (clsOf K C)) &&
  ((fs.all fun f => decide (PySem.W.findIn K (.ref (clsOf K C)) (Str.ofString f) = some none)) && (ms.all fun m => decide (PySem.W.findIn K (.ref (clsOf K C)) (Str.ofString m) = some (some (.ref (He.ma K (clsOf K C) (Str.ofString m))))) && (PySem.W.isFn K (.ref (He.ma K (clsOf K C) (Str.ofString m))) && PySem.W.keepIn K (.ref (He.ma K (clsOf K C) (Str.ofString m)))))))))))
theorem clsB_ok {K : PySem.W.Frag} {C : String} {fs ms : List String} (h : clsB K C fs ms = true) : Cls K (clsOf K C) ∧ (∀ f ∈ fs, NoAttr K (clsOf K C) (Str.ofString f)) ∧ (∀ m ∈ ms, Meth K (clsOf K C) (Str.ofString m) (He.ma K (clsOf K C) (Str.ofString m))) ∧
    ("__init__" ∈ ms → Mk K (clsOf K C) (He.ma K (clsOf K C) (Str.ofString "__init__"))) := by
  unfold clsB at h
  simp only [Bool.and_eq_true, decide_eq_true_eq, List.all_eq_true] at h
  obtain ⟨h1, h2, h3, h4, h5, h6, h7, h8⟩ := h
  exact ⟨⟨h1, h2, h3, h4⟩, h7, fun m hm => ⟨(h8 m hm).1, (h8 m hm).2.1, (h8 m hm).2.2⟩, fun hm => ⟨h5, (h8 _ hm).1, (h8 _ hm).2.1, h6⟩⟩
/-! ### the words, as rows for simp -/
section
variable {ρ : DE} {i : Nat} {C f : String}
@[simp] theorem mFld_ : mFld i C f ρ = match ρ[i]? with
  | some (some (.obj o C' ns xs)) => if C' = C then (match fIx f ns with
    | some j => match xs[j]? with
      | some d => if d.pur then .ok d ρ else .ok d.fz (ρ.set i (some (.obj o C ns (xs.set j d.fz))))
      | none => .stuck
    | none => .stuck) else .stuck
  | _ => .stuck := rfl
@[simp] theorem mFldM_ : mFldM i C f ρ = match ρ[i]? with
  | some (some (.obj _ C' ns xs)) => if C' = C then (match fIx f ns with
    | some j => match xs[j]? with
      | some d => .ok d (ρ.set i none)
      | none => .stuck
    | none => .stuck) else .stuck
  | _ => .stuck := rfl
@[simp] theorem mP1F_ (F : D → Option Sc) : mP1F F i C f ρ = match ρ[i]? with
  | some (some (.obj _ C' ns xs)) => if C' = C then (match fIx f ns with
    | some j => match xs[j]? with
      | some d => (lift (F d) ρ).bind fun s ρ => .ok (.sc s) ρ
      | none => .stuck
    | none => .stuck) else .stuck
  | _ => .stuck := rfl
@[simp] theorem mIdxF_ (mb : Cm D) : mIdxF i C f mb ρ = match ρ[i]? with
  | some (some (.obj o C' ns xs)) => if C' = C then (match fIx f ns with
    | some j => match xs[j]? with
      | some d => (mb (ρ.set i none)).bind fun k ρ => match ρ[i]?, k with
        | some none, .sc (.int k) => match idxD d k with
          | some z => if z.pur then .ok z (ρ.set i (some (.obj o C ns xs))) else .stuck
          | none => .stuck
        | _, _ => .stuck
      | none => .stuck
    | none => .stuck) else .stuck
  | _ => .stuck := rfl
@[simp] theorem mSetF_ (m : Cm D) : mSetF i C f m ρ = (m ρ).bind fun d ρ => match ρ[i]? with
  | some (some (.obj .own C' ns xs)) => if C' = C ∧ ns.length < 1000 then (match fIx f ns with
    | some j => .ok .nx (ρ.set i (some (.obj .own C ns (xs.set j d))))
    | none => .ok .nx (ρ.set i (some (.obj .own C (ns ++ [f]) (xs ++ [d]))))) else .stuck
  | _ => .stuck := rfl
@[simp] theorem mAugF_ (op : Int → Int → Int) (m : Cm D) : mAugF i C f op m ρ = match ρ[i]? with
  | some (some (.obj _ C' ns xs)) => if C' = C then (match fIx f ns with
    | some j => match xs[j]? with
      | some (.sc (.int u)) => (m ρ).bind fun d ρ => match d, ρ[i]? with
        | .sc (.int v), some (some (.obj .own C2 ns2 xs2)) => if C2 = C ∧ ns2.length < 1000 then (match fIx f ns2 with
          | some j2 => .ok .nx (ρ.set i (some (.obj .own C ns2 (xs2.set j2 (.int (op u v))))))
          | none => .stuck) else .stuck
        | _, _ => .stuck
      | _ => .stuck
    | none => .stuck) else .stuck
  | _ => .stuck := rfl
@[simp] theorem mAppF_ (ma : Cm D) : mAppF i C f ma ρ = match ρ[i]? with
  | some (some (.obj .own C' ns xs)) => if C' = C then (match fIx f ns with
    | some j => match xs[j]? with
      | some (.lst .own ys) => (ma (ρ.set i none)).bind fun d ρ => match ρ[i]? with
        | some none => if ys.length < 16777216 then .ok .non (ρ.set i (some (.obj .own C ns (xs.set j (.lst .own (ys ++ [d])))))) else .stuck
        | _ => .stuck
      | _ => .stuck
    | none => .stuck) else .stuck
  | _ => .stuck := rfl
@[simp] theorem mExtF_ (ma : Cm D) : mExtF i C f ma ρ = match ρ[i]? with
  | some (some (.obj .own C' ns xs)) => if C' = C then (match fIx f ns with
    | some j => match xs[j]? with
      | some (.lst .own ys) => (ma (ρ.set i none)).bind fun d ρ => match ρ[i]?, d with
        | some none, .lst o zs => if (o = .own ∨ o = .shr) ∧ ys.length + zs.length ≤ 16777216 then .ok .non (ρ.set i (some (.obj .own C ns (xs.set j (.lst .own (ys ++ zs)))))) else .stuck
        | _, _ => .stuck
      | _ => .stuck
    | none => .stuck) else .stuck
  | _ => .stuck := rfl
@[simp] theorem mMeth_ {m : String} (M : List D → RF) (as : List Ag) : mMeth i C m M as ρ = match ρ[i]? with
  | some (some (.obj _ C' ns _)) => if C' = C ∧ fIx m ns = none then mCall M (.s i :: as) ρ else .stuck
  | _ => .stuck := rfl
@[simp] theorem mNewO_ (M : List D → RF) : mNewO C M ρ = match M [.obj .own C [] []] with
  | .ok (.sc .non) [d] => .ok d ρ
  | _ => .stuck := rfl
@[simp] theorem fIx_cons {n : String} {ns : List String} : fIx f (n :: ns) = if n = f then some 0 else (fIx f ns).map (· + 1) := rfl
@[simp] theorem fIx_nil : fIx f [] = none := rfl
end
end VS
namespace VS
open PySem PySem.Spec PyProof.Rows L2
/-! ### enumerate over a text -/
def IteS (x : Str) : It :=
  ⟨fun i H => i < x.cps.size, fun i H v H' => ∃ T c, v = .ref T ∧ H T = none ∧ H' = upd H T (.tup [.int (i : Nat), .str ⟨#[c]⟩]) ∧ x.cps[i]? = some c, fun i H => x.cps.size = i⟩
theorem turn_enumS {P : Program} {w : World} {K : PySem.W.Frag} {elts : List Expr} {kk : Nat} {tpos : Pos} (x : Str) (t : Tok) (e it : Addr) :
    Turn P w K (.Tuple elts kk tpos) (IteS x) [e, it] e (fun i h => (∃ old, IsEnum h e it ((i : Nat) : Int) old) ∧ h.IsStrIter it (strIterType x) x t i ∧ e ≠ it) where
  mem := by simp
  obj := fun i h st b hb => by
    obtain ⟨⟨old, he⟩, ⟨o, ho, hc, hd⟩, _⟩ := st
    have e' : b = e ∨ b = it := by simpa using hb
    rcases e' with z | z
    · rw [z]; exact ⟨_, he, fun v q => nomatch q⟩
    · rw [z]; exact ⟨o, ho, fun v q => by rw [hd] at q; cases q⟩
  keep := fun i h h' st k => let ⟨⟨old, he⟩, ⟨o, ho, r⟩, hne⟩ := st; ⟨⟨old, k e (by simp) _ he⟩, ⟨o, k it (by simp) o ho, r⟩, hne⟩
  item := by
    intro X hP hw hK hc i pins s σ H E I hf st hg
    subst hP hw hK
    obtain ⟨⟨old, he⟩, hit, hne⟩ := st
    have hel : e < s.heap.objs.size := Heap.lt_size he
    have hil : it < s.heap.objs.size := by obtain ⟨_, q, _⟩ := hit; exact Heap.lt_size q
    refine wpAny_pyNext_enum_itemD (Draws.text (A := X.A.in1) (I.ok.hd hc) it x t) he hit hg hne (by simp [hne]) fun y h' tk hy ho hst hT hsz hk => ?_
    obtain ⟨c, u, hcx, rfl⟩ := hy
    refine ⟨_, rfl, wpAny_letOwnedTupleGo_enum (s := { s with heap := h', toks := tk + 1 }) ho fun h'' he' sb => ?_⟩
    have hT2 : h''.get? s.heap.objs.size = some { cls := .type "tuple", data := .seq #[.int i tk, .str ⟨#[c]⟩ u] } := (sb.2 _ (Nat.ne_of_gt hel)).trans hT
    have new : ObjOk X.prog X.w (upd H s.heap.objs.size (.tup [.int (i : Nat), .str ⟨#[c]⟩])) h'' s.heap.objs.size (.tup [.int (i : Nat), .str ⟨#[c]⟩]) :=
      ⟨by show 2 ≤ sizeLine; decide, [.int i tk, .str ⟨#[c]⟩ u], .cons ⟨_, rfl⟩ (.cons ⟨_, rfl⟩ .nil), ⟨_, hT2, rfl, _, rfl⟩⟩
    have I1 : Inv X pins σ (upd H s.heap.objs.size (.tup [.int (i : Nat), .str ⟨#[c]⟩])) { s with heap := h'', toks := tk + 1 } :=
      I.turnedNew (ch := [e, it]) (fun b ob hb q => (sb.2 b (fun z => hb (by simp [z]))).trans (hk b ob (fun z => hb (by simp [z])) (fun z => hb (by simp [z])) q)) hf (Nat.le_refl _) new
    have hst2 : h''.IsStrIter it (strIterType x) x t (i + 1) := by
      obtain ⟨o, ho', r⟩ := hst
      exact ⟨o, (sb.2 it (Ne.symm hne)).trans ho', r⟩
    refine ⟨.ref s.heap.objs.size, _, I1, rfl, ⟨_, c, rfl, I.hok.fresh (Nat.le_refl _), rfl, hcx⟩, ⟨⟨.str ⟨#[c]⟩ u, ?_⟩, hst2, hne⟩, fun b hb => ?_⟩
    · have e1 : ((i + 1 : Nat) : Int) = (i : Int) + 1 := by omega
      rw [e1]; exact he'
    · have hb' : b < s.heap.objs.size := by
        have e' : b = e ∨ b = it := by simpa using hb
        rcases e' with z | z
        · rw [z]; exact hel
        · rw [z]; exact hil
      rw [upd_ne (Nat.ne_of_lt hb')]
      exact (hf b hb).1
  done := by
    intro X hP hw hK hc i pins s σ H E I hf st hg
    subst hP hw hK
    obtain ⟨⟨old, he⟩, hit, hne⟩ := st
    obtain ⟨f0, f1, f2, f3, f4, f5⟩ := hf it (by simp)
    have hn : x.cps.size = i := hg
    subst hn
    exact wpAny_pyNext_enum_endD (Draws.text (A := X.A.in1) (I.ok.hd hc) it x t) he hit fun h' eb => ⟨rfl, I.turned (t' := s.toks) (fun b o hb q => eb b o hb q) f0 f1 f3 f4 f5⟩
  self := fun A i s Q E st h => let ⟨⟨_, he⟩, _⟩ := st; wpAny_pyIter_enum he h
def iEnumS (ta : TA) : TI := fun σ H R => ta σ H fun vs H1 => ∃ x, vs = [.str x] ∧ R (IteS x) H1
theorem pi_enumS {X : Cx} {e : Expr} {ta : TA} {p pos tpos : Pos} {elts : List Expr} {kk : Nat} (hg : Gl X "enumerate") (hm : X.mg "enumerate" = none) (ha : PA X [e] ta) (hs : starEach [e] X.env = [(false, eval e X.env)] := by rfl) :
    PI X (.Tuple elts kk tpos) (.Call (.Name "enumerate" p) [e] [] pos) (iEnumS ta) := by
  refine ⟨fun pins s σ H R I h => ?_⟩
  refine Call_ (ld_blt I hg hm boot_enumerate (PyProof.Rows.callWith_type1 (thn (ha.run pos pins s σ H _ I h) fun us s1 ⟨vs, H1, I1, r1, q1⟩ => ?_) hs rfl))
  obtain ⟨x, ex, q⟩ := q1
  subst ex
  cases r1 with
  | cons r rr =>
    cases rr
    obtain ⟨t, rfl⟩ := r
    refine call_enumT (begins_text x t) trivial fun h' he hit hsz hk => wpAny_pyIter_enum he ?_
    have I2 : Inv X pins σ H1 { s1 with heap := h' } := I1.kept (t' := s1.toks) hk
    refine ⟨s1.heap.objs.size + 1, [s1.heap.objs.size + 1, s1.heap.objs.size], _, _, H1, rfl, I2, turn_enumS x t (s1.heap.objs.size + 1) s1.heap.objs.size, ⟨⟨.none, he⟩, ⟨_, hit, rfl, rfl⟩, Nat.succ_ne_self _⟩, fun b hb => ?_, q⟩
    have e' : b = s1.heap.objs.size + 1 ∨ b = s1.heap.objs.size := by simpa using hb
    have hle : s1.heap.objs.size ≤ b := by
      rcases e' with z | z
      · rw [z]; exact Nat.le_add_right _ _
      · rw [z]; exact Nat.le_refl _
    exact I1.fpOk hle (I1.hok.fresh hle)
section
variable {X : Cx} {g : Gh} {W : WX} {pos : Pos} {a b c e tg iter : Expr} {ma mb : Cm D}
theorem it_enumS {l : List Nat} (hl : (Sc.str l).good) : ItOk g (IteS ⟨l.toArray⟩) [] (enumD (l.map fun c => D.str [c])) where
  stop := fun H σ sl tm s => by simp [IteS, enumD_len]
  go := fun i d H σ sl tm s h => by
    unfold enumD at h
    rw [List.getElem?_mapIdx, List.getElem?_map, Option.map_map, Option.map_eq_some_iff] at h
    obtain ⟨c, hc, rfl⟩ := h
    obtain ⟨hlt, e⟩ := List.getElem?_eq_some_iff.1 hc
    refine ⟨by simpa [IteS] using hlt, fun x H' hy => ?_⟩
    obtain ⟨T', c', rfl, hT, rfl, hc'⟩ := hy
    have : c' = c := by simp [hc] at hc'; omega
    subst this
    have s2 : SR g H σ sl (T.sc (.str [c']) :: ([] ++ tm)) := s.push _ ⟨by simp, fun z hz => by simp at hz; subst hz; exact hl.2 _ (List.mem_of_getElem? hc)⟩
    exact enum_pair s s2 hT
def mEnumS (ma : Cm D) : Cm (List D) := fun ρ => (ma ρ).bind fun d ρ => match d with
  | .sc (.str l) => .ok (enumD (l.map fun c => D.str [c])) ρ
  | _ => .stuck
@[simp] theorem mEnumS_ {ρ : DE} : mEnumS ma ρ = (ma ρ).bind fun d ρ => match d with
  | .sc (.str l) => .ok (enumD (l.map fun c => D.str [c])) ρ
  | _ => .stuck := rfl
theorem i_enumS {elts : List Expr} {kk : Nat} {tpos p : Pos} (hg : Gl X "enumerate") (hm : X.mg "enumerate" = none) (ha : PA X [e] (tA g W [ma])) (hs : starEach [e] X.env = [(false, eval e X.env)] := by rfl) :
    PI X (.Tuple elts kk tpos) (.Call (.Name "enumerate" p) [e] [] pos) (tI g W (mEnumS ma)) := (pi_enumS hg hm ha hs).imp fun σ H R ⟨sl, tm, s, q⟩ => by
  refine tA1 s q fun H' sl' t s' h' => ?_
  cases t with
  | sc x =>
    cases x with
    | str l =>
      have k := s'.top
      simp only [T.ok] at k
      exact ⟨_, rfl, h' H' sl' [] _ s'.pop rfl (it_enumS k)⟩
    | _ => exact h'.elim
  | _ => exact h'.elim
end
end VS
namespace VS
open PySem PySem.Spec PyProof.Rows L2
/-! ### max, min of a list -/
def bigI (y : Int) (ys : List Int) : Int := ys.foldl (fun a y => if a < y then y else a) y
def smaI (y : Int) (ys : List Int) : Int := ys.foldl (fun a y => if y < a then y else a) y
theorem bigI_is : ∀ (ys : List Int) (y : Int), (bigI y ys = y ∨ bigI y ys ∈ ys) ∧ y ≤ bigI y ys ∧ ∀ z ∈ ys, z ≤ bigI y ys
  | [], y => ⟨.inl rfl, Int.le_refl _, by simp⟩
  | z :: ys, y => by
    have e : bigI y (z :: ys) = bigI (if y < z then z else y) ys := rfl
    obtain ⟨h1, h2, h3⟩ := bigI_is ys (if y < z then z else y)
    rw [e]
    generalize bigI (if y < z then z else y) ys = m at *
    by_cases q : y < z
    · rw [if_pos q] at h1 h2
      refine ⟨.inr ?_, by omega, fun w hw => ?_⟩
      · rcases h1 with h1 | h1
        · rw [h1]; simp
        · simp [h1]
      · rcases List.mem_cons.1 hw with rfl | hw
        · omega
        · exact h3 w hw
    · rw [if_neg q] at h1 h2
      refine ⟨?_, by omega, fun w hw => ?_⟩
      · rcases h1 with h1 | h1
        · exact .inl h1
        · exact .inr (by simp [h1])
      · rcases List.mem_cons.1 hw with rfl | hw
        · omega
        · exact h3 w hw
theorem smaI_is : ∀ (ys : List Int) (y : Int), (smaI y ys = y ∨ smaI y ys ∈ ys) ∧ smaI y ys ≤ y ∧ ∀ z ∈ ys, smaI y ys ≤ z
  | [], y => ⟨.inl rfl, Int.le_refl _, by simp⟩
  | z :: ys, y => by
    have e : smaI y (z :: ys) = smaI (if z < y then z else y) ys := rfl
    obtain ⟨h1, h2, h3⟩ := smaI_is ys (if z < y then z else y)
    rw [e]
    generalize smaI (if z < y then z else y) ys = m at *
    by_cases q : z < y
    · rw [if_pos q] at h1 h2
      refine ⟨.inr ?_, by omega, fun w hw => ?_⟩
      · rcases h1 with h1 | h1
        · rw [h1]; simp
        · simp [h1]
      · rcases List.mem_cons.1 hw with rfl | hw
        · omega
        · exact h3 w hw
    · rw [if_neg q] at h1 h2
      refine ⟨?_, by omega, fun w hw => ?_⟩
      · rcases h1 with h1 | h1
        · exact .inl h1
        · exact .inr (by simp [h1])
      · rcases List.mem_cons.1 hw with rfl | hw
        · omega
        · exact h3 w hw
def maxLD : D → Option Sc
  | .lst _ xs => match intL xs with
    | some (y :: ys) => some (.int (bigI y ys))
    | _ => none
  | _ => none
def minLD : D → Option Sc
  | .lst _ xs => match intL xs with
    | some (y :: ys) => some (.int (smaI y ys))
    | _ => none
  | _ => none
section
variable {g : Gh}
theorem hr_maxL {K : PySem.W.Frag} (hK : K = g.c.K) : HR1 g maxLD (rMax K) := fun H u c Q k h q => by
  subst hK
  cases u with
  | lst p o xs =>
    simp only [T.d, maxLD] at h
    split at h
    · rename_i y ys hl
      cases h
      refine ⟨p, y :: ys, rfl, by rw [← intL_ok hl]; exact (lst_sq k).1, by simp, fun m hm hx => ?_⟩
      obtain ⟨h1, h2, h3⟩ := bigI_is ys y
      have e : m = bigI y ys := by
        have a : m ≤ bigI y ys := by
          rcases List.mem_cons.1 hm with rfl | hm
          · exact h2
          · exact h3 m hm
        have b : bigI y ys ≤ m := by
          rcases h1 with h1 | h1
          · rw [h1]; exact hx y (by simp)
          · exact hx _ (by simp [h1])
        omega
      subst e
      exact q trivial
    · cases h
  | sc s => cases s <;> simp [T.d, maxLD] at h
  | _ => simp [T.d, maxLD] at h
theorem hr_minL {K : PySem.W.Frag} (hK : K = g.c.K) : HR1 g minLD (rMin K) := fun H u c Q k h q => by
  subst hK
  cases u with
  | lst p o xs =>
    simp only [T.d, minLD] at h
    split at h
    · rename_i y ys hl
      cases h
      refine ⟨p, y :: ys, rfl, by rw [← intL_ok hl]; exact (lst_sq k).1, by simp, fun m hm hx => ?_⟩
      obtain ⟨h1, h2, h3⟩ := smaI_is ys y
      have e : m = smaI y ys := by
        have a : smaI y ys ≤ m := by
          rcases List.mem_cons.1 hm with rfl | hm
          · exact h2
          · exact h3 m hm
        have b : m ≤ smaI y ys := by
          rcases h1 with h1 | h1
          · rw [h1]; exact hx y (by simp)
          · exact hx _ (by simp [h1])
        omega
      subst e
      exact q trivial
    · cases h
  | sc s => cases s <;> simp [T.d, minLD] at h
  | _ => simp [T.d, minLD] at h
end
theorem intL_map (l : List Int) : intL (l.map D.int) = some l := by
  induction l with
  | nil => rfl
  | cons x l ih => simp [intL, ih]
theorem maxLD_ (o : Ow) (y : Int) (ys : List Int) : maxLD (.lst o ((y :: ys).map D.int)) = some (.int (bigI y ys)) := by
  show (match intL ((y :: ys).map D.int) with
    | some (y :: ys) => some (Sc.int (bigI y ys))
    | _ => none) = _
  rw [intL_map]
theorem minLD_ (o : Ow) (y : Int) (ys : List Int) : minLD (.lst o ((y :: ys).map D.int)) = some (.int (smaI y ys)) := by
  show (match intL ((y :: ys).map D.int) with
    | some (y :: ys) => some (Sc.int (smaI y ys))
    | _ => none) = _
  rw [intL_map]
end VS
namespace VS
open PySem PySem.Spec PyProof.Rows L2
/-! ### a list within a tuple is changed -/
section
variable {X : Cx} {g : Gh} {W : WX} {pos p : Pos} {a b : Expr} {mb : Cm D}
theorem SR.writeTL {H : Hp} {σ : L2.St} {sl : List (Option T)} {tm es : List T} {i j : Nat} {q r : Addr} {st : Bool} {ts xs zs : List T} (s : SR g H σ sl (es ++ tm)) (h : sl[i]? = some (some (T.tup q st ts))) (hj : ts[j]? = some (T.lst r .own xs))
    (hz : zs.length ≤ 16777216) (hk : Ts.ok g.c H zs) (ho : ∀ a, Ts.oc a zs ≤ Ts.oc a xs + Ts.oc a es) (hs : ∀ a, 0 < Ts.sh a zs → 0 < Ts.sh a xs + Ts.sh a es) :
    SR g (upd H r (.lst (zs.map T.v))) σ (sl.set i (some (T.tup q st (ts.set j (T.lst r .own zs))))) tm := by
  have k := s.okS _ (s.slot h)
  have kts : Ts.ok g.c H ts ∧ ts.length ≤ 16777216 := by cases st <;> simp only [T.ok] at k <;> exact ⟨k.2.2, k.2.1⟩
  have kj := Ts.ok_iff.mp kts.1 _ (List.mem_of_getElem? hj)
  simp only [T.ok] at kj
  have g1 := So_get (f := T.oc r) (s.slot h)
  have g2 := So_get (f := T.sh r) (s.slot h)
  have iv := s.inv r
  rw [Ts.oc_append, Ts.sh_append] at iv
  simp only [T.oc, T.sh] at g1 g2
  have xo : ∀ a, b2 (Ow.own = Ow.own ∧ r = a) + Ts.oc a xs ≤ Ts.oc a ts := fun a => by
    have := Ts.oc_mem (a := a) (List.mem_of_getElem? hj)
    simpa [T.oc] using this
  have xs_ : ∀ a, Ts.sh a xs ≤ Ts.sh a ts := fun a => by
    have := Ts.sh_mem (a := a) (List.mem_of_getElem? hj)
    simp only [T.sh] at this
    omega
  have so := fun a => Ts.oc_setE a (T.lst r .own zs) ts j _ hj
  have ss := fun a => Ts.sh_setE a (T.lst r .own zs) ts j _ hj
  simp only [T.oc, T.sh] at so ss
  have xr := xo r
  rw [show b2 (Ow.own = Ow.own ∧ r = r) = 1 from by simp [b2]] at xr
  have h1 := ho r
  have h2 := hs r
  have x2 := xs_ r
  have k0 : Ts.oc r zs = 0 ∧ Ts.sh r zs = 0 ∧ Ts.oc r ts = 1 ∧ Ts.sh r ts = 0 := by omega
  have vs : (ts.set j (T.lst r .own zs)).map T.v = ts.map T.v := by
    rw [List.map_set]
    have e2 : (ts.map T.v)[j]? = some (T.lst r .own xs).v := by rw [List.getElem?_map, hj]; rfl
    obtain ⟨hl, e3⟩ := List.getElem?_eq_some_iff.1 e2
    exact ((List.set_getElem_self hl).symm.trans (by rw [e3]; rfl)).symm
  have items : Ts.ok g.c (upd H r (.lst (zs.map T.v))) (ts.set j (T.lst r .own zs)) := by
    rw [Ts.ok_iff]
    intro t m
    obtain ⟨n, hn⟩ := mem_get m
    rcases set_get hn with ⟨rfl, e'⟩ | ⟨ne, e'⟩
    · subst e'
      simp only [T.ok]
      exact ⟨upd_same, hz, Ts.stay zs hk fun a c => upd_ne fun e => by subst e; omega⟩
    · refine T.stay t (Ts.ok_iff.mp kts.1 t (List.mem_of_getElem? e')) fun a c => upd_ne fun ea => ?_
      subst ea
      have d0 := Ts.oc_setE a (T.sc .non) ts j _ hj
      have d1 := Ts.oc_mem (a := a) (ts := ts.set j (T.sc .non)) (t := t) (List.mem_of_getElem? (i := n) (by rw [List.getElem?_set_ne (Ne.symm ne)]; exact e'))
      have d2 := Ts.sh_mem (a := a) (List.mem_of_getElem? e')
      simp only [T.oc] at d0
      rw [show b2 (True ∧ True) = 1 by simp [b2]] at d0
      omega
  refine s.writeS h (by simp only [T.oc]; omega) (by simp [T.v]) ?_ (fun a => ?_) fun a => ?_
  · cases st
    · simp only [T.ok] at k ⊢
      have hq : q ≠ r := fun e => by have := k.1; rw [e, kj.1] at this; cases this
      exact ⟨by rw [upd_ne hq, vs]; exact k.1, by simpa using kts.2, items⟩
    · simp only [T.ok] at k ⊢
      exact ⟨by rw [vs]; exact k.1, by simpa using kts.2, items⟩
  · have := ho a
    have := so a
    have := xo a
    simp only [T.oc]
    omega
  · have := hs a
    have := ss a
    have := xs_ a
    cases st <;> simp only [T.sh] <;> omega
/-- x[m].append(c), x a tuple, c a constant -/
def mAppT (i : Nat) (mb : Cm D) (x : Sc) : Cm D := fun ρ => match ρ[i]? with
  | some (some (.tup _)) => (mb ρ).bind fun kx ρ => match ρ[i]?, kx with
    | some (some (.tup xs)), .sc (.int k) => match ixN xs.length k with
      | some n => match xs[n]? with
        | some (.lst .own zs) => if zs.length < 16777216 then .ok .non (ρ.set i (some (.tup (xs.set n (.lst .own (zs ++ [.sc x])))))) else .stuck
        | _ => .stuck
      | none => .stuck
    | _, _ => .stuck
  | _ => .stuck
@[simp] theorem mAppT_ (i : Nat) (mb : Cm D) (x : Sc) (ρ : DE) : mAppT i mb x ρ = match ρ[i]? with
  | some (some (.tup _)) => (mb ρ).bind fun kx ρ => match ρ[i]?, kx with
    | some (some (.tup xs)), .sc (.int k) => match ixN xs.length k with
      | some n => match xs[n]? with
        | some (.lst .own zs) => if zs.length < 16777216 then .ok .non (ρ.set i (some (.tup (xs.set n (.lst .own (zs ++ [.sc x])))))) else .stuck
        | _ => .stuck
      | none => .stuck
    | _, _ => .stuck
  | _ => .stuck := rfl
theorem a_tup {H : Hp} {σ : L2.St} {sl : List (Option T)} {tm : List T} {i : Nat} {xs : List D} (s : SR g H σ sl tm) (h : (den sl)[i]? = some (some (.tup xs))) : ∃ P st ts, sl[i]? = some (some (T.tup P st ts)) ∧ Ts.d ts = xs ∧ (T.tup P st ts).ok g.c H ∧ σ[i]? = some (some (.ref P)) := by
  obtain ⟨t, e1, e2, e4, e3⟩ := s.val h
  cases t with
  | tup P st ts =>
    simp only [T.d, D.tup.injEq] at e2
    exact ⟨P, st, ts, e1, e2, e4, e3⟩
  | _ => simp [T.d] at e2
theorem e_appT {y : Str} {apos spos : Pos} {i : Nat} {x : Sc} (hK : X.K = g.c.K) (hp : PE X (.Call (.Attribute (.Subscript (.Name y p) b spos) "append" apos) [a] [] pos) (tBM X.K "list" rAppend (tOp (rIx X.K) (tVar i) (tE g W mb)) (tCons (tSm (.c x)) tNil)))
    (hx : x.good := by trivial) : PE X (.Call (.Attribute (.Subscript (.Name y p) b spos) "append" apos) [a] [] pos) (tE g W (mAppT i mb x)) :=
  hp.imp fun σ H Q ⟨sl, tm, s, h⟩ => by
    unfold mAppT at h
    split at h
    · rename_i xs0 e0
      obtain ⟨P0, st0, ts0, _, _, _, e3⟩ := a_tup s e0
      refine ⟨_, e3, tE.of s h fun H1 sl1 t s1 h1 => ?_⟩
      split at h1
      · rename_i xs k e1 ek
        split at h1
        · rename_i n hn
          split at h1
          · rename_i zs hz
            have s1' := s1.pop
            obtain ⟨P, st, ts, g1, rfl, g4, g7⟩ := a_tup s1' e1
            rw [e3] at g7
            cases g7
            obtain ⟨u, hu, hud⟩ := Ts.d_at hz
            cases u with
            | lst r o us =>
              simp only [T.d, D.lst.injEq] at hud
              obtain ⟨rfl, rfl⟩ := hud
              have sq := tup_sq g4
              have kr := Ts.ok_iff.mp sq.2.2 _ (List.mem_of_getElem? hu)
              simp only [T.ok] at kr
              cases t with
              | sc w =>
                simp only [T.d, D.sc.injEq] at ek
                subst ek
                have hl : atI (ts.map T.v) k = some (.ref r) := by
                  unfold atI
                  rw [List.length_map, ← Ts.d_len, hn]
                  show (ts.map T.v)[n]? = _
                  rw [List.getElem?_map, hu]
                  rfl
                refine .inr (.inl ⟨P0, _, k, .ref r, rfl, rfl, by rw [hK]; exact sq.1, hl, ?_⟩)
                show tyV X.K "list" (.ref r) H1 ∧ _
                refine ⟨.inl ⟨rfl, _, .of kr.1⟩, ?_⟩
                split at h1
                · rename_i hlen
                  rw [Ts.d_len] at hlen
                  refine ⟨hx, r, _, x.v, rfl, rfl, kr.1, by rw [SZ_eq]; simpa using hlen, ?_⟩
                  have s2 : SR g H1 σ sl1 ([T.sc x] ++ tm) := s1'.push x hx
                  have s3 := s2.writeTL (zs := us ++ [T.sc x]) g1 hu (by simp; omega) (by
                    rw [Ts.ok_iff]; intro u m
                    rcases List.mem_append.mp m with m | m
                    · exact Ts.ok_iff.mp kr.2.2 u m
                    · have e := List.mem_singleton.mp m; subst e; exact hx) (fun a => by simp [Ts.oc_append, Ts.oc]) (fun a => by simp [Ts.sh_append, Ts.sh])
                  rw [List.map_append] at s3
                  exact h1 _ _ (.sc .non) (s3.push _ trivial) (by rw [den_set]; simp [T.d, Ts.d_set, Ts.d_append, Ts.d]) rfl
                · exact h1.elim
              | _ => simp [T.d] at ek
            | _ => simp [T.d] at hud
          · exact h1.elim
        · exact h1.elim
      · exact h1.elim
    · exact h.elim
end
/-! ### text[::-1] -/
def tRevS (te : TE) : TE := fun σ H Q => te σ H fun x H1 => ∃ z : Str, x = .str z ∧ z.length ≤ sizeLine ∧ Q (.str ⟨z.cps.toList.reverse.toArray⟩) H1
section
variable {X : Cx} {g : Gh} {W : WX} {pos : Pos} {a : Expr}
theorem pe_revS {e : Expr} {te : TE} {k : Nat} {p1 p2 p3 pos : Pos} (he : PE X e te) : PE X (.Subscript e (.Slice none none (some (.UnaryOp .USub (.Constant (.int 1) k p1) p2)) p3) pos) (tRevS te) := by
  refine ⟨fun pins s σ H Q I h => ?_⟩
  refine Subscript_ (thn (he.run pins s σ H _ I h) fun v s1 ⟨x, H1, I1, r1, q1⟩ => ?_)
  obtain ⟨z, ex, hz, q⟩ := q1
  subst ex
  obtain ⟨t, rfl⟩ := r1
  have hst : PO X (some (.UnaryOp .USub (.Constant (.int 1) k p1) p2)) (tPart (tUn (rU fun i => .int (-i)) (tC (.int 1)))) := po_some (pe_un un_neg pe_int)
  refine wpAny_Slice (thn (po_none.run pins s1 σ H1 (fun o H2 => o = none ∧ H2 = H1) I1 ⟨rfl, rfl⟩) fun vl s2 ⟨l, H2, I2, pl, el, e2⟩ => ?_)
  subst el e2
  refine thn (po_none.run pins s2 σ H2 (fun o H3 => o = none ∧ H3 = H2) I2 ⟨rfl, rfl⟩) fun vu s3 ⟨u, H3, I3, pu, eu, e3⟩ => ?_
  subst eu e3
  refine thn (hst.run pins s3 σ H3 (fun o H4 => o = some (-1) ∧ H4 = H3) I3 ⟨1, rfl, -1, rfl, rfl, rfl⟩) fun vs s4 ⟨o, H4, I4, ps, eo, e4⟩ => ?_
  subst eo e4
  have I5 : Inv X pins σ H4 { s4 with heap := s4.heap.push { cls := .type "slice", data := .fields #[vl, vu, vs] } } := I4.kept (t' := s4.toks) fun b ob q => Heap.get?_push_of_some _ q
  show wpAny (model X.prog X.w) X.A (subscriptTail e (.Slice none none (some (.UnaryOp .USub (.Constant (.int 1) k p1) p2)) p3) (.str z t) (.ref s4.heap.objs.size)) (EP X pins σ Q) X.xe { s4 with heap := s4.heap.push { cls := .type "slice", data := .fields #[vl, vu, vs] } }
  refine tail_any (ops := [.ref s4.heap.objs.size, .str z t]) (typeIs_str _ _ _) PySem.F.slot_str_getitem.lookup ?_ (by with_unfolding_all rfl)
  obtain ⟨l', rfl, hl⟩ := IsPart.raw pl
  obtain ⟨u', rfl, hu⟩ := IsPart.raw pu
  obtain ⟨w', rfl, hw⟩ := IsPart.raw ps
  have hl2 : l' = none := by cases l' with
    | none => rfl
    | some y => cases hl
  have hu2 : u' = none := by cases u' with
    | none => rfl
    | some y => cases hu
  subst hl2 hu2
  obtain ⟨tw, rfl⟩ : ∃ tw, w' = some (-1, tw) := by cases w' with
    | none => cases hw
    | some y => obtain ⟨i, tw⟩ := y; cases hw; exact ⟨tw, rfl⟩
  refine wpAny_getItem_str_slice (l := none) (u := none) (st := some (-1, tw)) ⟨_, Heap.get?_push_size _ rfl, rfl, rfl⟩ rfl ?_
  have hpick : ((Builtin.Str.strSliceIndices none none (-1) z.length).filterMap (z.cps[·]?)) = z.cps.toList.reverse := by
    show ((sliceRange ((z.cps.size : Int) - 1) (-1) (-1)).filterMap (z.cps[·]?)) = _
    rw [PySem.W.krv_sliceRange, PySem.W.krv_range, List.filterMap_reverse, PySem.W.krv_all]
  show Made.post (if ((-1 : Int) == 1 && (Builtin.Str.strSliceIndices none none (-1) z.length).length == z.length) = true then Made.val (.str z t)
    else Made.str ⟨((Builtin.Str.strSliceIndices none none (-1) z.length).filterMap (z.cps[·]?)).toArray⟩) (EP X pins σ Q) _
  rw [if_neg (by simp), hpick]
  have hl : (⟨z.cps.toList.reverse.toArray⟩ : Str).length ≤ sizeLine := by
    show z.cps.toList.reverse.toArray.size ≤ _
    rw [List.size_toArray, List.length_reverse, Array.length_toList]
    exact hz
  exact ⟨hl, .str _, H4, I5.tok _, ⟨_, rfl⟩, q⟩
def revSD : D → Option Sc
  | .sc (.str l) => some (.str l.reverse)
  | _ => none
@[simp] theorem revSD_ (l : List Nat) : revSD (.str l) = some (.str l.reverse) := rfl
theorem e_revS {oa : Opd} {k : Nat} {p1 p2 p3 : Pos} (ha : PE X a (tO g W oa)) : PE X (.Subscript a (.Slice none none (some (.UnaryOp .USub (.Constant (.int 1) k p1) p2)) p3) pos) (tE g W (mP1 revSD oa)) :=
  (pe_revS ha).imp (p1_imp fun H u c Q kk h q => by
    cases u with
    | sc s =>
      cases s with
      | str l =>
        cases h
        have gd : (Sc.str l).good := kk
        refine ⟨⟨l.toArray⟩, rfl, ?_, ?_⟩
        · show l.toArray.size ≤ _
          rw [List.size_toArray]
          exact gd.1
        · exact q ⟨by rw [List.length_reverse]; exact gd.1, fun c hc => gd.2 c (List.mem_reverse.1 hc)⟩
      | _ => cases h
    | _ => cases h)
end
/-! ### text.lower(), text.upper() -/
def loC (c : Nat) : Nat := if 65 ≤ c ∧ c ≤ 90 then c + 32 else c
def upC (c : Nat) : Nat := if 97 ≤ c ∧ c ≤ 122 then c - 32 else c
theorem lo_tab : ∀ c : Nat, c < 128 → Unicode.lowerOf c = [loC c] := by decide +kernel
theorem up_tab : ∀ c : Nat, c < 128 → Unicode.upperOf c = [upC c] := by decide +kernel
theorem flat_single (g : Nat → Nat) (a : Array Nat) : (a.map fun c => #[g c]).flatten = a.map g := by
  apply Array.ext'
  rw [Array.toList_flatten]
  simp only [Array.toList_map, List.map_map]
  induction a.toList with
  | nil => rfl
  | cons x l ih => simp at ih ⊢; exact ih
theorem lower_ascii (l : List Nat) (h : ∀ c ∈ l, c < 128) : Txt.lower ⟨l.toArray⟩ = ⟨(l.map loC).toArray⟩ := by
  unfold Txt.lower placed
  have e : ((l.toArray.mapIdx fun i c => (Unicode.lowerAt l.toArray i).toArray)) = l.toArray.map fun c => #[loC c] := by
    apply Array.ext
    · simp
    · intro i h1 h2
      have hi : i < l.length := by simpa using h1
      have hc := h l[i] (List.getElem_mem _)
      have e1 : l.toArray[i]? = some l[i] := by simp [hi]
      simp only [Array.getElem_mapIdx, Array.getElem_map, List.getElem_toArray]
      unfold Unicode.lowerAt
      rw [e1]
      have ne : (l[i] == 0x3A3) = false := by simp; omega
      simp only [ne, Bool.false_and, Bool.false_eq_true, if_false, lo_tab _ hc]
  rw [e, flat_single]
  simp
theorem upper_ascii (l : List Nat) (h : ∀ c ∈ l, c < 128) : Txt.upper ⟨l.toArray⟩ = ⟨(l.map upC).toArray⟩ := by
  unfold Txt.upper placed
  have e : ((l.toArray.mapIdx fun i c => (Unicode.upperOf c).toArray)) = l.toArray.map fun c => #[upC c] := by
    apply Array.ext
    · simp
    · intro i h1 h2
      have hi : i < l.length := by simpa using h1
      have hc := h l[i] (List.getElem_mem _)
      simp only [Array.getElem_mapIdx, Array.getElem_map, List.getElem_toArray, up_tab _ hc]
  rw [e, flat_single]
  simp
section
variable {g : Gh}
def lowerM : D → Option Sc
  | .sc (.str l) => if l.all (fun c => decide (c < 128)) = true ∧ l.length ≤ 5592405 then some (.str (l.map loC)) else none
  | _ => none
@[simp] theorem lowerM_ (l : List Nat) : lowerM (.str l) = if l.all (fun c => decide (c < 128)) = true ∧ l.length ≤ 5592405 then some (.str (l.map loC)) else none := rfl
def upperM : D → Option Sc
  | .sc (.str l) => if l.all (fun c => decide (c < 128)) = true ∧ l.length ≤ 5592405 then some (.str (l.map upC)) else none
  | _ => none
@[simp] theorem upperM_ (l : List Nat) : upperM (.str l) = if l.all (fun c => decide (c < 128)) = true ∧ l.length ≤ 5592405 then some (.str (l.map upC)) else none := rfl
theorem lo_lt (c : Nat) (h : c < 128) : loC c < 1114112 := by unfold loC; split <;> omega
theorem up_lt (c : Nat) (h : c < 128) : upC c < 1114112 := by unfold upC; split <;> omega
theorem hs_lower : HM0 g lowerM (fun x xs H Q => ∃ a, x = .str a ∧ xs = [] ∧ a.length ≤ 5592405 ∧ Q (.str (Txt.lower a)) H) := fun H u d Q k h q => by
  cases u with
  | sc x =>
    cases x with
    | str l =>
      simp only [T.d, lowerM_] at h
      split at h
      · rename_i hl
        cases h
        have hc : ∀ c ∈ l, c < 128 := fun c hc => by simpa using List.all_eq_true.1 hl.1 c hc
        refine ⟨⟨_, rfl⟩, ⟨l.toArray⟩, rfl, rfl, by simpa [Str.length] using hl.2, ?_⟩
        rw [lower_ascii l hc]
        refine q ⟨by simp; omega, fun c hc2 => ?_⟩
        obtain ⟨c', hc', rfl⟩ := List.mem_map.1 hc2
        exact lo_lt _ (hc _ hc')
      · cases h
    | _ => cases h
  | _ => cases h
theorem hs_upper : HM0 g upperM (fun x xs H Q => ∃ a, x = .str a ∧ xs = [] ∧ a.length ≤ 5592405 ∧ Q (.str (Txt.upper a)) H) := fun H u d Q k h q => by
  cases u with
  | sc x =>
    cases x with
    | str l =>
      simp only [T.d, upperM_] at h
      split at h
      · rename_i hl
        cases h
        have hc : ∀ c ∈ l, c < 128 := fun c hc => by simpa using List.all_eq_true.1 hl.1 c hc
        refine ⟨⟨_, rfl⟩, ⟨l.toArray⟩, rfl, rfl, by simpa [Str.length] using hl.2, ?_⟩
        rw [upper_ascii l hc]
        refine q ⟨by simp; omega, fun c hc2 => ?_⟩
        obtain ⟨c', hc', rfl⟩ := List.mem_map.1 hc2
        exact up_lt _ (hc _ hc')
      · cases h
    | _ => cases h
  | _ => cases h
end
/-! ### a call without arguments; self.f.append((c, self.f1, self.f2)) -/
section
variable {X : Cx} {g : Gh} {W : WX} {pos p apos : Pos} {a e : Expr}
theorem e_call0 {f : Addr} {fd : FuncData} {ps : List Str} {x : Str} {c : Cfg} {M : List D → RF} {k : Nat} (F : FnOk X.prog X.w X.K X.mg X.base (L2.CX X.prog X.w) k f fd ps (spM c 0 [] M)) (hr : Room k X.A) (hg : Gl X x) (hm : X.mg x = some (.ref f)) (hk : PySem.W.keepIn X.K (.ref f) = true) (hb : Binds X.K fd ps []) (tk : Takes X W)
    (hc : g.c = c) (hdb : (x == ("__debug__" : Str)) = false := by decide) : PE X (.Call (.Name x p) [] [] pos) (tE g W (mCall M [])) := by
  refine ⟨fun pins s σ H Q I h => ?_⟩
  obtain ⟨sl, tm, s0, q⟩ := call_imp (np := 0) (io := []) hc rfl rfl (by decide) σ H Q h
  have q1 := q H sl [] [] s0 rfl rfl trivial
  refine wpAny_Call_Name_kw (ld_glob I hg hm ?_ hdb)
  exact PySem.W.callWith_K0 I.kIn hk (run_fnS F hr hb (passAt tk σ) I .nil q1)
/-- self.f.append((c, self.f1, self.f2)) -/
def mAppFT (i : Nat) (C f : String) (c : Sc) (f1 f2 : String) : Cm D := fun ρ => match ρ[i]? with
  | some (some (.obj .own C' ns xs)) => if C' = C then (match fIx f ns, fIx f1 ns, fIx f2 ns with
    | some j, some k1, some k2 => if k1 ≠ j ∧ k2 ≠ j then (match xs[j]?, xs[k1]? with
      | some (.lst .own ys), some d1 => match (xs.set k1 d1.fz)[k2]? with
        | some d2 => if ys.length < 16777216 then .ok .non (ρ.set i (some (.obj .own C ns (((xs.set k1 d1.fz).set k2 d2.fz).set j (.lst .own (ys ++ [.tup [.sc c, d1.fz, d2.fz]])))))) else .stuck
        | none => .stuck
      | _, _ => .stuck) else .stuck
    | _, _, _ => .stuck) else .stuck
  | _ => .stuck
theorem e_appFT {i : Nat} {C f f1 f2 : String} {c : Sc} (cl : Cls X.K (g.c.cls C)) (na : NoAttr X.K (g.c.cls C) (Str.ofString f)) (na1 : NoAttr X.K (g.c.cls C) (Str.ofString f1)) (na2 : NoAttr X.K (g.c.cls C) (Str.ofString f2)) (gc : c.good) (hK : X.K = g.c.K)
    (hp : PE X (.Call (.Attribute e "append" apos) [a] [] pos) (tBM X.K "list" rAppend (tFld X.K (tVar i) (Str.ofString f)) (tCons (tTup (tCons (tC c.v) (tCons (tFld X.K (tVar i) (Str.ofString f1)) (tCons (tFld X.K (tVar i) (Str.ofString f2)) tNil)))) tNil))) :
    PE X (.Call (.Attribute e "append" apos) [a] [] pos) (tE g W (mAppFT i C f c f1 f2)) :=
  hp.imp fun σ H Q ⟨sl, tm, s, h⟩ => by
    unfold mAppFT at h
    split at h
    · rename_i C' ns xs e0
      split at h
      · rename_i hC
        subst hC
        split at h
        · rename_i j k1 k2 hj hk1 hk2
          split at h
          · rename_i hne
            split at h
            · rename_i ys d1 hd hd1
              split at h
              · rename_i d2 hd2
                split at h
                · rename_i hz
                  obtain ⟨q, dx, ts, g1, rfl, g3, g4, g5, g6, g7, g8⟩ := obj_at s e0
                  obtain ⟨t, ht, htd⟩ := Ts.d_at hd
                  cases t with
                  | lst r o us =>
                    simp only [T.d, D.lst.injEq] at htd
                    obtain ⟨rfl, rfl⟩ := htd
                    obtain ⟨t1, ht1, rfl⟩ := Ts.d_at hd1
                    have lk : (fieldsV ns (ts.map T.v)).lookup (Str.ofString f) = some (V.ref r) := fIx_lookup hj (by rw [List.getElem?_map, ht]; rfl)
                    have lk1 : (fieldsV ns (ts.map T.v)).lookup (Str.ofString f1) = some t1.v := fIx_lookup hk1 (by rw [List.getElem?_map, ht1]; rfl)
                    have kr := Ts.ok_iff.mp g7 _ (List.mem_of_getElem? ht)
                    have krl := kr
                    simp only [T.ok] at kr
                    -- the first field read
                    have s1 := s.readF g1 ht1
                    have il : i < sl.length := (List.getElem?_eq_some_iff.1 g1).1
                    have gg1 : (sl.set i (some (T.obj q dx .own C' ns (ts.set k1 t1.fz))))[i]? = some (some (T.obj q dx .own C' ns (ts.set k1 t1.fz))) := List.getElem?_set_self il
                    have hd2' : (Ts.d (ts.set k1 t1.fz))[k2]? = some d2 := by rw [Ts.d_set, T.fz_d]; exact hd2
                    obtain ⟨t2, ht2, rfl⟩ := Ts.d_at hd2'
                    have vs1 : (ts.set k1 t1.fz).map T.v = ts.map T.v := by
                      rw [List.map_set, T.fz_v]
                      apply List.ext_getElem?
                      intro n
                      rw [List.getElem?_set]
                      split
                      · rename_i hkn
                        subst hkn
                        rw [List.getElem?_map, ht1]
                        have := (List.getElem?_eq_some_iff.1 ht1).1
                        simp [this]
                      · rfl
                    have lk2 : (fieldsV ns (ts.map T.v)).lookup (Str.ofString f2) = some t2.v := fIx_lookup hk2 (by rw [← vs1, List.getElem?_map, ht2]; rfl)
                    have s2 := s1.readF gg1 ht2
                    rw [List.set_set] at s2
                    refine ⟨.ref q, g8, q, _, dx, _, .ref r, rfl, g3, cl, na, lk, .inl ⟨rfl, _, by rw [hK]; exact (lst_sq krl).1⟩, ?_⟩
                    refine ⟨.ref q, g8, q, _, dx, _, t1.v, rfl, g3, cl, na1, lk1, ?_⟩
                    refine ⟨.ref q, g8, q, _, dx, _, t2.v, rfl, g3, cl, na2, lk2, ?_⟩
                    refine ⟨by rw [SZ_eq]; simp, fun p hp0 => ?_⟩
                    have xv : [c.v, t1.v, t2.v] = [T.sc c, t1.fz, t2.fz].map T.v := by
                      rw [List.map_cons, List.map_cons, List.map_cons, T.fz_v, T.fz_v]
                      rfl
                    show rAppend (.ref r) [.ref p] (upd H p (.tup [c.v, t1.v, t2.v])) Q
                    rw [xv]
                    have s2' : SR g H σ (sl.set i (some (T.obj q dx .own C' ns ((ts.set k1 t1.fz).set k2 t2.fz)))) ([t2.fz, t1.fz] ++ tm) := s2
                    have ok2 := (Ts.ok_iff.mp s2.okT) t2.fz (List.mem_cons_self ..)
                    have ok1 := (Ts.ok_iff.mp s2.okT) t1.fz (List.mem_cons_of_mem _ (List.mem_cons_self ..))
                    have s3 := s2'.newT (p := p) (ts := [T.sc c, t1.fz, t2.fz]) hp0 (by show 3 ≤ 16777216; decide) (by
                      rw [Ts.ok_iff]
                      intro u m
                      simp only [List.mem_cons, List.not_mem_nil, or_false] at m
                      rcases m with rfl | rfl | rfl
                      · exact gc
                      · exact ok1
                      · exact ok2) (fun a => by simp only [Ts.oc, Ts.sh, T.oc, T.sh]; omega)
                    have rp : r ≠ p := fun e => by rw [e] at kr; rw [hp0] at kr; exact absurd kr.1 (by simp)
                    have gi : (sl.set i (some (T.obj q dx .own C' ns ((ts.set k1 t1.fz).set k2 t2.fz))))[i]? = some (some (T.obj q dx .own C' ns ((ts.set k1 t1.fz).set k2 t2.fz))) := List.getElem?_set_self il
                    have gj : ((ts.set k1 t1.fz).set k2 t2.fz)[j]? = some (T.lst r .own us) := by
                      rw [List.getElem?_set_ne hne.2, List.getElem?_set_ne hne.1]
                      exact ht
                    have k3 := s3.okS _ (s3.slot gi)
                    simp only [T.ok] at k3
                    have kr3 := Ts.ok_iff.mp k3.2.2.2.2 _ (List.mem_of_getElem? gj)
                    simp only [T.ok] at kr3
                    rw [Ts.d_len] at hz
                    refine ⟨r, _, _, rfl, rfl, kr3.1, by rw [SZ_eq]; simpa using hz, ?_⟩
                    have s4 : SR g (upd H p (.tup ([T.sc c, t1.fz, t2.fz].map T.v))) σ (sl.set i (some (T.obj q dx .own C' ns ((ts.set k1 t1.fz).set k2 t2.fz)))) ([T.tup p false [T.sc c, t1.fz, t2.fz]] ++ tm) := s3
                    have w := s4.writeFL (zs := us ++ [T.tup p false [T.sc c, t1.fz, t2.fz]]) gi gj (by simp; omega) (by
                      rw [Ts.ok_iff]; intro u m
                      rcases List.mem_append.mp m with m | m
                      · exact Ts.ok_iff.mp kr3.2.2 u m
                      · have e := List.mem_singleton.mp m; subst e; exact s3.top) (fun a => by simp [Ts.oc_append, Ts.oc]) (fun a => by simp [Ts.sh_append, Ts.sh])
                    rw [List.map_append, List.set_set] at w
                    exact h _ _ (.sc .non) (w.push _ trivial) (by rw [den_set]; simp [T.d, Ts.d_set, Ts.d_append, Ts.d, T.fz_d]) rfl
                  | _ => simp [T.d] at htd
                · exact h.elim
              · exact h.elim
            · exact h.elim
          · exact h.elim
        · exact h.elim
      · exact h.elim
    · exact h.elim
theorem e_appFS {i : Nat} {C f f1 f2 : String} {l : List Nat} {cs : Str} (h1 : cs = ⟨l.toArray⟩) (gc : (Sc.str l).good) (cl : Cls X.K (g.c.cls C)) (na : NoAttr X.K (g.c.cls C) (Str.ofString f)) (na1 : NoAttr X.K (g.c.cls C) (Str.ofString f1)) (na2 : NoAttr X.K (g.c.cls C) (Str.ofString f2)) (hK : X.K = g.c.K)
    (hp : PE X (.Call (.Attribute e "append" apos) [a] [] pos) (tBM X.K "list" rAppend (tFld X.K (tVar i) (Str.ofString f)) (tCons (tTup (tCons (tC (.str cs)) (tCons (tFld X.K (tVar i) (Str.ofString f1)) (tCons (tFld X.K (tVar i) (Str.ofString f2)) tNil)))) tNil))) :
    PE X (.Call (.Attribute e "append" apos) [a] [] pos) (tE g W (mAppFT i C f (.str l) f1 f2)) := by
  subst h1
  exact e_appFT cl na na1 na2 gc hK hp
@[simp] theorem mAppFT_ (i : Nat) (C f : String) (c : Sc) (f1 f2 : String) (ρ : DE) : mAppFT i C f c f1 f2 ρ = match ρ[i]? with
  | some (some (.obj .own C' ns xs)) => if C' = C then (match fIx f ns, fIx f1 ns, fIx f2 ns with
    | some j, some k1, some k2 => if k1 ≠ j ∧ k2 ≠ j then (match xs[j]?, xs[k1]? with
      | some (.lst .own ys), some d1 => match (xs.set k1 d1.fz)[k2]? with
        | some d2 => if ys.length < 16777216 then .ok .non (ρ.set i (some (.obj .own C ns (((xs.set k1 d1.fz).set k2 d2.fz).set j (.lst .own (ys ++ [.tup [.sc c, d1.fz, d2.fz]])))))) else .stuck
        | none => .stuck
      | _, _ => .stuck) else .stuck
    | _, _, _ => .stuck) else .stuck
  | _ => .stuck := rfl
end
end VS

/-! VS, part F: isinstance of a caught exception and a tuple of own classes. -/
namespace VS
open PySem PySem.Spec PyProof.Rows L2
/-- what nobody holds may be laid anywhere -/
theorem SR.waste {g : Gh} {H : Hp} {σ : L2.St} {sl : List (Option T)} {tm : List T} {p : Addr} {o : HO} (s : SR g H σ sl tm) (hp : H p = none) : SR g (upd H p o) σ sl tm := by
  have fr := s.free hp
  refine s.go (s.stayS fun b q => upd_ne fun e => ?_) (s.stayT fun b q => upd_ne fun e => ?_) (fun b => .inl ⟨Nat.le_refl _, fun q => .inl q⟩) (fun b => ?_) s.len s.slen s.at_ s.io
  · subst e; omega
  · subst e; omega
  · by_cases e : b = p
    · exact .inr (.inl (by rw [e]; exact hp))
    · exact .inl (upd_ne e)
def anyX (exm : String → String → Option Bool) (c : String) : List String → Option Bool
  | [] => some false
  | d :: r => match exm c d with
    | none => none
    | some true => some true
    | some false => anyX exm c r
def mIsXs (exm : String → String → Option Bool) (x : Ex) (Ds : List String) : Cm D := match anyX exm x.cls Ds with
  | some b => mC (.bl b)
  | none => mStuckD
section
variable {X : Cx} {g : Gh} {W : WX} {p p1 p2 pos : Pos} {y : Str} {i : Nat} {a : Addr} {oe : Obj} {cls : Value} {d : Option Addr} {pn : List (Addr × Obj)} {x : Ex} {exm : String → String → Option Bool}
def rIsXT (K : PySem.W.Frag) (C a : Addr) (d : Option Addr) : List V → Hp → VK → Prop := fun xs H Q => ∃ (tp : Addr) (cs : List V) (us : List Value) (b : Bool), xs = [.ref a, .ref tp] ∧ H tp = some (.tup cs) ∧ Paired ClsV cs us ∧ PySem.W.kitAny K (.ref C) us = some b ∧ (match d with
  | none => True
  | some dd => ∃ fs, H dd = some (.xd fs)) ∧ Q (.bl b) H
theorem call_isXT {C : Addr} (T : CB X.K C) (hz : Zc (.ref C) d oe) (hf : ∃ vs, oe.data = .fields vs) : CallR (X.suite a ((a, oe) :: pn)) (.builtin "isinstance") (rIsXT X.K C a d) := by
  intro pins s σ H xs us Q I r h
  obtain ⟨tp, cs, ws, b, rfl, hT, hk, e, hd, q⟩ := h
  cases r with
  | cons rx rr =>
    cases rr with
    | cons rt rr =>
      cases rr
      cases rx
      rename_i u2
      cases (show u2 = Value.ref tp from rt)
      obtain ⟨_, its, rv, o, h1, h2, n, h3⟩ := (show ObjOk X.prog X.w H s.heap tp (.tup cs) from I.hok tp _ hT)
      have e3 := ClsV.all hk rv
      subst e3
      obtain ⟨oc, od, dt, sl⟩ := o
      simp only at h2 h3
      subst h2 h3
      obtain ⟨hget, _⟩ := I.pin (a, oe) (List.mem_append.mpr (.inl List.mem_cons_self))
      obtain ⟨vs, hv⟩ := hf
      have J : ∃ od, PySem.W.InstAt s.heap a oe C od := by
        cases d with
        | none => exact ⟨none, hget, hz.1, by unfold PySem.W.notCls; rw [hv] <;> rfl, by rw [hz.2]; trivial⟩
        | some dd =>
          obtain ⟨fs, hd⟩ := hd
          have hx : ObjOk X.prog X.w H s.heap dd (.xd fs) := I.hok dd _ hd
          obtain ⟨mA, hns, hr⟩ := hx
          obtain ⟨od, ho, hl⟩ := lookIn_ns hns
          exact ⟨some od, hget, hz.1, by unfold PySem.W.notCls; rw [hv] <;> rfl, by rw [hz.2]; exact ho⟩
      obtain ⟨od, J⟩ := J
      exact PySem.W.kia_tup (PySem.W.kitx_exc T.cl T.xf.ga T.xf.gg T.xf.exC T.ca T.sp T.tk T.mr) I.kIn J h1 e (fun z => nomatch z) fun tk => ⟨.bl b, H, I.kept (t' := tk) fun _ _ z => z, rfl, q⟩
/-- names of own classes, one behind the other -/
inductive PAC (X : Cx) (g : Gh) : List Expr → List String → TA → Prop where
  | nil : PAC X g [] [] tNil
  | cons {xD : Str} {p : Pos} {Dn : String} {es : List Expr} {ds : List String} {t : TA} (hgD : Gl X xD) (gD : X.mg xD = some (.ref (g.c.cls Dn))) (hdD : (xD == ("__debug__" : Str)) = false) (hs : starEach (.Name xD p :: es) X.env = (false, eval (.Name xD p) X.env) :: starEach es X.env) (r : PAC X g es ds t) :
      PAC X g (.Name xD p :: es) (Dn :: ds) (tCons (tC (.ref (g.c.cls Dn))) t)
theorem PAC.pa {es : List Expr} {ds : List String} {t : TA} (h : PAC X g es ds t) : PA X es t := by
  induction h with
  | nil => exact pa_nil
  | cons hgD gD hdD hs r ih => exact pa_cons (pe_glob hgD gD rfl hdD) ih hs
theorem PAC.run {es : List Expr} {ds : List String} {t : TA} (h : PAC X g es ds t) (σ : L2.St) (H : Hp) (Q : List V → Hp → Prop) (q : Q (ds.map fun D => V.ref (g.c.cls D)) H) : t σ H Q := by
  induction h generalizing Q with
  | nil => exact q
  | cons hgD gD hdD hs r ih => exact ih _ q
theorem cls_pair (l : List String) : Paired ClsV (l.map fun D => V.ref (g.c.cls D)) (l.map fun D => Value.ref (g.c.cls D)) := by
  induction l with
  | nil => exact .nil
  | cons d l ih => exact .cons (.own _) ih
theorem any_kit {K : PySem.W.Frag} {cl : String → Addr} {c : String} (hk : ∀ Dn b, exm c Dn = some b → PySem.W.kitOne K (.ref (cl c)) (.ref (cl Dn)) = some b) : ∀ (l : List String) (b : Bool), anyX exm c l = some b → PySem.W.kitAny K (.ref (cl c)) (l.map fun D => Value.ref (cl D)) = some b
  | [], b, h => by cases h; exact kitAny_nil
  | d :: r, b, h => by
    unfold anyX at h
    cases e : exm c d with
    | none => rw [e] at h; cases h
    | some v =>
      rw [e] at h
      cases v with
      | true => cases h; exact kitAny_cons (hk d true e) (fun z => nomatch z) (fun _ => rfl)
      | false => exact kitAny_cons (hk d false e) (fun _ => any_kit hk r b h) (fun z => nomatch z)
theorem e_isXT {k : Nat} {es : List Expr} {ds : List String} {t : TA} (hc : PAC (X.suite a ((a, oe) :: pn)) g es ds t) (hz : Zc cls d oe) (hf : ∃ vs, oe.data = .fields vs) (hx : XIs g cls d x) (T : CB X.K (g.c.cls x.cls)) (hk : ∀ Dn b, exm x.cls Dn = some b → PySem.W.kitOne X.K (.ref (g.c.cls x.cls)) (.ref (g.c.cls Dn)) = some b)
    (hl : ds.length ≤ 1000) (hm : X.mg "isinstance" = none) (hp : PE (X.suite a ((a, oe) :: pn)) (.Name y p1) (tVar i)) (hg : Gl X "isinstance" := by rfl)
    (hs1 : starEach [.Name y p1, .Tuple es k p2] (X.suite a ((a, oe) :: pn)).env = (false, eval (.Name y p1) (X.suite a ((a, oe) :: pn)).env) :: starEach [.Tuple es k p2] (X.suite a ((a, oe) :: pn)).env := by rfl) (hs2 : starEach [.Tuple es k p2] (X.suite a ((a, oe) :: pn)).env = (false, eval (.Tuple es k p2) (X.suite a ((a, oe) :: pn)).env) :: starEach [] (X.suite a ((a, oe) :: pn)).env := by rfl) (hpl : (backTo pos (starEach [.Tuple es k p2] (X.suite a ((a, oe) :: pn)).env)).any (·.1) = false := by rfl) :
    PE (X.suite a ((a, oe) :: pn)) (.Call (.Name "isinstance" p) [.Name y p1, .Tuple es k p2] [] pos) (tE (g.sx i a d x) W (mIsXs exm x ds)) := by
  have hz2 : Zc (.ref (g.c.cls x.cls)) d oe := by rw [← hx.is]; exact hz
  refine (pe_callB (call_isXT (X := X) T hz2 hf) hg hm (by decide +kernel) (pa_cons hp (pa_cons (pe_tup hc.pa) pa_nil hs2) hs1) (hpl := hpl) (he := hs1)).imp fun σ H Q h => ?_
  obtain ⟨sl, tm, s, h⟩ := h
  unfold mIsXs at h
  cases e : anyX exm x.cls ds with
  | none => rw [e] at h; exact h.elim
  | some b =>
    rw [e] at h
    refine ⟨.ref a, s.io (i, .ref a) (by simp [Gh.sx]), ?_⟩
    refine hc.run σ H _ ⟨by rw [SZ_eq, List.length_map]; omega, fun q hq => ?_⟩
    have s2 := s.waste (o := .tup (ds.map fun D => V.ref (g.c.cls D))) hq
    refine ⟨q, _, _, b, rfl, upd_same, cls_pair ds, any_kit hk ds b e, ?_, h _ sl (.sc (.bl b)) (s2.push _ trivial) rfl rfl⟩
    cases d with
    | none => trivial
    | some dd =>
      exact ⟨_, (s2.px (dd, HO.xd (fieldsV x.ns (x.xs.map Sc.v))) (by simp [Gh.sx])).1⟩
end
@[simp] theorem mIsXs_ (exm : String → String → Option Bool) (x : Ex) (Ds : List String) : mIsXs exm x Ds = match anyX exm x.cls Ds with
  | some b => mC (.bl b)
  | none => mStuckD := rfl
end VS

/-! VS, part G: repr of lists and tuples of data (in the law itself, where nothing is under way). -/
namespace VS
open PySem PySem.Spec PyProof.Rows L2
mutual
def D.pd : D → PyData
  | .sc s => s.pd
  | .lst _ xs => .list (Ds.pd xs)
  | .tup xs => .tuple (Ds.pd xs)
  | _ => .none
def Ds.pd : List D → List PyData
  | [] => []
  | t :: ts => t.pd :: Ds.pd ts
end
mutual
theorem T.pd_d : ∀ t : T, t.pd = t.d.pd
  | .sc s => by simp [T.pd, T.d, D.pd]
  | .lst a o xs => by simp [T.pd, T.d, D.pd, Ts.pd_d xs]
  | .tup a st xs => by simp [T.pd, T.d, D.pd, Ts.pd_d xs]
  | .obj _ _ _ _ _ _ => by simp [T.pd, T.d, D.pd]
  | .exn _ _ _ _ _ => by simp [T.pd, T.d, D.pd]
theorem Ts.pd_d : ∀ ts : List T, Ts.pd ts = Ds.pd (Ts.d ts)
  | [] => by simp [Ts.pd, Ts.d, Ds.pd]
  | t :: ts => by simp [Ts.pd, Ts.d, Ds.pd, T.pd_d t, Ts.pd_d ts]
end
mutual
theorem T.nodict : ∀ t : T, t.pd.hasDict = false
  | .sc s => by cases s <;> simp [T.pd, Sc.pd, PyData.hasDict]
  | .lst a o xs => by simp [T.pd, PyData.hasDict, Ts.nodict xs]
  | .tup a st xs => by simp [T.pd, PyData.hasDict, Ts.nodict xs]
  | .obj _ _ _ _ _ _ => by simp [T.pd, PyData.hasDict]
  | .exn _ _ _ _ _ => by simp [T.pd, PyData.hasDict]
theorem Ts.nodict : ∀ ts : List T, PyData.hasDictAll (Ts.pd ts) = false
  | [] => by simp [Ts.pd, PyData.hasDictAll]
  | t :: ts => by simp [Ts.pd, PyData.hasDictAll, T.nodict t, Ts.nodict ts]
end
/-! ### the signs of a repr -/
def CO (x : PySem.Str) : Prop := ∀ c ∈ x.cps.toList, c < 1114112
theorem co_char (c : Char) : c.toNat < 1114112 := by
  have h : c.val.toNat < 55296 ∨ (57343 < c.val.toNat ∧ c.val.toNat < 1114112) := c.valid
  show c.val.toNat < 1114112
  omega
theorem co_str (s : String) : CO (Str.ofString s) := by
  intro c hc
  rw [Str.ofString_eq_toList] at hc
  obtain ⟨x, _, rfl⟩ := List.mem_map.1 (show c ∈ s.toList.map Char.toNat from hc)
  exact co_char x
theorem CO.app {a b : PySem.Str} (ha : CO a) (hb : CO b) : CO (a ++ b) := by
  intro c hc
  have e : (a ++ b).cps = a.cps ++ b.cps := rfl
  rw [e, Array.toList_append] at hc
  exact (List.mem_append.1 hc).elim (ha c) (hb c)
theorem co_hex (n w : Nat) : ∀ c ∈ List.replicate w 48 ++ (Nat.toDigits 16 n).map Char.toNat, c < 1114112 := by
  intro c hc
  rcases List.mem_append.1 hc with hc | hc
  · rw [List.eq_of_mem_replicate hc]; decide
  · obtain ⟨x, _, rfl⟩ := List.mem_map.1 hc; exact co_char x
theorem co_rch (q c : Nat) (hc : c < 1114112) : ∀ d ∈ Builtin.Str.reprChar q c, d < 1114112 := by
  have hx := fun w => co_hex c w
  unfold Builtin.Str.reprChar
  dsimp only
  repeat' split
  all_goals intro d hd
  all_goals simp only [List.mem_append, List.mem_cons, List.not_mem_nil, or_false] at hd hx
  all_goals first
    | omega
    | (rcases hd with (hd | hd) | hd
       · omega
       · omega
       · exact hx _ d hd)
theorem co_fold (q : Nat) : ∀ (l : List Nat) (acc : Array Nat), (∀ c ∈ l, c < 1114112) → (∀ c ∈ acc.toList, c < 1114112) → ∀ c ∈ (l.foldl (fun out c => out ++ (Builtin.Str.reprChar q c).toArray) acc).toList, c < 1114112
  | [], acc, _, h => h
  | x :: l, acc, hl, h => by
    rw [List.foldl_cons]
    refine co_fold q l _ (fun c hc => hl c (by simp [hc])) fun c hc => ?_
    rw [Array.toList_append] at hc
    exact (List.mem_append.1 hc).elim (h c) fun z => co_rch q x (hl x (by simp)) c (by simpa using z)
theorem co_repr (x : PySem.Str) (hx : CO x) : CO (reprText x) := by
  have hq : reprQuote x < 1114112 := by unfold reprQuote; split <;> decide
  intro c hc
  unfold reprText at hc
  simp only [Array.toList_push, List.mem_append, List.mem_singleton] at hc
  rcases hc with hc | rfl
  · rw [← Array.foldl_toList] at hc
    exact co_fold _ _ _ hx (by simpa using hq) c hc
  · exact hq
theorem co_from : ∀ (ts : List PySem.Str) (k : Nat) (acc : PySem.Str), (∀ t ∈ ts, CO t) → CO acc → CO (textFrom k acc ts)
  | [], _, _, _, h => h
  | t :: ts, k, acc, ht, h => by
    unfold textFrom
    exact co_from ts (k + 1) _ (fun u hu => ht u (by simp [hu])) ((h.app (co_str _)).app (ht t (by simp)))
theorem co_list (ts : List PySem.Str) (h : ∀ t ∈ ts, CO t) : CO (listText ts) := (co_from ts 0 _ h (co_str _)).app (co_str _)
theorem co_join (sep : PySem.Str) (hs : CO sep) : ∀ ts : List PySem.Str, (∀ t ∈ ts, CO t) → CO (Str.join sep ts)
  | [], _ => fun c hc => by simp [Str.join, Str.empty] at hc
  | [x], h => h x (by simp)
  | x :: y :: r, h => by
    unfold Str.join
    exact ((h x (by simp)).app hs).app (co_join sep hs (y :: r) fun t ht => h t (by simp [ht]))
theorem co_tuple (ts : List PySem.Str) (h : ∀ t ∈ ts, CO t) : CO (tupleText ts) := by
  unfold tupleText
  exact ((co_str _).app (co_join _ (co_str _) ts h)).app (co_str _)
mutual
theorem T.cok {c : Cfg} {H : Hp} : ∀ t : T, t.ok c H → CO t.pd.shown
  | .sc s, k => by
    cases s with
    | str l =>
      simp only [T.ok] at k
      simp only [T.pd, Sc.pd, PyData.shown]
      exact co_repr _ fun c hc => k.2 c (by simpa using hc)
    | _ => simp only [T.pd, Sc.pd, PyData.shown]; (try split) <;> exact co_str _
  | .lst a o xs, k => by
    have k' : Ts.ok c H xs := by cases o <;> simp only [T.ok] at k <;> exact k.2.2
    simp only [T.pd, PyData.shown]
    exact co_list _ (Ts.cok xs k')
  | .tup a st xs, k => by
    have k' : Ts.ok c H xs := by cases st <;> simp only [T.ok] at k <;> exact k.2.2
    simp only [T.pd, PyData.shown]
    exact co_tuple _ (Ts.cok xs k')
  | .obj _ _ _ _ _ _, _ => by simp only [T.pd, PyData.shown]; exact co_str _
  | .exn _ _ _ _ _, _ => by simp only [T.pd, PyData.shown]; exact co_str _
theorem Ts.cok {c : Cfg} {H : Hp} : ∀ ts : List T, Ts.ok c H ts → ∀ x ∈ PyData.shownAll (Ts.pd ts), CO x
  | [], _ => fun x hx => by simp [Ts.pd, PyData.shownAll] at hx
  | t :: ts, k => by
    simp only [Ts.ok] at k
    intro x hx
    simp only [Ts.pd, PyData.shownAll, List.mem_cons] at hx
    rcases hx with rfl | hx
    · exact T.cok t k.1
    · exact Ts.cok ts k.2 x hx
end
def D.isSeq : D → Bool
  | .lst _ _ => true
  | .tup _ => true
  | _ => false
def reprOk (x : D) : Bool := D.flatN 8 x && x.isSeq && x.pd.showable && decide (x.pd.shown.length ≤ 16777216)
/-- repr(x) -/
def reprD (x : D) : Option Sc := if reprOk x then some (.str x.pd.shown.cps.toList) else none
section
variable {X : Cx} {g : Gh}
def rRepr (K : PySem.W.Frag) : List V → Hp → VK → Prop := fun xs H Q => ∃ (a : Addr) (d : PyData), xs = [.ref a] ∧ Dp K H (.ref a) d ∧ d.showable = true ∧ d.hasDict = false ∧ d.depth ≤ 8 ∧ d.shown.length ≤ sizeLine ∧ Q (.str d.shown) H
theorem call_repr (hG : X.A.guards = some []) (hu : X.A.units + 64 < cLine) : CallR X (.builtin "repr") (rRepr X.K) := by
  intro pins s σ H xs us Q I r h
  obtain ⟨a, d, rfl, hd, hs, hn, hp, hz, q⟩ := h
  cases r with
  | cons ru rr =>
    cases rr
    cases (show _ = Value.ref a from ru)
    obtain ⟨as, rd⟩ := Dp.reads I d (.ref a) (.ref a) hd rfl
    exact repr_of_reads' (h₀ := s.heap) rd hs (fun z => by rw [hn] at z; cases z) hG (by omega) (fun _ _ e => e) (fun h' u tk k => ⟨.str d.shown, H, I.kept (t' := tk) k, ⟨u, rfl⟩, q⟩) hz
theorem hr_repr {K : PySem.W.Frag} (hK : K = g.c.K) : HR1 g reprD (rRepr K) := fun H u c Q k h q => by
  subst hK
  unfold reprD at h
  split at h
  · rename_i ok
    cases h
    unfold reprOk at ok
    simp only [Bool.and_eq_true, decide_eq_true_eq] at ok
    obtain ⟨⟨⟨h1, h2⟩, h3⟩, h4⟩ := ok
    have h5 := T.cok u k
    rw [T.pd_d] at h5
    have dp := T.dp 8 u k h1
    have ly := (T.lay 8 u k h1).2
    have nd := T.nodict u
    rw [T.pd_d] at dp ly nd
    have hv : ∃ a, u.v = .ref a := by
      cases u with
      | lst a o xs => exact ⟨a, rfl⟩
      | tup a st xs => exact ⟨a, rfl⟩
      | _ => simp [T.d, D.isSeq] at h2
    obtain ⟨a, hv⟩ := hv
    rw [hv] at dp ⊢
    refine ⟨a, _, rfl, dp, h3, nd, ly, by rw [SZ_eq]; exact h4, ?_⟩
    have := q ⟨by simpa [Str.length] using h4, h5⟩
    simpa [Sc.v] using this
  · cases h
end
/-! ### the law's def, run where the law is asked: nothing is under way there -/
/-- the promise of a def at one place only -/
def RunAt (A : Around) (P : Program) (w : World) (K : PySem.W.Frag) (mg : Str → Option Value) (base : Heap) (f : Addr) (fd : FuncData) (ps : List Str) (sp : Sp) : Prop :=
  ∀ (outer : List Env) (s : Shared) (H : Hp) (args : Args) (us : List Value) (vs : List V) (Q : VK) (E : XK), Env0 P w K mg base A outer s H → BindsTo s fd args (ps.zip us) → Vals vs us → sp vs H Q E → codeAny (model P w) A (.call (.ref f) args) (CR (L2.CX P w) outer P w H s Q E) s
section
variable {P : Program} {w : World} {K : PySem.W.Frag} {mg : Str → Option Value} {base : Heap} {A : Around}
theorem run_at {c : Cfg} {x qual : Str} {params : Arguments} {sbody : List Stmt} {scope : Scope} {dvs : List V} {kws : List (Str × V)} {f : Addr} {fd : FuncData} {N ps : List Str} {k np : Nat} {io : List Nat} {m : Cm Out}
    (F : FunD K x qual params sbody scope dvs kws f fd) (S : FnScope N ps scope) (hps : ps.length = np) (hN : np ≤ N.length) (hio : ∀ i ∈ io, i < np) (hnd : io.Nodup) (hr : Room (k + 1) A)
    (body : ∀ (g : Gh) (cdv : Value) (outer : List Env) (s : Shared) (H : Hp) (E : XK), Room k (A.deeper (envOfC qual scope s.heap.objs.size f cdv)) → g.c = c → g.N = N.length → g.io.map (·.1) = io →
      PSs (cxOf (L2.CX P w) P w K mg base N qual scope f cdv A outer s H E) sbody (tS g (fun cls d _ H => E cls d H) m)) :
    RunAt A P w K mg base f fd ps (spM c np io (runF N.length io m)) := by
  intro outer s H args us vs Q E e0 hb r hsp
  obtain ⟨oc, od, dV, kV, doc, pm, an, cdv, ct, osl, rfl, lk, hcd, _, _⟩ := F.ex
  have vl : vs.length = ps.length := spM_len hps _ _ _ _ hsp
  have hin : K.In s.heap := e0.mod.kin.keeps fun b o e => (e0.bs b o e).1
  have nol : s.heap.NoLimit := e0.mod.nolimit.keeps fun b o e => (e0.bs b o e).1
  refine codeAny_call_function hr.depth (hin _ _ lk) rfl S.co S.gen rfl (PySem.W.codeRec_of hin hcd) (hb _ _ _ _ (wpAny_newFunctionEnv_cells S.kind (fun y hy => ?_) fun env he s1 st => ?_))
  · obtain ⟨n, v⟩ := y
    rcases S.par n (List.of_mem_zip hy).1 with q | q
    · exact .inl q
    · exact .inr ⟨q, PySem.W.cellsFrom_some _ _ _ (.inl q)⟩
  · subst he
    refine ⟨nol.keeps st.toInCall.keep, codeAny_func ?_⟩
    obtain ⟨t, ht, hq⟩ := body_ok (fun g => body g cdv outer s H E (hr.deeper _)) S hps hN hio hnd hsp
    refine wpAny_mono (ht.run [] s1 (L2.start N vs) H _ (inv_start S hr.hd e0 vl r st) hq) (fun fl s' hs => ?_) fun e s' hs => hs
    cases fl with
    | ret u =>
      obtain ⟨v, σ', H', J, rv, q⟩ := hs
      exact ⟨v, H', J.os, J.bare, J.base, J.hok, rv, q⟩
    | next =>
      obtain ⟨σ', H', J, q⟩ := hs
      exact ⟨V.non, H', J.os, J.bare, J.base, J.hok, rfl, q⟩
    | brk => obtain ⟨_, _, _, q⟩ := hs; exact False.elim q
    | cont => obtain ⟨_, _, _, q⟩ := hs; exact False.elim q
end
section
variable {P : Program} {w : World} {K : PySem.W.Frag} {mg mb : Str → Option Value} {fa a : Addr} {fd : FuncData} {x : Str} {sp : Sp} {s₁ : Shared} {vs : List Value} {ns : List Int}
/-- what the caller sees, where nothing but the script is tracked -/
theorem law_core (KX : K.In s₁.heap) (hns : s₁.heap.Ns mainGlobals mg) (hb : s₁.heap.Ns builtinsNs mb) (hbb : ∀ x : Str, x ≠ "__name__" → mb x = bootBuiltins x) (hlim : s₁.heap.NoLimit) (hg : s₁.gens = #[])
    (ha : s₁.heap.get? a = some { cls := .type "list", data := .seq vs.toArray })
    (F : ∀ base : Heap, K.In base → base.Ns mainGlobals mg → RunAt callerA P w K mg base fa fd [x] sp) (hbind : ∀ (s : Shared) (u : Value), BindsTo s fd ⟨[u], []⟩ [(x, u)])
    (H : Hp) (hO : Only H) (hsp : sp [.ref a] H (fun v _ => v = .bl true) fun _ _ _ => False) (hok : HOk P w H s₁.heap) (hA : ∀ b, H b ≠ none → b = a) (hK : H a ≠ none → K.lookup a = none)
    (hCX : ∀ e s', L2.CX P w [] H s₁ (fun _ _ _ => False) e s' → False) :
    codeAny (model P w) callerA (.call (.ref fa) ⟨[.ref a], []⟩) (fun r s' => r = .ok (.ret (.bool true)) ∧ OldK s₁.heap s'.heap ∧ s'.os = s₁.os ∧ AllBare s'.gens) s₁ := by
  have is_a : ∀ {b : Addr} {u : HO}, H b = some u → b = a := fun q => hA _ (by rw [q]; simp)
  have dict_free : ∀ {b : Addr} {o : Obj} {es : Array DictEntry} {n : Nat}, s₁.heap.get? b = some o → o.data = .dict es n → H b = none := by
    intro b o es n e d
    cases q : H b with
    | none => rfl
    | some u =>
      have eb := is_a q
      subst eb
      rw [ha] at e
      cases e
      cases (show Data.seq vs.toArray _ = Data.dict es n from d)
  have ns_hid : ∀ {b : Addr} {m : Str → Option Value}, s₁.heap.Ns b m → (hidT s₁.heap H).Ns b m := by
    rintro b m ⟨o, es, n, e, d, r⟩
    exact ⟨o, es, n, hidT_get e (dict_free e d), d, r⟩
  have k_hid : K.In (hidT s₁.heap H) := by
    intro b o e
    refine hidT_get (KX b o e) ?_
    cases q : H b with
    | none => rfl
    | some u =>
      have eb := is_a q
      subst eb
      rw [hK (by rw [q]; simp)] at e
      cases e
  obtain ⟨mc, l1, l2⟩ := hlim
  have e0 : Env0 P w K mg (hidT s₁.heap H) callerA [] s₁ H := ⟨rfl, ⟨k_hid, ns_hid hns, ⟨mb, ns_hid hb, hbb⟩, ⟨mc, ns_hid l1, l2⟩⟩, fun b o e => of_hidT e, Nat.le_of_eq (hidT_size _ _), trivial, fun b hb => absurd (show b ∈ ([] : List Addr) from hb) (by simp), hok, .of_eq hg⟩
  refine codeAny_mono (F _ k_hid (ns_hid hns) [] s₁ H ⟨[.ref a], []⟩ [.ref a] [.ref a] _ _ e0 (hbind s₁ (.ref a)) (.cons rfl .nil) hsp) fun r s' h => ?_
  match r, h with
  | .error e, h => exact (hCX e s' h).elim
  | .ok .next, h => exact False.elim h
  | .ok .brk, h => exact False.elim h
  | .ok .cont, h => exact False.elim h
  | .ok (.ret u), ⟨v, H', os, bare, un, hok', r', q⟩ =>
    have q : v = .bl true := q
    subst q
    obtain rfl : u = Value.bool true := r'
    refine ⟨rfl, OldK.of_keep fun b o e => ?_, os, bare⟩
    cases q : H b with
    | none => exact un.keep b o e q (fun z => nomatch (show b ∈ ([] : List Addr) from z)) (by simp)
    | some u =>
      rcases hO b with z | ⟨ob, xs, z⟩
      · rw [q] at z; cases z
      · obtain ⟨e1, _⟩ := hok b _ z
        obtain ⟨e2, _⟩ := hok' b _ (un.frzs b ob _ z)
        rw [e] at e1
        cases e1
        exact e2
/-- the law asked, with its def at its own place -/
theorem law_callA (KX : K.In s₁.heap) (hns : s₁.heap.Ns mainGlobals mg) (hb : s₁.heap.Ns builtinsNs mb) (hbb : ∀ x : Str, x ≠ "__name__" → mb x = bootBuiltins x) (hlim : s₁.heap.NoLimit) (hg : s₁.gens = #[])
    (ha : s₁.heap.get? a = some { cls := .type "list", data := .seq vs.toArray }) (hi : IntsAre vs ns) (hl : ns.length ≤ sizeLine)
    (F : ∀ base : Heap, K.In base → base.Ns mainGlobals mg → RunAt callerA P w K mg base fa fd [x] sp) (hbind : ∀ (s : Shared) (u : Value), BindsTo s fd ⟨[u], []⟩ [(x, u)])
    (hsp : ∀ H : Hp, Only H → SqL K H a (ns.map V.int) → sp [.ref a] H (fun v _ => v = .bl true) fun _ _ _ => False)
    (hCX : ∀ H e s', L2.CX P w [] H s₁ (fun _ _ _ => False) e s' → False) :
    codeAny (model P w) callerA (.call (.ref fa) ⟨[.ref a], []⟩) (fun r s' => r = .ok (.ret (.bool true)) ∧ OldK s₁.heap s'.heap ∧ s'.os = s₁.os ∧ AllBare s'.gens) s₁ := by
  have rv := vals_ints hi
  have lv := hi.length
  cases hk : K.lookup a with
  | some o =>
    have e := KX a o hk
    rw [ha] at e
    cases e
    have oh : Only fun _ => none := fun _ => .inl rfl
    exact law_core KX hns hb hbb hlim hg ha F hbind _ oh (hsp _ oh (.inr ⟨_, vs.toArray, _, hk, rfl, rfl, rfl, by rw [List.size_toArray, lv]; exact hl, by simpa using rv⟩)) (fun b u z => nomatch z) (fun b z => absurd rfl z) (fun z => absurd rfl z) (hCX _)
  | none =>
    let H : Hp := fun b => if b = a then some (.frz { cls := .type "list", data := .seq vs.toArray } (.lst (ns.map V.int))) else none
    have hH : H a = some (.frz { cls := .type "list", data := .seq vs.toArray } (.lst (ns.map V.int))) := if_pos rfl
    have hN : ∀ b, b ≠ a → H b = none := fun b q => if_neg q
    have oh : Only H := fun b => by
      by_cases q : b = a
      · subst q; exact .inr ⟨_, _, hH⟩
      · exact .inl (hN b q)
    refine law_core KX hns hb hbb hlim hg ha F hbind H oh (hsp H oh (.inl (.inr ⟨_, hH⟩))) (fun b u z => ?_) (fun b z => ?_) (fun _ => hk) (hCX _)
    · by_cases q : b = a
      · subst q
        rw [hH] at z
        cases z
        exact ⟨ha, by rw [List.length_map]; exact hl, vs, _, rv, ha⟩
      · rw [hN b q] at z; cases z
    · by_cases q : b = a
      · exact q
      · exact absurd (hN b q) z
end
/-- a law's end, with the law's def at its own place -/
theorem walk_ofEA {l : PySem.W.OpenLaw} {n : Nat} {q : Program} {loose : List Str} {XP : (Str → Option Value) → Heap → Prop} {YP : World → Heap → Prop} {d : DefRec} {x : Str}
    (hn : l.most = some n) (hn2 : n ≤ sizeLine) (hdf : d.params.defaults = []) 
    (F : ∀ (w : World) (mg : Str → Option Value) (fa : Addr) (h : Heap), YP w h → h.Ns mainGlobals mg → mg d.name = some (.ref fa) →
      ∃ (K : PySem.W.Frag) (fd : FuncData) (c : Cfg) (M : List D → RF), K.In h ∧ (c.K = K ∧ c.tb = []) ∧ (∀ (s : Shared) (u : Value), BindsTo s fd ⟨[u], []⟩ [(x, u)]) ∧
        (∀ (o : Ow) (ns : List Int), o = .frz ∨ o = .stc → ns.length ≤ n → M [.lst o (ns.map D.int)] = .ok (.bl true) []) ∧
        ∀ base : Heap, K.In base → base.Ns mainGlobals mg → RunAt callerA l.prog w K mg base fa fd [x] (spM c 1 [] M)) :
    PySem.W.WalkO q loose XP YP l.row.toRowW d [] (fun f vs => PySem.call f vs) := by
  refine Att.attach_call hn hdf fun w s₀ s₁ mg mb fa o pm cd doc a vs ns G Y ho hd hcd hmg hobj hints hlen hg => ?_
  obtain ⟨K, fd, c, M, KX, ⟨hcK, hct⟩, hb, hM, hF⟩ := F w mg fa _ Y G.T.g hmg
  refine law_callA KX G.T.g G.T.b G.T.builtins G.T.nolimit hg hobj hints (Nat.le_trans hlen hn2) hF hb (fun H hO hS => ?_) fun H e s' h => ?_
  · have gi : ∀ m : List Int, Ts.ok c H (m.map fun i => T.sc (.int i)) := fun m => by
      rw [Ts.ok_iff]; intro t ht
      obtain ⟨i, _, rfl⟩ := List.mem_map.mp ht
      exact trivial
    have dm : ∀ m : List Int, Ts.d (m.map fun i => T.sc (.int i)) = m.map D.int := fun m => by
      rw [Ts.d_map, List.map_map]; rfl
    have vm : ∀ m : List Int, (m.map fun i => T.sc (.int i)).map T.v = m.map V.int := fun m => by
      rw [List.map_map]; rfl
    have om : ∀ (a : Addr) (m : List Int), Ts.oc a (m.map fun i => T.sc (.int i)) = 0 ∧ Ts.sh a (m.map fun i => T.sc (.int i)) = 0 := fun a m => by
      induction m with
      | nil => simp [Ts.oc, Ts.sh]
      | cons i m ih => simp [Ts.oc, Ts.sh, T.oc, T.sh, ih]
    have hz : (ns.map fun i => T.sc (.int i)).length ≤ 16777216 := by
      rw [List.length_map]; have := Nat.le_trans hlen hn2; rw [SZ_eq] at this; exact this
    have key : ∀ o : Ow, o = .frz ∨ o = .stc → (T.lst a o (ns.map fun i => T.sc (.int i))).ok c H → spM c 1 [] M [.ref a] H (fun v _ => v = .bl true) fun _ _ _ => False := fun o ho k => by
      refine ⟨[T.lst a o (ns.map fun i => T.sc (.int i))], rfl, by simp [Ts.ok, k], (fun p hp => by rw [hct] at hp; cases hp), fun b => .inl ?_, rfl, ?_⟩
      · have := om b ns
        rcases ho with rfl | rfl <;> simp [Ts.oc, T.oc, b2, this]
      · rw [show Ts.d [T.lst a o (ns.map fun i => T.sc (.int i))] = [D.lst o (ns.map D.int)] by simp [Ts.d, T.d, dm], hM o ns ho hlen]
        intro H' t us _ ht _ _
        cases t with
        | sc s => simp [T.d] at ht; subst ht; rfl
        | _ => simp [T.d] at ht
    rcases hS with (h | ⟨o, h⟩) | h
    · rcases hO a with e | ⟨o, xs, e⟩
      · rw [h] at e; cases e
      · rw [h] at e; cases e
    · exact key .frz (.inl rfl) (by simp only [T.ok]; exact ⟨⟨o, by rw [vm]; exact h⟩, hz, gi ns⟩)
    · exact key .stc (.inr rfl) (by simp only [T.ok]; exact ⟨by rw [vm, hcK]; exact .inr h, hz, gi ns⟩)
  · obtain ⟨_, _, _, _, _, _, _, _, _, _, _, _, z⟩ := h
    exact z
/-! ### a list of one's own to several targets: what it holds goes over -/
def mTupLO (fs : List (D → Cm Unit)) : D → Cm Unit := fun d ρ => match d with
  | .lst .own ds => if ds.length = fs.length then putAll fs ds ρ else .stuck
  | _ => .stuck
section
variable {X : Cx} {g : Gh} {W : WX} {pos : Pos}
theorem g_tupLO {es : List Expr} {k n : Nat} {fs : List (D → Cm Unit)} (hc : X.calm = true) (h : PGs X es (tGs g W fs)) (hK : X.K = g.c.K)
    (hn : (assignEach es X.env).length = n := by rfl) (hst : (assignEach es X.env).findIdx? (·.1) = none := by rfl) (hfn : fs.length = n := by rfl) : PG X (.Tuple es k pos) (tG g W (mTupLO fs)) := (pg_unl hc h hn hst).imp fun v σ H Q ⟨sl, tm, t, s, e, h⟩ => by
  subst e
  cases t with
  | lst p o xs =>
   cases o with
   | own =>
    simp only [T.d, mTupLO] at h
    split at h
    · rename_i hl
      have q := lst_sq s.top
      refine ⟨p, _, rfl, by rw [hK]; exact q.1, by have := hl; rw [Ts.d_len] at this; simp; omega, sl, tm, xs, ?_, rfl, h⟩
      refine s.tmp ?_ fun a => ?_
      · have k := s.okT
        simp only [Ts.ok] at k
        rw [Ts.ok_iff]
        intro t ht
        rcases List.mem_append.mp ht with ht | ht
        · exact Ts.ok_iff.mp q.2.2 t ht
        · exact Ts.ok_iff.mp k.2 t ht
      · rw [Ts.oc_append, Ts.sh_append]
        simp only [Ts.oc, Ts.sh, T.oc, T.sh]
        refine ⟨by omega, fun z => .inl (by omega)⟩
    · exact h.elim
   | _ => exact h.elim
  | _ => exact h.elim
end
@[simp] theorem mTupLO_ {ρ : DE} (fs : List (D → Cm Unit)) (ds : List D) : mTupLO fs (.lst .own ds) ρ = if ds.length = fs.length then putAll fs ds ρ else .stuck := (rfl)
end VS

/-! VS, part H: lambdas without parameters, handed to a def that calls them once, in a try. -/
namespace VS
open PySem PySem.Spec PyProof.Rows L2

/-- slots that hold nothing, or no made thing -/
def scO : Option D → Bool
  | none => true
  | some (.sc _) => true
  | _ => false
/-- the def that calls: mp ahead of its try, ms the suite, mr behind; o: what the call raised -/
def wordO (n : Nat) (exm : String → String → Option Bool) (i : Nat) (Dn : String) (mp : Cm Out) (ms : Ex → Cm Out) (mr : Cm Out) (o : Option Ex) : R Out := match mp (List.replicate n none) with
  | .ok .nx ρ => if ρ.all scO = true then (match o with
    | none => mr ρ
    | some x => if x.cls = "dict" then .stuck else match exm x.cls Dn with
      | some true => (match ms x (List.replicate n none) with
        | .ok .nx ρ2 => mr (ρ2.set i none)
        | .ok (.ret d) ρ2 => .ok (.ret d) (ρ2.set i none)
        | _ => .stuck)
      | _ => .stuck) else .stuck
  | _ => .stuck
def wordF (n : Nat) (exm : String → String → Option Bool) (i : Nat) (Dn : String) (mp : Cm Out) (ms : Ex → Cm Out) (mr : Cm Out) (o : Option Ex) : RF := endF [] (wordO n exm i Dn mp ms mr o)
/-- no slot is filled that was empty -/
def subO (ρ ρ1 : DE) : Bool := decide (ρ.length = ρ1.length) && (ρ.zip ρ1).all fun p => p.1.isSome || p.2.isNone
def finL (r : RF) : Cm D := fun ρ => match r with
  | .ok d [] => .ok d ρ
  | _ => .stuck
/-- f(lambda: body) -/
def mLam (F : Option Ex → RF) (body : Cm D) : Cm D := fun ρ => match body ρ with
  | .ok _ ρ1 => if subO ρ ρ1 = true then finL (F none) ρ1 else .stuck
  | .exc x ρ1 => if x.cls ≠ "dict" ∧ subO ρ ρ1 = true then finL (F (some x)) ρ1 else .stuck
  | .stuck => .stuck
def exnT (d : Option Addr) (y : Ex) : T := .exn 0 d y.cls y.ns y.xs
def aftT (d : Option Addr) : Option Ex → List T
  | none => []
  | some y => [exnT d y]
def EndW (c : Cfg) (M : Option Ex → RF) (d : Option Addr) (o : Option Ex) (H : Hp) (Q : VK) : Prop := match M o with
  | .ok v [] => ∀ H3 t, Aft c H (aftT d o) H3 [t] → t.d = v → Q t.v H3
  | _ => False
def TTw (c : Cfg) (M : Option Ex → RF) : (XK → Hp → VK → Prop) → Hp → VK → Prop := fun tl H Q => LamX.Tabs c.tb H ∧ ∀ H1 : Hp, (∀ b o, H b = some o → NT o → H1 b = some o) → LamX.Tabs c.tb H1 → ∀ (E : XK) (Q' : VK),
  (∀ cls d H2, (∃ y : Ex, cls = .ref (c.cls y.cls) ∧ y.cls ≠ "dict" ∧ (exnT d y).ok c H2 ∧ LamX.Tabs c.tb H2 ∧ EndW c M d (some y) H2 Q) → E cls d H2) → (∀ v H2, LamX.Tabs c.tb H2 ∧ EndW c M none none H2 Q → Q' v H2) → tl E H1 Q'

/-! ### states to begin with -/
abbrev gh0 (c : Cfg) (H : Hp) (A0 : List T) (n : Nat) : Gh := ⟨c, H, A0, n, [], []⟩
theorem den_rep (n : Nat) : den (List.replicate n none) = List.replicate n none := by
  unfold den; simp
theorem So_rep (f : T → Nat) (n : Nat) : So f (List.replicate n none) = 0 := by
  induction n with
  | zero => rfl
  | succ n ih => rw [List.replicate_succ]; exact ih
theorem SR.fresh {c : Cfg} {H : Hp} {n : Nat} {σ : L2.St} {d : Option Addr} {o : Option Ex} (tb : LamX.Tabs c.tb H) (hl : σ.length = n) (ok : Ts.ok c H (aftT d o)) : SR (gh0 c H (aftT d o) n) H σ (List.replicate n none) (aftT d o) := by
  have z : ∀ a, Ts.oc a (aftT d o) = 0 := fun a => by cases o <;> simp [aftT, exnT, Ts.oc, T.oc]
  refine ⟨fun t m => ?_, ok, fun a => .inl ?_, fun a _ _ => ⟨?_, fun h => ?_⟩, fun a o h _ _ => h, hl, by simp, fun i t h => ?_, fun p hp => (List.not_mem_nil hp).elim, fun p hp => (List.not_mem_nil hp).elim, tb⟩
  · have := List.eq_of_mem_replicate m
    cases this
  · rw [So_rep, z]
  · rw [So_rep, z]
  · rw [So_rep]; simpa using h
  · rw [List.getElem?_replicate] at h
    split at h <;> cases h
/-- slots without made things: over any heap -/
theorem SR.over {g : Gh} {H H' : Hp} {σ : L2.St} {sl : List (Option T)} {tm : List T} {n : Nat} (s : SR g H σ sl tm) (hs : (den sl).all scO = true) (hn : g.N = n) (tb : LamX.Tabs g.c.tb H') : SR (gh0 g.c H' [] n) H' σ sl [] := by
  have each : ∀ t, some t ∈ sl → ∃ x, t = T.sc x := fun t m => by
    have := List.all_eq_true.mp hs (some t.d) (by unfold den; exact List.mem_map.mpr ⟨some t, m, rfl⟩)
    cases t with
    | sc x => exact ⟨x, rfl⟩
    | _ => simp [T.d, scO] at this
  have z1 : ∀ (f : T → Nat), (∀ x, f (T.sc x) = 0) → So f sl = 0 := fun f hf => by
    clear s hs
    induction sl with
    | nil => rfl
    | cons y r ih =>
      have ih := ih fun t m => each t (List.mem_cons_of_mem _ m)
      cases y with
      | none => exact ih
      | some t =>
        obtain ⟨x, rfl⟩ := each t (by simp)
        simp only [So, hf, ih]
  refine ⟨fun t m => ?_, by simp [Ts.ok], fun a => .inl ?_, fun a _ _ => ⟨?_, fun _ => ?_⟩, fun a o h _ _ => h, hn ▸ s.len, hn ▸ s.slen, s.at_, fun p hp => (List.not_mem_nil hp).elim, fun p hp => (List.not_mem_nil hp).elim, tb⟩
  · obtain ⟨x, rfl⟩ := each t m
    have := s.okS _ m
    simpa [T.ok] using this
  · rw [z1 _ fun x => by simp [T.oc]]; rfl
  · rw [z1 _ fun x => by simp [T.oc]]; rfl
  · rw [z1 _ fun x => by simp [T.sh]]; rfl
theorem _root_.L2.PSs.len {X : Cx} {sts : List Stmt} {t : TS} (h : PSs X sts t) : PSs X sts (fun De σ H => σ.length = X.N.length → t De σ H) := ⟨fun pins s σ H De I q => h.run pins s σ H De I (q I.len)⟩
theorem _root_.L2.PE.ex {α : Type} {X : Cx} {e : Expr} {P : α → Prop} {t : α → TE} (h : ∀ x, P x → PE X e (t x)) : PE X e (fun σ H Q => ∃ x, P x ∧ t x σ H Q) := ⟨fun pins s σ H Q I q => by
  obtain ⟨x, hx, q⟩ := q
  exact (h x hx).run pins s σ H Q I q⟩
/-- the ghosts of a def that calls a lambda -/
def ghP (c : Cfg) (n : Nat) (g : Gh) : Prop := g.c = c ∧ g.N = n ∧ g.io = []
theorem set_rep {α : Type} (n i : Nat) (x : α) : (List.replicate n x).set i x = List.replicate n x := by
  apply List.ext_getElem?
  intro j
  rw [List.getElem?_set, List.getElem?_replicate]
  by_cases e : i = j
  · subst e; simp
  · simp [e]
/-- an end that Q takes -/
theorem end_lands {c : Cfg} {H : Hp} {N : Nat} {d : Option Addr} {o : Option Ex} {Q : VK} {r : R Out} (h : match endF [] r with
    | .ok v [] => ∀ H3 t, Aft c H (aftT d o) H3 [t] → t.d = v → Q t.v H3
    | _ => False) : Lands (gh0 c H (aftT d o) N) (fun _ _ _ _ => False) [] r (Post (gh0 c H (aftT d o) N) [] { nx := fun _ H' => Q .non H', rt := Q }) := by
  cases r with
  | stuck => exact h.elim
  | exc x ρ => exact h.elim
  | ok k ρ =>
    cases k with
    | nx => exact fun H' σ' sl' s' _ => h H' (.sc .non) (Aft.of (s'.push .non trivial)) rfl
    | ret v => exact fun H' σ' sl' t s' _ ed => h H' t (Aft.of s') ed
    | brk => exact h.elim
    | ct => exact h.elim
section
variable {X : Cx}
abbrev CxW (X : Cx) (Ng : List Str) (x : Str) (sg : Scope) (gf : Addr) (cdg : Value) (s : Shared) (H : Hp) : Cx := (cxOf C8.CX0 X.prog X.w X.K X.mg X.base Ng x sg gf cdg X.A X.stack s H C8.E0).nox
theorem word_gives {Ng : List Str} {x a q e n : Str} {sg : Scope} {gf : Addr} {cdg : Value} {bg rs : List Stmt} {c : Cfg} {N i : Nat} {exm : String → String → Option Bool} {Dn : String} {mp : Cm Out} {ms : Ex → Cm Out} {mr : Cm Out}
    {b₀ : Stmt} {suite : List Stmt} {p1 p2 p3 p4 p5 p6 : Pos} {ρ0 : DE} (hN : Ng.length = N) (hnd : Ng.Nodup) (hi : Ng[i]? = some n) (hln : sg.names.lookup n = some .local) (hpos : 0 < N) (h0 : ∀ f : Addr, (L2.start Ng [V.ref f])[0]? = some (some (V.ref f)))
    (hge : sg.names.lookup e = some .globalImplicit) (hde : (e == ("__debug__" : Str)) = false) (hme : X.mg e = some (.ref (c.cls Dn))) (hx : ∀ C b, exm C Dn = some b → PySem.W.exmOne X.K (.ref (c.cls C)) (.ref (c.cls Dn)) = some b)
    (hmp : mp (List.replicate N none) = .ok .nx ρ0) (hsc : ρ0.all scO = true)
    (dpre : ∀ (s : Shared) (H : Hp) (u : TS), PSs (CxW X Ng x sg gf cdg s H) (.Try [.Expr (.Call (.Name a p1) [] [] p2) p3] [.ExceptHandler (some (.Name e p4)) (some n) (b₀ :: suite) p5] [] [] p6 :: rs) u →
      PSs (CxW X Ng x sg gf cdg s H) bg (fun De σ H => ∃ g : Gh, (g.c = c ∧ g.N = N ∧ g.io.map (·.1) = [0]) ∧ tS g (fun _ _ _ _ => False) mp { nx := u De, rt := fun _ _ => False } σ H))
    (dsu : ∀ (s : Shared) (H : Hp) (a : Addr) (oe : Obj) (cls : Value) (d : Option Addr) (pn : List (Addr × Obj)), Zc cls d oe → (∃ vs, oe.data = .fields vs) →
      ∀ (y : Ex) (g : Gh), ghP c N g → XIs g cls d y ∧ exm y.cls Dn = some true → PSs ((CxW X Ng x sg gf cdg s H).suite a ((a, oe) :: pn)) (b₀ :: suite) (tS (g.sx i a d y) (fun _ _ _ _ => False) (ms y)))
    (dre : ∀ (s : Shared) (H : Hp) (g : Gh), ghP c N g → PSs (CxW X Ng x sg gf cdg s H) rs (tS g (fun _ _ _ _ => False) mr)) :
    LamX.GivesTo X Ng x sg gf cdg bg a q (TTw c (wordF N exm i Dn mp ms mr)) := by
  intro f c' s H Q tl act hc h
  have hM : ∀ o, wordF N exm i Dn mp ms mr o = endF [] (wordO N exm i Dn mp ms mr o) := fun _ => rfl
  have hgl : Gl (CxW X Ng x sg gf cdg s H) e := hge
  obtain ⟨tb0, h⟩ := h
  refine ⟨_, dpre s H _ (pss_cons (ps_try_as (X := CxW X Ng x sg gf cdg s H) (c := .ref (c.cls Dn)) (i := i) (n := n) (Wout := fun _ _ _ _ => False)
    (ts := fun a cls d De σ H => σ.length = Ng.length → ∃ z : Ex × Gh, (ghP c N z.2 ∧ (XIs z.2 cls d z.1 ∧ exm z.1.cls Dn = some true)) ∧ tS (z.2.sx i a d z.1) (fun _ _ _ _ => False) (ms z.1) De σ H)
    (tb := fun W D σ H => ∃ Ech : XK, (∀ cls d σ' H', Ech cls d H' → W cls d σ' H') ∧ σ[0]? = some (some (.ref f)) ∧ H c' = some (LamX.CodeO c' q) ∧ tl Ech H fun _ H' => D.nx σ H')
    rfl rfl hnd hi hln ⟨hgl, hde, .inl hme⟩ LamX.takes0 (fun W pn xe tk _ => ?_) (fun a oe cls d pn hz hf => ?_)) (PSs.ex (P := ghP c N) fun g hg => dre s H g hg)), ?_⟩
  · refine ⟨fun pins s' σ H' D I h' => ?_⟩
    obtain ⟨Ech, hW, h1, h2, h3⟩ := h'
    exact (pss_one (ps_expr (pos := p3) (act W pn xe Ech p1 p2 tk hW))).run pins s' σ H' D I ⟨h1, h2, h3⟩
  · exact (PSs.ex (P := fun z : Ex × Gh => ghP c N z.2 ∧ (XIs z.2 cls d z.1 ∧ exm z.1.cls Dn = some true)) fun z hz2 => dsu s H a oe cls d pn hz hf z.1 z.2 hz2.1 hz2.2).len
  · have hst : (L2.start Ng [V.ref f]).length = N := by
      unfold L2.start
      simp; omega
    have s0 := SR.fresh (c := c) (H := H) (n := N) (σ := L2.start Ng [V.ref f]) (d := none) (o := none) tb0 hst (by simp [aftT, Ts.ok])
    have s0 : SR ⟨c, H, [], N, [(0, .ref f)], []⟩ H (L2.start Ng [V.ref f]) (List.replicate N none) [] := ⟨s0.okS, s0.okT, s0.inv, s0.prov, s0.frame, s0.len, s0.slen, s0.at_, fun p hp => by rw [List.mem_singleton.mp hp]; exact h0 f, s0.px, s0.tabs⟩
    refine ⟨⟨c, H, [], N, [(0, .ref f)], []⟩, ⟨rfl, rfl, rfl⟩, _, [], s0, ?_⟩
    rw [den_rep, hmp]
    intro H' σ' sl' s' e1
    have k0 := s'.io (0, .ref f) List.mem_cons_self
    have kc := s'.frame c' _ hc (LamX.codeO_ne) rfl
    refine ⟨fun cls d H2 => ∃ y : Ex, cls = .ref (c.cls y.cls) ∧ y.cls ≠ "dict" ∧ (exnT d y).ok c H2 ∧ LamX.Tabs c.tb H2 ∧ EndW c (wordF N exm i Dn mp ms mr) d (some y) H2 Q, ?_, k0, kc, ?_⟩
    · rintro cls d σ2 H2 ⟨y, rfl, hd, ok, tb2, ew⟩
      unfold EndW at ew
      rw [hM] at ew
      unfold wordO at ew
      rw [hmp] at ew
      simp only [hsc, if_true, hd, if_false] at ew
      cases ex : exm y.cls Dn with
      | none => rw [ex] at ew; exact ew.elim
      | some b =>
        cases b with
        | false => rw [ex] at ew; exact ew.elim
        | true =>
          rw [ex] at ew
          refine ⟨true, hx _ _ ex, fun _ a na hl => ?_, fun z => nomatch z⟩
          rw [List.length_set, hN] at hl
          have ok1 : Ts.ok c H2 (aftT d (some y)) := by simp only [aftT, Ts.ok]; exact ⟨ok, trivial⟩
          have k := ok
          simp only [exnT, T.ok] at k
          have s2 := SR.fresh (n := N) (σ := σ2) tb2 hl ok1
          have il : i < N := by
            rw [← hN]
            by_cases z : i < Ng.length
            · exact z
            · rw [List.getElem?_eq_none (by omega)] at hi; cases hi
          have s3 := SR.into (a := a) s2 il (fun p hp => (List.not_mem_nil hp).elim) hd
          rw [set_rep] at s3
          refine ⟨(y, gh0 c H2 (aftT d (some y)) N), ⟨⟨rfl, rfl, rfl⟩, ⟨rfl, fun z => ?_, k.1⟩, ex⟩, _, [], s3, ?_⟩
          · subst z; exact k.2.1
          · rw [den_rep]
            simp only at ew
            cases em : ms y (List.replicate N none) with
            | stuck => rw [em] at ew; exact ew.elim
            | exc _ _ => rw [em] at ew; exact ew.elim
            | ok o ρ2 =>
              rw [em] at ew
              cases o with
              | brk => exact ew.elim
              | ct => exact ew.elim
              | ret v => exact fun H4 σ4 sl4 t s4 _ ed => ew H4 t (Aft.of s4.outof) ed
              | nx =>
                intro H4 σ4 sl4 s4 e4
                refine ⟨gh0 c H2 (aftT d (some y)) N, ⟨rfl, rfl, rfl⟩, _, [], s4.outof.unslot (fun p hp => (List.not_mem_nil hp).elim) none, ?_⟩
                rw [den_set, e4]
                exact end_lands ew
    · refine h H' (fun b o hb nt => s'.frame b o hb nt rfl) s'.tabs _ _ (fun cls d H2 z => z) fun v H2 ⟨tb2, ew⟩ => ?_
      unfold EndW at ew
      rw [hM] at ew
      unfold wordO at ew
      rw [hmp] at ew
      simp only [hsc, if_true] at ew
      refine ⟨gh0 c H2 [] N, ⟨rfl, rfl, rfl⟩, sl', [], SR.over s' (by rw [e1]; exact hsc) rfl tb2, ?_⟩
      rw [e1]
      exact end_lands (d := none) (o := none) ew
/-! ### the one who hands it in -/
def allIo (σ : L2.St) : List (Nat × V) := (List.range σ.length).filterMap fun i => match σ[i]? with
  | some (some v) => some (i, v)
  | _ => none
theorem allIo_in {σ : L2.St} {i : Nat} {v : V} (h : σ[i]? = some (some v)) : (i, v) ∈ allIo σ := by
  refine List.mem_filterMap.mpr ⟨i, List.mem_range.mpr ?_, by rw [h]⟩
  by_cases z : i < σ.length
  · exact z
  · rw [List.getElem?_eq_none (by omega)] at h; cases h
theorem allIo_is {σ : L2.St} : ∀ p ∈ allIo σ, σ[p.1]? = some (some p.2) := fun p hp => by
  obtain ⟨i, _, e⟩ := List.mem_filterMap.mp hp
  split at e
  · rename_i v ev
    cases e
    exact ev
  · cases e
theorem subO_get {ρ ρ1 : DE} (h : subO ρ ρ1 = true) {i : Nat} {d : D} (e : ρ1[i]? = some (some d)) : ∃ d', ρ[i]? = some (some d') := by
  unfold subO at h
  obtain ⟨h1, h2⟩ := Bool.and_eq_true_iff.mp h
  have hl : ρ.length = ρ1.length := of_decide_eq_true h1
  have hi : i < ρ1.length := by
    by_cases z : i < ρ1.length
    · exact z
    · rw [List.getElem?_eq_none (by omega)] at e; cases e
  have hi' : i < ρ.length := by omega
  have z := List.all_eq_true.mp h2 (ρ[i], ρ1[i]) (by
    rw [List.mem_iff_getElem?]
    exact ⟨i, by rw [List.getElem?_zip_eq_some]; exact ⟨List.getElem?_eq_getElem hi', List.getElem?_eq_getElem hi⟩⟩)
  rw [List.getElem?_eq_getElem hi] at e
  rw [Option.some.inj e] at z
  simp only [Option.isNone_some, Bool.or_false] at z
  obtain ⟨d', e'⟩ := Option.isSome_iff_exists.mp z
  exact ⟨d', by rw [List.getElem?_eq_getElem hi', e']⟩
theorem lam_imp {g : Gh} {W : WX} {c : Cfg} {M : Option Ex → RF} {m : Cm D} (hc : g.c = c) (σ : L2.St) (H : Hp) (Q : VK) (q : tE g W (mLam M m) σ H Q) :
    LamX.tLam c.tb (TTw c M) (fun E σ H Q => ∃ g' : Gh, (g'.c = c ∧ g'.N = g.N) ∧ tE g' (fun cls d _ H => E cls d H) m σ H Q) σ H Q := by
  subst hc
  obtain ⟨sl, tm, s, h⟩ := q
  refine ⟨s.tabs, fun H1 eN T1 => ⟨T1, fun H2 keep T2 E' Q' hE hQ => ?_⟩⟩
  have s2 : SR g H2 σ sl tm := s.extK (fun b o hb nt => keep b o (eN b o hb nt) nt) T2
  have s3 : SR { g with io := allIo σ } H2 σ sl tm := ⟨s2.okS, s2.okT, s2.inv, s2.prov, s2.frame, s2.len, s2.slen, s2.at_, allIo_is, s2.px, s2.tabs⟩
  refine ⟨{ g with io := allIo σ }, ⟨rfl, rfl⟩, sl, tm, s3, ?_⟩
  -- back to the slots as they were
  have back : ∀ {H3 : Hp} {σ' : L2.St} {sl' : List (Option T)} {tm' : List T} {ρ1 : DE}, SR { g with io := allIo σ } H3 σ' sl' tm' → den sl' = ρ1 → subO (den sl) ρ1 = true → SR g H3 σ sl' tm' := fun {H3 σ' sl' tm' ρ1} s4 e4 hs => by
    refine ⟨s4.okS, s4.okT, s4.inv, s4.prov, s4.frame, s2.len, s4.slen, fun i t hi => ?_, s2.io, s4.px, s4.tabs⟩
    have z := s4.at_ i t hi
    obtain ⟨d', hd'⟩ := subO_get hs (i := i) (d := t.d) (by rw [← e4]; unfold den; rw [List.getElem?_map, hi]; rfl)
    obtain ⟨u, hu, _, _, hv⟩ := s2.val hd'
    have w := s4.io (i, u.v) (allIo_in hv)
    rw [w] at z
    rw [hv, Option.some.inj z]
  unfold mLam at h
  cases em : m (den sl) with
  | stuck => rw [em] at h; exact h.elim
  | ok d ρ1 =>
    rw [em] at h
    simp only at h
    split at h
    · rename_i hs
      intro H' sl' t s4 e1 e2
      refine hQ _ _ ⟨s4.tabs, ?_⟩
      unfold finL at h
      split at h
      · rename_i v hM
        unfold EndW
        rw [hM]
        intro H3 t3 af et
        have s5 : SR { g with io := allIo σ } H3 σ sl' ([t3] ++ tm) := SR.call (ts := []) s4.pop af
        exact h H3 sl' t3 (back s5 e1 hs) e1 et
      · exact h.elim
    · exact h.elim
  | exc y ρ1 =>
    rw [em] at h
    simp only at h
    split at h
    · rename_i hs
      obtain ⟨hd, hs⟩ := hs
      unfold finL at h
      split at h
      · rename_i v hM
        intro H' σ' sl' a dx s4 e1
        · have k := s4.top
          have k2 : (exnT dx y).ok g.c H' := by
            simp only [exnT, T.ok] at k ⊢
            refine ⟨k.1, ?_⟩
            have k := k.2
            cases dx with
            | none => exact k
            | some dd => exact ⟨k.1, fun z => absurd z hd⟩
          have s5 : SR { g with io := allIo σ } H' σ' sl' ([exnT dx y] ++ tm) := SR.part s4 k2 fun b => by simp [exnT, T.oc, T.sh]
          refine hE _ _ _ ⟨y, rfl, hd, k2, s4.tabs, ?_⟩
          unfold EndW
          rw [hM]
          intro H3 t3 af et
          have s6 : SR { g with io := allIo σ } H3 σ' sl' ([t3] ++ tm) := SR.call s5 af
          exact h H3 sl' t3 (back s6 e1 hs) e1 et
      · exact h.elim
    · exact h.elim
theorem e_lam {g : Gh} {W : WX} {x a : Str} {st : Stmt} {gf : Addr} {fd : FuncData} {Ng : List Str} {c : Cfg} {M : Option Ex → RF} {m : Cm D} {params : Arguments} {body : Expr} {scope : Scope} {p lpos pos : Pos} {k : Nat} {cc P : Addr}
    (A : At X.K X.mg x st [a] gf fd) (hg : Gl X x) (Sg : FnScope Ng [a] (defScope st)) (hNg : Ng[0]? = some a) (hva : Vis (defScope st) a) (hc : g.c = c)
    (hG : ∀ cdg, LamX.GivesTo X Ng x (defScope st) gf cdg (defBody st) a (X.env.qual ++ "<lambda>") (TTw c M))
    (TB : LamX.TabB X.base X.mg cc P) (hcode : X.env.code = .ref cc) (hmT : (P, X.env.qual ++ "<lambda>") ∈ c.tb) (hu : ∀ p ∈ c.tb, p.1 = P → p.2 = X.env.qual ++ "<lambda>") (hr : Room (k + 2) X.A) (L : LamX.LamS X.env.scope scope) (hdef : defaultsOf params X.env = ([], []))
    (hbind : ∀ (q : Str) (cl : List (Str × Addr)) (pm cv ctv : Value), bindArgs (PySem.W.kla_fn "<lambda>" q params body scope cl pm cv ctv) ⟨[], []⟩ = pure [])
    (hbody : ∀ (A : Around) (outer : List Env) (s : Shared) (H : Hp) (E : XK) (f c' : Addr), Room k (A.deeper (LamX.lamEnv X scope s.heap.objs.size f c')) → ∀ g' : Gh, g'.c = c ∧ g'.N = g.N → PE (LamX.lamCx X A outer s H E scope f c') body (tE g' (fun cls d _ H => E cls d H) m))
    (hdb : (x == ("__debug__" : Str)) = false := by decide) (hd : (a == ("__debug__" : Str)) = false := by decide) (hcd : (a == ("__classdict__" : Str)) = false := by decide) :
    PE X (.Call (.Name x p) [.Lambda params body scope lpos] [] pos) (tE g W (mLam M m)) := by
  obtain ⟨oc, od, dV, kV, doc, pm, an, cdv, ct, osl, e, lk, hcg, _, _⟩ := A.F.ex
  have hb := A.b
  subst e
  exact (LamX.pe_lamcall (T := c.tb) (TT := TTw c M) (t := fun E σ H Q => ∃ g' : Gh, (g'.c = c ∧ g'.N = g.N) ∧ tE g' (fun cls d _ H => E cls d H) m σ H Q) hg A.g A.F.kp lk hcg hb Sg hNg hva (hG cdv) TB hcode hmT hu hr L hdef hbind
    (fun A outer s H E f c' hr => PE.ex (P := fun g' : Gh => g'.c = c ∧ g'.N = g.N) fun g' hg' => hbody A outer s H E f c' hr g' hg') hdb hd hcd).imp (lam_imp hc)
end
/-- the def of the text, its code object known -/
theorem fn_okL {P : Program} {w : World} {K : PySem.W.Frag} {mg : Str → Option Value} {base : Heap} {c : Cfg} {x qual : Str} {params : Arguments} {sbody : List Stmt} {scope : Scope} {dvs : List V} {kws : List (Str × V)} {q : He.Defn} {fd : FuncData} {N ps : List Str} {k np : Nat} {io : List Nat} {m : Cm Out}
    (F : FunD K x qual params sbody scope dvs kws (He.fAd K q) fd) (S : FnScope N ps scope) (hps : ps.length = np) (hN : np ≤ N.length) (hio : ∀ i ∈ io, i < np) (hnd : io.Nodup)
    (body : ∀ (g : Gh) (cdv : Value) (A : Around) (outer : List Env) (s : Shared) (H : Hp) (E : XK), Room k (A.deeper (envOfC qual scope s.heap.objs.size (He.fAd K q) cdv)) → g.c = c → g.N = N.length → g.io.map (·.1) = io → cdv = .ref (He.codeOf K q) →
      PSs (cxOf (L2.CX P w) P w K mg base N qual scope (He.fAd K q) cdv A outer s H E) sbody (tS g (fun cls d _ H => E cls d H) m)) :
    FnOk P w K mg base (L2.CX P w) (k + 1) (He.fAd K q) fd ps (spM c np io (runF N.length io m)) := by
  obtain ⟨oc, od, dV, kV, doc, pm, an, cdv, ct, osl, rfl, lk, hcd, _, _⟩ := F.ex
  have e : cdv = .ref (He.codeOf K q) := by
    obtain ⟨cc, e⟩ := He.codeIn_ref hcd
    subst e
    rw [He.codeOf_eq lk rfl]
  refine fn_of lk hcd S (spM_len hps) fun A outer s H vs Q E hr h => ?_
  exact body_ok (fun g h1 h2 h3 => body g cdv A outer s H E hr h1 h2 h3 e) S hps hN hio hnd h
/-! ### the end of a law with tables -/
abbrev cfgT (K : PySem.W.Frag) (tf : List (He.Defn × Str)) : Cfg := ⟨K, fun x => He.ga K (Str.ofString x), tf.map fun p => ((He.cT K p.1).2, p.2)⟩
structure SaysTE (fa : List He.Fa) (fn : List He.DefD) (tf : List He.Defn) (ex : PySem.W.Frag → Bool) (h : Heap) (K : PySem.W.Frag) : Prop where
  t : He.SaysD fa fn K
  more : ex K = true
  hd : ∀ p ∈ tf, PySem.W.codeHdIn K (He.cT K p).1 (He.cT K p).2 = true
  out : ∀ p ∈ tf, K.lookup (He.cT K p).2 = none
  empty : ∀ p ∈ tf, h.get? (He.cT K p).2 = some { cls := .none, data := .fields #[] }
def obsTE (n : Nat) (fa : List He.Fa) (fn : List He.DefD) (tf : List He.Defn) (ex : PySem.W.Frag → Bool) (g : Addr → Option Obj) : He.AlD × Bool := (He.obsD fa fn (He.frT g (He.asD g n)), ex (He.frT g (He.asD g n)) && He.tabsB g tf (He.frT g (He.asD g n)))
theorem saysTE_of {n : Nat} {fa : List He.Fa} {fn : List He.DefD} {tf : List He.Defn} {ex : PySem.W.Frag → Bool} {h : Heap} (e : obsTE n fa fn tf ex h.get? = (He.valD fn, true)) : SaysTE fa fn tf ex h (He.frT h.get? (He.asD h.get? n)) := by
  have e1 := congrArg (fun z : He.AlD × Bool => z.1) e
  have e2 := congrArg (fun z : He.AlD × Bool => z.2) e
  obtain ⟨h1, h2⟩ := Bool.and_eq_true_iff.mp e2
  have key := fun p (hp : p ∈ tf) => Bool.and_eq_true_iff.mp (List.all_eq_true.mp h2 p hp)
  have k2 : ∀ p ∈ tf, ∃ o, h.get? (He.cT (He.frT h.get? (He.asD h.get? n)) p).2 = some o ∧ He.emptyTab o = true := fun p hp => by
    have := (key p hp).2
    split at this
    · rename_i o eo; exact ⟨o, eo, this⟩
    · cases this
  refine ⟨e1, h1, fun p hp => (key p hp).1, fun p hp => ?_, fun p hp => ?_⟩
  · obtain ⟨o, eo, ho⟩ := k2 p hp
    exact He.frT_none eo ho
  · obtain ⟨o, eo, ho⟩ := k2 p hp
    rw [eo, He.emptyTab_eq ho]
def hookTE (n : Nat) (fa : List He.Fa) (fn : List He.DefD) (tf : List He.Defn) (ex : PySem.W.Frag → Bool) : PySem.W.Hook where
  α := He.AlD × Bool
  obs := fun s => obsTE n fa fn tf ex s.heap.get?
  val := fun _ => (He.valD fn, true)
  says := fun _ h => ∃ K : PySem.W.Frag, K.In h ∧ SaysTE fa fn tf ex h K
  of := fun _ _ e => ⟨_, He.frT_in, saysTE_of e⟩
  keeps := fun _ _ _ ⟨K, hK, c⟩ k => ⟨K, PySem.W.Frag.In.keeps hK k, ⟨c.t, c.more, c.hd, c.out, fun p hp => k _ _ (c.empty p hp)⟩⟩
theorem obsTE_eq {n : Nat} {fa : List He.Fa} {fn : List He.DefD} {tf : List He.Defn} {ex : PySem.W.Frag → Bool} {g : Addr → Option Obj} {s : Shared} (h : ∀ a, g a = s.heap.get? a) : obsTE n fa fn tf ex g = (hookTE n fa fn tf ex).obs s := by
  have e : g = s.heap.get? := funext h
  rw [e] <;> rfl
theorem walk_ofTw {l : PySem.W.OpenLaw} {n k : Nat} {q : Program} {loose : List Str} {XP : (Str → Option Value) → Heap → Prop} {YP : World → Heap → Prop} {d : DefRec} {x : Str}
    (hn : l.most = some n) (hn2 : n ≤ sizeLine) (hdf : d.params.defaults = []) (hr : Room k callerA)
    (F : ∀ (w : World) (mg : Str → Option Value) (fa : Addr) (h : Heap), YP w h → h.Ns mainGlobals mg → mg d.name = some (.ref fa) →
      ∃ (K : PySem.W.Frag) (fd : FuncData) (c : Cfg) (M : List D → RF) (cs : List (Addr × Addr)), K.In h ∧ (c.K = K ∧ ∀ p ∈ c.tb, p.1 ∈ cs.map Prod.snd) ∧ (∀ p ∈ cs, h.get? p.2 = some { cls := .none, data := .fields #[] }) ∧ (∀ p ∈ cs, K.lookup p.2 = none) ∧ (∀ p ∈ cs, PySem.W.codeHdIn K p.1 p.2 = true) ∧ (∀ (s : Shared) (u : Value), BindsTo s fd ⟨[u], []⟩ [(x, u)]) ∧
        (∀ (o : Ow) (ns : List Int), o = .frz ∨ o = .stc ∨ o = .shr → ns.length ≤ n → M [.lst o (ns.map D.int)] = .ok (.bl true) []) ∧
        ∀ base : Heap, K.In base → base.Ns mainGlobals mg → (∀ p ∈ cs, LamX.TabB base mg p.1 p.2) → FnOk l.prog w K mg base (L2.CX l.prog w) k fa fd [x] (spM c 1 [] M)) :
    PySem.W.WalkO q loose XP YP l.row.toRowW d [] (fun f vs => PySem.call f vs) := by
  refine Att.attach_call hn hdf fun w s₀ s₁ mg mb fa o pm cd doc a vs ns G Y ho hd hcd hmg hobj hints hlen hg => ?_
  obtain ⟨K, fd, c, M, cs, KX, ⟨hcK, hct⟩, hT, nT, C, hb, hM, hF⟩ := F w mg fa _ Y G.T.g hmg
  refine LamX.law_callTs (cs := cs) KX G.T.g G.T.b G.T.builtins G.T.nolimit hg hT nT (fun p hp => PySem.W.codeHd_of_K KX (C p hp)) G.T.bmain hobj hints (Nat.le_trans hlen hn2) hr hF hb (fun H hH hS => ?_) fun H e s' h => ?_
  · have gi : ∀ m : List Int, Ts.ok c H (m.map fun i => T.sc (.int i)) := fun m => by
      rw [Ts.ok_iff]; intro t ht
      obtain ⟨i, _, rfl⟩ := List.mem_map.mp ht
      exact trivial
    have dm : ∀ m : List Int, Ts.d (m.map fun i => T.sc (.int i)) = m.map D.int := fun m => by
      rw [Ts.d_map, List.map_map]; rfl
    have vm : ∀ m : List Int, (m.map fun i => T.sc (.int i)).map T.v = m.map V.int := fun m => by
      rw [List.map_map]; rfl
    have om : ∀ (a : Addr) (m : List Int), Ts.oc a (m.map fun i => T.sc (.int i)) = 0 ∧ Ts.sh a (m.map fun i => T.sc (.int i)) = 0 := fun a m => by
      induction m with
      | nil => simp [Ts.oc, Ts.sh]
      | cons i m ih => simp [Ts.oc, Ts.sh, T.oc, T.sh, ih]
    have hz : (ns.map fun i => T.sc (.int i)).length ≤ 16777216 := by
      rw [List.length_map]; have := Nat.le_trans hlen hn2; rw [SZ_eq] at this; exact this
    have tbs : LamX.Tabs c.tb H := fun p hp => by
      obtain ⟨p2, h2, e2⟩ := List.mem_map.mp (hct p hp)
      have := hH p2 h2
      rw [e2] at this
      exact LamX.TabS.nil this
    have key : ∀ o : Ow, o = .frz ∨ o = .stc ∨ o = .shr → (T.lst a o (ns.map fun i => T.sc (.int i))).ok c H → spM c 1 [] M [.ref a] H (fun v _ => v = .bl true) fun _ _ _ => False := fun o ho k => by
      refine ⟨[T.lst a o (ns.map fun i => T.sc (.int i))], rfl, by simp [Ts.ok, k], tbs, fun b => .inl ?_, rfl, ?_⟩
      · have := om b ns
        rcases ho with rfl | rfl | rfl <;> simp [Ts.oc, T.oc, b2, this]
      · rw [show Ts.d [T.lst a o (ns.map fun i => T.sc (.int i))] = [D.lst o (ns.map D.int)] by simp [Ts.d, T.d, dm], hM o ns ho hlen]
        intro H' t us _ ht _ _
        cases t with
        | sc s => simp [T.d] at ht; subst ht; rfl
        | _ => simp [T.d] at ht
    rcases hS with (h | ⟨o, h⟩) | h
    · exact key .shr (.inr (.inr rfl)) (by simp only [T.ok]; exact ⟨by rw [vm]; exact h, hz, gi ns⟩)
    · exact key .frz (.inl rfl) (by simp only [T.ok]; exact ⟨⟨o, by rw [vm]; exact h⟩, hz, gi ns⟩)
    · exact key .stc (.inr (.inl rfl)) (by simp only [T.ok]; exact ⟨by rw [vm, hcK]; exact .inr h, hz, gi ns⟩)
  · obtain ⟨_, _, _, _, _, _, _, _, _, _, _, _, z⟩ := h
    exact z
end VS
namespace VS
open PySem PySem.Spec PyProof.Rows L2
section
variable {X : Cx} {c : Cfg} {N : Nat} {rest : List Stmt} {u : TS}
theorem pre_nil (h : PSs X rest u) : PSs X rest (fun De σ H => ∃ g : Gh, (g.c = c ∧ g.N = N ∧ g.io.map (·.1) = [0]) ∧ tS g (fun _ _ _ _ => False) mNext { nx := u De, rt := fun _ _ => False } σ H) := h.imp fun De σ H ⟨g, _, sl, tm, s, q⟩ => q H σ sl s rfl
theorem pre_cons {st : Stmt} {mp : Cm Out} (h1 : ∀ g : Gh, (g.c = c ∧ g.N = N ∧ g.io.map (·.1) = [0]) → PS X st (tS g (fun _ _ _ _ => False) mp)) (h : PSs X rest u) :
    PSs X (st :: rest) (fun De σ H => ∃ g : Gh, (g.c = c ∧ g.N = N ∧ g.io.map (·.1) = [0]) ∧ tS g (fun _ _ _ _ => False) mp { nx := u De, rt := fun _ _ => False } σ H) := by
  have h2 : PS X st (fun De σ H => ∃ g : Gh, (g.c = c ∧ g.N = N ∧ g.io.map (·.1) = [0]) ∧ tS g (fun _ _ _ _ => False) mp De σ H) := ⟨fun pins s σ H De I q => by
    obtain ⟨g, hg, q⟩ := q
    exact (h1 g hg).run pins s σ H De I q⟩
  refine (pss_cons h2 h).imp fun De σ H ⟨g, hg, sl, tm, s, q⟩ => ⟨g, hg, sl, tm, s, q.imp fun o ρ z => ?_⟩
  cases o with
  | nx => exact z
  | brk => exact fun H' σ' sl' s' e => (z H' σ' sl' s' e).elim
  | ct => exact fun H' σ' sl' s' e => (z H' σ' sl' s' e).elim
  | ret d => exact fun H' σ' sl' t s' e e2 => (z H' σ' sl' t s' e e2).elim
end
end VS

/-! VS, part I: list(range(n)), list.count. -/
namespace VS
open PySem PySem.Spec PyProof.Rows L2

/-! ### xs.count(y), flat things -/
def rCntF (K : PySem.W.Frag) : V → List V → Hp → VK → Prop := fun x xs H Q => ∃ (p : Addr) (ys : List V) (y : V), x = .ref p ∧ xs = [y] ∧ SqL K H p ys ∧ flatV y = true ∧ ys.all flatV = true ∧ Q (.int (ys.countP fun z => eqV z y : Nat)) H
theorem count_vals {y : V} : ∀ {ys : List V} {us : List Value}, Vals ys us → ys.all flatV = true → us.countP (eqU y) = ys.countP fun z => eqV z y
  | _, _, .nil, _ => rfl
  | z :: ys, u :: us, .cons r t, f => by
    rw [List.all_cons, Bool.and_eq_true] at f
    rw [List.countP_cons, List.countP_cons, count_vals t f.2, eqU_of r f.1]
section
variable {X : Cx}
theorem mt_countF : MtR X "list.count" (rCntF X.K) := by
  intro pins s σ H x xs v us Q I rx rxs h
  obtain ⟨p, ys, y, rfl, rfl, hs, fy, fys, q⟩ := h
  cases rx
  cases rxs with
  | cons ry rt =>
    rename_i uy ut
    cases rt
    obtain ⟨its, rv, ⟨⟨cls, dd, data, sl⟩, n, ho, hc, hdn, hd⟩, hlen⟩ := I.list hs
    simp only at hc hd
    subst hc hd
    have at_ := fun A s => mem_eqAt (A := A) (s := s) ry fy rv fys
    refine call_meets PySem.F.slot_list_count ⟨_, ho, rfl⟩ PySem.F.entry_list_count (PySem.F.args_list_count_2 _ _) (SeqAt.list_countAt p its.toArray n dd sl uy (eqU y)) ⟨ho, fun u hu => at_ _ _ u (by simpa using hu), ?_⟩
    exact ⟨.int (ys.countP fun z => eqV z y : Nat), H, I.tok _, ⟨s.toks, by rw [show its.toArray.toList = its from rfl, count_vals rv fys]⟩, q⟩
end
section
variable {X : Cx} {g : Gh} {W : WX} {pos p p2 p3 : Pos} {a : Expr} {ma : Cm D} {oa : Opd}
/-- x.count(y) -/
def mCntL (i : Nat) (ma : Cm D) : Cm D := fun ρ => match ρ[i]? with
  | some (some (.lst _ _)) => (ma ρ).bind fun d ρ => match (ρ[i]?).join, d with
    | some (.lst _ xs), .sc z => match scs xs with
      | some l => .ok (.int (l.countP fun y => y.eqB z : Nat)) ρ
      | none => .stuck
    | _, _ => .stuck
  | _ => .stuck
@[simp] theorem mCntL_ (i : Nat) (ma : Cm D) (ρ : DE) : mCntL i ma ρ = match ρ[i]? with
  | some (some (.lst _ _)) => (ma ρ).bind fun d ρ => match (ρ[i]?).join, d with
    | some (.lst _ xs), .sc z => match scs xs with
      | some l => .ok (.int (l.countP fun y => y.eqB z : Nat)) ρ
      | none => .stuck
    | _, _ => .stuck
  | _ => .stuck := rfl
theorem e_cntL {y : Str} {apos : Pos} {i : Nat} (hK : X.K = g.c.K) (hp : PE X (.Call (.Attribute (.Name y p) "count" apos) [a] [] pos) (tBM X.K "list" (rCntF X.K) (tVar i) (tA g W [ma]))) : PE X (.Call (.Attribute (.Name y p) "count" apos) [a] [] pos) (tE g W (mCntL i ma)) :=
  hp.imp fun σ H Q ⟨sl, tm, s, h⟩ => by
    unfold mCntL at h
    split at h
    · rename_i o xs e0
      obtain ⟨p, e3, hty⟩ := some_list hK s e0
      refine ⟨_, e3, hty, tA1 s h fun H1 sl1 t s1 h1 => ?_⟩
      split at h1
      · rename_i zo ys z e1 e2
        have e1' : (den sl1)[i]? = some (some (.lst zo ys)) := by
          cases q : (den sl1)[i]? with
          | none => rw [q] at e1; simp at e1
          | some o => rw [q] at e1; simp at e1; rw [e1]
        obtain ⟨u, g1, g2, g4, g3⟩ := s1.val e1'
        cases u with
        | lst p' o' ts =>
          simp only [T.d, D.lst.injEq] at g2
          obtain ⟨rfl, rfl⟩ := g2
          rw [e3] at g3
          cases g3
          split at h1
          · rename_i l hl
            obtain ⟨k1, k2⟩ := scs_ok hl
            cases t with
            | sc w =>
              simp only [T.d, D.sc.injEq] at e2
              subst e2
              have fw : flatV (T.sc w).v = true := by cases w <;> rfl
              refine ⟨p, ts.map T.v, (T.sc w).v, rfl, rfl, by rw [hK]; exact (lst_sq g4).1, fw, k2, ?_⟩
              have ec : ((ts.map T.v).countP fun z => eqV z (T.sc w).v) = l.countP fun y => y.eqB w := by
                rw [k1, List.countP_map]
                congr 1
                funext y
                exact eqV_sc y w
              rw [ec]
              exact h1 H1 sl1 (.sc (.int _)) (s1.pop.push _ trivial) rfl rfl
            | _ => simp [T.d] at e2
          · exact h1.elim
        | _ => simp [T.d] at g2
      · exact h1.elim
    · exact h.elim
/-! ### list(range(n)) -/
theorem cr_range1 : CallR X (.type "range") (fun vs H Q => ∃ j, vs = [V.int j] ∧ ∀ p, H p = none → Q (.ref p) (upd H p (.rng 0 j))) := by
  intro pins s σ H vs us Q I r h
  obtain ⟨j, rfl, q⟩ := h
  cases r with
  | cons r rr =>
    cases rr
    obtain ⟨t, rfl⟩ := r
    exact call_range_1 ⟨.ref s.heap.objs.size, upd H s.heap.objs.size (.rng 0 j), I.laid (t' := s.toks + 1 + 1) (fun b o e => Heap.get?_push_of_some _ e) (Nat.le_refl _) ⟨s.toks, t, s.toks + 1, Heap.get?_push_size _ rfl⟩, rfl, q _ (I.hok.fresh (Nat.le_refl _))⟩
theorem vals_list {ys : List V} {us : List Value} (hl : ys.length = us.length) (h : ∀ (j : Nat) (y : V) (u : Value), ys[j]? = some y → us[j]? = some u → RelV y u) : Vals ys us := by
  induction ys generalizing us with
  | nil =>
    cases us with
    | nil => exact .nil
    | cons u us => simp at hl
  | cons y ys ih =>
    cases us with
    | nil => simp at hl
    | cons u us => exact .cons (h 0 y u rfl rfl) (ih (by simpa using hl) fun j y u h1 h2 => h (j + 1) y u (by simpa using h1) (by simpa using h2))
theorem call_list_rng (hcalm : X.calm = true) : CallR X (.type "list") (fun xs H Q => ∃ (a : Addr) (j : Int), xs = [.ref a] ∧ H a = some (.rng 0 j) ∧ smallR j ∧ j.toNat ≤ 16777216 ∧ ∀ l, H l = none → Q (.ref l) (upd H l (.lst ((List.range j.toNat).map fun k : Nat => V.int (k : Int))))) := by
  intro pins s σ H xs us Q I r h
  obtain ⟨a, j, rfl, ha, hj, hz, q⟩ := h
  cases r with
  | cons r rr =>
    cases rr
    cases r
    obtain ⟨t, u, v, ho⟩ := I.hok a _ ha
    obtain ⟨b1, b2⟩ := small62 hj
    have e16 : (2 : Nat) ^ 24 = 16777216 := by decide
    refine PySem.call_list_range (n := j.toNat) (I.ok.hd hcalm) (t := t) (u := u) (v := v) (a := 0) (b := j) (c := 1) ho (small_one (by omega) (by omega) b1 b2) (by rw [rangeSize_one]; split <;> omega) (by omega) fun h' tk acc c' hk hS hacc => ?_
    obtain ⟨hsz, hit⟩ := hacc
    refine ⟨.ref s.heap.objs.size, _, I.laid (t' := tk) hk (Nat.le_refl _) (show ObjOk X.prog X.w _ h' _ (.lst _) from ⟨by rw [sizeLine_eq]; simpa using hz, acc.toList, c', ?_, hS⟩), rfl, q _ (I.hok.fresh (Nat.le_refl _))⟩
    refine vals_list (by simp [hsz]) fun k y u h1 h2 => ?_
    rw [List.getElem?_map, Option.map_eq_some_iff] at h1
    obtain ⟨m, hm, rfl⟩ := h1
    have hk2 : k < j.toNat := by
      by_cases z : k < j.toNat
      · exact z
      · rw [List.getElem?_eq_none (by simp; omega)] at hm; cases hm
    rw [List.getElem?_range hk2] at hm
    cases hm
    obtain ⟨t2, e⟩ := hit k u (by simpa using h2)
    exact ⟨t2, by rw [e]; congr 1; omega⟩
def mListR (ma : Cm D) : Cm D := fun ρ => (ma ρ).bind fun d ρ => match d with
  | .sc (.int j) => if smallR j ∧ j.toNat ≤ 16777216 then .ok (.lst .own (rangeD 0 j.toNat)) ρ else .stuck
  | _ => .stuck
@[simp] theorem mListR_ (ma : Cm D) (ρ : DE) : mListR ma ρ = (ma ρ).bind fun d ρ => match d with
  | .sc (.int j) => if smallR j ∧ j.toNat ≤ 16777216 then .ok (.lst .own (rangeD 0 j.toNat)) ρ else .stuck
  | _ => .stuck := rfl
theorem e_listR (hcalm : X.calm = true) (hgl : Gl X "list") (hml : X.mg "list" = none) (hgr : Gl X "range") (hmr : X.mg "range" = none) (ha : PE X a (tE g W ma)) (he : starEach (a :: []) X.env = (false, eval a X.env) :: starEach [] X.env := by rfl)
    (he2 : starEach (.Call (.Name "range" p2) [a] [] p3 :: []) X.env = (false, eval (.Call (.Name "range" p2) [a] [] p3) X.env) :: starEach [] X.env := by rfl) :
    PE X (.Call (.Name "list" p) [.Call (.Name "range" p2) [a] [] p3] [] pos) (tE g W (mListR ma)) := by
  have h1 := pe_callTy (pos := p3) (p := p2) cr_range1 hgr hmr (by decide +kernel) (pa_cons ha pa_nil he) (he := he)
  refine (pe_callTy (call_list_rng hcalm) hgl hml (by decide +kernel) (pa_cons h1 pa_nil he2) (he := he2)).imp fun σ H Q ⟨sl, tm, s, h⟩ => ?_
  unfold tCB tCons
  refine tE.of s h fun H1 sl1 t s1 h' => ?_
  cases t with
  | sc x =>
    cases x with
    | int j =>
      simp only [T.d] at h'
      split at h'
      · rename_i hj
        refine ⟨j, rfl, fun q hq => ⟨q, j, rfl, upd_same, hj.1, hj.2, fun l hl => ?_⟩⟩
        have s2 : SR g (upd H1 q (.rng 0 j)) σ sl1 tm := (have k : ∀ a o, H1 a = some o → upd H1 q (.rng 0 j) a = some o := fun a o e => (upd_ne fun z => by subst z; rw [hq] at e; cases e).trans e; s1.pop.extK (fun a o e _ => k a o e) (tabs_keep s1.tabs fun a o e _ => k a o e))
        have s3 := s2.newL (p := l) (xs := []) (ts := (List.range j.toNat).map fun k : Nat => T.sc (.int (k : Int))) hl (by simpa using hj.2) (Ts.ok_iff.mpr fun t m => by
          obtain ⟨k, _, rfl⟩ := List.mem_map.mp m; trivial) (fun a => by
          have z := isSc_cnt (a := a) (ts := (List.range j.toNat).map fun k : Nat => T.sc (.int (k : Int))) (by rw [Ts.d_map]; simp [T.d, D.isSc])
          omega)
        rw [List.map_map] at s3
        exact h' _ _ _ s3 rfl (by simp [T.d, Ts.d_map, rangeD])
      · exact h'.elim
    | _ => exact h'.elim
  | _ => exact h'.elim
end
end VS

/-! VS, part J: an own list walked, its items taken out; x[m].clear(). -/
namespace VS
open PySem PySem.Spec PyProof.Rows L2

/-- what stays in a list where an item was taken out -/
def phT : T → T
  | .sc s => .sc s
  | .lst a _ _ => .exn a none "?" [] []
  | .tup a _ _ => .exn a none "?" [] []
  | .obj a _ _ _ _ _ => .exn a none "?" [] []
  | .exn a _ _ _ _ => .exn a none "?" [] []
def phD : D → D
  | .sc s => .sc s
  | _ => .exn "?" [] []
theorem phT_v (t : T) : (phT t).v = t.v := by cases t <;> rfl
theorem phT_d (t : T) : (phT t).d = phD t.d := by cases t <;> rfl
theorem phT_cnt (a : Addr) (t : T) : (phT t).oc a = 0 ∧ (phT t).sh a = 0 := by cases t <;> simp [phT, T.oc, T.sh, b2]
theorem phT_ok {c : Cfg} {H : Hp} (t : T) (h : t.ok c H) : (phT t).ok c H := by
  cases t with
  | sc s => simpa [phT] using h
  | _ => simp [phT, T.ok]
theorem ph_cnt (a : Addr) : ∀ ts : List T, Ts.oc a (ts.map phT) = 0 ∧ Ts.sh a (ts.map phT) = 0
  | [] => by simp [Ts.oc, Ts.sh]
  | t :: ts => by
    have h1 := phT_cnt a t
    have h2 := ph_cnt a ts
    simp only [List.map_cons, Ts.oc, Ts.sh]
    omega
def takeL (v : Nat) (m : Cm Out) : List D → Cm Unit
  | [] => fun ρ => .ok () ρ
  | d :: ds => fun ρ => match m (ρ.set v (some d)) with
    | .ok .nx ρ' => takeL v m ds ρ'
    | _ => .stuck
/-- for v in i: the list i alone holds its items, which go over to v, one by one -/
def mForT (i v : Nat) (m : Cm Out) : Cm Out := fun ρ => match ρ[i]? with
  | some (some (.lst .own ds)) => match takeL v m ds (ρ.set i none) with
    | .ok _ ρ' => .ok .nx (ρ'.set i (some (.lst .own (ds.map phD))))
    | _ => .stuck
  | _ => .stuck
@[simp] theorem mForT_ (i v : Nat) (m : Cm Out) (ρ : DE) : mForT i v m ρ = match ρ[i]? with
  | some (some (.lst .own ds)) => match takeL v m ds (ρ.set i none) with
    | .ok _ ρ' => .ok .nx (ρ'.set i (some (.lst .own (ds.map phD))))
    | _ => .stuck
  | _ => .stuck := rfl
abbrev Gh.si (g : Gh) (i : Nat) (a : Addr) : Gh := { g with io := (i, .ref a) :: g.io }
theorem si_io {g : Gh} {i : Nat} {a : Addr} {l : List Nat} (h : g.io.map (·.1) = l) : (g.si i a).io.map (·.1) = i :: l := by simp [Gh.si, h]
section
variable {g : Gh} {W : WX} {H : Hp} {σ : L2.St} {sl : List (Option T)} {tm : List T}
theorem SR.inI {i : Nat} {a : Addr} (s : SR g H σ sl tm) (h : σ[i]? = some (some (.ref a))) : SR (g.si i a) H σ sl tm :=
  ⟨s.okS, s.okT, s.inv, s.prov, s.frame, s.len, s.slen, s.at_, fun p hp => by
    rcases List.mem_cons.mp hp with rfl | hp
    · exact h
    · exact s.io p hp, s.px, s.tabs⟩
theorem SR.outI {i : Nat} {a : Addr} (s : SR (g.si i a) H σ sl tm) : SR g H σ sl tm :=
  ⟨s.okS, s.okT, s.inv, s.prov, s.frame, s.len, s.slen, s.at_, fun p hp => s.io p (List.mem_cons_of_mem _ hp), s.px, s.tabs⟩
theorem _root_.L2.PG.ex {α : Type} {X : Cx} {tg : Expr} {t : α → TG} (h : ∀ x, PG X tg (t x)) : PG X tg (fun v σ H Q => ∃ x, t x v σ H Q) := ⟨fun pins s σ H v u Q I r q => by
  obtain ⟨x, q⟩ := q
  exact (h x).run pins s σ H v u Q I r q⟩
/-- an item is taken out of the list that is held -/
theorem SR.take1 {p : Addr} {t : T} {as bs : List T} (s : SR g H σ sl (T.lst p .own (as.map phT ++ t :: bs) :: tm)) : SR g H σ sl (t :: T.lst p .own ((as ++ [t]).map phT ++ bs) :: tm) := by
  have k := s.okT
  simp only [Ts.ok, T.ok] at k
  obtain ⟨⟨k1, k2, k3⟩, k4⟩ := k
  rw [Ts.ok_iff] at k3
  have kt : t.ok g.c H := k3 t (by simp)
  refine s.tmp ?_ fun a => ?_
  · simp only [Ts.ok, T.ok]
    refine ⟨kt, ⟨?_, by simpa using k2, Ts.ok_iff.mpr fun u m => ?_⟩, k4⟩
    · rw [k1]
      simp [List.map_map, phT_v]
    · simp only [List.map_append, List.map_cons, List.map_nil, List.append_assoc, List.mem_append, List.mem_singleton, List.mem_cons, List.cons_append, List.nil_append] at m
      rcases m with m | m | m
      · exact k3 u (by simp only [List.mem_append]; exact .inl m)
      · subst m; exact phT_ok t kt
      · exact k3 u (by simp [m])
  · have h1 := ph_cnt a as
    have h2 := phT_cnt a t
    simp only [Ts.oc, Ts.sh, T.oc, T.sh, Ts.oc_append, Ts.sh_append, List.map_append, List.map_cons, List.map_nil]
    omega
end
section
variable {X : Cx} {g : Gh} {W : WX} {pos : Pos} {iter tg : Expr} {body : List Stmt} {m : Cm Out} {i v : Nat}
theorem forT_imp (hK : X.K = g.c.K) (hi : i < g.N) (hio : ∀ p ∈ g.io, p.1 ≠ i) (De : Ends) (σ : L2.St) (H : Hp) (q : tS g W (mForT i v m) De σ H) :
    tFor (iList X.K (tVar i)) (fun x σ H Q => ∃ a, tG (g.si i a) W (mPut v) x σ H Q) (fun De σ H => ∃ a, tS (g.si i a) W m De σ H) De σ H := by
  obtain ⟨sl, tm, s, h⟩ := q
  unfold mForT at h
  split at h
  · rename_i ds e0
    obtain ⟨p, ts, g1, rfl, g3, g4, g5⟩ := own_list s e0
    cases et : takeL v m (Ts.d ts) ((den sl).set i none) with
    | exc _ _ => rw [et] at h; exact h.elim
    | stuck => rw [et] at h; exact h.elim
    | ok u ρ' =>
      rw [et] at h
      have s1 : SR (g.si i p) H σ (sl.set i none) (T.lst p .own ts :: tm) := (s.move g1).inI g5
      have e1 : den (sl.set i none) = (den sl).set i none := by rw [den_set]; rfl
      refine ⟨.ref p, g5, p, rfl, ⟨_, .of g3⟩, fun k n σ H => ∃ sl as bs, SR (g.si i p) H σ sl (T.lst p .own (as.map phT ++ bs) :: tm) ∧ as ++ bs = ts ∧ as.length = k ∧ n = bs.length ∧ takeL v m (Ts.d bs) (den sl) = .ok u ρ', ⟨ts.length, sl.set i none, [], ts, by simpa using s1, rfl, rfl, rfl, by rw [e1]; exact et⟩, ?_⟩
      rintro k n σ2 H2 ⟨sl2, as, bs, s2, eab, ek, en, el⟩
      have q2 := lst_sq s2.top
      cases bs with
      | nil =>
        simp only [Ts.d, takeL, R.ok.injEq] at el
        rw [List.append_nil] at eab
        subst eab
        refine .inl ⟨⟨_, by rw [hK]; exact q2.1, by simp; omega⟩, ?_⟩
        have p2 := s2.io (i, .ref p) List.mem_cons_self
        have s3 := s2.outI.store hi hio
        have es : σ2.set i (some (T.lst p .own (as.map phT ++ [])).v) = σ2 := by
          apply List.ext_getElem?
          intro j
          rw [List.getElem?_set]
          by_cases z : i = j
          · subst z
            have hl : i < σ2.length := by rw [s2.len]; exact hi
            rw [if_pos rfl, if_pos hl]
            exact p2.symm
          · rw [if_neg z]
        rw [es] at s3
        exact h H2 σ2 _ s3 (by rw [den_set, el.2]; simp [T.d, Ts.d_map, List.map_map, Function.comp_def, phT_d])
      | cons t bs =>
        simp only [Ts.d, takeL] at el
        refine .inr ⟨⟨_, t.v, by rw [hK]; exact q2.1, by subst ek; simp [List.map_append]⟩, fun σ3 H3 => ∃ sl3, SR (g.si i p) H3 σ3 sl3 (T.lst p .own ((as ++ [t]).map phT ++ bs) :: tm) ∧ takeL v m (Ts.d bs) (den sl3) = .ok u ρ', fun σ3 H3 ⟨sl3, s3, h3⟩ => ⟨bs.length, by simp at en; omega, sl3, as ++ [t], bs, s3, by rw [← eab]; simp, by simp [ek], rfl, h3⟩, fun x H3 hy => ?_⟩
        obtain ⟨rfl, hy⟩ := hy
        have ex := hy _ (by rw [hK]; exact q2.1)
        have ex2 : t.v = x := by subst ek; simpa [List.map_append] using ex
        refine ⟨p, sl2, _, t, s2.take1, ex2, ?_⟩
        show ∀ H' σ' sl', SR _ H' σ' sl' _ → den sl' = (den sl2).set v (some t.d) → _
        intro H4 σ4 sl4 s4 e4
        refine ⟨p, sl4, _, s4, ?_⟩
        rw [e4]
        cases em : m ((den sl2).set v (some t.d)) with
        | exc _ _ => rw [em] at el; cases el
        | stuck => rw [em] at el; cases el
        | ok o ρ4 =>
          rw [em] at el
          cases o with
          | nx => exact fun H5 σ5 sl5 s5 e5 => ⟨sl5, s5, by rw [e5]; exact el⟩
          | brk => cases el
          | ct => cases el
          | ret _ => cases el
  · exact h.elim
theorem s_forT (hp : PassesOwn (model X.prog X.w) X.A X.env X.xe) (hc : X.calm = true) (hK : X.K = g.c.K) (hi : i < g.N) (hio : ∀ p ∈ g.io, p.1 ≠ i) (he : PE X iter (tVar i)) (hg : ∀ a, PG X tg (tG (g.si i a) W (mPut v))) (hb : ∀ a, PSs X body (tS (g.si i a) W m))
    (hs : ∀ x, foldedSetIterable iter X.env x = pure x := by intro _; rfl) : PS X (.For tg iter body [] pos) (tS g W (mForT i v m)) :=
  (ps_for hp hc (pi_list he) (PG.ex hg) ((PSs.ex (P := fun _ : Addr => True) (t := fun a => tS (g.si i a) W m) fun a _ => hb a).imp fun De σ H ⟨a, q⟩ => ⟨a, trivial, q⟩) hs).imp (forT_imp hK hi hio)
/-! ### x[m].clear(), x a tuple -/
def mClrT (i : Nat) (mb : Cm D) : Cm D := fun ρ => match ρ[i]? with
  | some (some (.tup _)) => (mb ρ).bind fun j ρ => match ρ[i]?, j with
    | some (some (.tup xs)), .sc (.int k) => match ixN xs.length k with
      | some n => match xs[n]? with
        | some (.lst .own _) => .ok .non (ρ.set i (some (.tup (xs.set n (.lst .own [])))))
        | _ => .stuck
      | none => .stuck
    | _, _ => .stuck
  | _ => .stuck
@[simp] theorem mClrT_ (i : Nat) (mb : Cm D) (ρ : DE) : mClrT i mb ρ = match ρ[i]? with
  | some (some (.tup _)) => (mb ρ).bind fun j ρ => match ρ[i]?, j with
    | some (some (.tup xs)), .sc (.int k) => match ixN xs.length k with
      | some n => match xs[n]? with
        | some (.lst .own _) => .ok .non (ρ.set i (some (.tup (xs.set n (.lst .own [])))))
        | _ => .stuck
      | none => .stuck
    | _, _ => .stuck
  | _ => .stuck := rfl
theorem e_clrT {y : Str} {b : Expr} {p apos spos : Pos} {mb : Cm D} (hK : X.K = g.c.K) (hp : PE X (.Call (.Attribute (.Subscript (.Name y p) b spos) "clear" apos) [] [] pos) (tBM0 X.K "list" rClear (tOp (rIx X.K) (tVar i) (tE g W mb)))) :
    PE X (.Call (.Attribute (.Subscript (.Name y p) b spos) "clear" apos) [] [] pos) (tE g W (mClrT i mb)) :=
  hp.imp fun σ H Q ⟨sl, tm, s, h⟩ => by
    unfold mClrT at h
    split at h
    · rename_i xs0 e0
      obtain ⟨P0, st0, ts0, _, _, _, e3⟩ := a_tup s e0
      refine ⟨_, e3, tE.of s h fun H1 sl1 t s1 h1 => ?_⟩
      split at h1
      · rename_i xs k e1 ek
        split at h1
        · rename_i n hn
          split at h1
          · rename_i zs hz
            have s1' := s1.pop
            obtain ⟨P, st, ts, g1, rfl, g4, g7⟩ := a_tup s1' e1
            rw [e3] at g7
            cases g7
            obtain ⟨u, hu, hud⟩ := Ts.d_at hz
            cases u with
            | lst r o us =>
              simp only [T.d, D.lst.injEq] at hud
              obtain ⟨rfl, rfl⟩ := hud
              have sq := tup_sq g4
              have kr := Ts.ok_iff.mp sq.2.2 _ (List.mem_of_getElem? hu)
              simp only [T.ok] at kr
              cases t with
              | sc w =>
                simp only [T.d, D.sc.injEq] at ek
                subst ek
                have hl : atI (ts.map T.v) k = some (.ref r) := by
                  unfold atI
                  rw [List.length_map, ← Ts.d_len, hn]
                  show (ts.map T.v)[n]? = _
                  rw [List.getElem?_map, hu]
                  rfl
                refine .inr (.inl ⟨P0, _, k, .ref r, rfl, rfl, by rw [hK]; exact sq.1, hl, ?_⟩)
                show tyV X.K "list" (.ref r) H1 ∧ _
                refine ⟨.inl ⟨rfl, _, .of kr.1⟩, ?_⟩
                refine ⟨r, _, rfl, rfl, kr.1, ?_⟩
                have s3 := SR.writeTL (tm := tm) (es := []) (zs := []) s1' g1 hu (by simp) (by simp [Ts.ok]) (fun a => by simp [Ts.oc]) (fun a => by simp [Ts.sh])
                exact h1 _ _ (.sc .non) (s3.push _ trivial) (by rw [den_set]; simp [T.d, Ts.d_set, Ts.d]) rfl
              | _ => simp [T.d] at ek
            | _ => simp [T.d] at hud
          · exact h1.elim
        · exact h1.elim
      · exact h1.elim
    · exact h.elim
end
end VS

/-! VS, part K: a test that gives a token out; replace behind it. -/
namespace VS
open PySem PySem.Spec PyProof.Rows L2

/-- an expression behind which a token is out -/
def PEK (X : Cx) (e : Expr) (t : TE) : Prop :=
  ∀ (pins : List (Addr × Obj)) (s : Shared) (σ : L2.St) (H : Hp) (Q : VK), Inv X pins σ H s → t σ H Q → wpAny (model X.prog X.w) X.A (eval e X.env) (fun v s' => 1 ≤ s'.toks ∧ EP X pins σ Q v s') X.xe s
def PTK (X : Cx) (e : Expr) (t : TT) : Prop :=
  ∀ (pins : List (Addr × Obj)) (s : Shared) (σ : L2.St) (H : Hp) (Q : Bool → Hp → Prop), Inv X pins σ H s → t σ H Q → wpAny (model X.prog X.w) X.A (isTrue e X.env (eval e X.env)) (fun b s' => 1 ≤ s'.toks ∧ TP X pins σ Q b s') X.xe s
def PSK (X : Cx) (st : Stmt) (t : TS) : Prop :=
  ∀ (pins : List (Addr × Obj)) (s : Shared) (σ : L2.St) (H : Hp) (D : Ends), Inv X pins σ H s → t D σ H → wpAny (model X.prog X.w) X.A (exec st X.env) (fun f s' => 1 ≤ s'.toks ∧ SP X pins D f s') X.xe s
section
variable {X : Cx} {st : Stmt} {sts rest : List Stmt} {t u : TS} {e f : Expr} {te tf : TE} {tc : TT} {pos : Pos}
theorem pek_int {i : Int} {j : Nat} : PEK X (.Constant (.int i) j pos) (tC (.int i)) := fun _ s _ H _ I h => wpAny_Constant_int ⟨by show 1 ≤ s.toks + 1; omega, .int i, H, I.tok _, ⟨_, rfl⟩, h⟩
theorem pek_str {x : Str} {j : Nat} : PEK X (.Constant (.str x) j pos) (tC (.str x)) := fun _ s _ H _ I h => Calls.Constant_str ⟨by show 1 ≤ s.toks + 1; omega, .str x, H, I.tok _, ⟨_, rfl⟩, h⟩
theorem PEK.imp {t' : TE} (h : PEK X e te) (w : ∀ σ H Q, t' σ H Q → te σ H Q) : PEK X e t' := fun pins s σ H Q I q => h pins s σ H Q I (w σ H Q q)
theorem PTK.imp {t' : TT} (h : PTK X e tc) (w : ∀ σ H Q, t' σ H Q → tc σ H Q) : PTK X e t' := fun pins s σ H Q I q => h pins s σ H Q I (w σ H Q q)
theorem PSK.imp {t' : TS} (h : PSK X st t) (w : ∀ D σ H, t' D σ H → t D σ H) : PSK X st t' := fun pins s σ H D I q => h pins s σ H D I (w D σ H q)
theorem _root_.L2.PST.imp {t' : TS} (h : PST X st t) (w : ∀ D σ H, t' D σ H → t D σ H) : PST X st t' := fun pins s σ H D h0 I q => h pins s σ H D h0 I (w D σ H q)
theorem _root_.L2.PSsT.imp {t' : TS} (h : PSsT X sts t) (w : ∀ D σ H, t' D σ H → t D σ H) : PSsT X sts t' := fun pins s σ H D h0 I q => h pins s σ H D h0 I (w D σ H q)
theorem ptk_cmp {op : CmpOp} {r : R2} (ho : OpR X (compareOp op) r) (ha : PE X e te) (hb : PEK X f tf) (hm : behindInMarks op f = false) : PTK X (.Compare e [op] [f] pos) (tTest (tOp r te tf)) := by
  intro pins s σ H Q I h
  refine wpAny_isTrue_Compare1 (thn (ha.run pins s σ H _ I h) fun v s1 ⟨x, H1, I1, r1, q1⟩ => thn (hb pins s1 σ H1 _ I1 q1) fun u s2 ⟨hk, y, H2, I2, r2, q2⟩ => ?_) hm
  refine wpAny_mono (PySem.wpAny_toks (ho pins s2 σ H2 x y v u _ I2 r1 r2 q2)) (fun c s3 ⟨hk3, z, H3, I3, r3, k, e, q3⟩ => ?_) fun _ _ z => z.2
  subst e
  cases r3
  exact wpAny_truthy_bool ⟨Nat.le_trans hk hk3, H3, I3, q3⟩
theorem psk_if {a b : List Stmt} (hc : PTK X e tc) (ha : PSsT X a t) (hb : PSsT X b u) : PSK X (.If e a b pos) (tIfS tc t u) := by
  intro pins s σ H D I h
  refine wpAny_If (thn (hc pins s σ H _ I h) fun d s1 ⟨hk, H1, I1, q1⟩ => ?_)
  cases d with
  | true => exact wpAny_mono (PySem.wpAny_toks (ha pins s1 σ H1 D hk I1 q1)) (fun f s2 q => ⟨Nat.le_trans hk q.1, q.2⟩) fun _ _ z => z.2
  | false => exact wpAny_mono (PySem.wpAny_toks (hb pins s1 σ H1 D hk I1 q1)) (fun f s2 q => ⟨Nat.le_trans hk q.1, q.2⟩) fun _ _ z => z.2
theorem PSK.ps (h : PSK X st t) : PS X st t := ⟨fun pins s σ H D I q => thn (h pins s σ H D I q) fun _ _ z => z.2⟩
theorem pssk_cons (h1 : PSK X st t) (h2 : PSsT X rest u) : PSs X (st :: rest) (tSeq t u) := by
  refine ⟨fun pins s σ H D I h => ?_⟩
  refine wpAny_execs_cons (thn (h1 pins s σ H { D with nx := u D } I h) fun f s1 q => ?_)
  obtain ⟨hk, q⟩ := q
  cases f with
  | next =>
    obtain ⟨σ', H', I', q⟩ := q
    exact h2 pins s1 σ' H' D hk I' q
  | ret v => exact q
  | brk => exact q
  | cont => exact q
theorem pst_set {i : Nat} {x : Str} {pos' : Pos} (hN : X.N.Nodup) (hi : X.N[i]? = some x) (hx : Loc X.env.scope x) (he : PET X e te) (hs : swapsWith e (some (.Name x pos')) pos.line X.env = pure false := by rfl)
    (hf : X.fn x = true ∨ X.env.scope.names.lookup x = some .local := by first | exact .inl rfl | exact .inr rfl | assumption) : PST X (.Assign [.Name x pos'] e pos) (tAsg te (gName i)) := by
  intro pins s σ H D h0 I h
  refine wpAny_Assign_Name (thn (he pins s σ H _ h0 I h) fun v s1 ⟨y, H1, I1, r1, q1⟩ => ?_) hs
  exact store_ok I1 hN hi hx r1 (fun s2 I2 => ⟨_, H1, I2, q1⟩) hf
theorem pet_callS {CX : CXT} {k : Nat} {fa : Addr} {fd : FuncData} {ps : List Str} {sp : Sp} {x : Str} {p : Pos} {es : List Expr} {ta : TA} {E : L2.St → XK}
    (F : FnOk X.prog X.w X.K X.mg X.base CX k fa fd ps sp) (hr : Room k X.A) (hg : Gl X x) (hm : X.mg x = some (.ref fa)) (hk : PySem.W.keepIn X.K (.ref fa) = true) (hb : Binds X.K fd ps []) (hx : ∀ σ, PassesAt CX X σ (E σ))
    (ha : PAT X (e :: es) ta) (hdb : (x == ("__debug__" : Str)) = false := by decide) (he : starEach (e :: es) X.env = (false, eval e X.env) :: starEach es X.env := by rfl) (hpl : (backTo pos (starEach es X.env)).any (·.1) = false := by rfl) :
    PET X (.Call (.Name x p) (e :: es) [] pos) (tCallS sp E ta) := by
  intro pins s σ H Q h0 I h
  refine wpAny_Call_Name_kw (ld_glob I hg hm ?_ hdb)
  refine PySem.W.callWith_K (h₀ := X.base) I.ok.mod.kin hk (thn (ha pos pins s σ H _ h0 I h) fun us s1 ⟨vs, H1, I1, r, q⟩ => ⟨I1.kIn, ?_⟩) he hpl
  exact run_fnS F hr hb (hx σ) I1 r q
end

/-! ### the words -/
section
variable {X : Cx} {g : Gh} {W : WX} {pos : Pos} {a b c e : Expr} {es : List Expr} {ma mb mo : Cm D} {oa ob : Opd} {m m' : Cm Out} {mc : Cm Bool} {sa sb sts : List Stmt} {st : Stmt} {as : List (Cm D)}
theorem o_intK {i : Int} {j : Nat} : PEK X (.Constant (.int i) j pos) (tO g W (.e (mC (.int i)))) := pek_int.imp fun σ H Q ⟨sl, tm, s, h⟩ => h H sl (.sc (.int i)) (s.push _ trivial) rfl rfl
theorem o_strK {z : Str} {l : List Nat} {j : Nat} (h : z = ⟨l.toArray⟩) (hg : (Sc.str l).good) : PEK X (.Constant (.str z) j pos) (tO g W (.e (mC (.str l)))) := by
  subst h
  exact pek_str.imp fun σ H Q ⟨sl, tm, s, h⟩ => h H sl (.sc (.str l)) (s.push _ hg) rfl rfl
theorem t_cmpK {op : CmpOp} {r : R2} {f : D → D → Option Sc} (ho : OpR X (compareOp op) r) (hr : HR2 g f r) (ha : PE X a (tO g W oa)) (hb : PEK X b (tO g W ob)) (hm : behindInMarks op b = false) :
    PTK X (.Compare a [op] [b] pos) (tT g W (mTest (mP2 f oa ob))) := (ptk_cmp ho ha hb hm).imp fun σ H Q q => p2_imp hr σ H _ (test_imp q)
theorem s_ifK (hc : PTK X c (tT g W mc)) (ha : PSsT X sa (tS g W m)) (hb : PSsT X sb (tS g W m')) : PSK X (.If c sa sb pos) (tS g W (mIf mc m m')) := (psk_if hc ha hb).imp fun De σ H ⟨sl, tm, s, h⟩ => by
  refine tT.of s h fun H' sl' k s' h' => ?_
  cases k with
  | true => rw [if_pos rfl]; exact ⟨sl', tm, s', h'⟩
  | false => rw [if_neg Bool.false_ne_true]; exact ⟨sl', tm, s', h'⟩
theorem ss_consK (h1 : PSK X st (tS g W m)) (h2 : PSsT X sts (tS g W m')) : PSs X (st :: sts) (tS g W (mSeq m m')) := (pssk_cons h1 h2).imp seq_imp
theorem sT_nil : PSsT X [] (tS g W mNext) := PSsT.of ss_nil
theorem sT_cons (h1 : PST X st (tS g W m)) (h2 : PSsT X sts (tS g W m')) : PSsT X (st :: sts) (tS g W (mSeq m m')) := (psst_cons h1 h2).imp seq_imp
theorem sT_one (h1 : PST X st (tS g W m)) : PSsT X [st] (tS g W m) := CwR.psst_one h1 |>.imp fun De σ H q => by
  obtain ⟨sl, tm, s, h⟩ := q
  exact ⟨sl, tm, s, h⟩
theorem sT_set {i : Nat} {x : Str} {pos' : Pos} (hp : PST X (.Assign [.Name x pos'] e pos) (tAsg (tE g W ma) (gName i))) (hi : i < g.N) (hio : ∀ p ∈ g.io, p.1 ≠ i) : PST X (.Assign [.Name x pos'] e pos) (tS g W (mSet i ma)) :=
  hp.imp (set_imp hi hio)
theorem sT_ret (h : PET X e (tE g W ma)) : PST X (.Return (some e) pos) (tS g W (mRet ma)) := (CwR.pst_ret h).imp fun De σ H ⟨sl, tm, s, h⟩ => by
  refine tE.of s h fun H' sl' t s' h' => ?_
  exact h' H' σ sl' t s' rfl rfl
/-- text + text, the left one behind a token -/
def addSD : D → D → Option D
  | .sc (.str x), .sc (.str y) => addD (.sc (.str x)) (.sc (.str y))
  | _, _ => none
theorem eT_add (ha : PET X a (tE g W ma)) (hb : PET X b (tE g W mb)) : PET X (.BinOp a .Add b pos) (tE g W (mBin addSD ma mb)) := by
  refine (CwR.pet_op op_add_str ha hb).imp (bin_imp fun H σ sl tm t1 t2 d Q s h k => ?_)
  have k1 : t1.ok g.c H := by have := s.okT; simp only [Ts.ok] at this; exact this.2.1
  have k2 := s.top
  cases t1 with
  | sc x =>
    cases t2 with
    | sc y =>
      cases x <;> cases y <;> simp [T.d, addSD, addD] at h
      rename_i x y
      obtain ⟨h1, rfl⟩ := h
      simp only [T.ok] at k1 k2
      refine ⟨_, _, rfl, rfl, by rw [SZ_eq]; simpa [Str.length] using h1, ?_⟩
      rw [Str.app]
      exact k H (.sc (.str (x ++ y))) (s.pop.pop.push _ (good_append k1 k2 h1)) rfl
    | _ => cases x <;> simp [T.d, addSD] at h
  | _ => simp [T.d, addSD] at h
theorem _root_.L2.PAT.imp {t t' : TA} (h : PAT X es t) (w : ∀ σ H Q, t' σ H Q → t σ H Q) : PAT X es t' := fun pos pins s σ H Q h0 I q => h pos pins s σ H Q h0 I (w σ H Q q)
theorem _root_.L2.PAT.of {t : TA} (h : PA X es t) : PAT X es t := fun pos pins s σ H Q _ I q => h.run pos pins s σ H Q I q
section
variable {as : List Ag} {m : Cm D}
theorem asT_e (ha : PET X e (tE g W m)) (hr : PAT X es (tAs g W as)) (hs : starEach (e :: es) X.env = (false, eval e X.env) :: starEach es X.env := by rfl) : PAT X (e :: es) (tAs g W (.e m :: as)) :=
  (pat_cons ha hr hs).imp fun σ H Q ⟨sl, tm, s, h⟩ => by
    simp only [agRun] at h
    refine tE.of s h fun H1 sl1 t1 s1 h1 => ?_
    refine tAs.go s1 (Lands.drop h1) fun H2 sl2 us vs s2 hv h2 => ?_
    exact h2 H2 sl2 (some t1 :: us) (t1.v :: vs) (by simpa [live] using s2) rfl rfl ⟨rfl, hv⟩
theorem eT_call {f : Addr} {fd : FuncData} {ps : List Str} {x : Str} {p : Pos} {c : Cfg} {M : List D → RF} {k np : Nat} {io : List Nat} (F : FnOk X.prog X.w X.K X.mg X.base (L2.CX X.prog X.w) k f fd ps (spM c np io M)) (hr : Room k X.A) (hg : Gl X x) (hm : X.mg x = some (.ref f)) (hk : PySem.W.keepIn X.K (.ref f) = true) (hb : Binds X.K fd ps []) (tk : Takes X W)
    (ha : PAT X (e :: es) (tAs g W as)) (hc : g.c = c) (hio : agIo 0 as = io) (hl : as.length = np) (hnd : (agSlots as).Nodup) (hdb : (x == ("__debug__" : Str)) = false := by decide) (he : starEach (e :: es) X.env = (false, eval e X.env) :: starEach es X.env := by rfl) (hpl : (backTo pos (starEach es X.env)).any (·.1) = false := by rfl) :
    PET X (.Call (.Name x p) (e :: es) [] pos) (tE g W (mCall M as)) := (pet_callS (E := WE W) F hr hg hm hk hb (fun σ => passAt tk σ) ha hdb he hpl).imp (call_imp hc hio hl hnd)
end

/-! ### replace by a text that is put together of two -/
/-- its own token: none that was out ahead -/
def PEF (X : Cx) (e : Expr) (t : TE) : Prop :=
  ∀ (n : Nat) (pins : List (Addr × Obj)) (s : Shared) (σ : L2.St) (H : Hp) (Q : VK), n ≤ s.toks → Inv X pins σ H s → t σ H Q →
    wpAny (model X.prog X.w) X.A (eval e X.env) (fun v s' => ∃ z tk H', v = .str z tk ∧ n ≤ tk ∧ Inv X pins σ H' s' ∧ Q (.str z) H') X.xe s
def tAddF (ta tb : TE) : TE := fun σ H Q => ta σ H fun x H1 => tb σ H1 fun y H2 => ∃ l r, x = .str l ∧ y = .str r ∧ l.length ≠ 0 ∧ r.length ≠ 0 ∧ l.length + r.length ≤ sizeLine ∧ Q (.str (l ++ r)) H2
def tReplF (to : TE) (y : Str) (tz : TE) : TE := fun σ H Q => to σ H fun v H1 => ∃ x, v = .str x ∧ tz σ H1 fun w H2 => ∃ z, w = .str z ∧ (y == z) = false ∧ x.length + (x.length + 1) * z.length ≤ 16777216 ∧ Q (.str (Txt.replace x y z)) H2
theorem pef_add {ta tb : TE} (ha : PE X a ta) (hb : PE X b tb) : PEF X (.BinOp a .Add b pos) (tAddF ta tb) := by
  intro n pins s σ H Q h0 I h
  refine wpAny_BinOp (wpAny_mono (PySem.wpAny_toks (ha.run pins s σ H _ I h)) (fun v s1 q => ?_) fun _ _ z => z.2)
  obtain ⟨hk, x, H1, I1, r1, q1⟩ := q
  refine wpAny_mono (PySem.wpAny_toks (hb.run pins s1 σ H1 _ I1 q1)) (fun u s2 q2 => ?_) fun _ _ z => z.2
  obtain ⟨hk2, y, H2, I2, r2, l, r, e1, e2, hl, hr, hs, q2⟩ := q2
  subst e1 e2
  obtain ⟨t1, rfl⟩ := r1
  obtain ⟨t2, rfl⟩ := r2
  refine PySem.P.add_str ?_
  rw [if_neg (by simpa using hl), if_neg (by simpa using hr)]
  exact ⟨by rw [show (l ++ r).length = l.length + r.length from by show (l.cps ++ r.cps).size = _; simp [Str.length]]; exact hs, _, _, H2, rfl, by omega, I2.tok _, q2⟩
theorem pet_replF {y : Str} {j : Nat} {c0 apos : Pos} {to tz : TE} (ho : PE X a to) (hz : PEF X b tz)
    (hst : starEach [.Constant (.str y) j c0, b] X.env = [(false, eval (.Constant (.str y) j c0) X.env), (false, eval b X.env)] := by rfl)
    (hbase : attributeBase a "replace" X.env (eval a X.env) = eval a X.env := by rfl) (hline : (apos.endLine == pos.line) = true := by rfl) :
    PET X (.Call (.Attribute a "replace" apos) [.Constant (.str y) j c0, b] [] pos) (tReplF to y tz) := by
  intro pins s σ H Q h0 I h
  refine PySem.Call_method2 hbase hst hline (wpAny_mono (PySem.wpAny_toks (ho.run pins s σ H _ I h)) (fun v s1 q => ?_) fun _ _ z => z.2)
  obtain ⟨hk, v', H1, I1, r1, x, e1, q⟩ := q
  subst e1
  obtain ⟨tx, rfl⟩ := r1
  refine ⟨"str", _, PySem.F.plainAttrs_str, PySem.F.slot_str_replace, PySem.F.type_str_replace, typeIs_str _ _ _, (fun _ e => nomatch e), Calls.callWith_builtin rfl (Calls.evalArgs_plain (Calls.spliced_cons ?_))⟩
  refine Calls.Constant_str (Calls.spliced_cons (thn (hz (s1.toks + 1) pins _ σ H1 _ (Nat.le_refl _) (I1.tok _) q) fun u s2 ⟨z, tk, H2, e, hk2, I2, z', e', hyz, hb, q2⟩ => ?_))
  subst e
  cases e'
  refine Calls.spliced_nil ?_
  have hk3 : s1.toks + 1 ≤ tk := hk2
  have hk0 : s.toks ≤ s1.toks := hk
  exact PySem.SC.replace (show s1.toks ≠ 0 by omega) (Nat.ne_of_gt (Nat.lt_of_lt_of_le (Nat.succ_pos _) hk3)) (Nat.ne_of_lt hk3) hyz hb fun t' k => ⟨.str (Txt.replace x y z), H2, I2.tok k, ⟨t', rfl⟩, q2⟩
def mReplF (y : List Nat) (mo ma mb : Cm D) : Cm D := fun ρ => (mo ρ).bind fun d ρ => match d with
  | .sc (.str x) => (ma ρ).bind fun l ρ => match l with
    | .sc (.str l) => (mb ρ).bind fun r ρ => match r with
      | .sc (.str r) => if (1 ≤ l.length ∧ 1 ≤ r.length ∧ l.length + r.length ≤ 16777216 ∧ y ≠ l ++ r) ∧ x.length + (x.length + 1) * (l ++ r).length ≤ 16777216 ∧ (StrLaws.replL y (l ++ r) x).all (fun c => decide (c < 1114112)) = true then .ok (.str (StrLaws.replL y (l ++ r) x)) ρ else .stuck
      | _ => .stuck
    | _ => .stuck
  | _ => .stuck
theorem replF_imp {y : List Nat} (hy : 1 ≤ y.length) : ∀ σ H Q, tE g W (mReplF y mo ma mb) σ H Q → tReplF (tE g W mo) ⟨y.toArray⟩ (tAddF (tE g W ma) (tE g W mb)) σ H Q := fun σ H Q ⟨sl, tm, s, h⟩ => by
  refine tE.of s h fun H1 sl1 t1 s1 h1 => ?_
  cases t1 with
  | sc x =>
    cases x with
    | str x =>
      simp only [T.d] at h1
      refine ⟨⟨x.toArray⟩, rfl, ?_⟩
      refine tE.of s1.pop h1 fun H2 sl2 t2 s2 h2 => ?_
      cases t2 with
      | sc l =>
        cases l with
        | str l =>
          simp only [T.d] at h2
          refine tE.of s2.pop h2 fun H3 sl3 t3 s3 h3 => ?_
          cases t3 with
          | sc r =>
            cases r with
            | str r =>
              simp only [T.d] at h3
              split at h3
              · rename_i hc
                obtain ⟨⟨c1, c2, c3, c4⟩, c5, c6⟩ := hc
                refine ⟨⟨l.toArray⟩, ⟨r.toArray⟩, rfl, rfl, by simp [Str.length]; intro q; simp [q] at c1, by simp [Str.length]; intro q; simp [q] at c2, by rw [SZ_eq]; simpa [Str.length] using c3, ?_⟩
                rw [Str.app]
                refine ⟨⟨(l ++ r).toArray⟩, rfl, ?_, by simpa [Str.length] using c5, ?_⟩
                · refine Bool.eq_false_iff.2 fun q => c4 ?_
                  have q := eq_of_beq q
                  simpa using congrArg (fun s : Str => s.cps.toList) q
                · have e : Txt.replace ⟨x.toArray⟩ ⟨y.toArray⟩ ⟨(l ++ r).toArray⟩ = ⟨(StrLaws.replL y (l ++ r) x).toArray⟩ := str_eq (by rw [StrLaws.replace_list (by simpa [Str.length] using hy)])
                  have gl : (StrLaws.replL y (l ++ r) x).length ≤ 16777216 := by
                    have := TK.replace_len ⟨x.toArray⟩ ⟨y.toArray⟩ ⟨(l ++ r).toArray⟩
                    rw [e] at this
                    simp [Str.length] at this c5
                    omega
                  rw [e]
                  exact h3 H3 sl3 (.sc (.str _)) (s3.pop.push _ ⟨gl, fun c hc => by simpa using List.all_eq_true.1 c6 c hc⟩) rfl rfl
              · exact h3.elim
            | _ => exact h3.elim
          | _ => exact h3.elim
        | _ => exact h2.elim
      | _ => exact h2.elim
    | _ => exact h1.elim
  | _ => exact h1.elim
theorem eT_replF {y : List Nat} {ys : Str} {j : Nat} {c0 apos apos' : Pos} (h1 : ys = ⟨y.toArray⟩) (hy : 1 ≤ y.length) (ho : PE X e (tE g W mo)) (ha : PE X a (tE g W ma)) (hb : PE X b (tE g W mb))
    (hst : starEach [.Constant (.str ys) j c0, .BinOp a .Add b apos'] X.env = [(false, eval (.Constant (.str ys) j c0) X.env), (false, eval (.BinOp a .Add b apos') X.env)] := by rfl)
    (hbase : attributeBase e "replace" X.env (eval e X.env) = eval e X.env := by rfl) (hline : (apos.endLine == pos.line) = true := by rfl) :
    PET X (.Call (.Attribute e "replace" apos) [.Constant (.str ys) j c0, .BinOp a .Add b apos'] [] pos) (tE g W (mReplF y mo ma mb)) := by
  subst h1
  exact (pet_replF ho (pef_add ha hb) hst hbase hline).imp (replF_imp hy)
end

/-! ### lstrip of signs -/
def lstripM : D → D → Option Sc
  | .sc (.str a), .sc (.str b) => some (.str (ldrop b.contains a))
  | _, _ => none
@[simp] theorem lstripM_ (a b : List Nat) : lstripM (.str a) (.str b) = some (.str (ldrop b.contains a)) := rfl
theorem lstrip_eq (a b : List Nat) : Txt.lstripChars ⟨a.toArray⟩ ⟨b.toArray⟩ = ⟨(ldrop b.contains a).toArray⟩ := by
  have e1 : stripLo b.contains true ⟨a.toArray⟩ = (a.takeWhile b.contains).length := by simp [stripLo]
  have e2 : stripHi b.contains false ⟨a.toArray⟩ (a.takeWhile b.contains).length = a.length := by simp [stripHi, Str.length]
  have hs : Builtin.Str.strSub ⟨a.toArray⟩ (a.takeWhile b.contains).length a.length = ⟨(ldrop b.contains a).toArray⟩ := by
    refine str_eq ?_
    unfold Builtin.Str.strSub ldrop
    simp only [Array.toList_extract]
    rw [List.extract_eq_take_drop, ← drop_tw]
    refine List.take_of_length_le ?_
    simp
  unfold Txt.lstripChars Txt.stripBy
  rw [contains_arr]
  unfold stripSame stripped
  rw [e1, e2, hs]
  split
  · rename_i h
    rw [Bool.and_eq_true] at h
    have h1 : (a.takeWhile b.contains).length = 0 := by simpa using h.1
    rw [← hs, h1]
    refine (str_eq ?_).symm
    simp [Builtin.Str.strSub]
  · rfl
theorem hs_lstrip {g : Gh} : HM1 g lstripM (fun x xs H Q => ∃ a b, x = .str a ∧ xs = [.str b] ∧ a.length ≤ sizeLine ∧ Q (.str (Txt.lstripChars a b)) H) := fun H u1 u2 c Q k1 k2 h q => by
  cases u1 with
  | sc x =>
    cases u2 with
    | sc y =>
      cases x <;> cases y <;> simp [T.d, lstripM] at h
      rename_i a b
      subst h
      simp only [T.ok] at k1
      refine ⟨_, _, rfl, rfl, ?_, ?_⟩
      · rw [sizeLine_eq]; simpa [Str.length] using k1.1
      · rw [lstrip_eq]
        exact q ⟨Nat.le_trans (List.dropWhile_sublist _).length_le k1.1, fun c hc => k1.2 c ((List.dropWhile_sublist _).subset hc)⟩
    | _ => cases x <;> simp [T.d, lstripM] at h
  | _ => simp [T.d, lstripM] at h

/-! ### text > text, text < text -/
def gtS : D → D → Option Sc
  | .sc (.str x), .sc (.str y) => some (.bl (decide (y < x)))
  | _, _ => none
def ltS : D → D → Option Sc
  | .sc (.str x), .sc (.str y) => some (.bl (decide (x < y)))
  | _, _ => none
@[simp] theorem gtS_ (x y : List Nat) : gtS (.str x) (.str y) = some (.bl (decide (y < x))) := rfl
@[simp] theorem ltS_ (x y : List Nat) : ltS (.str x) (.str y) = some (.bl (decide (x < y))) := rfl
theorem hr_gtS {g : Gh} : HR2 g gtS (fun x y H Q => ∃ i j, x = .str i ∧ y = .str j ∧ Q (.bl (decide (j.cps.toList < i.cps.toList))) H) := fun H u1 u2 c Q k1 k2 h q => by
  cases u1 with
  | sc x =>
    cases u2 with
    | sc y =>
      cases x <;> cases y <;> simp [T.d, gtS] at h
      subst h
      exact ⟨_, _, rfl, rfl, q trivial⟩
    | _ => cases x <;> simp [T.d, gtS] at h
  | _ => simp [T.d, gtS] at h
theorem hr_ltS {g : Gh} : HR2 g ltS (fun x y H Q => ∃ i j, x = .str i ∧ y = .str j ∧ Q (.bl (decide (i.cps.toList < j.cps.toList))) H) := fun H u1 u2 c Q k1 k2 h q => by
  cases u1 with
  | sc x =>
    cases u2 with
    | sc y =>
      cases x <;> cases y <;> simp [T.d, ltS] at h
      subst h
      exact ⟨_, _, rfl, rfl, q trivial⟩
    | _ => cases x <;> simp [T.d, ltS] at h
  | _ => simp [T.d, ltS] at h
end VS

namespace K43
open VS
def k_CODES : List Sc := [(.str [112, 108, 97, 105, 110]), (.str [115, 105, 120, 101, 115]), (.str [109, 97, 114, 107, 115])]
def k_SIGNS : List Nat := [32, 33, 34, 35, 36, 38, 39, 40, 41, 42, 43, 44, 45, 46, 47, 48, 49, 50, 51, 52, 53, 54, 55, 56, 57, 58, 59, 60, 61, 62, 63, 64, 65, 66, 67, 68, 69, 70, 71, 72, 73, 74, 75, 76, 77, 78, 79, 80, 81, 82, 83, 84, 85, 86, 87, 88, 89, 90, 91, 92, 93, 94, 95, 96, 97, 98, 99, 100, 101, 102, 103, 104, 105, 106, 107, 108, 109, 110, 111, 112, 113, 114, 115, 116, 117, 118, 119, 120, 121, 122, 123, 124, 125, 126]
def k_SIX : List Nat := [65, 66, 67, 68, 69, 70, 71, 72, 73, 74, 75, 76, 77, 78, 79, 80, 81, 82, 83, 84, 85, 86, 87, 88, 89, 90, 97, 98, 99, 100, 101, 102, 103, 104, 105, 106, 107, 108, 109, 110, 111, 112, 113, 114, 115, 116, 117, 118, 119, 120, 121, 122, 48, 49, 50, 51, 52, 53, 54, 55, 56, 57, 43, 47]
def k_SIXTEEN : List Nat := [48, 49, 50, 51, 52, 53, 54, 55, 56, 57, 65, 66, 67, 68, 69, 70]
def k_SMALL_SIXTEEN : List Nat := [48, 49, 50, 51, 52, 53, 54, 55, 56, 57, 97, 98, 99, 100, 101, 102]
def allX : List String := ["NoCode"]
def dsX : List String := ["LetterError", "NoCode", "NoOctets"]
abbrev exm_ : String → String → Option Bool := exT allX dsX
def m_is_word : Cm Out := (mRet (mAndV (mP1 (isTy .str) (.v 0)) (mP2 (inD false) (.v 0) (.v 1))))
def F_is_word : List D → RF := runF 2 [] m_is_word
def m_is_body : Cm Out := (mRet (mAndV (mP1 (isTy .str) (.v 0)) (mOrV (mP2 eqD (.v 0) (.e (mC (.str [])))) (mM endswithM (.v 0) (.e (mC (.str [10])))))))
def F_is_body : List D → RF := runF 1 [] m_is_body
def m_number_of : Cm Out := (mSeq (mIf (mTest (mP2 eqD (.v 0) (.e (mC (.str [10])))))
  (mRet (mC (.int 10)))
  mNext)
  (mSeq (mSet 1 (mM sindexM (.e (mC (.str k_SIGNS))) (.v 0)))
  (mRet (mBin addD (mBin addD (mC (.int 32)) (mVar 1)) (mP1 intBD (.e (mP2 gtD (.v 1) (.e (mC (.int 4))))))))))
def F_number_of : List D → RF := runF 2 [] m_number_of
def m_needed_code : Cm Out := (mIf (mNot (mTest (mCall F_is_word [.p 0, .e (mK k_CODES)])))
  (mRaiseF "NoCode" "at" [(mC (.str [110, 111, 32, 115, 117, 99, 104, 32, 99, 111, 100, 101]))])
  mNext)
def F_needed_code : List D → RF := runF 1 [] m_needed_code
def m_read_sixes : Cm Out := (mSeq mStuckO (mSeq mStuckO (mSeq mStuckO mStuckO)))
def F_read_sixes : List D → RF := runF 4 [] m_read_sixes
def m_behind_blanks : Cm Out := (mSeq (mWhile (mAnd (mTest (mP2 ltD (.v 1) (.e (mP1 lenD (.v 0))))) (mTest (mP2 eqD (.e (mIdx (.v 0) (mVar 1))) (.e (mC (.str [32]))))))
  (mAug augA 1 (mC (.int 1))))
  (mRet (mMove 1)))
def F_behind_blanks : List D → RF := runF 2 [] m_behind_blanks
def m_figure_at : Cm Out := (mSeq (mIf (mTest (mP2 eqD (.v 1) (.e (mP1 lenD (.v 0)))))
  (mRaiseF "NoCode" "at" [(mC (.str [105, 116, 32, 101, 110, 100, 115, 32, 116, 111, 111, 32, 115, 111, 111, 110])), (mVar 1)])
  mNext)
  (mSeq (mFor (mItemsT (mTup [(mC (.str k_SIXTEEN)), (mC (.str k_SMALL_SIXTEEN))])) (mPut 2)
  (mIf (mTest (mP2 (inD false) (.e (mIdx (.v 0) (mVar 1))) (.v 2)))
  (mRet (mM sindexM (.v 2) (.e (mIdx (.v 0) (mMove 1)))))
  mNext))
  (mRaiseF "NoCode" "at" [(mC (.str [105, 116, 32, 99, 97, 110, 32, 110, 111, 116, 32, 103, 111, 32, 111, 110, 32, 115, 111])), (mVar 1)])))
def F_figure_at : List D → RF := runF 3 [] m_figure_at
def m_read_equals : Cm Out := (mSeq (mIf (mAnd (mTest (mP2 ltD (.e (mBin addD (mVar 1) (mC (.int 1)))) (.e (mP1 lenD (.v 0))))) (mTest (mP2 (inD false) (.e (mIdx (.v 0) (mBin addD (mVar 1) (mC (.int 1))))) (.e (mBin addD (mC (.str k_SIXTEEN)) (mC (.str k_SMALL_SIXTEEN)))))))
  (mRet (mTup [(mLst [(mBin addD (mBin mulD (mC (.int 16)) (mCall F_figure_at [.p 0, .e (mBin addD (mVar 1) (mC (.int 1)))])) (mCall F_figure_at [.p 0, .e (mBin addD (mVar 1) (mC (.int 2)))]))]), (mBin addD (mVar 1) (mC (.int 3)))]))
  mNext)
  (mSeq (mSet 2 (mCall F_behind_blanks [.p 0, .e (mBin addD (mVar 1) (mC (.int 1)))]))
  (mSeq (mIf (mTest (mP2 eqD (.v 2) (.e (mP1 lenD (.v 0)))))
  (mRaiseF "NoCode" "at" [(mC (.str [105, 116, 32, 101, 110, 100, 115, 32, 116, 111, 111, 32, 115, 111, 111, 110])), (mVar 2)])
  mNext)
  (mSeq (mIf (mTest (mP2 neD (.e (mIdx (.v 0) (mVar 2))) (.e (mC (.str [10])))))
  (mRaiseF "NoCode" "at" [(mC (.str [105, 116, 32, 99, 97, 110, 32, 110, 111, 116, 32, 103, 111, 32, 111, 110, 32, 115, 111])), (mVar 2)])
  mNext)
  (mRet (mTup [(mLst []), (mBin addD (mMove 2) (mC (.int 1)))]))))))
def F_read_equals : List D → RF := runF 3 [] m_read_equals
def m_read_marks : Cm Out := (mSeq (mSet 1 (mLst []))
  (mSeq (mSet 2 (mC (.int 0)))
  (mSeq (mWhile (mTest (mP2 ltD (.v 2) (.e (mP1 lenD (.v 0)))))
  (mIf (mTest (mP2 eqD (.e (mIdx (.v 0) (mVar 2))) (.e (mC (.str [61])))))
  (mSeq (mAsg (mCall F_read_equals [.p 0, .p 2]) (mTupT [(mPut 3), (mPut 2)]))
  (mDrop (mExt 1 (mVar 3))))
  (mIf (mTest (mP2 eqD (.e (mIdx (.v 0) (mVar 2))) (.e (mC (.str [32])))))
  (mSeq (mSet 4 (mCall F_behind_blanks [.p 0, .p 2]))
  (mSeq (mIf (mTest (mP2 neD (.e (mSlc (.v 0) (some (mVar 4)) (some (mBin addD (mVar 4) (mC (.int 1)))))) (.e (mC (.str [10])))))
  (mDrop (mExt 1 (mBin mulD (mLst [(mC (.int 32))]) (mBin subD (mVar 4) (mVar 2)))))
  mNext)
  (mSet 2 (mVar 4))))
  (mSeq (mDrop (mApp 1 (mCall F_number_of [.e (mIdx (.v 0) (mVar 2))])))
  (mAug augA 2 (mC (.int 1)))))))
  (mRet (mMove 1)))))
def F_read_marks : List D → RF := runF 5 [] m_read_marks
def m_read_by : Cm Out := (mSeq (mIf (mNot (mTest (mP1 (isTy .str) (.v 0))))
  (mRaiseF "NoCode" "at" [(mC (.str [97, 32, 116, 101, 120, 116, 32, 105, 115, 32, 119, 97, 110, 116, 101, 100]))])
  mNext)
  (mSeq (mDrop (mCall F_needed_code [.p 1]))
  (mSeq (mIf (mTest (mP2 eqD (.v 1) (.e (mC (.str [115, 105, 120, 101, 115])))))
  (mSet 2 (mCall F_read_sixes [.p 0]))
  (mIf (mTest (mP2 eqD (.v 1) (.e (mC (.str [109, 97, 114, 107, 115])))))
  (mSet 2 (mCall F_read_marks [.p 0]))
  (mSet 2 (mLc (mItemsS (mVar 0)) (mPut 3) mYes (mCall F_number_of [.p 3]) [3]))))
  (mSeq (mIf (mNot (mTest (mCall F_is_body [.p 0])))
  (mRaiseF "NoCode" "at" [(mC (.str [105, 116, 32, 101, 110, 100, 115, 32, 116, 111, 111, 32, 115, 111, 111, 110])), (mP1 lenD (.v 0))])
  mNext)
  (mRet (mMove 2))))))
def F_read_by : List D → RF := runF 4 [] m_read_by
def m__law_cell_at : Cm Out := (mSeq (mIf (mTest (mP2 ltD (.v 1) (.e (mP1 lenD (.v 0)))))
  (mRet (mIdx (.v 0) (mMove 1)))
  mNext)
  (mRet (mC (.int 0))))
def F__law_cell_at : List D → RF := runF 2 [] m__law_cell_at
def m__law_mixed : Cm Out := (mSeq (mSet 2 (mBin addD (mBin modD (mVar 0) (mC (.int 2147483629))) (mBin mulD (mBin fdivD (mVar 0) (mC (.int 2147483629))) (mC (.int 30011)))))
  (mSeq (mSet 2 (mBin modD (mBin mulD (mBin addD (mBin addD (mVar 2) (mBin mulD (mC (.int 69621)) (mVar 1))) (mC (.int 1))) (mC (.int 48271))) (mC (.int 2147483629))))
  (mSeq (mSet 2 (mBin modD (mBin mulD (mVar 2) (mBin addD (mBin addD (mBin fdivD (mVar 2) (mC (.int 907))) (mC (.int 16831))) (mVar 1))) (mC (.int 2147483587))))
  (mRet (mBin modD (mBin mulD (mVar 2) (mBin addD (mBin fdivD (mVar 2) (mC (.int 1201))) (mC (.int 30011)))) (mC (.int 2147483563)))))))
def F__law_mixed : List D → RF := runF 3 [] m__law_mixed
def m__law_source : Cm Out := (mSeq (mIf (mTest (mP2 ltD (.v 1) (.e (mP1 lenD (.v 0)))))
  (mRet (mLst [(mIdx (.v 0) (mVar 1)), (mIdx (.v 0) (mVar 1)), (mC (.int 0))]))
  mNext)
  (mSeq (mSet 2 (mCall F__law_mixed [.e (mCall F__law_cell_at [.p 0, .e (mC (.int 0))]), .e (mBin addD (mC (.int 1000)) (mVar 1))]))
  (mRet (mLst [(mVar 2), (mVar 2), (mC (.int 0))]))))
def F__law_source : List D → RF := runF 3 [] m__law_source
def m__law_next : Cm Out := (mSeq (mIf (mTest (mP2 geD (.e (mIdx (.v 0) (mC (.int 0)))) (.e (mBin powD (mC (.int 10)) (mC (.int 18))))))
  (mSeq (mSet 2 (mBin modD (mIdx (.v 0) (mC (.int 0))) (mVar 1)))
  (mSeq (mAsg (mBin fdivD (mIdx (.v 0) (mC (.int 0))) (mVar 1)) (mSetI 0 (mC (.int 0))))
  (mRet (mMove 2))))
  mNext)
  (mSeq (mAsg (mBin addD (mIdx (.v 0) (mC (.int 2))) (mC (.int 1))) (mSetI 0 (mC (.int 2))))
  (mRet (mBin modD (mCall F__law_mixed [.e (mIdx (.v 0) (mC (.int 1))), .e (mIdx (.v 0) (mC (.int 2)))]) (mMove 1)))))
def F__law_next : List D → RF := runF 3 [0] m__law_next
def m__law_row : Cm Out := (mSeq (mSet 2 (mCall F__law_next [.s 0, .e (mC (.int 5))]))
  (mSeq (mSet 3 (mLst []))
  (mSeq (mFor (mRange1 (mCall F__law_next [.s 0, .e (mIdx (.e (mLst [(mC (.int 4)), (mC (.int 12)), (mC (.int 60)), (mVar 1)])) (mCall F__law_next [.s 0, .e (mC (.int 4))]))])) (mPut 4)
  (mSeq (mSet 5 (mIdx (.e (mLst [(mBin addD (mC (.int 97)) (mCall F__law_next [.s 0, .e (mC (.int 26))])), (mC (.int 32)), (mC (.int 10)), (mBin addD (mC (.int 48)) (mBin modD (mVar 4) (mC (.int 10))))])) (mCall F__law_next [.s 0, .e (mC (.int 4))])))
  (mSeq (mSet 6 (mIdx (.e (mLst [(mC (.int 32)), (mC (.int 10)), (mC (.int 61)), (mC (.int 37)), (mC (.int 9)), (mC (.int 13)), (mC (.int 33)), (mC (.int 126)), (mC (.int 127)), (mC (.int 95)), (mC (.int 32)), (mC (.int 10))])) (mCall F__law_next [.s 0, .e (mC (.int 12))])))
  (mDrop (mApp 3 (mIdx (.e (mLst [(mCall F__law_next [.s 0, .e (mC (.int 256))]), (mVar 5), (mVar 6), (mIdx (.e (mLst [(mC (.int 65)), (mC (.int 65)), (mC (.int 65)), (mVar 6)])) (mCall F__law_next [.s 0, .e (mC (.int 4))])), (mBin addD (mC (.int 61)) (mBin modD (mVar 5) (mC (.int 2))))])) (mVar 2)))))))
  (mSeq (mIf (mAnd (mTest (mP2 gtD (.v 2) (.e (mC (.int 0))))) (mTest (mP2 eqD (.e (mCall F__law_next [.s 0, .e (mC (.int 3))])) (.e (mC (.int 0))))))
  (mSeq (mSet 7 (mLc (mRange1 (mBin addD (mC (.int 66)) (mCall F__law_next [.s 0, .e (mC (.int 12))]))) (mPut 4) mYes (mBin addD (mC (.int 97)) (mBin modD (mVar 4) (mC (.int 26)))) [4]))
  (mSeq (mSet 8 (mCall F__law_next [.s 0, .e (mBin addD (mP1 lenD (.v 3)) (mC (.int 1)))]))
  (mSet 3 (mBin addD (mBin addD (mBin addD (mSlc (.v 3) none (some (mVar 8))) (mVar 7)) (mIdx (.e (mLst [(mLst [(mC (.int 10))]), (mLst [(mC (.int 32))]), (mLst [(mC (.int 61))]), (mLst [(mC (.int 32)), (mC (.int 10))]), (mLst [(mC (.int 200))]), (mLst [])])) (mCall F__law_next [.s 0, .e (mC (.int 6))]))) (mSlc (.v 3) (some (mVar 8)) none)))))
  mNext)
  (mRet (mSlc (.e (mBin addD (mMove 3) (mBin mulD (mLst [(mC (.int 10))]) (mCall F__law_next [.s 0, .e (mC (.int 2))])))) none (some (mC (.int 200)))))))))
def F__law_row : List D → RF := runF 9 [0] m__law_row
def m__law_text : Cm Out := (mSeq (mSet 1 (mC (.str [32, 33, 34, 35, 36, 38, 39, 40, 41, 42, 43, 44, 45, 46, 47, 48, 49, 50, 51, 52, 53, 54, 55, 56, 57, 58, 59, 60, 61, 62, 63, 64, 65, 66, 67, 68, 69, 70, 71, 72, 73, 74, 75, 76, 77, 78, 79, 80, 81, 82, 83, 84, 85, 86, 87, 88, 89, 90, 91, 92, 93, 94, 95, 96, 97, 98, 99, 100, 101, 102, 103, 104, 105, 106, 107, 108, 109, 110, 111, 112, 113, 114, 115, 116, 117, 118, 119, 120, 121, 122, 123, 124, 125, 126])))
  (mSeq (mSet 2 (mC (.str [])))
  (mSeq (mFor (mItemsL (mVar 0)) (mPut 3)
  (mSeq (mIf (mOr (mNot (mTest (mChain leD leD (mC (.int 32)) (mVar 3) (mC (.int 126))))) (mTest (mP2 eqD (.v 3) (.e (mC (.int 37))))))
  (mRet (mC .non))
  mNext)
  (mSet 2 (mBin addD (mVar 2) (mIdx (.v 1) (mBin subD (mBin subD (mVar 3) (mC (.int 32))) (mP1 intBD (.e (mP2 gtD (.v 3) (.e (mC (.int 37))))))))))))
  (mRet (mMove 2)))))
def F__law_text : List D → RF := runF 4 [] m__law_text
def m__law_units : Cm Out := (mSeq (mSet 1 (mLst []))
  (mSeq (mFor (mZip (mVar 0) (mBin addD (mSlc (.v 0) (some (mC (.int 1))) none) (mLst [(mC (.int 10))]))) (mTupT [(mPut 2), (mPut 3)])
  (mSeq (mSet 4 (mCall F__law_text [.e (mLst [(mVar 2)])]))
  (mSeq (mIf (mTest (mP2 eqD (.v 2) (.e (mC (.int 10)))))
  (mSet 4 (mC .non))
  (mIf (mOr (mTest (mP2 isNon (.v 4) (.e (mC .non)))) (mOr (mTest (mP2 eqD (.v 2) (.e (mC (.int 61))))) (mAnd (mTest (mP2 eqD (.v 2) (.e (mC (.int 32))))) (mTest (mP2 eqD (.v 3) (.e (mC (.int 10))))))))
  (mSet 4 (mBin addD (mBin addD (mC (.str [61])) (mIdx (.e (mC (.str [48, 49, 50, 51, 52, 53, 54, 55, 56, 57, 65, 66, 67, 68, 69, 70]))) (mBin fdivD (mVar 2) (mC (.int 16))))) (mIdx (.e (mC (.str [48, 49, 50, 51, 52, 53, 54, 55, 56, 57, 65, 66, 67, 68, 69, 70]))) (mBin modD (mVar 2) (mC (.int 16))))))
  mNext))
  (mDrop (mApp 1 (mVar 4))))))
  (mRet (mMove 1))))
def F__law_units : List D → RF := runF 5 [] m__law_units
def m__law_marks : Cm Out := (mSeq (mSet 1 (mC (.str [])))
  (mSeq (mSet 2 (mC (.str [])))
  (mSeq (mFor (mItemsL (mCall F__law_units [.p 0])) (mPut 3)
  (mIf (mTest (mP2 isNon (.v 3) (.e (mC .non))))
  (mSeq (mSet 1 (mBin addD (mBin addD (mVar 1) (mVar 2)) (mC (.str [10]))))
  (mSet 2 (mC (.str []))))
  (mSeq (mIf (mTest (mP2 gtD (.e (mP1 lenD (.e (mBin addD (mVar 2) (mVar 3))))) (.e (mC (.int 71)))))
  (mSeq (mSet 1 (mBin addD (mBin addD (mVar 1) (mVar 2)) (mC (.str [61, 10]))))
  (mSet 2 (mC (.str []))))
  mNext)
  (mSet 2 (mBin addD (mVar 2) (mVar 3))))))
  (mRet (mBin addD (mMove 1) (mBin mulD (mBin addD (mVar 2) (mC (.str [61, 10]))) (mP1 intBD (.e (mP2 neD (.v 2) (.e (mC (.str []))))))))))))
def F__law_marks : List D → RF := runF 4 [] m__law_marks
def m__law_touched : Cm Out := (mSeq (mSet 3 (mCall F__law_next [.s 0, .e (mBin addD (mP1 lenD (.v 1)) (mC (.int 1)))]))
  (mSeq (mSet 4 (mIdx (.v 2) (mCall F__law_next [.s 0, .e (mP1 lenD (.v 2))])))
  (mSeq (mSet 5 (mLst [(mBin addD (mSlc (.v 1) none (some (mVar 3))) (mSlc (.v 1) (some (mBin addD (mVar 3) (mC (.int 1)))) none)), (mBin addD (mBin addD (mSlc (.v 1) none (some (mVar 3))) (mVar 4)) (mSlc (.v 1) (some (mVar 3)) none)), (mBin addD (mBin addD (mSlc (.v 1) none (some (mVar 3))) (mSlc (.v 1) (some (mVar 3)) (some (mBin addD (mVar 3) (mC (.int 1)))))) (mSlc (.v 1) (some (mVar 3)) none))]))
  (mSeq (mSet 6 (mP1 revSD (.e (mSlc (.v 1) (some (mVar 3)) (some (mBin addD (mVar 3) (mC (.int 2))))))))
  (mSeq (mDrop (mApp 5 (mBin addD (mBin addD (mSlc (.v 1) none (some (mVar 3))) (mVar 6)) (mSlc (.v 1) (some (mBin addD (mVar 3) (mC (.int 2)))) none))))
  (mSeq (mDrop (mApp 5 (mBin addD (mBin addD (mSlc (.v 1) none (some (mVar 3))) (mVar 4)) (mSlc (.v 1) (some (mBin addD (mVar 3) (mC (.int 1)))) none))))
  (mRet (mIdx (.e (mBin addD (mMove 5) (mLst [(mSlc (.v 1) none (some (mMove 3)))]))) (mCall F__law_next [.s 0, .e (mC (.int 6))])))))))))
def F__law_touched : List D → RF := runF 7 [0] m__law_touched
def m__law_loose : Cm Out := (mSeq (mFor (mRange1 (mCall F__law_next [.s 0, .e (mC (.int 4))])) (mPut 2)
  (mSeq (mSet 3 (mCall F__law_next [.s 0, .e (mBin addD (mP1 lenD (.v 1)) (mC (.int 1)))]))
  (mSet 1 (mBin addD (mBin addD (mSlc (.v 1) none (some (mVar 3))) (mIdx (.e (mLst [(mC (.str [32, 10])), (mC (.str [61, 10])), (mC (.str [61, 32, 10])), (mC (.str [10])), (mC (.str [61, 52, 97])), (mC (.str [61, 48, 97])), (mC (.str [61, 101, 57]))])) (mCall F__law_next [.s 0, .e (mC (.int 7))]))) (mSlc (.v 1) (some (mVar 3)) none)))))
  (mSeq (mIf (mTest (mP2 eqD (.e (mCall F__law_next [.s 0, .e (mC (.int 3))])) (.e (mC (.int 0)))))
  (mSet 1 (mReplF [10] (mVar 1) (mBin mulD (mC (.str [32])) (mBin addD (mC (.int 1)) (mCall F__law_next [.s 0, .e (mC (.int 2))]))) (mC (.str [10]))))
  mNext)
  (mRet (mIdx (.e (mLst [(mVar 1), (mP1 lowerM (.v 1))])) (mP1 intBD (.e (mP2 eqD (.e (mCall F__law_next [.s 0, .e (mC (.int 4))])) (.e (mC (.int 0))))))))))
def F__law_loose : List D → RF := runF 4 [0] m__law_loose
def m__law_numbers : Cm Out := (mSeq (mSet 1 (mC (.str [32, 33, 34, 35, 36, 38, 39, 40, 41, 42, 43, 44, 45, 46, 47, 48, 49, 50, 51, 52, 53, 54, 55, 56, 57, 58, 59, 60, 61, 62, 63, 64, 65, 66, 67, 68, 69, 70, 71, 72, 73, 74, 75, 76, 77, 78, 79, 80, 81, 82, 83, 84, 85, 86, 87, 88, 89, 90, 91, 92, 93, 94, 95, 96, 97, 98, 99, 100, 101, 102, 103, 104, 105, 106, 107, 108, 109, 110, 111, 112, 113, 114, 115, 116, 117, 118, 119, 120, 121, 122, 123, 124, 125, 126])))
  (mRet (mLc (mItemsS (mVar 0)) (mPut 2) mYes (mBin addD (mBin addD (mC (.int 32)) (mM sindexM (.v 1) (.v 2))) (mP1 intBD (.e (mP2 gtS (.v 2) (.e (mC (.str [36]))))))) [2])))
def F__law_numbers : List D → RF := runF 3 [] m__law_numbers
def m__law_line : Cm Out := (mSeq (mSet 2 (mIfE (mTest (mVar 1)) (mVar 0) (mM rstripM (.v 0) (.e (mC (.str [32]))))))
  (mSeq (mSet 3 (mLst []))
  (mSeq (mSet 4 (mC (.int 0)))
  (mSeq (mWhile (mTest (mP2 ltD (.v 4) (.e (mP1 lenD (.v 2)))))
  (mIf (mTest (mP2 neD (.e (mIdx (.v 2) (mVar 4))) (.e (mC (.str [61])))))
  (mSeq (mSet 3 (mBin addD (mVar 3) (mCall F__law_numbers [.e (mIdx (.v 2) (mVar 4))])))
  (mSet 4 (mBin addD (mVar 4) (mC (.int 1)))))
  (mIf (mTest (mP2 eqD (.e (mM stripM (.e (mSlc (.v 2) (some (mBin addD (mVar 4) (mC (.int 1)))) none)) (.e (mC (.str [32]))))) (.e (mC (.str [])))))
  (mRet (mTup [(mMove 3), (mC (.bl true))]))
  (mSeq (mSet 5 (mLc (mItemsS (mP1 lowerM (.e (mSlc (.v 2) (some (mBin addD (mVar 4) (mC (.int 1)))) (some (mBin addD (mVar 4) (mC (.int 3)))))))) (mPut 7) mYes (mM findM (.e (mC (.str [48, 49, 50, 51, 52, 53, 54, 55, 56, 57, 97, 98, 99, 100, 101, 102]))) (.v 7)) [7]))
  (mSeq (mIf (mTest (mP2 ltD (.e (mIdx (.v 5) (mC (.int 0)))) (.e (mC (.int 0)))))
  (mSeq (mSet 6 (mBin subD (mBin addD (mBin addD (mVar 4) (mC (.int 1))) (mP1 lenD (.e (mSlc (.v 2) (some (mBin addD (mVar 4) (mC (.int 1)))) none)))) (mP1 lenD (.e (mM lstripM (.e (mSlc (.v 2) (some (mBin addD (mVar 4) (mC (.int 1)))) none)) (.e (mC (.str [32]))))))))
  (mRet (mTup [(mC .non), (mMove 6)])))
  mNext)
  (mSeq (mIf (mOr (mTest (mP2 ltD (.e (mP1 lenD (.v 5))) (.e (mC (.int 2))))) (mTest (mP2 ltD (.e (mIdx (.v 5) (mC (.int 1)))) (.e (mC (.int 0))))))
  (mRet (mTup [(mC .non), (mBin addD (mMove 4) (mC (.int 2)))]))
  mNext)
  (mSeq (mDrop (mApp 3 (mBin addD (mBin mulD (mC (.int 16)) (mIdx (.v 5) (mC (.int 0)))) (mIdx (.v 5) (mC (.int 1))))))
  (mSet 4 (mBin addD (mVar 4) (mC (.int 3)))))))))))
  (mRet (mTup [(mMove 3), (mC (.bl false))]))))))
def F__law_line : List D → RF := runF 8 [] m__law_line
def m__law_due : Cm Out := (mSeq (mSet 1 (mMN splitD (.v 0) (.e (mC (.str [10])))))
  (mSeq (mSet 2 (mLst []))
  (mSeq (mSet 3 (mC (.int 0)))
  (mSeq (mFor (mEnum (mVar 1)) (mTupT [(mPut 4), (mPut 5)])
  (mSeq (mAsg (mCall F__law_line [.p 5, .e (mP2 eqD (.v 4) (.e (mBin subD (mP1 lenD (.v 1)) (mC (.int 1)))))]) (mTupT [(mPut 6), (mPut 7)]))
  (mSeq (mIf (mTest (mP2 isNon (.v 6) (.e (mC .non))))
  (mRet (mTup [(mC (.str [99, 111, 100, 101])), (mBin addD (mMove 3) (mMove 7))]))
  mNext)
  (mSeq (mSet 2 (mBin addD (mVar 2) (mVar 6)))
  (mSeq (mIf (mAnd (mNot (mTest (mVar 7))) (mTest (mP2 ltD (.v 4) (.e (mBin subD (mP1 lenD (.v 1)) (mC (.int 1)))))))
  (mDrop (mApp 2 (mC (.int 10))))
  mNext)
  (mSet 3 (mBin addD (mBin addD (mVar 3) (mP1 lenD (.v 5))) (mC (.int 1)))))))))
  (mSeq (mIf (mTest (mP2 neD (.e (mIdx (.v 1) (mUn negD (mC (.int 1))))) (.e (mC (.str [])))))
  (mRet (mTup [(mC (.str [99, 111, 100, 101])), (mP1 lenD (.v 0))]))
  mNext)
  (mRet (mTup [(mC (.str [116, 111, 108, 100])), (mMove 2)])))))))
def F__law_due : List D → RF := runF 8 [] m__law_due
def m__law_said : Cm Out := (mTryF exm_ 2 "NoCode"
  (mRet (mTup [(mC (.str [116, 111, 108, 100])), (mCall F_read_by [.e (mMove 0), .e (mMove 1)])]))
  (fun x1 => (mRet (mTup [(mC (.str [99, 111, 100, 101])), (mIdx (.e (mLst [(mXf x1 "at"), (mUn negD (mC (.int 1)))])) (mP1 intBD (.e (mOrV (mIsX exm_ x1 "NoOctets") (mUn notD (mIsV allX x1))))))]))))
def F__law_said : List D → RF := runF 3 [] m__law_said
def m_law : Cm Out := (mSeq (mSet 1 (mC (.str [61, 10, 32, 65, 48, 102, 70, 103, 71, 57, 95, 97, 61, 126, 32, 10, 45])))
  (mSeq (mFor (mRange1 (mBin maxD (mC (.int 1)) (mBin minD (mC (.int 5)) (mP1 lenD (.v 0))))) (mPut 2)
  (mSeq (mSet 3 (mCall F__law_source [.p 0, .p 2]))
  (mSeq (mSet 4 (mCall F__law_loose [.s 3, .e (mCall F__law_marks [.e (mSlc (.e (mCall F__law_row [.s 3, .e (mC (.int 60))])) none (some (mC (.int 60))))])]))
  (mSeq (mIf (mTest (mP2 (inD true) (.e (mSlc (.v 4) (some (mUn negD (mC (.int 1)))) none)) (.e (mLst [(mC (.str [])), (mC (.str [10]))]))))
  (mSet 4 (mBin addD (mVar 4) (mC (.str [10]))))
  mNext)
  (mFor (mRange1 (mC (.int 5))) (mPut 5)
  (mSeq (mSet 6 (mCall F__law_due [.p 4]))
  (mSeq (mSet 7 (mCall F__law_said [.p 4, .e (mC (.str [109, 97, 114, 107, 115]))]))
  (mSeq (mIf (mOr (mTest (mP2 neD (.v 7) (.v 6))) (mTest (mP2 neD (.e (mCall F__law_said [.p 4, .e (mC (.str [109, 97, 114, 107, 115]))])) (.v 6))))
  (mRet (mC (.bl false)))
  mNext)
  (mSeq (mIf (mAnd (mTest (mP2 eqD (.e (mIdx (.v 7) (mC (.int 0)))) (.e (mC (.str [116, 111, 108, 100]))))) (mNot (mTest (mP1 (isTy .list) (.e (mIdx (.v 7) (mC (.int 1))))))))
  (mRet (mC (.bl false)))
  mNext)
  (mSet 4 (mCall F__law_touched [.s 3, .p 4, .p 1])))))))))))
  (mRet (mC (.bl true)))))
def F_law : List D → RF := runF 8 [] m_law
end K43


namespace K43
open PySem PySem.Spec PyProof.Rows L2 VS
def topS (i : Nat) : Stmt := PySem.Challenge.pw_foldletter_k43_texts_by_marks_read.main.body.getD i (.Pass ⟨0, 0, 0, 0⟩)
theorem l_CODES : (k_CODES).length ≤ 16777216 ∧ ∀ s ∈ k_CODES, s.good := ⟨by decide +kernel, goodB_ok _ (by decide +kernel)⟩
theorem g_SIGNS : (Sc.str k_SIGNS).good := ⟨by decide +kernel, by decide +kernel⟩
theorem g_SIXTEEN : (Sc.str k_SIXTEEN).good := ⟨by decide +kernel, by decide +kernel⟩
theorem g_SMALL_SIXTEEN : (Sc.str k_SMALL_SIXTEEN).good := ⟨by decide +kernel, by decide +kernel⟩
structure Tx (K : PySem.W.Frag) (mg : Str → Option Value) (c : Cfg) : Prop where
  hK : c.K = K
  f_ValueError : mg "ValueError" = none
  f_enumerate : mg "enumerate" = none
  f_int : mg "int" = none
  f_isinstance : mg "isinstance" = none
  f_len : mg "len" = none
  f_list : mg "list" = none
  f_max : mg "max" = none
  f_min : mg "min" = none
  f_range : mg "range" = none
  f_str : mg "str" = none
  f_zip : mg "zip" = none
  c_CODES : ∃ a, mg "CODES" = some (.ref a) ∧ StcT K a (k_CODES.map Sc.v)
  c_SIGNS : ∃ t, mg "SIGNS" = some (.str ⟨k_SIGNS.toArray⟩ t)
  c_SIXTEEN : ∃ t, mg "SIXTEEN" = some (.str ⟨k_SIXTEEN.toArray⟩ t)
  c_SMALL_SIXTEEN : ∃ t, mg "SMALL_SIXTEEN" = some (.str ⟨k_SMALL_SIXTEEN.toArray⟩ t)
  xt : XT K c.cls allX dsX
  g_LetterError : mg "LetterError" = some (.ref (c.cls "LetterError"))
  g_NoCode : mg "NoCode" = some (.ref (c.cls "NoCode"))
  g_NoOctets : mg "NoOctets" = some (.ref (c.cls "NoOctets"))
section
variable {P : Program} {w : World} {K : PySem.W.Frag} {mg : Str → Option Value} {base : Heap} {c : Cfg}
def N_is_word : List Str := ["thing", "words"]
abbrev s_is_word : Stmt := topS 1
theorem sc_is_word : FnScope N_is_word ["thing", "words"] (defScope s_is_word) := ⟨rfl, rfl, rfl, by decide +kernel, rfl, by decide +kernel, by decide +kernel⟩
def N_is_body : List Str := ["thing"]
abbrev s_is_body : Stmt := topS 2
theorem sc_is_body : FnScope N_is_body ["thing"] (defScope s_is_body) := ⟨rfl, rfl, rfl, by decide +kernel, rfl, by decide +kernel, by decide +kernel⟩
def N_number_of : List Str := ["sign", "at"]
abbrev s_number_of : Stmt := topS 13
theorem sc_number_of : FnScope N_number_of ["sign"] (defScope s_number_of) := ⟨rfl, rfl, rfl, by decide +kernel, rfl, by decide +kernel, by decide +kernel⟩
def N_needed_code : List Str := ["thing"]
abbrev s_needed_code : Stmt := topS 14
theorem sc_needed_code : FnScope N_needed_code ["thing"] (defScope s_needed_code) := ⟨rfl, rfl, rfl, by decide +kernel, rfl, by decide +kernel, by decide +kernel⟩
def N_read_sixes : List Str := ["text", "reading", "at", "sign"]
abbrev s_read_sixes : Stmt := topS 16
theorem sc_read_sixes : FnScope N_read_sixes ["text"] (defScope s_read_sixes) := ⟨rfl, rfl, rfl, by decide +kernel, rfl, by decide +kernel, by decide +kernel⟩
def N_behind_blanks : List Str := ["text", "at"]
abbrev s_behind_blanks : Stmt := topS 17
theorem sc_behind_blanks : FnScope N_behind_blanks ["text", "at"] (defScope s_behind_blanks) := ⟨rfl, rfl, rfl, by decide +kernel, rfl, by decide +kernel, by decide +kernel⟩
def N_figure_at : List Str := ["text", "at", "signs"]
abbrev s_figure_at : Stmt := topS 18
theorem sc_figure_at : FnScope N_figure_at ["text", "at"] (defScope s_figure_at) := ⟨rfl, rfl, rfl, by decide +kernel, rfl, by decide +kernel, by decide +kernel⟩
def N_read_equals : List Str := ["text", "at", "behind"]
abbrev s_read_equals : Stmt := topS 19
theorem sc_read_equals : FnScope N_read_equals ["text", "at"] (defScope s_read_equals) := ⟨rfl, rfl, rfl, by decide +kernel, rfl, by decide +kernel, by decide +kernel⟩
def N_read_marks : List Str := ["text", "found", "at", "some", "behind"]
abbrev s_read_marks : Stmt := topS 20
theorem sc_read_marks : FnScope N_read_marks ["text"] (defScope s_read_marks) := ⟨rfl, rfl, rfl, by decide +kernel, rfl, by decide +kernel, by decide +kernel⟩
def N_read_by : List Str := ["text", "code", "found", "sign"]
abbrev s_read_by : Stmt := topS 21
theorem sc_read_by : FnScope N_read_by ["text", "code"] (defScope s_read_by) := ⟨rfl, rfl, rfl, by decide +kernel, rfl, by decide +kernel, by decide +kernel⟩
def N__law_cell_at : List Str := ["_law_script", "_law_k"]
abbrev s__law_cell_at : Stmt := topS 23
theorem sc__law_cell_at : FnScope N__law_cell_at ["_law_script", "_law_k"] (defScope s__law_cell_at) := ⟨rfl, rfl, rfl, by decide +kernel, rfl, by decide +kernel, by decide +kernel⟩
def N__law_mixed : List Str := ["_law_cell", "_law_k", "_law_low"]
abbrev s__law_mixed : Stmt := topS 24
theorem sc__law_mixed : FnScope N__law_mixed ["_law_cell", "_law_k"] (defScope s__law_mixed) := ⟨rfl, rfl, rfl, by decide +kernel, rfl, by decide +kernel, by decide +kernel⟩
def N__law_source : List Str := ["_law_script", "_law_k", "_law_cell"]
abbrev s__law_source : Stmt := topS 25
theorem sc__law_source : FnScope N__law_source ["_law_script", "_law_k"] (defScope s__law_source) := ⟨rfl, rfl, rfl, by decide +kernel, rfl, by decide +kernel, by decide +kernel⟩
def N__law_next : List Str := ["_law_source_here", "_law_many", "_law_found"]
abbrev s__law_next : Stmt := topS 26
theorem sc__law_next : FnScope N__law_next ["_law_source_here", "_law_many"] (defScope s__law_next) := ⟨rfl, rfl, rfl, by decide +kernel, rfl, by decide +kernel, by decide +kernel⟩
def N__law_row : List Str := ["_law_source_here", "_law_most", "_law_way", "_law_found", "_law_k", "_law_some", "_law_near", "_law_long", "_law_at"]
abbrev s__law_row : Stmt := topS 27
theorem sc__law_row : FnScope N__law_row ["_law_source_here", "_law_most"] (defScope s__law_row) := ⟨rfl, rfl, rfl, by decide +kernel, rfl, by decide +kernel, by decide +kernel⟩
def N__law_text : List Str := ["_law_numbers_here", "_law_signs", "_law_found", "_law_number"]
abbrev s__law_text : Stmt := topS 28
theorem sc__law_text : FnScope N__law_text ["_law_numbers_here"] (defScope s__law_text) := ⟨rfl, rfl, rfl, by decide +kernel, rfl, by decide +kernel, by decide +kernel⟩
def N__law_units : List Str := ["_law_eights", "_law_found", "_law_octet", "_law_later", "_law_line_here"]
abbrev s__law_units : Stmt := topS 29
theorem sc__law_units : FnScope N__law_units ["_law_eights"] (defScope s__law_units) := ⟨rfl, rfl, rfl, by decide +kernel, rfl, by decide +kernel, by decide +kernel⟩
def N__law_marks : List Str := ["_law_eights", "_law_found", "_law_line_here", "_law_unit"]
abbrev s__law_marks : Stmt := topS 30
theorem sc__law_marks : FnScope N__law_marks ["_law_eights"] (defScope s__law_marks) := ⟨rfl, rfl, rfl, by decide +kernel, rfl, by decide +kernel, by decide +kernel⟩
def N__law_touched : List Str := ["_law_source_here", "_law_line_here", "_law_signs", "_law_at", "_law_one", "_law_some", "_law_pair"]
abbrev s__law_touched : Stmt := topS 31
theorem sc__law_touched : FnScope N__law_touched ["_law_source_here", "_law_line_here", "_law_signs"] (defScope s__law_touched) := ⟨rfl, rfl, rfl, by decide +kernel, rfl, by decide +kernel, by decide +kernel⟩
def N__law_loose : List Str := ["_law_source_here", "_law_line_here", "_law_k", "_law_at"]
abbrev s__law_loose : Stmt := topS 32
theorem sc__law_loose : FnScope N__law_loose ["_law_source_here", "_law_line_here"] (defScope s__law_loose) := ⟨rfl, rfl, rfl, by decide +kernel, rfl, by decide +kernel, by decide +kernel⟩
def N__law_numbers : List Str := ["_law_line_here", "_law_signs", "_law_one"]
abbrev s__law_numbers : Stmt := topS 33
theorem sc__law_numbers : FnScope N__law_numbers ["_law_line_here"] (defScope s__law_numbers) := ⟨rfl, rfl, rfl, by decide +kernel, rfl, by decide +kernel, by decide +kernel⟩
def N__law_line : List Str := ["_law_line_here", "_law_is_last", "_law_bare", "_law_found", "_law_at", "_law_figures", "_law_spot", "_law_one"]
abbrev s__law_line : Stmt := topS 34
theorem sc__law_line : FnScope N__law_line ["_law_line_here", "_law_is_last"] (defScope s__law_line) := ⟨rfl, rfl, rfl, by decide +kernel, rfl, by decide +kernel, by decide +kernel⟩
def N__law_due : List Str := ["_law_line_here", "_law_lines", "_law_found", "_law_start", "_law_k", "_law_one", "_law_some", "_law_more"]
abbrev s__law_due : Stmt := topS 35
theorem sc__law_due : FnScope N__law_due ["_law_line_here"] (defScope s__law_due) := ⟨rfl, rfl, rfl, by decide +kernel, rfl, by decide +kernel, by decide +kernel⟩
def N__law_said : List Str := ["_law_line_here", "_law_word", "e"]
abbrev s__law_said : Stmt := topS 36
theorem sc__law_said : FnScope N__law_said ["_law_line_here", "_law_word"] (defScope s__law_said) := ⟨rfl, rfl, rfl, by decide +kernel, rfl, by decide +kernel, by decide +kernel⟩
def N_law : List Str := ["_law_script", "_law_signs", "_law_k", "_law_source_here", "_law_line_here", "_law_turn", "_law_due_here", "_law_found"]
abbrev s_law : Stmt := topS 37
theorem sc_law : FnScope N_law ["_law_script"] (defScope s_law) := ⟨rfl, rfl, rfl, by decide +kernel, rfl, by decide +kernel, by decide +kernel⟩
theorem ok_is_word (T : Tx K mg c) {fa : Addr} {fd : FuncData} (A : At K mg "is_word" s_is_word ["thing", "words"] fa fd) :
    FnOk P w K mg base (L2.CX P w) 1 fa fd ["thing", "words"] (spM c 2 [] F_is_word) := by
  refine fn_okD (N := N_is_word) (m := m_is_word) A.F sc_is_word rfl (by decide) (by decide) (by decide) fun g cdv Ar outer s H E hr hc0 hN hio => ?_
  have hc : g.c = c := hc0
  subst hc0
  have hK : K = g.c.K := T.hK.symm
  exact (ss_one (s_ret (e_and (e_isi (y := .str) (by decide +kernel) hK (by rfl) T.f_isinstance (by rfl) T.f_str (o_var (pv 0)) (by decide) (by decide)) (pe_one (e_cmp (OpR.or op_in_str op_in_seq) (hq_in hK) (o_var (pv 0)) (o_var (pv 1)) (by rfl))))))
theorem ok_is_body (T : Tx K mg c) {fa : Addr} {fd : FuncData} (A : At K mg "is_body" s_is_body ["thing"] fa fd) :
    FnOk P w K mg base (L2.CX P w) 1 fa fd ["thing"] (spM c 1 [] F_is_body) := by
  refine fn_okD (N := N_is_body) (m := m_is_body) A.F sc_is_body rfl (by decide) (by decide) (by decide) fun g cdv Ar outer s H E hr hc0 hN hio => ?_
  have hc : g.c = c := hc0
  subst hc0
  have hK : K = g.c.K := T.hK.symm
  exact (ss_one (s_ret (e_and (e_isi (y := .str) (by decide +kernel) hK (by rfl) T.f_isinstance (by rfl) T.f_str (o_var (pv 0)) (by decide) (by decide)) (pe_one (e_or (e_cmp (op_eqD hr.units) (hq_eq hK) (o_var (pv 0)) (o_e (e_str (by decide +kernel) ⟨by decide, by decide⟩)) (nomark _)) (pe_one (e_m PySem.F.slot_str_endswith PySem.F.type_str_endswith mt_endswith hs_endswith (o_var (pv 0)) (o_e (e_str (by decide +kernel) ⟨by decide, by decide⟩)))))))))
theorem ok_number_of (T : Tx K mg c) {fa : Addr} {fd : FuncData} (A : At K mg "number_of" s_number_of ["sign"] fa fd) :
    FnOk P w K mg base (L2.CX P w) 1 fa fd ["sign"] (spM c 1 [] F_number_of) := by
  refine fn_okD (N := N_number_of) (m := m_number_of) A.F sc_number_of rfl (by decide) (by decide) (by decide) fun g cdv Ar outer s H E hr hc0 hN hio => ?_
  have hc : g.c = c := hc0
  subst hc0
  have hK : K = g.c.K := T.hK.symm
  exact (ss_cons (s_if (t_cmp (op_eqD hr.units) (hq_eq hK) (o_var (pv 0)) (o_e (e_str (by decide +kernel) ⟨by decide, by decide⟩)) (nomark _))
  (ss_one (s_ret e_int))
  ss_nil)
  (ss_cons (s_set (ps_set (i := 1) sc_number_of.nd rfl (by first | exact .inl rfl | exact .inr rfl) (e_m PySem.F.slot_str_index PySem.F.type_str_index mt_sindex hs_sindex (o_e (e_gS2 rfl g_SIGNS T.c_SIGNS)) (o_var (pv 0)))) (by rw [hN]; decide) (not_io hio (by decide)))
  (ss_one (s_ret (e_add (e_add e_int (e_var (pv 1))) (e_t1 call_intC hr_intC (by rfl) T.f_int (by decide +kernel) (o_e (e_cmp op_gt hr_int (o_var (pv 1)) (o_e e_int) (nomark _)))))))))
theorem ok_needed_code (T : Tx K mg c) {fa : Addr} {fd : FuncData} (A : At K mg "needed_code" s_needed_code ["thing"] fa fd)
    {fI_NoCode : Addr} {fdI_NoCode : FuncData} (I_NoCode : XIni P w K mg base c "NoCode" "at" fI_NoCode fdI_NoCode)
    {a_is_word : Addr} {fd_is_word : FuncData} (A_is_word : At K mg "is_word" s_is_word ["thing", "words"] a_is_word fd_is_word) (G_is_word : FnOk P w K mg base (L2.CX P w) 1 a_is_word fd_is_word ["thing", "words"] (spM c 2 [] F_is_word)) :
    FnOk P w K mg base (L2.CX P w) 3 fa fd ["thing"] (spM c 1 [] F_needed_code) := by
  refine fn_okD (N := N_needed_code) (m := m_needed_code) A.F sc_needed_code rfl (by decide) (by decide) (by decide) fun g cdv Ar outer s H E hr hc0 hN hio => ?_
  have hc : g.c = c := hc0
  subst hc0
  have hK : K = g.c.K := T.hK.symm
  exact (ss_one (s_if (t_not (t_val (e_call G_is_word (hr.mono (by decide)) (by rfl) A_is_word.g A_is_word.F.kp A_is_word.b (takes_of rfl rfl rfl rfl) (as_p (pv 0) (as_e (e_gT hK l_CODES rfl T.c_CODES) as_nil)) hc rfl rfl (by decide))))
  (ss_one (s_raise1 rfl (takes_of rfl rfl rfl rfl) I_NoCode hr (by decide) (by rfl) (by rfl) (a_cons (e_str (by decide +kernel) ⟨by decide, by decide⟩) a_nil)))
  ss_nil))
theorem ok_read_sixes (T : Tx K mg c) {fa : Addr} {fd : FuncData} (A : At K mg "read_sixes" s_read_sixes ["text"] fa fd)
    {fI_NoCode : Addr} {fdI_NoCode : FuncData} (I_NoCode : XIni P w K mg base c "NoCode" "at" fI_NoCode fdI_NoCode) :
    FnOk P w K mg base (L2.CX P w) 3 fa fd ["text"] (spM c 1 [] F_read_sixes) := by
  refine fn_okD (N := N_read_sixes) (m := m_read_sixes) A.F sc_read_sixes rfl (by decide) (by decide) (by decide) fun g cdv Ar outer s H E hr hc0 hN hio => ?_
  have hc : g.c = c := hc0
  subst hc0
  have hK : K = g.c.K := T.hK.symm
  exact (ss_cons s_never (ss_cons s_never (ss_cons s_never (ss_one s_never))))
theorem ok_behind_blanks (T : Tx K mg c) {fa : Addr} {fd : FuncData} (A : At K mg "behind_blanks" s_behind_blanks ["text", "at"] fa fd) :
    FnOk P w K mg base (L2.CX P w) 1 fa fd ["text", "at"] (spM c 2 [] F_behind_blanks) := by
  refine fn_okD (N := N_behind_blanks) (m := m_behind_blanks) A.F sc_behind_blanks rfl (by decide) (by decide) (by decide) fun g cdv Ar outer s H E hr hc0 hN hio => ?_
  have hc : g.c = c := hc0
  subst hc0
  have hK : K = g.c.K := T.hK.symm
  exact (ss_cons (s_while (passes_of rfl) (PW.pt (w_and (t_cmp op_lt hr_int (o_var (pv 1)) (o_e (e_b1 call_len (hr_len hK) (by rfl) T.f_len (by decide +kernel) (o_var (pv 0)))) (nomark _)) (pw_and1 (t_cmp (op_eqD hr.units) (hq_eq hK) (o_e (e_idx (o_var (pv 0)) (e_var (pv 1)) hK)) (o_e (e_str (by decide +kernel) ⟨by decide, by decide⟩)) (nomark _)))))
  (ss_one (s_augA (ps_aug (i := 1) sc_behind_blanks.nd rfl (by first | exact .inl rfl | exact .inr rfl) e_int ip_addA) (by rw [hN]; decide) (not_io hio (by decide)))))
  (ss_one (s_ret (e_move (pv 1)))))
theorem ok_figure_at (T : Tx K mg c) {fa : Addr} {fd : FuncData} (A : At K mg "figure_at" s_figure_at ["text", "at"] fa fd)
    {fI_NoCode : Addr} {fdI_NoCode : FuncData} (I_NoCode : XIni P w K mg base c "NoCode" "at" fI_NoCode fdI_NoCode) :
    FnOk P w K mg base (L2.CX P w) 3 fa fd ["text", "at"] (spM c 2 [] F_figure_at) := by
  refine fn_okD (N := N_figure_at) (m := m_figure_at) A.F sc_figure_at rfl (by decide) (by decide) (by decide) fun g cdv Ar outer s H E hr hc0 hN hio => ?_
  have hc : g.c = c := hc0
  subst hc0
  have hK : K = g.c.K := T.hK.symm
  exact (ss_cons (s_if (t_cmp (op_eqD hr.units) (hq_eq hK) (o_var (pv 1)) (o_e (e_b1 call_len (hr_len hK) (by rfl) T.f_len (by decide +kernel) (o_var (pv 0)))) (nomark _))
  (ss_one (s_raise2 rfl (takes_of rfl rfl rfl rfl) I_NoCode hr (by decide) (by rfl) (by rfl) (a_cons (e_str (by decide +kernel) ⟨by decide, by decide⟩) (a_cons (e_var (pv 1)) a_nil))))
  ss_nil)
  (ss_cons (s_for (passes_of rfl) rfl (i_tup hK (e_tup (a_cons (e_gS2 rfl g_SIXTEEN T.c_SIXTEEN) (a_cons (e_gS2 rfl g_SMALL_SIXTEEN T.c_SMALL_SIXTEEN) a_nil)))) (g_name (pg_name (i := 2) sc_figure_at.nd rfl (by first | exact .inl rfl | exact .inr rfl)) (by rw [hN]; decide) (not_io hio (by decide)))
  (ss_one (s_if (t_cmp (OpR.or op_in_str op_in_seq) (hq_in hK) (o_e (e_idx (o_var (pv 0)) (e_var (pv 1)) hK)) (o_var (pv 2)) (by rfl))
  (ss_one (s_ret (e_m PySem.F.slot_str_index PySem.F.type_str_index mt_sindex hs_sindex (o_var (pv 2)) (o_e (e_idx (o_var (pv 0)) (e_move (pv 1)) hK)))))
  ss_nil)))
  (ss_one (s_raise2 rfl (takes_of rfl rfl rfl rfl) I_NoCode hr (by decide) (by rfl) (by rfl) (a_cons (e_str (by decide +kernel) ⟨by decide, by decide⟩) (a_cons (e_var (pv 1)) a_nil))))))
theorem ok_read_equals (T : Tx K mg c) {fa : Addr} {fd : FuncData} (A : At K mg "read_equals" s_read_equals ["text", "at"] fa fd)
    {fI_NoCode : Addr} {fdI_NoCode : FuncData} (I_NoCode : XIni P w K mg base c "NoCode" "at" fI_NoCode fdI_NoCode)
    {a_behind_blanks : Addr} {fd_behind_blanks : FuncData} (A_behind_blanks : At K mg "behind_blanks" s_behind_blanks ["text", "at"] a_behind_blanks fd_behind_blanks) (G_behind_blanks : FnOk P w K mg base (L2.CX P w) 1 a_behind_blanks fd_behind_blanks ["text", "at"] (spM c 2 [] F_behind_blanks))
    {a_figure_at : Addr} {fd_figure_at : FuncData} (A_figure_at : At K mg "figure_at" s_figure_at ["text", "at"] a_figure_at fd_figure_at) (G_figure_at : FnOk P w K mg base (L2.CX P w) 3 a_figure_at fd_figure_at ["text", "at"] (spM c 2 [] F_figure_at)) :
    FnOk P w K mg base (L2.CX P w) 4 fa fd ["text", "at"] (spM c 2 [] F_read_equals) := by
  refine fn_okD (N := N_read_equals) (m := m_read_equals) A.F sc_read_equals rfl (by decide) (by decide) (by decide) fun g cdv Ar outer s H E hr hc0 hN hio => ?_
  have hc : g.c = c := hc0
  subst hc0
  have hK : K = g.c.K := T.hK.symm
  exact (ss_cons (s_if (PW.pt (w_and (t_cmp op_lt hr_int (o_e (e_add (e_var (pv 1)) e_int)) (o_e (e_b1 call_len (hr_len hK) (by rfl) T.f_len (by decide +kernel) (o_var (pv 0)))) (nomark _)) (pw_and1 (t_cmp (OpR.or op_in_str op_in_seq) (hq_in hK) (o_e (e_idx (o_var (pv 0)) (e_add (e_var (pv 1)) e_int) hK)) (o_e (e_add (e_gS2 rfl g_SIXTEEN T.c_SIXTEEN) (e_gS2 rfl g_SMALL_SIXTEEN T.c_SMALL_SIXTEEN))) (by rfl)))))
  (ss_one (s_ret (e_tup (a_cons (e_lst (a_cons (e_add (e_mul e_int (e_call G_figure_at (hr.mono (by decide)) (by rfl) A_figure_at.g A_figure_at.F.kp A_figure_at.b (takes_of rfl rfl rfl rfl) (as_p (pv 0) (as_e (e_add (e_var (pv 1)) e_int) as_nil)) hc rfl rfl (by decide))) (e_call G_figure_at (hr.mono (by decide)) (by rfl) A_figure_at.g A_figure_at.F.kp A_figure_at.b (takes_of rfl rfl rfl rfl) (as_p (pv 0) (as_e (e_add (e_var (pv 1)) e_int) as_nil)) hc rfl rfl (by decide))) a_nil)) (a_cons (e_add (e_var (pv 1)) e_int) a_nil)))))
  ss_nil)
  (ss_cons (s_set (ps_set (i := 2) sc_read_equals.nd rfl (by first | exact .inl rfl | exact .inr rfl) (e_call G_behind_blanks (hr.mono (by decide)) (by rfl) A_behind_blanks.g A_behind_blanks.F.kp A_behind_blanks.b (takes_of rfl rfl rfl rfl) (as_p (pv 0) (as_e (e_add (e_var (pv 1)) e_int) as_nil)) hc rfl rfl (by decide))) (by rw [hN]; decide) (not_io hio (by decide)))
  (ss_cons (s_if (t_cmp (op_eqD hr.units) (hq_eq hK) (o_var (pv 2)) (o_e (e_b1 call_len (hr_len hK) (by rfl) T.f_len (by decide +kernel) (o_var (pv 0)))) (nomark _))
  (ss_one (s_raise2 rfl (takes_of rfl rfl rfl rfl) I_NoCode hr (by decide) (by rfl) (by rfl) (a_cons (e_str (by decide +kernel) ⟨by decide, by decide⟩) (a_cons (e_var (pv 2)) a_nil))))
  ss_nil)
  (ss_cons (s_if (t_cmp (op_neD hr.units) (hq_ne hK) (o_e (e_idx (o_var (pv 0)) (e_var (pv 2)) hK)) (o_e (e_str (by decide +kernel) ⟨by decide, by decide⟩)) (nomark _))
  (ss_one (s_raise2 rfl (takes_of rfl rfl rfl rfl) I_NoCode hr (by decide) (by rfl) (by rfl) (a_cons (e_str (by decide +kernel) ⟨by decide, by decide⟩) (a_cons (e_var (pv 2)) a_nil))))
  ss_nil)
  (ss_one (s_ret (e_tup (a_cons (e_lst a_nil) (a_cons (e_add (e_move (pv 2)) e_int) a_nil)))))))))
theorem ok_read_marks (T : Tx K mg c) {fa : Addr} {fd : FuncData} (A : At K mg "read_marks" s_read_marks ["text"] fa fd)
    {a_read_equals : Addr} {fd_read_equals : FuncData} (A_read_equals : At K mg "read_equals" s_read_equals ["text", "at"] a_read_equals fd_read_equals) (G_read_equals : FnOk P w K mg base (L2.CX P w) 4 a_read_equals fd_read_equals ["text", "at"] (spM c 2 [] F_read_equals))
    {a_behind_blanks : Addr} {fd_behind_blanks : FuncData} (A_behind_blanks : At K mg "behind_blanks" s_behind_blanks ["text", "at"] a_behind_blanks fd_behind_blanks) (G_behind_blanks : FnOk P w K mg base (L2.CX P w) 1 a_behind_blanks fd_behind_blanks ["text", "at"] (spM c 2 [] F_behind_blanks))
    {a_number_of : Addr} {fd_number_of : FuncData} (A_number_of : At K mg "number_of" s_number_of ["sign"] a_number_of fd_number_of) (G_number_of : FnOk P w K mg base (L2.CX P w) 1 a_number_of fd_number_of ["sign"] (spM c 1 [] F_number_of)) :
    FnOk P w K mg base (L2.CX P w) 5 fa fd ["text"] (spM c 1 [] F_read_marks) := by
  refine fn_okD (N := N_read_marks) (m := m_read_marks) A.F sc_read_marks rfl (by decide) (by decide) (by decide) fun g cdv Ar outer s H E hr hc0 hN hio => ?_
  have hc : g.c = c := hc0
  subst hc0
  have hK : K = g.c.K := T.hK.symm
  exact (ss_cons (s_set (ps_set (i := 1) sc_read_marks.nd rfl (by first | exact .inl rfl | exact .inr rfl) (e_lst a_nil)) (by rw [hN]; decide) (not_io hio (by decide)))
  (ss_cons (s_set (ps_set (i := 2) sc_read_marks.nd rfl (by first | exact .inl rfl | exact .inr rfl) e_int) (by rw [hN]; decide) (not_io hio (by decide)))
  (ss_cons (s_while (passes_of rfl) (t_cmp op_lt hr_int (o_var (pv 2)) (o_e (e_b1 call_len (hr_len hK) (by rfl) T.f_len (by decide +kernel) (o_var (pv 0)))) (nomark _))
  (ss_one (s_if (t_cmp (op_eqD hr.units) (hq_eq hK) (o_e (e_idx (o_var (pv 0)) (e_var (pv 2)) hK)) (o_e (e_str (by decide +kernel) ⟨by decide, by decide⟩)) (nomark _))
  (ss_cons (s_asg (e_call G_read_equals (hr.mono (by decide)) (by rfl) A_read_equals.g A_read_equals.F.kp A_read_equals.b (takes_of rfl rfl rfl rfl) (as_p (pv 0) (as_p (pv 2) as_nil)) hc rfl rfl (by decide)) (g_tupT rfl (gs_cons (g_name (pg_name (i := 3) sc_read_marks.nd rfl (by first | exact .inl rfl | exact .inr rfl)) (by rw [hN]; decide) (not_io hio (by decide))) (gs_cons (g_name (pg_name (i := 2) sc_read_marks.nd rfl (by first | exact .inl rfl | exact .inr rfl)) (by rw [hN]; decide) (not_io hio (by decide))) gs_nil)) hK))
  (ss_one (s_expr (e_ext hK (pe_bm PySem.F.plainAttrs_list PySem.F.slot_list_extend PySem.F.type_list_extend mt_extend (pv 1) (a_cons (e_var (pv 3)) a_nil))))))
  (ss_one (s_if (t_cmp (op_eqD hr.units) (hq_eq hK) (o_e (e_idx (o_var (pv 0)) (e_var (pv 2)) hK)) (o_e (e_str (by decide +kernel) ⟨by decide, by decide⟩)) (nomark _))
  (ss_cons (s_set (ps_set (i := 4) sc_read_marks.nd rfl (by first | exact .inl rfl | exact .inr rfl) (e_call G_behind_blanks (hr.mono (by decide)) (by rfl) A_behind_blanks.g A_behind_blanks.F.kp A_behind_blanks.b (takes_of rfl rfl rfl rfl) (as_p (pv 0) (as_p (pv 2) as_nil)) hc rfl rfl (by decide))) (by rw [hN]; decide) (not_io hio (by decide)))
  (ss_cons (s_if (t_cmp (op_neD hr.units) (hq_ne hK) (o_e (e_slc (o_var (pv 0)) (p_some (e_var (pv 4))) (p_some (e_add (e_var (pv 4)) e_int)) hK.symm.symm)) (o_e (e_str (by decide +kernel) ⟨by decide, by decide⟩)) (nomark _))
  (ss_one (s_expr (e_ext hK (pe_bm PySem.F.plainAttrs_list PySem.F.slot_list_extend PySem.F.type_list_extend mt_extend (pv 1) (a_cons (e_mul (e_lst (a_cons e_int a_nil)) (e_sub (e_var (pv 4)) (e_var (pv 2)))) a_nil)))))
  ss_nil)
  (ss_one (s_set (ps_set (i := 2) sc_read_marks.nd rfl (by first | exact .inl rfl | exact .inr rfl) (e_var (pv 4))) (by rw [hN]; decide) (not_io hio (by decide))))))
  (ss_cons (s_expr (e_app hK (pe_bm PySem.F.plainAttrs_list PySem.F.slot_list_append PySem.F.type_list_append mt_append (pv 1) (a_cons (e_call G_number_of (hr.mono (by decide)) (by rfl) A_number_of.g A_number_of.F.kp A_number_of.b (takes_of rfl rfl rfl rfl) (as_e (e_idx (o_var (pv 0)) (e_var (pv 2)) hK) as_nil) hc rfl rfl (by decide)) a_nil))))
  (ss_one (s_augA (ps_aug (i := 2) sc_read_marks.nd rfl (by first | exact .inl rfl | exact .inr rfl) e_int ip_addA) (by rw [hN]; decide) (not_io hio (by decide))))))))))
  (ss_one (s_ret (e_move (pv 1)))))))
theorem ok_read_by (T : Tx K mg c) {fa : Addr} {fd : FuncData} (A : At K mg "read_by" s_read_by ["text", "code"] fa fd)
    {fI_NoCode : Addr} {fdI_NoCode : FuncData} (I_NoCode : XIni P w K mg base c "NoCode" "at" fI_NoCode fdI_NoCode)
    {a_needed_code : Addr} {fd_needed_code : FuncData} (A_needed_code : At K mg "needed_code" s_needed_code ["thing"] a_needed_code fd_needed_code) (G_needed_code : FnOk P w K mg base (L2.CX P w) 3 a_needed_code fd_needed_code ["thing"] (spM c 1 [] F_needed_code))
    {a_read_sixes : Addr} {fd_read_sixes : FuncData} (A_read_sixes : At K mg "read_sixes" s_read_sixes ["text"] a_read_sixes fd_read_sixes) (G_read_sixes : FnOk P w K mg base (L2.CX P w) 3 a_read_sixes fd_read_sixes ["text"] (spM c 1 [] F_read_sixes))
    {a_is_body : Addr} {fd_is_body : FuncData} (A_is_body : At K mg "is_body" s_is_body ["thing"] a_is_body fd_is_body) (G_is_body : FnOk P w K mg base (L2.CX P w) 1 a_is_body fd_is_body ["thing"] (spM c 1 [] F_is_body))
    {a_read_marks : Addr} {fd_read_marks : FuncData} (A_read_marks : At K mg "read_marks" s_read_marks ["text"] a_read_marks fd_read_marks) (G_read_marks : FnOk P w K mg base (L2.CX P w) 5 a_read_marks fd_read_marks ["text"] (spM c 1 [] F_read_marks))
    {a_number_of : Addr} {fd_number_of : FuncData} (A_number_of : At K mg "number_of" s_number_of ["sign"] a_number_of fd_number_of) (G_number_of : FnOk P w K mg base (L2.CX P w) 1 a_number_of fd_number_of ["sign"] (spM c 1 [] F_number_of)) :
    FnOk P w K mg base (L2.CX P w) 6 fa fd ["text", "code"] (spM c 2 [] F_read_by) := by
  refine fn_okD (N := N_read_by) (m := m_read_by) A.F sc_read_by rfl (by decide) (by decide) (by decide) fun g cdv Ar outer s H E hr hc0 hN hio => ?_
  have hc : g.c = c := hc0
  subst hc0
  have hK : K = g.c.K := T.hK.symm
  exact (ss_cons (s_if (t_not (t_val (e_isi (y := .str) (by decide +kernel) hK (by rfl) T.f_isinstance (by rfl) T.f_str (o_var (pv 0)) (by decide) (by decide))))
  (ss_one (s_raise1 rfl (takes_of rfl rfl rfl rfl) I_NoCode hr (by decide) (by rfl) (by rfl) (a_cons (e_str (by decide +kernel) ⟨by decide, by decide⟩) a_nil)))
  ss_nil)
  (ss_cons (s_expr (e_call G_needed_code (hr.mono (by decide)) (by rfl) A_needed_code.g A_needed_code.F.kp A_needed_code.b (takes_of rfl rfl rfl rfl) (as_p (pv 1) as_nil) hc rfl rfl (by decide)))
  (ss_cons (s_if (t_cmp (op_eqD hr.units) (hq_eq hK) (o_var (pv 1)) (o_e (e_str (by decide +kernel) ⟨by decide, by decide⟩)) (nomark _))
  (ss_one (s_set (ps_set (i := 2) sc_read_by.nd rfl (by first | exact .inl rfl | exact .inr rfl) (e_call G_read_sixes (hr.mono (by decide)) (by rfl) A_read_sixes.g A_read_sixes.F.kp A_read_sixes.b (takes_of rfl rfl rfl rfl) (as_p (pv 0) as_nil) hc rfl rfl (by decide))) (by rw [hN]; decide) (not_io hio (by decide))))
  (ss_one (s_if (t_cmp (op_eqD hr.units) (hq_eq hK) (o_var (pv 1)) (o_e (e_str (by decide +kernel) ⟨by decide, by decide⟩)) (nomark _))
  (ss_one (s_set (ps_set (i := 2) sc_read_by.nd rfl (by first | exact .inl rfl | exact .inr rfl) (e_call G_read_marks (hr.mono (by decide)) (by rfl) A_read_marks.g A_read_marks.F.kp A_read_marks.b (takes_of rfl rfl rfl rfl) (as_p (pv 0) as_nil) hc rfl rfl (by decide))) (by rw [hN]; decide) (not_io hio (by decide))))
  (ss_one (s_setLc (by rw [hN]; decide) (not_io hio (by decide)) (own := [("sign", 3)]) rfl sc_read_by.nd rfl rfl (sw_true rfl rfl rfl (by decide +kernel)) (i_str (e_var (pv 0))) (blkOk_by (own := [("sign", 3)]) (N := N_read_by) (sc := defScope s_read_by) (by decide +kernel)) (fun _ _ _ _ _ => pg_name (i := 3) sc_read_by.nd rfl (by first | exact .inl rfl | exact .inr rfl)) (fun _ _ _ _ _ => ts_nil) (fun _ _ _ _ _ => (e_call G_number_of (hr.mono (by decide)) (by rfl) A_number_of.g A_number_of.F.kp A_number_of.b takes0 (as_p (pv 3) as_nil) hc rfl rfl (by decide))) (by decide) (comp_io hio (by decide)) (hg_name (by rw [hN]; decide) (not_io hio (by decide))))))))
  (ss_cons (s_if (t_not (t_val (e_call G_is_body (hr.mono (by decide)) (by rfl) A_is_body.g A_is_body.F.kp A_is_body.b (takes_of rfl rfl rfl rfl) (as_p (pv 0) as_nil) hc rfl rfl (by decide))))
  (ss_one (s_raise2 rfl (takes_of rfl rfl rfl rfl) I_NoCode hr (by decide) (by rfl) (by rfl) (a_cons (e_str (by decide +kernel) ⟨by decide, by decide⟩) (a_cons (e_b1 call_len (hr_len hK) (by rfl) T.f_len (by decide +kernel) (o_var (pv 0))) a_nil))))
  ss_nil)
  (ss_one (s_ret (e_move (pv 2))))))))
theorem ok__law_cell_at (T : Tx K mg c) {fa : Addr} {fd : FuncData} (A : At K mg "_law_cell_at" s__law_cell_at ["_law_script", "_law_k"] fa fd) :
    FnOk P w K mg base (L2.CX P w) 1 fa fd ["_law_script", "_law_k"] (spM c 2 [] F__law_cell_at) := by
  refine fn_okD (N := N__law_cell_at) (m := m__law_cell_at) A.F sc__law_cell_at rfl (by decide) (by decide) (by decide) fun g cdv Ar outer s H E hr hc0 hN hio => ?_
  have hc : g.c = c := hc0
  subst hc0
  have hK : K = g.c.K := T.hK.symm
  exact (ss_cons (s_if (t_cmp op_lt hr_int (o_var (pv 1)) (o_e (e_b1 call_len (hr_len hK) (by rfl) T.f_len (by decide +kernel) (o_var (pv 0)))) (nomark _))
  (ss_one (s_ret (e_idx (o_var (pv 0)) (e_move (pv 1)) hK)))
  ss_nil)
  (ss_one (s_ret e_int)))
theorem ok__law_mixed (T : Tx K mg c) {fa : Addr} {fd : FuncData} (A : At K mg "_law_mixed" s__law_mixed ["_law_cell", "_law_k"] fa fd) :
    FnOk P w K mg base (L2.CX P w) 1 fa fd ["_law_cell", "_law_k"] (spM c 2 [] F__law_mixed) := by
  refine fn_okD (N := N__law_mixed) (m := m__law_mixed) A.F sc__law_mixed rfl (by decide) (by decide) (by decide) fun g cdv Ar outer s H E hr hc0 hN hio => ?_
  have hc : g.c = c := hc0
  subst hc0
  have hK : K = g.c.K := T.hK.symm
  exact (ss_cons (s_set (ps_set (i := 2) sc__law_mixed.nd rfl (by first | exact .inl rfl | exact .inr rfl) (e_add (e_mod (e_var (pv 0)) e_int) (e_mul (e_fdiv (e_var (pv 0)) e_int) e_int))) (by rw [hN]; decide) (not_io hio (by decide)))
  (ss_cons (s_set (ps_set (i := 2) sc__law_mixed.nd rfl (by first | exact .inl rfl | exact .inr rfl) (e_mod (e_mul (e_add (e_add (e_var (pv 2)) (e_mul e_int (e_var (pv 1)))) e_int) e_int) e_int)) (by rw [hN]; decide) (not_io hio (by decide)))
  (ss_cons (s_set (ps_set (i := 2) sc__law_mixed.nd rfl (by first | exact .inl rfl | exact .inr rfl) (e_mod (e_mul (e_var (pv 2)) (e_add (e_add (e_fdiv (e_var (pv 2)) e_int) e_int) (e_var (pv 1)))) e_int)) (by rw [hN]; decide) (not_io hio (by decide)))
  (ss_one (s_ret (e_mod (e_mul (e_var (pv 2)) (e_add (e_fdiv (e_var (pv 2)) e_int) e_int)) e_int))))))
theorem ok__law_source (T : Tx K mg c) {fa : Addr} {fd : FuncData} (A : At K mg "_law_source" s__law_source ["_law_script", "_law_k"] fa fd)
    {a__law_mixed : Addr} {fd__law_mixed : FuncData} (A__law_mixed : At K mg "_law_mixed" s__law_mixed ["_law_cell", "_law_k"] a__law_mixed fd__law_mixed) (G__law_mixed : FnOk P w K mg base (L2.CX P w) 1 a__law_mixed fd__law_mixed ["_law_cell", "_law_k"] (spM c 2 [] F__law_mixed))
    {a__law_cell_at : Addr} {fd__law_cell_at : FuncData} (A__law_cell_at : At K mg "_law_cell_at" s__law_cell_at ["_law_script", "_law_k"] a__law_cell_at fd__law_cell_at) (G__law_cell_at : FnOk P w K mg base (L2.CX P w) 1 a__law_cell_at fd__law_cell_at ["_law_script", "_law_k"] (spM c 2 [] F__law_cell_at)) :
    FnOk P w K mg base (L2.CX P w) 2 fa fd ["_law_script", "_law_k"] (spM c 2 [] F__law_source) := by
  refine fn_okD (N := N__law_source) (m := m__law_source) A.F sc__law_source rfl (by decide) (by decide) (by decide) fun g cdv Ar outer s H E hr hc0 hN hio => ?_
  have hc : g.c = c := hc0
  subst hc0
  have hK : K = g.c.K := T.hK.symm
  exact (ss_cons (s_if (t_cmp op_lt hr_int (o_var (pv 1)) (o_e (e_b1 call_len (hr_len hK) (by rfl) T.f_len (by decide +kernel) (o_var (pv 0)))) (nomark _))
  (ss_one (s_ret (e_lst (a_cons (e_idx (o_var (pv 0)) (e_var (pv 1)) hK) (a_cons (e_idx (o_var (pv 0)) (e_var (pv 1)) hK) (a_cons e_int a_nil))))))
  ss_nil)
  (ss_cons (s_set (ps_set (i := 2) sc__law_source.nd rfl (by first | exact .inl rfl | exact .inr rfl) (e_call G__law_mixed (hr.mono (by decide)) (by rfl) A__law_mixed.g A__law_mixed.F.kp A__law_mixed.b (takes_of rfl rfl rfl rfl) (as_e (e_call G__law_cell_at (hr.mono (by decide)) (by rfl) A__law_cell_at.g A__law_cell_at.F.kp A__law_cell_at.b (takes_of rfl rfl rfl rfl) (as_p (pv 0) (as_e e_int as_nil)) hc rfl rfl (by decide)) (as_e (e_add e_int (e_var (pv 1))) as_nil)) hc rfl rfl (by decide))) (by rw [hN]; decide) (not_io hio (by decide)))
  (ss_one (s_ret (e_lst (a_cons (e_var (pv 2)) (a_cons (e_var (pv 2)) (a_cons e_int a_nil))))))))
theorem ok__law_next (T : Tx K mg c) {fa : Addr} {fd : FuncData} (A : At K mg "_law_next" s__law_next ["_law_source_here", "_law_many"] fa fd)
    {a__law_mixed : Addr} {fd__law_mixed : FuncData} (A__law_mixed : At K mg "_law_mixed" s__law_mixed ["_law_cell", "_law_k"] a__law_mixed fd__law_mixed) (G__law_mixed : FnOk P w K mg base (L2.CX P w) 1 a__law_mixed fd__law_mixed ["_law_cell", "_law_k"] (spM c 2 [] F__law_mixed)) :
    FnOk P w K mg base (L2.CX P w) 2 fa fd ["_law_source_here", "_law_many"] (spM c 2 [0] F__law_next) := by
  refine fn_okD (N := N__law_next) (m := m__law_next) A.F sc__law_next rfl (by decide) (by decide) (by decide) fun g cdv Ar outer s H E hr hc0 hN hio => ?_
  have hc : g.c = c := hc0
  subst hc0
  have hK : K = g.c.K := T.hK.symm
  exact (ss_cons (s_if (t_cmp op_ge hr_int (o_e (e_idx (o_var (pv 0)) e_int hK)) (o_e (e_pow e_int e_int)) (nomark _))
  (ss_cons (s_set (ps_set (i := 2) sc__law_next.nd rfl (by first | exact .inl rfl | exact .inr rfl) (e_mod (e_idx (o_var (pv 0)) e_int hK) (e_var (pv 1)))) (by rw [hN]; decide) (not_io hio (by decide)))
  (ss_cons (s_asg (e_fdiv (e_idx (o_var (pv 0)) e_int hK) (e_var (pv 1))) (g_set (pg_sub (pv 0) e_int set_list)))
  (ss_one (s_ret (e_move (pv 2))))))
  ss_nil)
  (ss_cons (s_asg (e_add (e_idx (o_var (pv 0)) e_int hK) e_int) (g_set (pg_sub (pv 0) e_int set_list)))
  (ss_one (s_ret (e_mod (e_call G__law_mixed (hr.mono (by decide)) (by rfl) A__law_mixed.g A__law_mixed.F.kp A__law_mixed.b (takes_of rfl rfl rfl rfl) (as_e (e_idx (o_var (pv 0)) e_int hK) (as_e (e_idx (o_var (pv 0)) e_int hK) as_nil)) hc rfl rfl (by decide)) (e_move (pv 1)))))))
theorem ok__law_row (T : Tx K mg c) {fa : Addr} {fd : FuncData} (A : At K mg "_law_row" s__law_row ["_law_source_here", "_law_most"] fa fd)
    {a__law_next : Addr} {fd__law_next : FuncData} (A__law_next : At K mg "_law_next" s__law_next ["_law_source_here", "_law_many"] a__law_next fd__law_next) (G__law_next : FnOk P w K mg base (L2.CX P w) 2 a__law_next fd__law_next ["_law_source_here", "_law_many"] (spM c 2 [0] F__law_next)) :
    FnOk P w K mg base (L2.CX P w) 3 fa fd ["_law_source_here", "_law_most"] (spM c 2 [0] F__law_row) := by
  refine fn_okD (N := N__law_row) (m := m__law_row) A.F sc__law_row rfl (by decide) (by decide) (by decide) fun g cdv Ar outer s H E hr hc0 hN hio => ?_
  have hc : g.c = c := hc0
  subst hc0
  have hK : K = g.c.K := T.hK.symm
  exact (ss_cons (s_set (ps_set (i := 2) sc__law_row.nd rfl (by first | exact .inl rfl | exact .inr rfl) (e_call G__law_next (hr.mono (by decide)) (by rfl) A__law_next.g A__law_next.F.kp A__law_next.b (takes_of rfl rfl rfl rfl) (as_s (pv 0) (as_e e_int as_nil)) hc rfl rfl (by decide))) (by rw [hN]; decide) (not_io hio (by decide)))
  (ss_cons (s_set (ps_set (i := 3) sc__law_row.nd rfl (by first | exact .inl rfl | exact .inr rfl) (e_lst a_nil)) (by rw [hN]; decide) (not_io hio (by decide)))
  (ss_cons (s_for (passes_of rfl) rfl (i_range1 (by rfl) T.f_range (a_cons (e_call G__law_next (hr.mono (by decide)) (by rfl) A__law_next.g A__law_next.F.kp A__law_next.b (takes_of rfl rfl rfl rfl) (as_s (pv 0) (as_e (e_idx (o_e (e_lst (a_cons e_int (a_cons e_int (a_cons e_int (a_cons (e_var (pv 1)) a_nil)))))) (e_call G__law_next (hr.mono (by decide)) (by rfl) A__law_next.g A__law_next.F.kp A__law_next.b (takes_of rfl rfl rfl rfl) (as_s (pv 0) (as_e e_int as_nil)) hc rfl rfl (by decide)) hK) as_nil)) hc rfl rfl (by decide)) a_nil)) (g_name (pg_name (i := 4) sc__law_row.nd rfl (by first | exact .inl rfl | exact .inr rfl)) (by rw [hN]; decide) (not_io hio (by decide)))
  (ss_cons (s_set (ps_set (i := 5) sc__law_row.nd rfl (by first | exact .inl rfl | exact .inr rfl) (e_idx (o_e (e_lst (a_cons (e_add e_int (e_call G__law_next (hr.mono (by decide)) (by rfl) A__law_next.g A__law_next.F.kp A__law_next.b (takes_of rfl rfl rfl rfl) (as_s (pv 0) (as_e e_int as_nil)) hc rfl rfl (by decide))) (a_cons e_int (a_cons e_int (a_cons (e_add e_int (e_mod (e_var (pv 4)) e_int)) a_nil)))))) (e_call G__law_next (hr.mono (by decide)) (by rfl) A__law_next.g A__law_next.F.kp A__law_next.b (takes_of rfl rfl rfl rfl) (as_s (pv 0) (as_e e_int as_nil)) hc rfl rfl (by decide)) hK)) (by rw [hN]; decide) (not_io hio (by decide)))
  (ss_cons (s_set (ps_set (i := 6) sc__law_row.nd rfl (by first | exact .inl rfl | exact .inr rfl) (e_idx (o_e (e_lst (a_cons e_int (a_cons e_int (a_cons e_int (a_cons e_int (a_cons e_int (a_cons e_int (a_cons e_int (a_cons e_int (a_cons e_int (a_cons e_int (a_cons e_int (a_cons e_int a_nil)))))))))))))) (e_call G__law_next (hr.mono (by decide)) (by rfl) A__law_next.g A__law_next.F.kp A__law_next.b (takes_of rfl rfl rfl rfl) (as_s (pv 0) (as_e e_int as_nil)) hc rfl rfl (by decide)) hK)) (by rw [hN]; decide) (not_io hio (by decide)))
  (ss_one (s_expr (e_app hK (pe_bm PySem.F.plainAttrs_list PySem.F.slot_list_append PySem.F.type_list_append mt_append (pv 3) (a_cons (e_idx (o_e (e_lst (a_cons (e_call G__law_next (hr.mono (by decide)) (by rfl) A__law_next.g A__law_next.F.kp A__law_next.b (takes_of rfl rfl rfl rfl) (as_s (pv 0) (as_e e_int as_nil)) hc rfl rfl (by decide)) (a_cons (e_var (pv 5)) (a_cons (e_var (pv 6)) (a_cons (e_idx (o_e (e_lst (a_cons e_int (a_cons e_int (a_cons e_int (a_cons (e_var (pv 6)) a_nil)))))) (e_call G__law_next (hr.mono (by decide)) (by rfl) A__law_next.g A__law_next.F.kp A__law_next.b (takes_of rfl rfl rfl rfl) (as_s (pv 0) (as_e e_int as_nil)) hc rfl rfl (by decide)) hK) (a_cons (e_add e_int (e_mod (e_var (pv 5)) e_int)) a_nil))))))) (e_var (pv 2)) hK) a_nil))))))))
  (ss_cons (s_if (PW.pt (w_and (t_cmp op_gt hr_int (o_var (pv 2)) (o_e e_int) (nomark _)) (pw_and1 (t_cmp (op_eqD hr.units) (hq_eq hK) (o_e (e_call G__law_next (hr.mono (by decide)) (by rfl) A__law_next.g A__law_next.F.kp A__law_next.b (takes_of rfl rfl rfl rfl) (as_s (pv 0) (as_e e_int as_nil)) hc rfl rfl (by decide))) (o_e e_int) (nomark _)))))
  (ss_cons (s_setLc (by rw [hN]; decide) (not_io hio (by decide)) (own := [("_law_k", 4)]) rfl sc__law_row.nd rfl rfl (sw_true rfl rfl rfl (by decide +kernel)) (i_range1 (by rfl) T.f_range (a_cons (e_add e_int (e_call G__law_next (hr.mono (by decide)) (by rfl) A__law_next.g A__law_next.F.kp A__law_next.b (takes_of rfl rfl rfl rfl) (as_s (pv 0) (as_e e_int as_nil)) hc rfl rfl (by decide))) a_nil)) (blkOk_by (own := [("_law_k", 4)]) (N := N__law_row) (sc := defScope s__law_row) (by decide +kernel)) (fun _ _ _ _ _ => pg_name (i := 4) sc__law_row.nd rfl (by first | exact .inl rfl | exact .inr rfl)) (fun _ _ _ _ _ => ts_nil) (fun _ _ _ _ _ => (e_add e_int (e_mod (e_var (pv 4)) e_int))) (by decide) (comp_io hio (by decide)) (hg_name (by rw [hN]; decide) (not_io hio (by decide))))
  (ss_cons (s_set (ps_set (i := 8) sc__law_row.nd rfl (by first | exact .inl rfl | exact .inr rfl) (e_call G__law_next (hr.mono (by decide)) (by rfl) A__law_next.g A__law_next.F.kp A__law_next.b (takes_of rfl rfl rfl rfl) (as_s (pv 0) (as_e (e_add (e_b1 call_len (hr_len hK) (by rfl) T.f_len (by decide +kernel) (o_var (pv 3))) e_int) as_nil)) hc rfl rfl (by decide))) (by rw [hN]; decide) (not_io hio (by decide)))
  (ss_one (s_set (ps_set (i := 3) sc__law_row.nd rfl (by first | exact .inl rfl | exact .inr rfl) (e_add (e_add (e_add (e_slc (o_var (pv 3)) p_none (p_some (e_var (pv 8))) hK.symm.symm) (e_var (pv 7))) (e_idx (o_e (e_lst (a_cons (e_lst (a_cons e_int a_nil)) (a_cons (e_lst (a_cons e_int a_nil)) (a_cons (e_lst (a_cons e_int a_nil)) (a_cons (e_lst (a_cons e_int (a_cons e_int a_nil))) (a_cons (e_lst (a_cons e_int a_nil)) (a_cons (e_lst a_nil) a_nil)))))))) (e_call G__law_next (hr.mono (by decide)) (by rfl) A__law_next.g A__law_next.F.kp A__law_next.b (takes_of rfl rfl rfl rfl) (as_s (pv 0) (as_e e_int as_nil)) hc rfl rfl (by decide)) hK)) (e_slc (o_var (pv 3)) (p_some (e_var (pv 8))) p_none hK.symm.symm))) (by rw [hN]; decide) (not_io hio (by decide))))))
  ss_nil)
  (ss_one (s_ret (e_slc (o_e (e_add (e_move (pv 3)) (e_mul (e_lst (a_cons e_int a_nil)) (e_call G__law_next (hr.mono (by decide)) (by rfl) A__law_next.g A__law_next.F.kp A__law_next.b (takes_of rfl rfl rfl rfl) (as_s (pv 0) (as_e e_int as_nil)) hc rfl rfl (by decide))))) p_none (p_some e_int) hK.symm.symm)))))))
theorem ok__law_text (T : Tx K mg c) {fa : Addr} {fd : FuncData} (A : At K mg "_law_text" s__law_text ["_law_numbers_here"] fa fd) :
    FnOk P w K mg base (L2.CX P w) 1 fa fd ["_law_numbers_here"] (spM c 1 [] F__law_text) := by
  refine fn_okD (N := N__law_text) (m := m__law_text) A.F sc__law_text rfl (by decide) (by decide) (by decide) fun g cdv Ar outer s H E hr hc0 hN hio => ?_
  have hc : g.c = c := hc0
  subst hc0
  have hK : K = g.c.K := T.hK.symm
  exact (ss_cons (s_set (ps_set (i := 1) sc__law_text.nd rfl (by first | exact .inl rfl | exact .inr rfl) (e_str (by decide +kernel) ⟨by decide, by decide⟩)) (by rw [hN]; decide) (not_io hio (by decide)))
  (ss_cons (s_set (ps_set (i := 2) sc__law_text.nd rfl (by first | exact .inl rfl | exact .inr rfl) (e_str (by decide +kernel) ⟨by decide, by decide⟩)) (by rw [hN]; decide) (not_io hio (by decide)))
  (ss_cons (s_for (passes_of rfl) rfl (i_list hK (e_var (pv 0))) (g_name (pg_name (i := 3) sc__law_text.nd rfl (by first | exact .inl rfl | exact .inr rfl)) (by rw [hN]; decide) (not_io hio (by decide)))
  (ss_cons (s_if (PW.pt (w_or (t_not (t_chain op_le op_le hr_int hr_int e_int (e_var (pv 3)) e_int)) (pw_or1 (t_cmp (op_eqD hr.units) (hq_eq hK) (o_var (pv 3)) (o_e e_int) (nomark _)))))
  (ss_one (s_ret e_non))
  ss_nil)
  (ss_one (s_set (ps_set (i := 2) sc__law_text.nd rfl (by first | exact .inl rfl | exact .inr rfl) (e_add (e_var (pv 2)) (e_idx (o_var (pv 1)) (e_sub (e_sub (e_var (pv 3)) e_int) (e_t1 call_intC hr_intC (by rfl) T.f_int (by decide +kernel) (o_e (e_cmp op_gt hr_int (o_var (pv 3)) (o_e e_int) (nomark _))))) hK))) (by rw [hN]; decide) (not_io hio (by decide))))))
  (ss_one (s_ret (e_move (pv 2)))))))
theorem ok__law_units (T : Tx K mg c) {fa : Addr} {fd : FuncData} (A : At K mg "_law_units" s__law_units ["_law_eights"] fa fd)
    {a__law_text : Addr} {fd__law_text : FuncData} (A__law_text : At K mg "_law_text" s__law_text ["_law_numbers_here"] a__law_text fd__law_text) (G__law_text : FnOk P w K mg base (L2.CX P w) 1 a__law_text fd__law_text ["_law_numbers_here"] (spM c 1 [] F__law_text)) :
    FnOk P w K mg base (L2.CX P w) 2 fa fd ["_law_eights"] (spM c 1 [] F__law_units) := by
  refine fn_okD (N := N__law_units) (m := m__law_units) A.F sc__law_units rfl (by decide) (by decide) (by decide) fun g cdv Ar outer s H E hr hc0 hN hio => ?_
  have hc : g.c = c := hc0
  subst hc0
  have hK : K = g.c.K := T.hK.symm
  exact (ss_cons (s_set (ps_set (i := 1) sc__law_units.nd rfl (by first | exact .inl rfl | exact .inr rfl) (e_lst a_nil)) (by rw [hN]; decide) (not_io hio (by decide)))
  (ss_cons (s_for (passes_of rfl) rfl (i_zip hK (by rfl) T.f_zip (a_cons (e_var (pv 0)) (a_cons (e_add (e_slc (o_var (pv 0)) (p_some e_int) p_none hK.symm.symm) (e_lst (a_cons e_int a_nil))) a_nil))) (g_tupT rfl (gs_cons (g_name (pg_name (i := 2) sc__law_units.nd rfl (by first | exact .inl rfl | exact .inr rfl)) (by rw [hN]; decide) (not_io hio (by decide))) (gs_cons (g_name (pg_name (i := 3) sc__law_units.nd rfl (by first | exact .inl rfl | exact .inr rfl)) (by rw [hN]; decide) (not_io hio (by decide))) gs_nil)) hK)
  (ss_cons (s_set (ps_set (i := 4) sc__law_units.nd rfl (by first | exact .inl rfl | exact .inr rfl) (e_call G__law_text (hr.mono (by decide)) (by rfl) A__law_text.g A__law_text.F.kp A__law_text.b (takes_of rfl rfl rfl rfl) (as_e (e_lst (a_cons (e_var (pv 2)) a_nil)) as_nil) hc rfl rfl (by decide))) (by rw [hN]; decide) (not_io hio (by decide)))
  (ss_cons (s_if (t_cmp (op_eqD hr.units) (hq_eq hK) (o_var (pv 2)) (o_e e_int) (nomark _))
  (ss_one (s_set (ps_set (i := 4) sc__law_units.nd rfl (by first | exact .inl rfl | exact .inr rfl) e_non) (by rw [hN]; decide) (not_io hio (by decide))))
  (ss_one (s_if (PW.pt (w_or (t_cmp op_isN hr_isN (o_var (pv 4)) (o_e e_non) (nomark _)) (w_or (t_cmp (op_eqD hr.units) (hq_eq hK) (o_var (pv 2)) (o_e e_int) (nomark _)) (pw_or1 (PW.pt (w_and (t_cmp (op_eqD hr.units) (hq_eq hK) (o_var (pv 2)) (o_e e_int) (nomark _)) (pw_and1 (t_cmp (op_eqD hr.units) (hq_eq hK) (o_var (pv 3)) (o_e e_int) (nomark _)))))))))
  (ss_one (s_set (ps_set (i := 4) sc__law_units.nd rfl (by first | exact .inl rfl | exact .inr rfl) (e_add (e_add (e_str (by decide +kernel) ⟨by decide, by decide⟩) (e_idx (o_e (e_str (by decide +kernel) ⟨by decide, by decide⟩)) (e_fdiv (e_var (pv 2)) e_int) hK)) (e_idx (o_e (e_str (by decide +kernel) ⟨by decide, by decide⟩)) (e_mod (e_var (pv 2)) e_int) hK))) (by rw [hN]; decide) (not_io hio (by decide))))
  ss_nil)))
  (ss_one (s_expr (e_app hK (pe_bm PySem.F.plainAttrs_list PySem.F.slot_list_append PySem.F.type_list_append mt_append (pv 1) (a_cons (e_var (pv 4)) a_nil))))))))
  (ss_one (s_ret (e_move (pv 1))))))
theorem ok__law_marks (T : Tx K mg c) {fa : Addr} {fd : FuncData} (A : At K mg "_law_marks" s__law_marks ["_law_eights"] fa fd)
    {a__law_units : Addr} {fd__law_units : FuncData} (A__law_units : At K mg "_law_units" s__law_units ["_law_eights"] a__law_units fd__law_units) (G__law_units : FnOk P w K mg base (L2.CX P w) 2 a__law_units fd__law_units ["_law_eights"] (spM c 1 [] F__law_units)) :
    FnOk P w K mg base (L2.CX P w) 3 fa fd ["_law_eights"] (spM c 1 [] F__law_marks) := by
  refine fn_okD (N := N__law_marks) (m := m__law_marks) A.F sc__law_marks rfl (by decide) (by decide) (by decide) fun g cdv Ar outer s H E hr hc0 hN hio => ?_
  have hc : g.c = c := hc0
  subst hc0
  have hK : K = g.c.K := T.hK.symm
  exact (ss_cons (s_set (ps_set (i := 1) sc__law_marks.nd rfl (by first | exact .inl rfl | exact .inr rfl) (e_str (by decide +kernel) ⟨by decide, by decide⟩)) (by rw [hN]; decide) (not_io hio (by decide)))
  (ss_cons (s_set (ps_set (i := 2) sc__law_marks.nd rfl (by first | exact .inl rfl | exact .inr rfl) (e_str (by decide +kernel) ⟨by decide, by decide⟩)) (by rw [hN]; decide) (not_io hio (by decide)))
  (ss_cons (s_for (passes_of rfl) rfl (i_list hK (e_call G__law_units (hr.mono (by decide)) (by rfl) A__law_units.g A__law_units.F.kp A__law_units.b (takes_of rfl rfl rfl rfl) (as_p (pv 0) as_nil) hc rfl rfl (by decide))) (g_name (pg_name (i := 3) sc__law_marks.nd rfl (by first | exact .inl rfl | exact .inr rfl)) (by rw [hN]; decide) (not_io hio (by decide)))
  (ss_one (s_if (t_cmp op_isN hr_isN (o_var (pv 3)) (o_e e_non) (nomark _))
  (ss_cons (s_set (ps_set (i := 1) sc__law_marks.nd rfl (by first | exact .inl rfl | exact .inr rfl) (e_add (e_add (e_var (pv 1)) (e_var (pv 2))) (e_str (by decide +kernel) ⟨by decide, by decide⟩))) (by rw [hN]; decide) (not_io hio (by decide)))
  (ss_one (s_set (ps_set (i := 2) sc__law_marks.nd rfl (by first | exact .inl rfl | exact .inr rfl) (e_str (by decide +kernel) ⟨by decide, by decide⟩)) (by rw [hN]; decide) (not_io hio (by decide)))))
  (ss_cons (s_if (t_cmp op_gt hr_int (o_e (e_b1 call_len (hr_len hK) (by rfl) T.f_len (by decide +kernel) (o_e (e_add (e_var (pv 2)) (e_var (pv 3)))))) (o_e e_int) (nomark _))
  (ss_cons (s_set (ps_set (i := 1) sc__law_marks.nd rfl (by first | exact .inl rfl | exact .inr rfl) (e_add (e_add (e_var (pv 1)) (e_var (pv 2))) (e_str (by decide +kernel) ⟨by decide, by decide⟩))) (by rw [hN]; decide) (not_io hio (by decide)))
  (ss_one (s_set (ps_set (i := 2) sc__law_marks.nd rfl (by first | exact .inl rfl | exact .inr rfl) (e_str (by decide +kernel) ⟨by decide, by decide⟩)) (by rw [hN]; decide) (not_io hio (by decide)))))
  ss_nil)
  (ss_one (s_set (ps_set (i := 2) sc__law_marks.nd rfl (by first | exact .inl rfl | exact .inr rfl) (e_add (e_var (pv 2)) (e_var (pv 3)))) (by rw [hN]; decide) (not_io hio (by decide))))))))
  (ss_one (s_ret (e_add (e_move (pv 1)) (e_mul (e_add (e_var (pv 2)) (e_str (by decide +kernel) ⟨by decide, by decide⟩)) (e_t1 call_intC hr_intC (by rfl) T.f_int (by decide +kernel) (o_e (e_cmp (op_neD hr.units) (hq_ne hK) (o_var (pv 2)) (o_e (e_str (by decide +kernel) ⟨by decide, by decide⟩)) (nomark _)))))))))))
theorem ok__law_touched (T : Tx K mg c) {fa : Addr} {fd : FuncData} (A : At K mg "_law_touched" s__law_touched ["_law_source_here", "_law_line_here", "_law_signs"] fa fd)
    {a__law_next : Addr} {fd__law_next : FuncData} (A__law_next : At K mg "_law_next" s__law_next ["_law_source_here", "_law_many"] a__law_next fd__law_next) (G__law_next : FnOk P w K mg base (L2.CX P w) 2 a__law_next fd__law_next ["_law_source_here", "_law_many"] (spM c 2 [0] F__law_next)) :
    FnOk P w K mg base (L2.CX P w) 3 fa fd ["_law_source_here", "_law_line_here", "_law_signs"] (spM c 3 [0] F__law_touched) := by
  refine fn_okD (N := N__law_touched) (m := m__law_touched) A.F sc__law_touched rfl (by decide) (by decide) (by decide) fun g cdv Ar outer s H E hr hc0 hN hio => ?_
  have hc : g.c = c := hc0
  subst hc0
  have hK : K = g.c.K := T.hK.symm
  exact (ss_cons (s_set (ps_set (i := 3) sc__law_touched.nd rfl (by first | exact .inl rfl | exact .inr rfl) (e_call G__law_next (hr.mono (by decide)) (by rfl) A__law_next.g A__law_next.F.kp A__law_next.b (takes_of rfl rfl rfl rfl) (as_s (pv 0) (as_e (e_add (e_b1 call_len (hr_len hK) (by rfl) T.f_len (by decide +kernel) (o_var (pv 1))) e_int) as_nil)) hc rfl rfl (by decide))) (by rw [hN]; decide) (not_io hio (by decide)))
  (ss_cons (s_set (ps_set (i := 4) sc__law_touched.nd rfl (by first | exact .inl rfl | exact .inr rfl) (e_idx (o_var (pv 2)) (e_call G__law_next (hr.mono (by decide)) (by rfl) A__law_next.g A__law_next.F.kp A__law_next.b (takes_of rfl rfl rfl rfl) (as_s (pv 0) (as_e (e_b1 call_len (hr_len hK) (by rfl) T.f_len (by decide +kernel) (o_var (pv 2))) as_nil)) hc rfl rfl (by decide)) hK)) (by rw [hN]; decide) (not_io hio (by decide)))
  (ss_cons (s_set (ps_set (i := 5) sc__law_touched.nd rfl (by first | exact .inl rfl | exact .inr rfl) (e_lst (a_cons (e_add (e_slc (o_var (pv 1)) p_none (p_some (e_var (pv 3))) hK.symm.symm) (e_slc (o_var (pv 1)) (p_some (e_add (e_var (pv 3)) e_int)) p_none hK.symm.symm)) (a_cons (e_add (e_add (e_slc (o_var (pv 1)) p_none (p_some (e_var (pv 3))) hK.symm.symm) (e_var (pv 4))) (e_slc (o_var (pv 1)) (p_some (e_var (pv 3))) p_none hK.symm.symm)) (a_cons (e_add (e_add (e_slc (o_var (pv 1)) p_none (p_some (e_var (pv 3))) hK.symm.symm) (e_slc (o_var (pv 1)) (p_some (e_var (pv 3))) (p_some (e_add (e_var (pv 3)) e_int)) hK.symm.symm)) (e_slc (o_var (pv 1)) (p_some (e_var (pv 3))) p_none hK.symm.symm)) a_nil))))) (by rw [hN]; decide) (not_io hio (by decide)))
  (ss_cons (s_set (ps_set (i := 6) sc__law_touched.nd rfl (by first | exact .inl rfl | exact .inr rfl) (e_revS (o_e (e_slc (o_var (pv 1)) (p_some (e_var (pv 3))) (p_some (e_add (e_var (pv 3)) e_int)) hK.symm.symm)))) (by rw [hN]; decide) (not_io hio (by decide)))
  (ss_cons (s_expr (e_app hK (pe_bm PySem.F.plainAttrs_list PySem.F.slot_list_append PySem.F.type_list_append mt_append (pv 5) (a_cons (e_add (e_add (e_slc (o_var (pv 1)) p_none (p_some (e_var (pv 3))) hK.symm.symm) (e_var (pv 6))) (e_slc (o_var (pv 1)) (p_some (e_add (e_var (pv 3)) e_int)) p_none hK.symm.symm)) a_nil))))
  (ss_cons (s_expr (e_app hK (pe_bm PySem.F.plainAttrs_list PySem.F.slot_list_append PySem.F.type_list_append mt_append (pv 5) (a_cons (e_add (e_add (e_slc (o_var (pv 1)) p_none (p_some (e_var (pv 3))) hK.symm.symm) (e_var (pv 4))) (e_slc (o_var (pv 1)) (p_some (e_add (e_var (pv 3)) e_int)) p_none hK.symm.symm)) a_nil))))
  (ss_one (s_ret (e_idx (o_e (e_add (e_move (pv 5)) (e_lst (a_cons (e_slc (o_var (pv 1)) p_none (p_some (e_move (pv 3))) hK.symm.symm) a_nil)))) (e_call G__law_next (hr.mono (by decide)) (by rfl) A__law_next.g A__law_next.F.kp A__law_next.b (takes_of rfl rfl rfl rfl) (as_s (pv 0) (as_e e_int as_nil)) hc rfl rfl (by decide)) hK)))))))))
theorem ok__law_loose (T : Tx K mg c) {fa : Addr} {fd : FuncData} (A : At K mg "_law_loose" s__law_loose ["_law_source_here", "_law_line_here"] fa fd)
    {a__law_next : Addr} {fd__law_next : FuncData} (A__law_next : At K mg "_law_next" s__law_next ["_law_source_here", "_law_many"] a__law_next fd__law_next) (G__law_next : FnOk P w K mg base (L2.CX P w) 2 a__law_next fd__law_next ["_law_source_here", "_law_many"] (spM c 2 [0] F__law_next)) :
    FnOk P w K mg base (L2.CX P w) 3 fa fd ["_law_source_here", "_law_line_here"] (spM c 2 [0] F__law_loose) := by
  refine fn_okD (N := N__law_loose) (m := m__law_loose) A.F sc__law_loose rfl (by decide) (by decide) (by decide) fun g cdv Ar outer s H E hr hc0 hN hio => ?_
  have hc : g.c = c := hc0
  subst hc0
  have hK : K = g.c.K := T.hK.symm
  exact (ss_cons (s_for (passes_of rfl) rfl (i_range1 (by rfl) T.f_range (a_cons (e_call G__law_next (hr.mono (by decide)) (by rfl) A__law_next.g A__law_next.F.kp A__law_next.b (takes_of rfl rfl rfl rfl) (as_s (pv 0) (as_e e_int as_nil)) hc rfl rfl (by decide)) a_nil)) (g_name (pg_name (i := 2) sc__law_loose.nd rfl (by first | exact .inl rfl | exact .inr rfl)) (by rw [hN]; decide) (not_io hio (by decide)))
  (ss_cons (s_set (ps_set (i := 3) sc__law_loose.nd rfl (by first | exact .inl rfl | exact .inr rfl) (e_call G__law_next (hr.mono (by decide)) (by rfl) A__law_next.g A__law_next.F.kp A__law_next.b (takes_of rfl rfl rfl rfl) (as_s (pv 0) (as_e (e_add (e_b1 call_len (hr_len hK) (by rfl) T.f_len (by decide +kernel) (o_var (pv 1))) e_int) as_nil)) hc rfl rfl (by decide))) (by rw [hN]; decide) (not_io hio (by decide)))
  (ss_one (s_set (ps_set (i := 1) sc__law_loose.nd rfl (by first | exact .inl rfl | exact .inr rfl) (e_add (e_add (e_slc (o_var (pv 1)) p_none (p_some (e_var (pv 3))) hK.symm.symm) (e_idx (o_e (e_lst (a_cons (e_str (by decide +kernel) ⟨by decide, by decide⟩) (a_cons (e_str (by decide +kernel) ⟨by decide, by decide⟩) (a_cons (e_str (by decide +kernel) ⟨by decide, by decide⟩) (a_cons (e_str (by decide +kernel) ⟨by decide, by decide⟩) (a_cons (e_str (by decide +kernel) ⟨by decide, by decide⟩) (a_cons (e_str (by decide +kernel) ⟨by decide, by decide⟩) (a_cons (e_str (by decide +kernel) ⟨by decide, by decide⟩) a_nil))))))))) (e_call G__law_next (hr.mono (by decide)) (by rfl) A__law_next.g A__law_next.F.kp A__law_next.b (takes_of rfl rfl rfl rfl) (as_s (pv 0) (as_e e_int as_nil)) hc rfl rfl (by decide)) hK)) (e_slc (o_var (pv 1)) (p_some (e_var (pv 3))) p_none hK.symm.symm))) (by rw [hN]; decide) (not_io hio (by decide))))))
  (ss_cons (PSK.ps (s_ifK (t_cmpK (op_eqD hr.units) (hq_eq hK) (o_e (e_call G__law_next (hr.mono (by decide)) (by rfl) A__law_next.g A__law_next.F.kp A__law_next.b (takes_of rfl rfl rfl rfl) (as_s (pv 0) (as_e e_int as_nil)) hc rfl rfl (by decide))) o_intK (nomark _))
  (sT_one (sT_set (pst_set (i := 1) sc__law_loose.nd rfl (by first | exact .inl rfl | exact .inr rfl) (eT_replF (y := [10]) (by rfl) (by decide) (e_var (pv 1)) (e_mul (e_str (by decide +kernel) ⟨by decide, by decide⟩) (e_add e_int (e_call G__law_next (hr.mono (by decide)) (by rfl) A__law_next.g A__law_next.F.kp A__law_next.b (takes_of rfl rfl rfl rfl) (as_s (pv 0) (as_e e_int as_nil)) hc rfl rfl (by decide)))) (e_str (by decide +kernel) ⟨by decide, by decide⟩))) (by rw [hN]; decide) (not_io hio (by decide))))
  sT_nil))
  (ss_one (s_ret (e_idx (o_e (e_lst (a_cons (e_var (pv 1)) (a_cons (e_m0 PySem.F.slot_str_lower PySem.F.type_str_lower mt_lower hs_lower (o_var (pv 1))) a_nil)))) (e_t1 call_intC hr_intC (by rfl) T.f_int (by decide +kernel) (o_e (e_cmp (op_eqD hr.units) (hq_eq hK) (o_e (e_call G__law_next (hr.mono (by decide)) (by rfl) A__law_next.g A__law_next.F.kp A__law_next.b (takes_of rfl rfl rfl rfl) (as_s (pv 0) (as_e e_int as_nil)) hc rfl rfl (by decide))) (o_e e_int) (nomark _)))) hK)))))
theorem ok__law_numbers (T : Tx K mg c) {fa : Addr} {fd : FuncData} (A : At K mg "_law_numbers" s__law_numbers ["_law_line_here"] fa fd) :
    FnOk P w K mg base (L2.CX P w) 1 fa fd ["_law_line_here"] (spM c 1 [] F__law_numbers) := by
  refine fn_okD (N := N__law_numbers) (m := m__law_numbers) A.F sc__law_numbers rfl (by decide) (by decide) (by decide) fun g cdv Ar outer s H E hr hc0 hN hio => ?_
  have hc : g.c = c := hc0
  subst hc0
  have hK : K = g.c.K := T.hK.symm
  exact (ss_cons (s_set (ps_set (i := 1) sc__law_numbers.nd rfl (by first | exact .inl rfl | exact .inr rfl) (e_str (by decide +kernel) ⟨by decide, by decide⟩)) (by rw [hN]; decide) (not_io hio (by decide)))
  (ss_one (s_ret (e_lc (own := [("_law_one", 2)]) rfl sc__law_numbers.nd (i_str (e_var (pv 0))) (blkOk_by (own := [("_law_one", 2)]) (N := N__law_numbers) (sc := defScope s__law_numbers) (by decide +kernel)) (fun _ _ _ _ _ => pg_name (i := 2) sc__law_numbers.nd rfl (by first | exact .inl rfl | exact .inr rfl)) (fun _ _ _ _ _ => ts_nil) (fun _ _ _ _ _ => (e_add (e_add e_int (e_m PySem.F.slot_str_index PySem.F.type_str_index mt_sindex hs_sindex (o_var (pv 1)) (o_var (pv 2)))) (e_t1 call_intC hr_intC (by rfl) T.f_int (by decide +kernel) (o_e (e_cmp op_gt_str hr_gtS (o_var (pv 2)) (o_e (e_str (by decide +kernel) ⟨by decide, by decide⟩)) (nomark _)))))) (by decide) (comp_io hio (by decide)) (hg_name (by rw [hN]; decide) (not_io hio (by decide)))))))
theorem ok__law_line (T : Tx K mg c) {fa : Addr} {fd : FuncData} (A : At K mg "_law_line" s__law_line ["_law_line_here", "_law_is_last"] fa fd)
    {a__law_numbers : Addr} {fd__law_numbers : FuncData} (A__law_numbers : At K mg "_law_numbers" s__law_numbers ["_law_line_here"] a__law_numbers fd__law_numbers) (G__law_numbers : FnOk P w K mg base (L2.CX P w) 1 a__law_numbers fd__law_numbers ["_law_line_here"] (spM c 1 [] F__law_numbers)) :
    FnOk P w K mg base (L2.CX P w) 2 fa fd ["_law_line_here", "_law_is_last"] (spM c 2 [] F__law_line) := by
  refine fn_okD (N := N__law_line) (m := m__law_line) A.F sc__law_line rfl (by decide) (by decide) (by decide) fun g cdv Ar outer s H E hr hc0 hN hio => ?_
  have hc : g.c = c := hc0
  subst hc0
  have hK : K = g.c.K := T.hK.symm
  exact (ss_cons (s_set (ps_set (i := 2) sc__law_line.nd rfl (by first | exact .inl rfl | exact .inr rfl) (e_if (t_val (e_var (pv 1))) (e_var (pv 0)) (e_m PySem.F.slot_str_rstrip PySem.F.type_str_rstrip mt_rstripChars hs_rstrip (o_var (pv 0)) (o_e (e_str (by decide +kernel) ⟨by decide, by decide⟩))))) (by rw [hN]; decide) (not_io hio (by decide)))
  (ss_cons (s_set (ps_set (i := 3) sc__law_line.nd rfl (by first | exact .inl rfl | exact .inr rfl) (e_lst a_nil)) (by rw [hN]; decide) (not_io hio (by decide)))
  (ss_cons (s_set (ps_set (i := 4) sc__law_line.nd rfl (by first | exact .inl rfl | exact .inr rfl) e_int) (by rw [hN]; decide) (not_io hio (by decide)))
  (ss_cons (s_while (passes_of rfl) (t_cmp op_lt hr_int (o_var (pv 4)) (o_e (e_b1 call_len (hr_len hK) (by rfl) T.f_len (by decide +kernel) (o_var (pv 2)))) (nomark _))
  (ss_one (s_if (t_cmp (op_neD hr.units) (hq_ne hK) (o_e (e_idx (o_var (pv 2)) (e_var (pv 4)) hK)) (o_e (e_str (by decide +kernel) ⟨by decide, by decide⟩)) (nomark _))
  (ss_cons (s_set (ps_set (i := 3) sc__law_line.nd rfl (by first | exact .inl rfl | exact .inr rfl) (e_add (e_var (pv 3)) (e_call G__law_numbers (hr.mono (by decide)) (by rfl) A__law_numbers.g A__law_numbers.F.kp A__law_numbers.b (takes_of rfl rfl rfl rfl) (as_e (e_idx (o_var (pv 2)) (e_var (pv 4)) hK) as_nil) hc rfl rfl (by decide)))) (by rw [hN]; decide) (not_io hio (by decide)))
  (ss_one (s_set (ps_set (i := 4) sc__law_line.nd rfl (by first | exact .inl rfl | exact .inr rfl) (e_add (e_var (pv 4)) e_int)) (by rw [hN]; decide) (not_io hio (by decide)))))
  (ss_one (s_if (t_cmp (op_eqD hr.units) (hq_eq hK) (o_e (e_m PySem.F.slot_str_strip PySem.F.type_str_strip mt_stripChars hs_strip (o_e (e_slc (o_var (pv 2)) (p_some (e_add (e_var (pv 4)) e_int)) p_none hK.symm.symm)) (o_e (e_str (by decide +kernel) ⟨by decide, by decide⟩)))) (o_e (e_str (by decide +kernel) ⟨by decide, by decide⟩)) (nomark _))
  (ss_one (s_ret (e_tup (a_cons (e_move (pv 3)) (a_cons e_bl a_nil)))))
  (ss_cons (s_setLc (by rw [hN]; decide) (not_io hio (by decide)) (own := [("_law_one", 7)]) rfl sc__law_line.nd rfl rfl (sw_true rfl rfl rfl (by decide +kernel)) (i_str (e_m0 PySem.F.slot_str_lower PySem.F.type_str_lower mt_lower hs_lower (o_e (e_slc (o_var (pv 2)) (p_some (e_add (e_var (pv 4)) e_int)) (p_some (e_add (e_var (pv 4)) e_int)) hK.symm.symm)))) (blkOk_by (own := [("_law_one", 7)]) (N := N__law_line) (sc := defScope s__law_line) (by decide +kernel)) (fun _ _ _ _ _ => pg_name (i := 7) sc__law_line.nd rfl (by first | exact .inl rfl | exact .inr rfl)) (fun _ _ _ _ _ => ts_nil) (fun _ _ _ _ _ => (e_m PySem.F.slot_str_find PySem.F.type_str_find mt_find hs_find (o_e (e_str (by decide +kernel) ⟨by decide, by decide⟩)) (o_var (pv 7)))) (by decide) (comp_io hio (by decide)) (hg_name (by rw [hN]; decide) (not_io hio (by decide))))
  (ss_cons (s_if (t_cmp op_lt hr_int (o_e (e_idx (o_var (pv 5)) e_int hK)) (o_e e_int) (nomark _))
  (ss_cons (s_set (ps_set (i := 6) sc__law_line.nd rfl (by first | exact .inl rfl | exact .inr rfl) (e_sub (e_add (e_add (e_var (pv 4)) e_int) (e_b1 call_len (hr_len hK) (by rfl) T.f_len (by decide +kernel) (o_e (e_slc (o_var (pv 2)) (p_some (e_add (e_var (pv 4)) e_int)) p_none hK.symm.symm)))) (e_b1 call_len (hr_len hK) (by rfl) T.f_len (by decide +kernel) (o_e (e_m PySem.F.slot_str_lstrip PySem.F.type_str_lstrip mt_lstripChars hs_lstrip (o_e (e_slc (o_var (pv 2)) (p_some (e_add (e_var (pv 4)) e_int)) p_none hK.symm.symm)) (o_e (e_str (by decide +kernel) ⟨by decide, by decide⟩))))))) (by rw [hN]; decide) (not_io hio (by decide)))
  (ss_one (s_ret (e_tup (a_cons e_non (a_cons (e_move (pv 6)) a_nil))))))
  ss_nil)
  (ss_cons (s_if (PW.pt (w_or (t_cmp op_lt hr_int (o_e (e_b1 call_len (hr_len hK) (by rfl) T.f_len (by decide +kernel) (o_var (pv 5)))) (o_e e_int) (nomark _)) (pw_or1 (t_cmp op_lt hr_int (o_e (e_idx (o_var (pv 5)) e_int hK)) (o_e e_int) (nomark _)))))
  (ss_one (s_ret (e_tup (a_cons e_non (a_cons (e_add (e_move (pv 4)) e_int) a_nil)))))
  ss_nil)
  (ss_cons (s_expr (e_app hK (pe_bm PySem.F.plainAttrs_list PySem.F.slot_list_append PySem.F.type_list_append mt_append (pv 3) (a_cons (e_add (e_mul e_int (e_idx (o_var (pv 5)) e_int hK)) (e_idx (o_var (pv 5)) e_int hK)) a_nil))))
  (ss_one (s_set (ps_set (i := 4) sc__law_line.nd rfl (by first | exact .inl rfl | exact .inr rfl) (e_add (e_var (pv 4)) e_int)) (by rw [hN]; decide) (not_io hio (by decide)))))))))))))
  (ss_one (s_ret (e_tup (a_cons (e_move (pv 3)) (a_cons e_bl a_nil)))))))))
theorem ok__law_due (T : Tx K mg c) {fa : Addr} {fd : FuncData} (A : At K mg "_law_due" s__law_due ["_law_line_here"] fa fd)
    {a__law_line : Addr} {fd__law_line : FuncData} (A__law_line : At K mg "_law_line" s__law_line ["_law_line_here", "_law_is_last"] a__law_line fd__law_line) (G__law_line : FnOk P w K mg base (L2.CX P w) 2 a__law_line fd__law_line ["_law_line_here", "_law_is_last"] (spM c 2 [] F__law_line)) :
    FnOk P w K mg base (L2.CX P w) 3 fa fd ["_law_line_here"] (spM c 1 [] F__law_due) := by
  refine fn_okD (N := N__law_due) (m := m__law_due) A.F sc__law_due rfl (by decide) (by decide) (by decide) fun g cdv Ar outer s H E hr hc0 hN hio => ?_
  have hc : g.c = c := hc0
  subst hc0
  have hK : K = g.c.K := T.hK.symm
  exact (ss_cons (s_set (ps_set (i := 1) sc__law_due.nd rfl (by first | exact .inl rfl | exact .inr rfl) (e_mN PySem.F.slot_str_split PySem.F.type_str_split mt_split hs_split (o_var (pv 0)) (o_e (e_str (by decide +kernel) ⟨by decide, by decide⟩)))) (by rw [hN]; decide) (not_io hio (by decide)))
  (ss_cons (s_set (ps_set (i := 2) sc__law_due.nd rfl (by first | exact .inl rfl | exact .inr rfl) (e_lst a_nil)) (by rw [hN]; decide) (not_io hio (by decide)))
  (ss_cons (s_set (ps_set (i := 3) sc__law_due.nd rfl (by first | exact .inl rfl | exact .inr rfl) e_int) (by rw [hN]; decide) (not_io hio (by decide)))
  (ss_cons (s_for (passes_of rfl) rfl (i_enum hK (by rfl) T.f_enumerate (a_cons (e_var (pv 1)) a_nil)) (g_tupT rfl (gs_cons (g_name (pg_name (i := 4) sc__law_due.nd rfl (by first | exact .inl rfl | exact .inr rfl)) (by rw [hN]; decide) (not_io hio (by decide))) (gs_cons (g_name (pg_name (i := 5) sc__law_due.nd rfl (by first | exact .inl rfl | exact .inr rfl)) (by rw [hN]; decide) (not_io hio (by decide))) gs_nil)) hK)
  (ss_cons (s_asg (e_call G__law_line (hr.mono (by decide)) (by rfl) A__law_line.g A__law_line.F.kp A__law_line.b (takes_of rfl rfl rfl rfl) (as_p (pv 5) (as_e (e_cmp (op_eqD hr.units) (hq_eq hK) (o_var (pv 4)) (o_e (e_sub (e_b1 call_len (hr_len hK) (by rfl) T.f_len (by decide +kernel) (o_var (pv 1))) e_int)) (nomark _)) as_nil)) hc rfl rfl (by decide)) (g_tupT rfl (gs_cons (g_name (pg_name (i := 6) sc__law_due.nd rfl (by first | exact .inl rfl | exact .inr rfl)) (by rw [hN]; decide) (not_io hio (by decide))) (gs_cons (g_name (pg_name (i := 7) sc__law_due.nd rfl (by first | exact .inl rfl | exact .inr rfl)) (by rw [hN]; decide) (not_io hio (by decide))) gs_nil)) hK))
  (ss_cons (s_if (t_cmp op_isN hr_isN (o_var (pv 6)) (o_e e_non) (nomark _))
  (ss_one (s_ret (e_tup (a_cons (e_str (by decide +kernel) ⟨by decide, by decide⟩) (a_cons (e_add (e_move (pv 3)) (e_move (pv 7))) a_nil)))))
  ss_nil)
  (ss_cons (s_set (ps_set (i := 2) sc__law_due.nd rfl (by first | exact .inl rfl | exact .inr rfl) (e_add (e_var (pv 2)) (e_var (pv 6)))) (by rw [hN]; decide) (not_io hio (by decide)))
  (ss_cons (s_if (PW.pt (w_and (t_not (t_val (e_var (pv 7)))) (pw_and1 (t_cmp op_lt hr_int (o_var (pv 4)) (o_e (e_sub (e_b1 call_len (hr_len hK) (by rfl) T.f_len (by decide +kernel) (o_var (pv 1))) e_int)) (nomark _)))))
  (ss_one (s_expr (e_app hK (pe_bm PySem.F.plainAttrs_list PySem.F.slot_list_append PySem.F.type_list_append mt_append (pv 2) (a_cons e_int a_nil)))))
  ss_nil)
  (ss_one (s_set (ps_set (i := 3) sc__law_due.nd rfl (by first | exact .inl rfl | exact .inr rfl) (e_add (e_add (e_var (pv 3)) (e_b1 call_len (hr_len hK) (by rfl) T.f_len (by decide +kernel) (o_var (pv 5)))) e_int)) (by rw [hN]; decide) (not_io hio (by decide)))))))))
  (ss_cons (s_if (t_cmp (op_neD hr.units) (hq_ne hK) (o_e (e_idx (o_var (pv 1)) (e_neg e_int) hK)) (o_e (e_str (by decide +kernel) ⟨by decide, by decide⟩)) (nomark _))
  (ss_one (s_ret (e_tup (a_cons (e_str (by decide +kernel) ⟨by decide, by decide⟩) (a_cons (e_b1 call_len (hr_len hK) (by rfl) T.f_len (by decide +kernel) (o_var (pv 0))) a_nil)))))
  ss_nil)
  (ss_one (s_ret (e_tup (a_cons (e_str (by decide +kernel) ⟨by decide, by decide⟩) (a_cons (e_move (pv 2)) a_nil))))))))))
theorem ok__law_said (T : Tx K mg c) {fa : Addr} {fd : FuncData} (A : At K mg "_law_said" s__law_said ["_law_line_here", "_law_word"] fa fd)
    {a_read_by : Addr} {fd_read_by : FuncData} (A_read_by : At K mg "read_by" s_read_by ["text", "code"] a_read_by fd_read_by) (G_read_by : FnOk P w K mg base (L2.CX P w) 6 a_read_by fd_read_by ["text", "code"] (spM c 2 [] F_read_by)) :
    FnOk P w K mg base (L2.CX P w) 7 fa fd ["_law_line_here", "_law_word"] (spM c 2 [] F__law_said) := by
  refine fn_okD (N := N__law_said) (m := m__law_said) A.F sc__law_said rfl (by decide) (by decide) (by decide) fun g cdv Ar outer s H E hr hc0 hN hio => ?_
  have hc : g.c = c := hc0
  subst hc0
  have hK : K = g.c.K := T.hK.symm
  exact (ss_one (s_tryF rfl rfl sc__law_said.nd (i := 2) rfl rfl (by rfl) (by decide) T.g_NoCode (fun _ _ h => T.xt.exm' h) (by rw [hN]; decide) (not_io hio (by decide))
  (fun _ _ _ tk1 po1 => (ss_one (s_ret (e_tup (a_cons (e_str (by decide +kernel) ⟨by decide, by decide⟩) (a_cons (e_call G_read_by (hr.mono (by decide)) (by rfl) A_read_by.g A_read_by.F.kp A_read_by.b tk1 (as_e (e_move (pv 0)) (as_e (e_move (pv 1)) as_nil)) hc rfl rfl (by decide)) a_nil))))))
  (fun a1 _ _ _ _ hz1 hf1 x1 hx1 => (ss_one (s_ret (e_tup (a_cons (e_str (by decide +kernel) ⟨by decide, by decide⟩) (a_cons (e_idx (o_e (e_lst (a_cons (e_xf hz1 hf1 hx1.1 (T.xt.c _ (exT_all hx1.2).1).xf (T.xt.c _ (exT_all hx1.2).1).nA (by rfl) (pv 2)) (a_cons (e_neg e_int) a_nil)))) (e_t1 call_intC hr_intC (by rfl) T.f_int (by decide +kernel) (o_e (e_or (e_isX hz1 hf1 hx1.1 (T.xt.c _ (exT_all hx1.2).1) (fun _ h => T.xt.kit' h) T.f_isinstance (by rfl) T.g_NoOctets (pv 2)) (pe_one (e_not (e_isV hz1 hf1 hx1.1 (T.xt.c _ (exT_all hx1.2).1) T.f_isinstance (by rfl) T.f_ValueError (pv 2))))))) hK) a_nil))))))))
theorem ok_law (T : Tx K mg c) {fa : Addr} {fd : FuncData} (A : At K mg "law" s_law ["_law_script"] fa fd)
    {a__law_source : Addr} {fd__law_source : FuncData} (A__law_source : At K mg "_law_source" s__law_source ["_law_script", "_law_k"] a__law_source fd__law_source) (G__law_source : FnOk P w K mg base (L2.CX P w) 2 a__law_source fd__law_source ["_law_script", "_law_k"] (spM c 2 [] F__law_source))
    {a__law_loose : Addr} {fd__law_loose : FuncData} (A__law_loose : At K mg "_law_loose" s__law_loose ["_law_source_here", "_law_line_here"] a__law_loose fd__law_loose) (G__law_loose : FnOk P w K mg base (L2.CX P w) 3 a__law_loose fd__law_loose ["_law_source_here", "_law_line_here"] (spM c 2 [0] F__law_loose))
    {a__law_marks : Addr} {fd__law_marks : FuncData} (A__law_marks : At K mg "_law_marks" s__law_marks ["_law_eights"] a__law_marks fd__law_marks) (G__law_marks : FnOk P w K mg base (L2.CX P w) 3 a__law_marks fd__law_marks ["_law_eights"] (spM c 1 [] F__law_marks))
    {a__law_due : Addr} {fd__law_due : FuncData} (A__law_due : At K mg "_law_due" s__law_due ["_law_line_here"] a__law_due fd__law_due) (G__law_due : FnOk P w K mg base (L2.CX P w) 3 a__law_due fd__law_due ["_law_line_here"] (spM c 1 [] F__law_due))
    {a__law_said : Addr} {fd__law_said : FuncData} (A__law_said : At K mg "_law_said" s__law_said ["_law_line_here", "_law_word"] a__law_said fd__law_said) (G__law_said : FnOk P w K mg base (L2.CX P w) 7 a__law_said fd__law_said ["_law_line_here", "_law_word"] (spM c 2 [] F__law_said))
    {a__law_touched : Addr} {fd__law_touched : FuncData} (A__law_touched : At K mg "_law_touched" s__law_touched ["_law_source_here", "_law_line_here", "_law_signs"] a__law_touched fd__law_touched) (G__law_touched : FnOk P w K mg base (L2.CX P w) 3 a__law_touched fd__law_touched ["_law_source_here", "_law_line_here", "_law_signs"] (spM c 3 [0] F__law_touched))
    {a__law_row : Addr} {fd__law_row : FuncData} (A__law_row : At K mg "_law_row" s__law_row ["_law_source_here", "_law_most"] a__law_row fd__law_row) (G__law_row : FnOk P w K mg base (L2.CX P w) 3 a__law_row fd__law_row ["_law_source_here", "_law_most"] (spM c 2 [0] F__law_row)) :
    FnOk P w K mg base (L2.CX P w) 8 fa fd ["_law_script"] (spM c 1 [] F_law) := by
  refine fn_okD (N := N_law) (m := m_law) A.F sc_law rfl (by decide) (by decide) (by decide) fun g cdv Ar outer s H E hr hc0 hN hio => ?_
  have hc : g.c = c := hc0
  subst hc0
  have hK : K = g.c.K := T.hK.symm
  exact (ss_cons (s_set (ps_set (i := 1) sc_law.nd rfl (by first | exact .inl rfl | exact .inr rfl) (e_str (by decide +kernel) ⟨by decide, by decide⟩)) (by rw [hN]; decide) (not_io hio (by decide)))
  (ss_cons (s_for (passes_of rfl) rfl (i_range1 (by rfl) T.f_range (a_cons (e_b2 (call_max2 rfl) (by rfl) T.f_max (by decide +kernel) (a_cons e_int (a_cons (e_b2 (call_min2 rfl) (by rfl) T.f_min (by decide +kernel) (a_cons e_int (a_cons (e_b1 call_len (hr_len hK) (by rfl) T.f_len (by decide +kernel) (o_var (pv 0))) a_nil)) br_min) a_nil)) br_max) a_nil)) (g_name (pg_name (i := 2) sc_law.nd rfl (by first | exact .inl rfl | exact .inr rfl)) (by rw [hN]; decide) (not_io hio (by decide)))
  (ss_cons (s_set (ps_set (i := 3) sc_law.nd rfl (by first | exact .inl rfl | exact .inr rfl) (e_call G__law_source (hr.mono (by decide)) (by rfl) A__law_source.g A__law_source.F.kp A__law_source.b (takes_of rfl rfl rfl rfl) (as_p (pv 0) (as_p (pv 2) as_nil)) hc rfl rfl (by decide))) (by rw [hN]; decide) (not_io hio (by decide)))
  (ss_cons (s_set (ps_set (i := 4) sc_law.nd rfl (by first | exact .inl rfl | exact .inr rfl) (e_call G__law_loose (hr.mono (by decide)) (by rfl) A__law_loose.g A__law_loose.F.kp A__law_loose.b (takes_of rfl rfl rfl rfl) (as_s (pv 3) (as_e (e_call G__law_marks (hr.mono (by decide)) (by rfl) A__law_marks.g A__law_marks.F.kp A__law_marks.b (takes_of rfl rfl rfl rfl) (as_e (e_slc (o_e (e_call G__law_row (hr.mono (by decide)) (by rfl) A__law_row.g A__law_row.F.kp A__law_row.b (takes_of rfl rfl rfl rfl) (as_s (pv 3) (as_e e_int as_nil)) hc rfl rfl (by decide))) p_none (p_some e_int) hK.symm.symm) as_nil) hc rfl rfl (by decide)) as_nil)) hc rfl rfl (by decide))) (by rw [hN]; decide) (not_io hio (by decide)))
  (ss_cons (s_if (t_cmp (OpR.or op_notin_str op_notIn_seq) (hq_notin hK) (o_e (e_slc (o_var (pv 4)) (p_some (e_neg e_int)) p_none hK.symm.symm)) (o_e (e_lst (a_cons (e_str (by decide +kernel) ⟨by decide, by decide⟩) (a_cons (e_str (by decide +kernel) ⟨by decide, by decide⟩) a_nil)))) (by rfl))
  (ss_one (s_set (ps_set (i := 4) sc_law.nd rfl (by first | exact .inl rfl | exact .inr rfl) (e_add (e_var (pv 4)) (e_str (by decide +kernel) ⟨by decide, by decide⟩))) (by rw [hN]; decide) (not_io hio (by decide))))
  ss_nil)
  (ss_one (s_for (passes_of rfl) rfl (i_range1 (by rfl) T.f_range (a_cons e_int a_nil)) (g_name (pg_name (i := 5) sc_law.nd rfl (by first | exact .inl rfl | exact .inr rfl)) (by rw [hN]; decide) (not_io hio (by decide)))
  (ss_cons (s_set (ps_set (i := 6) sc_law.nd rfl (by first | exact .inl rfl | exact .inr rfl) (e_call G__law_due (hr.mono (by decide)) (by rfl) A__law_due.g A__law_due.F.kp A__law_due.b (takes_of rfl rfl rfl rfl) (as_p (pv 4) as_nil) hc rfl rfl (by decide))) (by rw [hN]; decide) (not_io hio (by decide)))
  (ss_cons (s_set (ps_set (i := 7) sc_law.nd rfl (by first | exact .inl rfl | exact .inr rfl) (e_call G__law_said (hr.mono (by decide)) (by rfl) A__law_said.g A__law_said.F.kp A__law_said.b (takes_of rfl rfl rfl rfl) (as_p (pv 4) (as_e (e_str (by decide +kernel) ⟨by decide, by decide⟩) as_nil)) hc rfl rfl (by decide))) (by rw [hN]; decide) (not_io hio (by decide)))
  (ss_cons (s_if (PW.pt (w_or (t_cmp (op_neD hr.units) (hq_ne hK) (o_var (pv 7)) (o_var (pv 6)) (nomark _)) (pw_or1 (t_cmp (op_neD hr.units) (hq_ne hK) (o_e (e_call G__law_said (hr.mono (by decide)) (by rfl) A__law_said.g A__law_said.F.kp A__law_said.b (takes_of rfl rfl rfl rfl) (as_p (pv 4) (as_e (e_str (by decide +kernel) ⟨by decide, by decide⟩) as_nil)) hc rfl rfl (by decide))) (o_var (pv 6)) (nomark _)))))
  (ss_one (s_ret e_bl))
  ss_nil)
  (ss_cons (s_if (PW.pt (w_and (t_cmp (op_eqD hr.units) (hq_eq hK) (o_e (e_idx (o_var (pv 7)) e_int hK)) (o_e (e_str (by decide +kernel) ⟨by decide, by decide⟩)) (nomark _)) (pw_and1 (t_not (t_val (e_isi (y := .list) (by decide +kernel) hK (by rfl) T.f_isinstance (by rfl) T.f_list (o_e (e_idx (o_var (pv 7)) e_int hK)) (by decide) (by decide)))))))
  (ss_one (s_ret e_bl))
  ss_nil)
  (ss_one (s_set (ps_set (i := 4) sc_law.nd rfl (by first | exact .inl rfl | exact .inr rfl) (e_call G__law_touched (hr.mono (by decide)) (by rfl) A__law_touched.g A__law_touched.F.kp A__law_touched.b (takes_of rfl rfl rfl rfl) (as_s (pv 3) (as_p (pv 4) (as_p (pv 1) as_nil))) hc rfl rfl (by decide))) (by rw [hN]; decide) (not_io hio (by decide))))))))))))))
  (ss_one (s_ret e_bl))))
end
end K43


namespace K43
open VS L2
theorem cell_ok (o : Ow) (ns : List Int) (k : Nat) : ∃ i : Int, F__law_cell_at [.lst o (ns.map D.int), .int k] = .ok (.int i) [] := by
  by_cases h : k < ns.length
  · refine ⟨ns[k], ?_⟩
    simp [F__law_cell_at, m__law_cell_at, h, atI_nn]
  · refine ⟨0, ?_⟩
    simp [F__law_cell_at, m__law_cell_at, h]
theorem mixed_ok (i k : Int) : ∃ r : Int, 0 ≤ r ∧ r < 2147483563 ∧ F__law_mixed [.int i, .int k] = .ok (.int r) [] := by
  have q1 : ∀ e : Int, (e % 2147483629).natAbs < 18446744073709551616 := by omega
  have q2 : ∀ e : Int, (e % 2147483587).natAbs < 18446744073709551616 := by omega
  refine ⟨_, ?_, ?_, by
    simp [F__law_mixed, m__law_mixed, q1, q2]
    rfl⟩
  · omega
  · omega
/-- a source of draws -/
def encS (s : Int × Int × Int) : D := .lst .own [.int s.1, .int s.2.1, .int s.2.2]
theorem source_ok (o : Ow) (ns : List Int) (k : Nat) : ∃ s, F__law_source [.lst o (ns.map D.int), .int k] = .ok (encS s) [] := by
  by_cases h : k < ns.length
  · refine ⟨(ns[k], ns[k], 0), ?_⟩
    cases o <;> simp [F__law_source, m__law_source, h, atI_nn, encS]
  · obtain ⟨i, hi⟩ := cell_ok (if o = .own then .shr else o) ns 0
    obtain ⟨r, h1, h2, hr⟩ := mixed_ok i (1000 + k)
    refine ⟨(r, r, 0), ?_⟩
    cases o <;> simp at hi <;> simp [F__law_source, m__law_source, h, hi, hr, encS]
theorem next_ok (s : Int × Int × Int) (m : Int) : ∃ r : Int × Int × Int × Int, (0 < m → m < 4611686018427387904 → (0 ≤ r.1 ∧ r.1 < m) ∧ F__law_next [encS s, .int m] = .ok (.int r.1) [encS r.2]) := by
  obtain ⟨a, b, c⟩ := s
  by_cases q : (1000000000000000000 : Int) ≤ a
  · refine ⟨(a % m, a / m, b, c), fun h h2 => ⟨⟨Int.emod_nonneg _ (by omega), Int.emod_lt_of_pos _ h⟩, ?_⟩⟩
    simp [F__law_next, m__law_next, q, h, h2, atI_s, L2.ixN, encS]
  · obtain ⟨r, h1, h2, hr⟩ := mixed_ok b (c + 1)
    refine ⟨(r % m, a, b, c + 1), fun h h2 => ⟨⟨Int.emod_nonneg _ (by omega), Int.emod_lt_of_pos _ h⟩, ?_⟩⟩
    simp [F__law_next, m__law_next, q, h, h2, atI_s, L2.ixN, hr, encS]
noncomputable def nx (s : Int × Int × Int) (m : Int) : Int := (next_ok s m).choose.1
noncomputable def sn (s : Int × Int × Int) (m : Int) : Int × Int × Int := (next_ok s m).choose.2
theorem next_f (s : Int × Int × Int) (m : Int) (h : 0 < m) (h2 : m < 4611686018427387904) : F__law_next [encS s, .int m] = .ok (.int (nx s m)) [encS (sn s m)] := ((next_ok s m).choose_spec h h2).2
theorem nx_nn (s : Int × Int × Int) (m : Int) (h : 0 < m) (h2 : m < 4611686018427387904) : 0 ≤ nx s m := ((next_ok s m).choose_spec h h2).1.1
theorem nx_lt (s : Int × Int × Int) (m : Int) (h : 0 < m) (h2 : m < 4611686018427387904) : nx s m < m := ((next_ok s m).choose_spec h h2).1.2

def isSg (x : Int) : Bool := (decide (32 ≤ x) && decide (x ≤ 126)) && !decide (x = 37)
theorem isSg_iff (x : Int) : isSg x = true ↔ 32 ≤ x ∧ x ≤ 126 ∧ x ≠ 37 := by
  simp [isSg, and_assoc]
theorem sig_at (x : Int) (h : isSg x = true) : atI k_SIGNS (x - 32 - (if 37 < x then 1 else 0)) = some x.toNat := by
  obtain ⟨h1, h2, h3⟩ := (isSg_iff x).1 h
  have key : ∀ n : Nat, n < 127 → 32 ≤ n → n ≠ 37 → k_SIGNS[n - 32 - (if 37 < n then 1 else 0)]? = some n ∧ n - 32 - (if 37 < n then 1 else 0) < 94 := by decide
  obtain ⟨n, rfl⟩ := Int.eq_ofNat_of_zero_le (show 0 ≤ x by omega)
  obtain ⟨k1, k2⟩ := key n (by omega) (by omega) (by omega)
  have e : ((n : Int) - 32 - (if 37 < (n : Int) then 1 else 0)) = ((n - 32 - (if 37 < n then 1 else 0) : Nat) : Int) := by
    by_cases q : 37 < n
    · have q' : 37 < (n : Int) := by omega
      rw [if_pos q, if_pos q']; omega
    · have q' : ¬ 37 < (n : Int) := by omega
      rw [if_neg q, if_neg q']; omega
  rw [e, atI_nn _ _ (by have : k_SIGNS.length = 94 := rfl; omega), k1]
  simp
theorem stepD_cons (lo c : Int) (n : Nat) : stepD lo c (n + 1) = D.int lo :: stepD (lo + c) c n := by
  unfold stepD
  rw [List.range_succ_eq_map, List.map_cons, List.map_map]
  congr 1
  · simp
  · apply List.map_congr_left
    intro k _
    simp [Function.comp_def, Int.add_mul]
    omega
def Oct (x : Int) : Prop := 0 ≤ x ∧ x ≤ 255
def S6 (i : Int) : Nat := k_SIX.getD i.toNat 0
theorem s6_at (i : Int) (h : 0 ≤ i ∧ i < 64) : atI k_SIX i = some (S6 i) := by
  obtain ⟨n, rfl⟩ := Int.eq_ofNat_of_zero_le h.1
  have hl : k_SIX.length = 64 := rfl
  rw [atI_nn _ _ (by omega)]
  unfold S6
  have : n < k_SIX.length := by omega
  simp [this]
def six : List Int → List Nat
  | [] => []
  | [a] => [S6 (a / 4), S6 (a % 4 * 16), 61, 61]
  | [a, b] => [S6 (a / 4), S6 (a % 4 * 16 + b / 16), S6 (b % 16 * 4), 61]
  | a :: b :: c :: r => [S6 (a / 4), S6 (a % 4 * 16 + b / 16), S6 (b % 16 * 4 + c / 64), S6 (c % 64)] ++ six r
def bX : Cm Out := (mSeq (mSet 3 (mSlc (.v 0) (some (mVar 2)) (some (mBin addD (mVar 2) (mC (.int 3))))))
  (mSeq (mAsg (mBin addD (mVar 3) (mBin mulD (mLst [(mC (.int 0))]) (mBin subD (mC (.int 3)) (mP1 lenD (.v 3))))) (mTupL [(mPut 4), (mPut 5), (mPut 6)]))
  (mSeq (mSet 7 (mBin addD (mBin addD (mBin mulD (mC (.int 65536)) (mVar 4)) (mBin mulD (mC (.int 256)) (mVar 5))) (mVar 6)))
  (mSeq (mSet 8 (mLst [(mBin fdivD (mVar 7) (mC (.int 262144))), (mBin modD (mBin fdivD (mVar 7) (mC (.int 4096))) (mC (.int 64))), (mBin modD (mBin fdivD (mVar 7) (mC (.int 64))) (mC (.int 64))), (mBin modD (mVar 7) (mC (.int 64)))]))
  (mAug augA 1 (mBin addD (mM joinD (.e (mC (.str []))) (.e (mLc (mItemsL (mSlc (.v 8) none (some (mBin addD (mP1 lenD (.v 3)) (mC (.int 1)))))) (mPut 9) mYes (mIdx (.e (mC (.str k_SIX))) (mVar 9)) [9]))) (mBin mulD (mC (.str [61])) (mBin subD (mC (.int 3)) (mP1 lenD (.v 3))))))))))
theorem lc6 (x0 x1 x2 x3 x4 x5 x6 x7 x8 : Option D) : ∀ (is : List Int), (∀ i ∈ is, 0 ≤ i ∧ i < 64) → lcL (mPut 9) mYes (mIdx (.e (mC (.str k_SIX))) (mVar 9)) [9] (is.map D.int) [x0, x1, x2, x3, x4, x5, x6, x7, x8, none] = .ok ((is.map S6).map fun c => D.str [c]) [x0, x1, x2, x3, x4, x5, x6, x7, x8, none]
  | [], _ => rfl
  | i :: is, h => by
    have a := s6_at i (h i (by simp))
    have ih := lc6 x0 x1 x2 x3 x4 x5 x6 x7 x8 is (fun j hj => h j (by simp [hj]))
    simp only [List.map_cons, lcL, mPut_, R.bind_ok, List.set_cons_succ, List.set_cons_zero, mYes_, if_true]
    have e : mIdx (.e (mC (.str k_SIX))) (mVar 9) [x0, x1, x2, x3, x4, x5, x6, x7, x8, some (D.int i)] = .ok (.str [S6 i]) [x0, x1, x2, x3, x4, x5, x6, x7, x8, some (D.int i)] := by
      generalize k_SIX = K at *
      simp [a]
    rw [e]
    have w : wipeD [x0, x1, x2, x3, x4, x5, x6, x7, x8, some (D.int i)] [9] = [x0, x1, x2, x3, x4, x5, x6, x7, x8, none] := rfl
    simp only [R.bind_ok, w]
    rw [show (is.map fun i => D.int i) = is.map D.int from rfl] at *
    rw [ih]
    rfl
def Z9 (x9 : Option D) : Prop := x9 = none ∨ ∃ i : Int, x9 = some (.int i)
theorem bX3 (o : Ow) (ho : o = .shr ∨ o = .frz ∨ o = .stc) (pre r : List Int) (a b c : Int) (ha : Oct a) (hb : Oct b) (hc : Oct c) (f : List Nat) (hf : f.length ≤ 10000) (octs : List Int) (he : octs = pre ++ a :: b :: c :: r) (x3 x4 x5 x6 x7 x8 : Option D) :
    ∃ y3 y4 y5 y6 y7 y8, bX [some (.lst o (octs.map D.int)), some (.str f), some (.int pre.length), x3, x4, x5, x6, x7, x8, none] = .ok .nx [some (.lst o (octs.map D.int)), some (.str (f ++ [S6 (a / 4), S6 (a % 4 * 16 + b / 16), S6 (b % 16 * 4 + c / 64), S6 (c % 64)])), some (.int pre.length), y3, y4, y5, y6, y7, y8, none] := by
  obtain ⟨ha1, ha2⟩ := ha
  obtain ⟨hb1, hb2⟩ := hb
  obtain ⟨hc1, hc2⟩ := hc
  have ct : cutL octs (some (pre.length : Int)) (some ((pre.length : Int) + 3)) = [a, b, c] := by
    have := cut_mid octs pre.length (pre.length + 3) (by omega) (by subst he; simp)
    rw [Int.natCast_add] at this
    subst he
    simpa using this
  have e1 : (65536 * a + 256 * b + c) / 262144 = a / 4 := by omega
  have e2 : (65536 * a + 256 * b + c) / 4096 % 64 = a % 4 * 16 + b / 16 := by omega
  have e3 : (65536 * a + 256 * b + c) / 64 % 64 = b % 16 * 4 + c / 64 := by omega
  have e4 : (65536 * a + 256 * b + c) % 64 = c % 64 := by omega
  have l := fun x0 x1 x2 x3 x4 x5 x6 x7 x8 => lc6 x0 x1 x2 x3 x4 x5 x6 x7 x8 [a / 4, a % 4 * 16 + b / 16, b % 16 * 4 + c / 64, c % 64] (by simp; omega)
  have j := fun o => join_signs o [S6 (a / 4), S6 (a % 4 * 16 + b / 16), S6 (b % 16 * 4 + c / 64), S6 (c % 64)] (by simp)
  have c4 : ∀ w x y z : D, cutL [w, x, y, z] none (some 4) = [w, x, y, z] := fun w x y z => by
    have := cut_take [w, x, y, z] 4 (by simp)
    simpa using this
  simp at l j
  have z1 : f.length + 4 ≤ 16777216 := by omega
  rcases ho with rfl | rfl | rfl <;> exact ⟨_, _, _, _, _, _, by
    simp [bX, cutL_map, ct, mTupL, Ds.pur_all, e1, e2, e3, e4, saved, wipeD, restD, l, j, c4, z1]; exact ⟨rfl, rfl, rfl, rfl, rfl, rfl⟩⟩
theorem bX2 (o : Ow) (ho : o = .shr ∨ o = .frz ∨ o = .stc) (pre : List Int) (a b : Int) (ha : Oct a) (hb : Oct b) (f : List Nat) (hf : f.length ≤ 10000) (octs : List Int) (he : octs = pre ++ a :: b :: []) (x3 x4 x5 x6 x7 x8 : Option D) :
    ∃ y3 y4 y5 y6 y7 y8, bX [some (.lst o (octs.map D.int)), some (.str f), some (.int pre.length), x3, x4, x5, x6, x7, x8, none] = .ok .nx [some (.lst o (octs.map D.int)), some (.str (f ++ [S6 (a / 4), S6 (a % 4 * 16 + b / 16), S6 (b % 16 * 4), 61])), some (.int pre.length), y3, y4, y5, y6, y7, y8, none] := by
  obtain ⟨ha1, ha2⟩ := ha
  obtain ⟨hb1, hb2⟩ := hb
  have ct : cutL octs (some (pre.length : Int)) (some ((pre.length : Int) + 3)) = [a, b] := by
    subst he
    unfold cutL
    have e : (pre.length : Int) + 3 = ((pre.length + 3 : Nat) : Int) := by omega
    rw [e, HT.sIx_nat, HT.sIx_nat]
    simp
  have e1 : (65536 * a + 256 * b) / 262144 = a / 4 := by omega
  have e2 : (65536 * a + 256 * b) / 4096 % 64 = a % 4 * 16 + b / 16 := by omega
  have e3 : (65536 * a + 256 * b) / 64 % 64 = b % 16 * 4 := by omega
  have e4 : (65536 * a + 256 * b) % 64 = 0 := by omega
  have l := fun x0 x1 x2 x3 x4 x5 x6 x7 x8 => lc6 x0 x1 x2 x3 x4 x5 x6 x7 x8 [a / 4, a % 4 * 16 + b / 16, b % 16 * 4] (by simp; omega)
  have j := fun o => join_signs o [S6 (a / 4), S6 (a % 4 * 16 + b / 16), S6 (b % 16 * 4)] (by simp)
  have c4 : ∀ w x y z : D, cutL [w, x, y, z] none (some 3) = [w, x, y] := fun w x y z => by
    have := cut_take [w, x, y, z] 3 (by simp)
    simpa using this
  simp at l j
  have z1 : f.length + 4 ≤ 16777216 := by omega
  rcases ho with rfl | rfl | rfl <;> exact ⟨_, _, _, _, _, _, by
    simp [bX, cutL_map, ct, mTupL, Ds.pur_all, e1, e2, e3, e4, saved, wipeD, restD, l, j, c4, z1]; exact ⟨rfl, rfl, rfl, rfl, rfl, rfl⟩⟩
theorem bX1 (o : Ow) (ho : o = .shr ∨ o = .frz ∨ o = .stc) (pre : List Int) (a : Int) (ha : Oct a) (f : List Nat) (hf : f.length ≤ 10000) (octs : List Int) (he : octs = pre ++ a :: []) (x3 x4 x5 x6 x7 x8 : Option D) :
    ∃ y3 y4 y5 y6 y7 y8, bX [some (.lst o (octs.map D.int)), some (.str f), some (.int pre.length), x3, x4, x5, x6, x7, x8, none] = .ok .nx [some (.lst o (octs.map D.int)), some (.str (f ++ [S6 (a / 4), S6 (a % 4 * 16), 61, 61])), some (.int pre.length), y3, y4, y5, y6, y7, y8, none] := by
  obtain ⟨ha1, ha2⟩ := ha
  have ct : cutL octs (some (pre.length : Int)) (some ((pre.length : Int) + 3)) = [a] := by
    subst he
    unfold cutL
    have e : (pre.length : Int) + 3 = ((pre.length + 3 : Nat) : Int) := by omega
    rw [e, HT.sIx_nat, HT.sIx_nat]
    simp
  have e1 : (65536 * a) / 262144 = a / 4 := by omega
  have e2 : (65536 * a) / 4096 % 64 = a % 4 * 16 := by omega
  have e3 : (65536 * a) / 64 % 64 = 0 := by omega
  have e4 : (65536 * a) % 64 = 0 := by omega
  have l := fun x0 x1 x2 x3 x4 x5 x6 x7 x8 => lc6 x0 x1 x2 x3 x4 x5 x6 x7 x8 [a / 4, a % 4 * 16] (by simp; omega)
  have j := fun o => join_signs o [S6 (a / 4), S6 (a % 4 * 16)] (by simp)
  have c4 : ∀ w x y z : D, cutL [w, x, y, z] none (some 2) = [w, x] := fun w x y z => by
    have := cut_take [w, x, y, z] 2 (by simp)
    simpa using this
  simp at l j
  have z1 : f.length + 4 ≤ 16777216 := by omega
  rcases ho with rfl | rfl | rfl <;> exact ⟨_, _, _, _, _, _, by
    simp [bX, cutL_map, ct, mTupL, Ds.pur_all, e1, e2, e3, e4, saved, wipeD, restD, l, j, c4, z1]; exact ⟨rfl, rfl, rfl, rfl, rfl, rfl⟩⟩
theorem six_loop (o : Ow) (ho : o = .shr ∨ o = .frz ∨ o = .stc) (octs : List Int) : ∀ (rest pre : List Int) (f : List Nat) (x2 x3 x4 x5 x6 x7 x8 : Option D), (∀ x ∈ rest, Oct x) → f.length + 2 * rest.length + 4 ≤ 10000 → octs = pre ++ rest →
    ∃ y2 y3 y4 y5 y6 y7 y8, forL (mPut 2) bX (stepD pre.length 3 ((rest.length + 2) / 3)) [some (.lst o (octs.map D.int)), some (.str f), x2, x3, x4, x5, x6, x7, x8, none] = .ok .nx [some (.lst o (octs.map D.int)), some (.str (f ++ six rest)), y2, y3, y4, y5, y6, y7, y8, none]
  | [], pre, f, x2, x3, x4, x5, x6, x7, x8, h, hl, he => ⟨x2, x3, x4, x5, x6, x7, x8, by simp [stepD, forL, six]⟩
  | [a], pre, f, x2, x3, x4, x5, x6, x7, x8, h, hl, he => by
    obtain ⟨y3, y4, y5, y6, y7, y8, e⟩ := bX1 o ho pre a (h a (by simp)) f (by omega) octs he x3 x4 x5 x6 x7 x8
    refine ⟨some (.int pre.length), y3, y4, y5, y6, y7, y8, ?_⟩
    have hn : (([a] : List Int).length + 2) / 3 = 0 + 1 := by simp
    rw [hn, stepD_cons]
    simp [forL, stepD, e, six]
  | [a, b], pre, f, x2, x3, x4, x5, x6, x7, x8, h, hl, he => by
    obtain ⟨y3, y4, y5, y6, y7, y8, e⟩ := bX2 o ho pre a b (h a (by simp)) (h b (by simp)) f (by omega) octs he x3 x4 x5 x6 x7 x8
    refine ⟨some (.int pre.length), y3, y4, y5, y6, y7, y8, ?_⟩
    have hn : (([a, b] : List Int).length + 2) / 3 = 0 + 1 := by simp
    rw [hn, stepD_cons]
    simp [forL, stepD, e, six]
  | a :: b :: c :: r, pre, f, x2, x3, x4, x5, x6, x7, x8, h, hl, he => by
    obtain ⟨y3, y4, y5, y6, y7, y8, e⟩ := bX3 o ho pre r a b c (h a (by simp)) (h b (by simp)) (h c (by simp)) f (by omega) octs he x3 x4 x5 x6 x7 x8
    simp at hl
    obtain ⟨z2, z3, z4, z5, z6, z7, z8, e2⟩ := six_loop o ho octs r (pre ++ [a, b, c]) (f ++ [S6 (a / 4), S6 (a % 4 * 16 + b / 16), S6 (b % 16 * 4 + c / 64), S6 (c % 64)]) (some (.int pre.length)) y3 y4 y5 y6 y7 y8 (fun x hx => h x (by simp [hx])) (by simp; omega) (by rw [he]; simp)
    refine ⟨z2, z3, z4, z5, z6, z7, z8, ?_⟩
    have hn : ((a :: b :: c :: r).length + 2) / 3 = (r.length + 2) / 3 + 1 := by simp; omega
    have hp : ((pre ++ [a, b, c]).length : Int) = (pre.length : Int) + 3 := by simp
    rw [hp] at e2
    rw [hn, stepD_cons]
    simp only [forL, mPut_, R.bind_ok, List.set_cons_succ, List.set_cons_zero, e]
    rw [e2]
    simp [six]
theorem six_len : ∀ l : List Int, (six l).length ≤ 2 * l.length + 2
  | [] => by simp [six]
  | [a] => by simp [six]
  | [a, b] => by simp [six]
  | a :: b :: c :: r => by have := six_len r; simp [six]; omega
theorem r6 (o : Ow) (octs : List Int) (hl : octs.length ≤ 2000) : mRange3 (mC (.int 0)) (mP1 lenD (.v 0)) (mC (.int 3)) [some (.lst o (octs.map D.int)), some (.str []), none, none, none, none, none, none, none, none] = .ok (stepD 0 3 ((octs.length + 2) / 3)) [some (.lst o (octs.map D.int)), some (.str []), none, none, none, none, none, none, none, none] :=
    range3_ok (n := octs.length) (c := 3) (N := (octs.length + 2) / 3) rfl (by simp) rfl (by decide) (by decide) (Nat.le_trans hl (by decide)) (by rw [show octs.length + 3 - 1 = octs.length + 2 by omega])
theorem e6 (o : Ow) (ho : o = .shr ∨ o = .frz ∨ o = .stc) (octs : List Int) (h : ∀ x ∈ octs, Oct x) (hl : octs.length ≤ 2000) : ∃ y2 y3 y4 y5 y6 y7 y8, forL (mPut 2) bX (stepD 0 3 ((octs.length + 2) / 3)) [some (.lst o (octs.map D.int)), some (.str []), none, none, none, none, none, none, none, none] = .ok .nx [some (.lst o (octs.map D.int)), some (.str (six octs)), y2, y3, y4, y5, y6, y7, y8, none] :=
  six_loop o ho octs octs [] [] none none none none none none none h (by rw [List.length_nil]; omega) rfl
theorem eC (o : Ow) (ho : o = .shr ∨ o = .frz ∨ o = .stc) (octs : List Int) (h : ∀ x ∈ octs, Oct x) (hl : ([] : List Nat).length + 2 * octs.length + 4 ≤ 10000) : ∃ y2 y3 y4 y5 y6 y7 y8, forL (mPut 2) bX (stepD (([] : List Int).length : Nat) 3 ((octs.length + 2) / 3)) [some (.lst o (octs.map D.int)), some (.str []), none, none, none, none, none, none, none, none] = .ok .nx [some (.lst o (octs.map D.int)), some (.str ([] ++ six octs)), y2, y3, y4, y5, y6, y7, y8, none] :=
  six_loop o ho octs octs [] [] none none none none none none none h hl (List.nil_append octs).symm
theorem eC2 (o : Ow) (ho : o = .shr ∨ o = .frz ∨ o = .stc) (octs : List Int) (h : ∀ x ∈ octs, Oct x) (hl : ([] : List Nat).length + 2 * octs.length + 4 ≤ 10000) : ∃ y2 y3 y4 y5 y6 y7 y8, forL (mPut 2) bX (stepD 0 3 ((octs.length + 2) / 3)) [some (.lst o (octs.map D.int)), some (.str []), none, none, none, none, none, none, none, none] = .ok .nx [some (.lst o (octs.map D.int)), some (.str (six octs)), y2, y3, y4, y5, y6, y7, y8, none] := by
  have e := eC o ho octs h hl
  have h0 : ((([] : List Int).length : Nat) : Int) = 0 := rfl
  rw [h0, List.nil_append] at e
  exact e
theorem six_core (o : Ow) (ho : o = .shr ∨ o = .frz ∨ o = .stc) (xs : List D) (hx : xs.map D.fz = xs) (S : List Nat) (L : List D) (M : Cm (List D)) (y2 y3 y4 y5 y6 y7 y8 : Option D)
    (r : M [some (.lst o xs), some (.str []), none, none, none, none, none, none, none, none] = .ok L [some (.lst o xs), some (.str []), none, none, none, none, none, none, none, none])
    (e : forL (mPut 2) bX L [some (.lst o xs), some (.str []), none, none, none, none, none, none, none, none] = .ok .nx [some (.lst o xs), some (.str S), y2, y3, y4, y5, y6, y7, y8, none]) :
    runF 10 [] (mSeq (mSet 1 (mC (.str []))) (mSeq (mFor M (mPut 2) bX) (mRet (mMove 1)))) [.lst o xs] = .ok (.str S) [] := by
  rcases ho with rfl | rfl | rfl <;> simp [r, e]
theorem eB (octs : List Int) (hl : octs.length ≤ 2000) : ([] : List Nat).length + 2 * octs.length + 4 ≤ 10000 := by
  have : 2 * octs.length ≤ 4000 := Nat.mul_le_mul_left 2 hl
  exact Nat.le_trans (Nat.add_le_add_right (Nat.le_trans (Nat.le_of_eq (Nat.zero_add _)) this) 4) (by decide)
def H16 (i : Int) : Nat := k_SIXTEEN.getD i.toNat 0
theorem h16_at (i : Int) (h : 0 ≤ i ∧ i < 16) : atI k_SIXTEEN i = some (H16 i) := by
  obtain ⟨n, rfl⟩ := Int.eq_ofNat_of_zero_le h.1
  have hl : k_SIXTEEN.length = 16 := rfl
  rw [atI_nn _ _ (by omega)]
  unfold H16
  have : n < k_SIXTEEN.length := by omega
  simp [this]
theorem num_tab : ∀ n : Nat, n < 127 → 32 ≤ n → n ≠ 37 → n ≠ 10 ∧ n ∈ k_SIGNS ∧ (32 + idxC n k_SIGNS + (if 4 < idxC n k_SIGNS then 1 else 0) = n) := by decide +kernel
theorem number_ok (n : Nat) (h : isSg (n : Int) = true) : F_number_of [.str [n]] = .ok (.int (n : Int)) [] := by
  rw [isSg_iff] at h
  obtain ⟨h1, h2, h3⟩ := num_tab n (by omega) (by omega) (by omega)
  have si : sindexM (.str k_SIGNS) (.str [n]) = some (.int ((idxC n k_SIGNS : Nat) : Int)) := by
    show (if n ∈ k_SIGNS then some (Sc.int ((idxC n k_SIGNS : Nat) : Int)) else none) = _
    rw [if_pos h2]
  have h3 : 32 + idxC n k_SIGNS + (if 4 < idxC n k_SIGNS then 1 else 0) = n := h3
  generalize idxC n k_SIGNS = i at *
  by_cases q : 4 < i
  · rw [if_pos q] at h3
    simp [F_number_of, m_number_of, h1, si, q]
    omega
  · rw [if_neg q] at h3
    simp [F_number_of, m_number_of, h1, si, q]
    omega
theorem H16_find : ∀ n : Nat, n < 16 → findM (.str k_SIXTEEN) (.str [H16 (n : Int)]) = some (.int (n : Int)) := by decide +kernel
theorem h16f (i : Int) (h : 0 ≤ i ∧ i < 16) : findM (.str k_SIXTEEN) (.str [H16 i]) = some (.int i) := by
  obtain ⟨n, rfl⟩ := Int.eq_ofNat_of_zero_le h.1
  exact H16_find n (by omega)
end K43


namespace K43
open VS L2
def Fr (c : Nat) : Prop := c ≠ 32 ∧ c ≠ 10
instance (c : Nat) : Decidable (Fr c) := inferInstanceAs (Decidable (_ ∧ _))
instance (c : Nat) : Decidable (Fr c) := inferInstanceAs (Decidable (_ ∧ _))
theorem getD_fr (l : List Nat) (h : ∀ c ∈ l, Fr c) (i : Nat) : Fr (l.getD i 0) := by
  rw [List.getD_eq_getElem?_getD]
  cases e : l[i]? with
  | none => exact ⟨by decide, by decide⟩
  | some c => exact h c (List.mem_of_getElem? e)
theorem H16_fr (i : Int) : Fr (H16 i) := getD_fr k_SIXTEEN (by decide) _
def flat (l : List (List Nat)) : List Nat := l.flatMap fun x => x ++ [10]
theorem split_flat : ∀ ls : List (List Nat), (∀ l ∈ ls, 10 ∉ l) → splitC 10 (flat ls) = ls ++ [[]]
  | [], _ => rfl
  | l :: ls, h => by
    have ih := split_flat ls fun x m => h x (by simp [m])
    have e : flat (l :: ls) = l ++ 10 :: flat ls := by simp [flat]
    rw [e, splitC_cons 10 l _ (h l (by simp)), ih]
    rfl
theorem flat_len (ls : List (List Nat)) : (flat ls).length = ls.flatten.length + ls.length := by
  induction ls with
  | nil => rfl
  | cons l ls ih =>
    simp [flat] at ih ⊢
    omega
theorem cut_last {α : Type} (xs : List α) (x : α) : cutL (xs ++ [x]) none (some (-1)) = xs := by
  have e : HT.sIx (xs ++ [x]).length (xs ++ [x]).length (some (-1)) = xs.length := by
    have : (-1 : Int) = -((1 : Nat) : Int) := rfl
    simp [HT.sIx]
    omega
  unfold cutL
  rw [e, HT.sIx_none]
  simp
/-- how an octet is written by marks, told the next one (10 where there is none) -/
def un (x y : Int) : List Nat := if x = 32 ∧ y ≠ 10 then [32] else if x ≠ 32 ∧ x ≠ 61 ∧ isSg x = true then [x.toNat] else [61, H16 (x / 16), H16 (x % 16)]
def hd : List Int → Int
  | [] => 10
  | x :: _ => x
theorem un_len (x y : Int) : 1 ≤ (un x y).length ∧ (un x y).length ≤ 3 := by unfold un; split; simp; split <;> simp
theorem un_10 (x y : Int) : 10 ∉ un x y := by
  unfold un
  split
  · simp
  · split
    · rename_i q
      have := (isSg_iff x).1 q.2.2
      simp
      omega
    · have a := (H16_fr (x / 16)).2
      have b := (H16_fr (x % 16)).2
      simp [Ne.symm a, Ne.symm b]
/-- the text from a place on, the line so far of n signs -/
def Sx : Nat → List Int → List Nat
  | n, [] => if n = 0 then [] else [61, 10]
  | n, x :: xs => if x = 10 then 10 :: Sx 0 xs else if 72 ≤ n + (un x (hd xs)).length then [61, 10] ++ (un x (hd xs) ++ Sx (un x (hd xs)).length xs) else un x (hd xs) ++ Sx (n + (un x (hd xs)).length) xs
def mkF : List (List Nat) → List Nat → List Int → List (List Nat) × List Nat
  | fd, r, [] => (fd, r)
  | fd, r, x :: xs => if x = 10 then mkF (fd ++ [r]) [] xs else if 72 ≤ r.length + (un x (hd xs)).length then mkF (fd ++ [r ++ [61]]) (un x (hd xs)) xs else mkF fd (r ++ un x (hd xs)) xs
def endR (r : List Nat) : List (List Nat) := if r = [] then [] else [r ++ [61]]
theorem flat_app (a b : List (List Nat)) : flat (a ++ b) = flat a ++ flat b := by simp [flat]
theorem flat_one (r : List Nat) : flat [r] = r ++ [10] := by simp [flat]
theorem mk_text : ∀ (l : List Int) (fd : List (List Nat)) (r : List Nat), flat ((mkF fd r l).1 ++ endR (mkF fd r l).2) = flat fd ++ (r ++ Sx r.length l)
  | [], fd, r => by
    rw [mkF, flat_app]
    unfold endR Sx
    by_cases q : r = []
    · subst q; simp [flat]
    · have : r.length ≠ 0 := fun h => q (List.length_eq_zero_iff.1 h)
      rw [if_neg q, if_neg this, flat_one]
      simp
  | x :: xs, fd, r => by
    rw [mkF, Sx]
    split
    · rw [mk_text xs (fd ++ [r]) [], flat_app, flat_one]
      simp
    · split
      · rw [mk_text xs (fd ++ [r ++ [61]]) _, flat_app, flat_one]
        simp
      · rw [mk_text xs fd _]
        simp
theorem mk_rows : ∀ (l : List Int) (fd : List (List Nat)) (r : List Nat), (∀ w ∈ fd, w.length ≤ 72 ∧ 10 ∉ w) → r.length ≤ 71 → 10 ∉ r → (∀ w ∈ (mkF fd r l).1, w.length ≤ 72 ∧ 10 ∉ w) ∧ (mkF fd r l).2.length ≤ 71 ∧ 10 ∉ (mkF fd r l).2
  | [], fd, r, h1, h2, h3 => ⟨h1, h2, h3⟩
  | x :: xs, fd, r, h1, h2, h3 => by
    have ul := un_len x (hd xs)
    have u10 := un_10 x (hd xs)
    rw [mkF]
    split
    · refine mk_rows xs _ _ (fun w hw => ?_) (by simp) (by simp)
      rcases List.mem_append.1 hw with hw | hw
      · exact h1 w hw
      · rw [List.mem_singleton] at hw; subst hw; exact ⟨by omega, h3⟩
    · split
      · refine mk_rows xs _ _ (fun w hw => ?_) (by omega) u10
        rcases List.mem_append.1 hw with hw | hw
        · exact h1 w hw
        · rw [List.mem_singleton] at hw; subst hw; exact ⟨by simp; omega, by simp [h3]⟩
      · refine mk_rows xs _ _ h1 (by rw [List.length_append]; omega) (by simp [h3, u10])
theorem mk_size : ∀ (l : List Int) (fd : List (List Nat)) (r : List Nat), (mkF fd r l).1.length ≤ fd.length + l.length
  | [], fd, r => by simp [mkF]
  | x :: xs, fd, r => by
    rw [mkF]
    split
    · have := mk_size xs (fd ++ [r]) []; simp at this ⊢; omega
    · split
      · have := mk_size xs (fd ++ [r ++ [61]]) (un x (hd xs)); simp at this ⊢; omega
      · have := mk_size xs fd (r ++ un x (hd xs)); simp at this ⊢; omega
def rowsOf (l : List Int) : List (List Nat) := (mkF [] [] l).1 ++ endR (mkF [] [] l).2
def mkT (l : List Int) : List Nat := flat (rowsOf l)
theorem mkT_Sx (l : List Int) : mkT l = Sx 0 l := by
  have := mk_text l [] []
  simpa [mkT, rowsOf, flat] using this
theorem rows_good (l : List Int) : ∀ w ∈ rowsOf l, w.length ≤ 72 ∧ 10 ∉ w := by
  obtain ⟨h1, h2, h3⟩ := mk_rows l [] [] (by simp) (by simp) (by simp)
  intro w hw
  rcases List.mem_append.1 hw with hw | hw
  · exact h1 w hw
  · unfold endR at hw
    split at hw
    · simp at hw
    · rw [List.mem_singleton] at hw
      subst hw
      exact ⟨by simp; omega, by simp [h3]⟩
theorem rows_size (l : List Int) : (rowsOf l).length ≤ l.length + 1 := by
  have := mk_size l [] []
  unfold rowsOf endR
  split <;> simp at this ⊢ <;> omega
theorem flat_size (ls : List (List Nat)) (n : Nat) (h : ∀ w ∈ ls, w.length ≤ n) : (flat ls).length ≤ (n + 1) * ls.length := by
  induction ls with
  | nil => simp [flat]
  | cons w ls ih =>
    have a := h w (by simp)
    have b := ih fun x hx => h x (by simp [hx])
    have e : flat (w :: ls) = w ++ [10] ++ flat ls := by simp [flat]
    have d : (n + 1) * (w :: ls).length = (n + 1) * ls.length + (n + 1) := by rw [List.length_cons, Nat.mul_succ]
    rw [e, List.length_append, List.length_append, d]
    simp
    omega
theorem mkT_len (l : List Int) (h : l.length ≤ 1000) : (mkT l).length ≤ 73 * 1001 := by
  have a := flat_size (rowsOf l) 72 fun w hw => (rows_good l w hw).1
  have b := rows_size l
  have c : 73 * (rowsOf l).length ≤ 73 * 1001 := Nat.mul_le_mul_left _ (by omega)
  unfold mkT
  omega
/-- what stands behind a blank: more blanks, then a sign that is neither a blank nor a line feed -/
theorem blank_run : ∀ (xs : List Int) (n : Nat), 0 < n → hd xs ≠ 10 → ∃ (k : Nat) (ys : List Int) (c : Nat) (R : List Nat), xs = List.replicate k 32 ++ ys ∧ Sx n xs = List.replicate k 32 ++ (c :: R) ∧ Sx (n + k) ys = c :: R ∧ c ≠ 32 ∧ c ≠ 10 ∧ n + k ≤ 200 + n + xs.length
  | [], n, hn, h => absurd rfl h
  | y :: ys, n, hn, h => by
    have hy : y ≠ 10 := h
    by_cases q : 72 ≤ n + (un y (hd ys)).length
    · refine ⟨0, y :: ys, 61, 10 :: (un y (hd ys) ++ Sx (un y (hd ys)).length ys), by simp, ?_, ?_, by decide, by decide, by simp; omega⟩
      · rw [Sx, if_neg hy, if_pos q]; simp
      · rw [Nat.add_zero, Sx, if_neg hy, if_pos q]; simp
    · by_cases b : y = 32 ∧ hd ys ≠ 10
      · have eu : un y (hd ys) = [32] := by unfold un; rw [if_pos b]
        obtain ⟨k, zs, c, R, e1, e2, e3, e4, e5, e6⟩ := blank_run ys (n + 1) (by omega) b.2
        refine ⟨k + 1, zs, c, R, ?_, ?_, ?_, e4, e5, by simp at e6 ⊢; omega⟩
        · rw [e1, b.1, List.replicate_succ, List.cons_append]
        · rw [Sx, if_neg hy, if_neg q, eu]
          simp only [List.length_singleton]
          rw [e2, List.replicate_succ]
          simp
        · rw [← e3]; congr 1; omega
      · have e0 : Sx n (y :: ys) = un y (hd ys) ++ Sx (n + (un y (hd ys)).length) ys := by rw [Sx, if_neg hy, if_neg q]
        have : ∃ c R', un y (hd ys) = c :: R' ∧ c ≠ 32 ∧ c ≠ 10 := by
          unfold un
          rw [if_neg b]
          split
          · rename_i s
            have := (isSg_iff y).1 s.2.2
            exact ⟨y.toNat, [], rfl, by omega, by omega⟩
          · exact ⟨61, _, rfl, by decide, by decide⟩
        obtain ⟨c, R', eu, c1, c2⟩ := this
        refine ⟨0, y :: ys, c, R' ++ Sx (n + (un y (hd ys)).length) ys, by simp, ?_, ?_, c1, c2, by simp; omega⟩
        · rw [e0, eu]; simp
        · rw [Nat.add_zero, e0, eu]; simp
theorem forL_one {g : D → Cm Unit} {b : Cm Out} {d : D} {ds : List D} {ρ ρ1 ρ2 : DE} (h1 : g d ρ = .ok () ρ1) (h2 : b ρ1 = .ok .nx ρ2) : forL g b (d :: ds) ρ = forL g b ds ρ2 := by
  simp only [forL, h1, R.bind_ok, h2]
theorem at_mid {α : Type} (X Y : List α) (c : α) (k : Nat) (h : k = X.length) : (X ++ c :: Y)[k]? = some c := by
  subst h
  simp
theorem atI_mid {α : Type} (X Y : List α) (c : α) (k : Nat) (h : k = X.length) : atI (X ++ c :: Y) (k : Int) = some c := by
  rw [atI_nn _ _ (by subst h; simp)]
  exact at_mid X Y c k h
/-- places told, from a place on -/
def enF : Nat → List Int → List D
  | _, [] => []
  | k, x :: xs => .tup [.int (k : Nat), .int x] :: enF (k + 1) xs
theorem enum_from (l : List Int) : ∀ k : Nat, (l.map D.int).mapIdx (fun i d => D.tup [.sc (.int ((k + i : Nat) : Int)), d]) = enF k l := by
  induction l with
  | nil => intro k; rfl
  | cons x l ih =>
    intro k
    rw [List.map_cons, List.mapIdx_cons, enF, ← ih (k + 1)]
    simp only [Nat.add_zero, Int.natCast_add, List.cons.injEq, true_and]
    congr 1
    funext i d
    have e : (k : Int) + ((i + 1 : Nat) : Int) = ((k + 1 + i : Nat) : Int) := by omega
    simp
    omega
theorem enum_ints (l : List Int) : enumD (l.map D.int) = enF 0 l := by
  rw [← enum_from l 0]
  simp [enumD]
def tB : D → Cm Unit := mTupT [(mPut 3), (mPut 4)]
end K43


namespace K43
open VS L2
theorem lcL_mapM {α : Type} {g : D → Cm Unit} {e : Cm D} {vs : List Nat} {ρ : DE} (el : α → D) (f : α → D) : ∀ xs : List α, (∀ x ∈ xs, ∃ ρ1 ρ2, g (el x) ρ = .ok () ρ1 ∧ e ρ1 = .ok (f x) ρ2 ∧ wipeD ρ2 vs = ρ) → lcL g mYes e vs (xs.map el) ρ = .ok (xs.map f) ρ
  | [], _ => rfl
  | x :: xs, h => by
    obtain ⟨ρ1, ρ2, h1, h2, h3⟩ := h x (by simp)
    have ih := lcL_mapM el f xs fun y hy => h y (by simp [hy])
    simp only [List.map_cons, lcL, h1, R.bind_ok, mYes_, if_true, h2, h3, ih]
theorem joinL_nil2 (ls : List (List Nat)) : joinL [] ls = ls.flatten := by
  cases ls with
  | nil => rfl
  | cons x r =>
    have : ∀ r : List (List Nat), glL [] r = r.flatten := fun r => by
      induction r with
      | nil => rfl
      | cons y r ih => simp [glL, ih]
    simp [joinL, this]
theorem flat_int (l : List Int) (n : Nat) : (l.map D.int).all (D.flatN n) = true := by
  cases n <;> simp
theorem eqB_ints (l : List Int) : Ds.eqB (l.map D.int) (l.map D.int) = true := by
  induction l with
  | nil => rfl
  | cons x l ih => simp [Ds.eqB, ih]
theorem ints_fz (l : List Int) : (l.map D.int).map D.fz = l.map D.int := by simp
theorem strs_fz (l : List (List Nat)) : (l.map D.str).map D.fz = l.map D.str := by simp
theorem strs_pur (l : List (List Nat)) : (l.map D.str).all D.pur = true := by simp
theorem join_any (sep : List Nat) (o : Ow) (ws : List (List Nat)) (h : (ws.map List.length).sum + ws.length * sep.length ≤ 16777216) : joinD (.str sep) (.lst o (ws.map D.str)) = some (.str (joinL sep ws)) := by
  show (match strL (ws.map D.str) with
    | some ys => if (ys.map List.length).sum + ys.length * sep.length ≤ 16777216 then some (Sc.str (joinL sep ys)) else none
    | none => none) = _
  rw [strL_map]
  exact if_pos h
theorem add_strs (a b : List (List Nat)) (h : a.length + b.length ≤ 10000) : addD (.lst .own (a.map D.str)) (.lst .own (b.map D.str)) = some (.lst .own ((a ++ b).map D.str)) := by
  rw [addD_lst, if_pos ⟨.inl rfl, .inl rfl, by simp; omega⟩]; simp
theorem add_ints (o p : Ow) (ho : o = .own ∨ o = .shr) (hp : p = .own ∨ p = .shr) (a b : List Int) (h : a.length + b.length ≤ 10000) : addD (.lst o (a.map D.int)) (.lst p (b.map D.int)) = some (.lst .own ((a ++ b).map D.int)) := by
  rw [addD_lst, if_pos ⟨ho, hp, by simp; omega⟩]; simp
theorem ltext_ok (o : Ow) (x : Int) : F__law_text [.lst o [.int x]] = .ok (if isSg x = true then .str [x.toNat] else .non) [] := by
  by_cases h : isSg x = true
  · rw [if_pos h]
    obtain ⟨h1, h2, h3⟩ := (isSg_iff x).1 h
    have a := sig_at x h
    have a2 : atI [32, 33, 34, 35, 36, 38, 39, 40, 41, 42, 43, 44, 45, 46, 47, 48, 49, 50, 51, 52, 53, 54, 55, 56, 57, 58, 59, 60, 61, 62, 63, 64, 65, 66, 67, 68, 69, 70, 71, 72, 73, 74, 75, 76, 77, 78, 79, 80, 81, 82, 83, 84, 85, 86, 87, 88, 89, 90, 91, 92, 93, 94, 95, 96, 97, 98, 99, 100, 101, 102, 103, 104, 105, 106, 107, 108, 109, 110, 111, 112, 113, 114, 115, 116, 117, 118, 119, 120, 121, 122, 123, 124, 125, 126] (x - 32 - (if 37 < x then 1 else 0)) = some x.toNat := a
    by_cases q : 37 < x
    · rw [if_pos q] at a2
      cases o <;> simp [F__law_text, m__law_text, forL, h1, h2, h3, q, a2, intBD]
    · rw [if_neg q] at a2
      simp at a2
      cases o <;> simp [F__law_text, m__law_text, forL, h1, h2, h3, q, a2, intBD]
  · rw [if_neg h]
    by_cases a : 32 ≤ x
    · by_cases b : x ≤ 126
      · have c : x = 37 := by
          by_cases c : x = 37
          · exact c
          · exact absurd ((isSg_iff x).2 ⟨a, b, c⟩) h
        subst c
        cases o <;> simp [F__law_text, m__law_text, forL]
      · cases o <;> simp [F__law_text, m__law_text, forL, a, b]
    · cases o <;> simp [F__law_text, m__law_text, forL, a]
def zl : List Int → List D
  | [] => []
  | x :: xs => .tup [.int x, .int (hd xs)] :: zl xs
theorem zip_next : ∀ l : List Int, zipD (l.map D.int) ((l.drop 1).map D.int ++ [D.int 10]) = zl l
  | [] => rfl
  | [x] => rfl
  | x :: y :: ys => by
    have ih := zip_next (y :: ys)
    simp only [List.drop_succ_cons, List.drop_zero, List.map_cons, List.cons_append] at ih ⊢
    unfold zipD at ih ⊢
    rw [List.zipWith_cons_cons, zl, ← ih]
    rfl
def uD (x y : Int) : D := if x = 10 then .non else .str (un x y)
def usD : List Int → List D
  | [] => []
  | x :: xs => uD x (hd xs) :: usD xs
def bU : Cm Out := (mSeq (mSet 4 (mCall F__law_text [.e (mLst [(mVar 2)])]))
  (mSeq (mIf (mTest (mP2 eqD (.v 2) (.e (mC (.int 10)))))
  (mSet 4 (mC .non))
  (mIf (mOr (mTest (mP2 isNon (.v 4) (.e (mC .non)))) (mOr (mTest (mP2 eqD (.v 2) (.e (mC (.int 61))))) (mAnd (mTest (mP2 eqD (.v 2) (.e (mC (.int 32))))) (mTest (mP2 eqD (.v 3) (.e (mC (.int 10))))))))
  (mSet 4 (mBin addD (mBin addD (mC (.str [61])) (mIdx (.e (mC (.str [48, 49, 50, 51, 52, 53, 54, 55, 56, 57, 65, 66, 67, 68, 69, 70]))) (mBin fdivD (mVar 2) (mC (.int 16))))) (mIdx (.e (mC (.str [48, 49, 50, 51, 52, 53, 54, 55, 56, 57, 65, 66, 67, 68, 69, 70]))) (mBin modD (mVar 2) (mC (.int 16))))))
  mNext))
  (mDrop (mApp 1 (mVar 4)))))
def tU : D → Cm Unit := mTupT [(mPut 2), (mPut 3)]
theorem bU_ok (x0 x4 : Option D) (F : List D) (x y : Int) (hx : Oct x) (hF : F.length ≤ 10000) : bU [x0, some (.lst .own F), some (.int x), some (.int y), x4] = .ok .nx [x0, some (.lst .own (F ++ [uD x y])), some (.int x), some (.int y), some (uD x y)] := by
  have z : F.length < 16777216 := by omega
  have lt := ltext_ok .shr x
  unfold Oct at hx
  have a1 : atI [48, 49, 50, 51, 52, 53, 54, 55, 56, 57, 65, 66, 67, 68, 69, 70] (x / 16) = some (H16 (x / 16)) := h16_at (x / 16) (by omega)
  have a2 : atI [48, 49, 50, 51, 52, 53, 54, 55, 56, 57, 65, 66, 67, 68, 69, 70] (x % 16) = some (H16 (x % 16)) := h16_at (x % 16) (by omega)
  unfold uD un
  by_cases q : x = 10
  · subst q
    have : isSg 10 = false := by decide
    rw [if_neg (by simp [this])] at lt
    simp [bU, lt, z]
  · by_cases s : isSg x = true
    · rw [if_pos s] at lt
      by_cases e : x = 61
      · have e1 : (x = 61) = True := by simp [e]
        have e2 : (x = 32) = False := by simp [e]
        simp [bU, lt, z, a1, a2, q, e1, e2, s]
      · by_cases b : x = 32
        · have e1 : (x = 32) = True := by simp [b]
          have e3 : x.toNat = 32 := by omega
          rw [e3] at lt
          by_cases c : y = 10
          · simp [bU, lt, z, a1, a2, q, e, e1, s, c]
          · simp [bU, lt, z, q, e, e1, c]
        · simp [bU, lt, z, q, e, b, s]
    · have s2 : isSg x = false := by simpa using s
      rw [if_neg s] at lt
      have n32 : x ≠ 32 := by intro k; subst k; exact absurd s2 (by decide)
      simp [bU, lt, z, q, s2, n32, a1, a2]
theorem units_loop (x0 : Option D) : ∀ (l : List Int) (F : List D) (x2 x3 x4 : Option D), (∀ x ∈ l, Oct x) → F.length + l.length ≤ 10000 →
    ∃ y2 y3 y4, forL tU bU (zl l) [x0, some (.lst .own F), x2, x3, x4] = .ok .nx [x0, some (.lst .own (F ++ usD l)), y2, y3, y4]
  | [], F, x2, x3, x4, _, _ => ⟨x2, x3, x4, by simp [zl, usD, forL]⟩
  | x :: xs, F, x2, x3, x4, h, hz => by
    simp only [List.length_cons] at hz
    have b := bU_ok x0 x4 F x (hd xs) (h x (by simp)) (by omega)
    have st : tU (.tup [.int x, .int (hd xs)]) [x0, some (.lst .own F), x2, x3, x4] = .ok () [x0, some (.lst .own F), some (.int x), some (.int (hd xs)), x4] := by simp [tU]
    obtain ⟨y2, y3, y4, i⟩ := units_loop x0 xs (F ++ [uD x (hd xs)]) (some (.int x)) (some (.int (hd xs))) (some (uD x (hd xs))) (fun y hy => h y (by simp [hy])) (by simp; omega)
    refine ⟨y2, y3, y4, ?_⟩
    rw [zl, forL_one st b, i, usD]
    simp
theorem uD_fz (x y : Int) : (uD x y).fz = uD x y := by unfold uD; split <;> rfl
theorem usD_fz : ∀ l : List Int, (usD l).map D.fz = usD l
  | [] => rfl
  | x :: xs => by rw [usD, List.map_cons, uD_fz, usD_fz xs]
theorem usD_len : ∀ l : List Int, (usD l).length = l.length
  | [] => rfl
  | x :: xs => by rw [usD, List.length_cons, usD_len xs, List.length_cons]
theorem un_core (o : Ow) (X XD Z U : List D) (hX : X.map D.fz = X) (pX : X.all D.pur = true) (cd : cutL X (some 1) none = XD) (lz : XD.length ≤ 10000) (hXD : XD.map D.fz = XD) (hz : zipD X (XD ++ [D.int 10]) = Z) (y2 y3 y4 : Option D) (ho : o ≠ .own)
    (e : forL tU bU Z [some (.lst o X), some (.lst .own []), none, none, none] = .ok .nx [some (.lst o X), some (.lst .own U), y2, y3, y4]) : F__law_units [.lst o X] = .ok (.lst .own U) [] := by
  have el : F__law_units [.lst o X] = runF 5 [] (mSeq (mSet 1 (mLst [])) (mSeq (mFor (mZip (mVar 0) (mBin addD (mSlc (.v 0) (some (mC (.int 1))) none) (mLst [(mC (.int 10))]))) tU bU) (mRet (mMove 1)))) [.lst o X] := rfl
  rw [el]
  have ow : (if o = Ow.own then Ow.shr else o) = o := if_neg ho
  have z : XD.length + 1 ≤ 16777216 := by omega
  simp [ow, hX, pX, cd, z, hXD, hz, e, -List.all_eq_true]
theorem units_ok (o : Ow) (ho : o ≠ .own) (l : List Int) (h : ∀ x ∈ l, Oct x) (hl : l.length ≤ 1000) : F__law_units [.lst o (l.map D.int)] = .ok (.lst .own (usD l)) [] := by
  obtain ⟨y2, y3, y4, e⟩ := units_loop (some (.lst o (l.map D.int))) l [] none none none h (by simp; omega)
  rw [List.nil_append] at e
  have c : cutL (l.map D.int) (some 1) none = (l.drop 1).map D.int := by
    rw [List.map_drop]
    cases l with
    | nil => rfl
    | cons x xs => exact cut_drop ((x :: xs).map D.int) 1 (by simp)
  exact un_core o (l.map D.int) ((l.drop 1).map D.int) (zl l) (usD l) (ints_fz l) (by simp) c (by simp; omega) (ints_fz _) (zip_next l) y2 y3 y4 ho e
def bL : Cm Out := (mIf (mTest (mP2 isNon (.v 3) (.e (mC .non))))
  (mSeq (mSet 1 (mBin addD (mBin addD (mVar 1) (mVar 2)) (mC (.str [10]))))
  (mSet 2 (mC (.str []))))
  (mSeq (mIf (mTest (mP2 gtD (.e (mP1 lenD (.e (mBin addD (mVar 2) (mVar 3))))) (.e (mC (.int 71)))))
  (mSeq (mSet 1 (mBin addD (mBin addD (mVar 1) (mVar 2)) (mC (.str [61, 10]))))
  (mSet 2 (mC (.str []))))
  mNext)
  (mSet 2 (mBin addD (mVar 2) (mVar 3)))))
theorem bL_10 (x0 : Option D) (f r : List Nat) (hz : f.length + r.length ≤ 10000000) : bL [x0, some (.str f), some (.str r), some .non] = .ok .nx [x0, some (.str (f ++ (r ++ [10]))), some (.str []), some .non] := by
  have z1 : f.length + r.length ≤ 16777216 := by omega
  have z2 : f.length + r.length + 1 ≤ 16777216 := by omega
  have z3 : f.length + (r.length + 1) ≤ 16777216 := by omega
  simp [bL, z1, z2, z3]
theorem bL_on (x0 : Option D) (f r u : List Nat) (hz : f.length + r.length ≤ 10000000) (hr : r.length ≤ 71) (hu : u.length ≤ 3) : bL [x0, some (.str f), some (.str r), some (.str u)] = .ok .nx (if 72 ≤ r.length + u.length then [x0, some (.str (f ++ (r ++ [61, 10]))), some (.str u), some (.str u)] else [x0, some (.str f), some (.str (r ++ u)), some (.str u)]) := by
  have z1 : f.length + r.length ≤ 16777216 := by omega
  have z2 : f.length + r.length + 2 ≤ 16777216 := by omega
  have z3 : f.length + (r.length + 2) ≤ 16777216 := by omega
  have z4 : r.length + u.length ≤ 16777216 := by omega
  have z5 : u.length ≤ 16777216 := by omega
  by_cases q : 72 ≤ r.length + u.length
  · have q2 : (71 : Int) < (r.length : Int) + (u.length : Int) := by omega
    simp [bL, z1, z2, z3, z4, z5, q, q2]
  · have q2 : ¬ (71 : Int) < (r.length : Int) + (u.length : Int) := by omega
    simp [bL, z1, z2, z3, z4, z5, q, q2]
theorem lm_loop (x0 : Option D) : ∀ (l : List Int) (fd : List (List Nat)) (r : List Nat) (x3 : Option D), r.length ≤ 71 → (flat fd).length + 100 * l.length ≤ 1000000 →
    ∃ y3, forL (mPut 3) bL (usD l) [x0, some (.str (flat fd)), some (.str r), x3] = .ok .nx [x0, some (.str (flat (mkF fd r l).1)), some (.str (mkF fd r l).2), y3]
  | [], fd, r, x3, _, _ => ⟨x3, rfl⟩
  | x :: xs, fd, r, x3, hr, hz => by
    simp only [List.length_cons] at hz
    by_cases q : x = 10
    · have b := bL_10 x0 (flat fd) r (by omega)
      obtain ⟨y3, i⟩ := lm_loop x0 xs (fd ++ [r]) [] (some .non) (by simp) (by rw [flat_app, flat_one]; simp; omega)
      refine ⟨y3, ?_⟩
      have e : uD x (hd xs) = .non := by unfold uD; rw [if_pos q]
      rw [usD, e, forL_one (ρ1 := [x0, some (.str (flat fd)), some (.str r), some .non]) rfl b, mkF, if_pos q, ← i, flat_app, flat_one]
    · have hu := un_len x (hd xs)
      have e : uD x (hd xs) = .str (un x (hd xs)) := by unfold uD; rw [if_neg q]
      have b := bL_on x0 (flat fd) r (un x (hd xs)) (by omega) hr hu.2
      rw [usD, e, mkF, if_neg q]
      by_cases c : 72 ≤ r.length + (un x (hd xs)).length
      · rw [if_pos c] at b
        obtain ⟨y3, i⟩ := lm_loop x0 xs (fd ++ [r ++ [61]]) (un x (hd xs)) (some (.str (un x (hd xs)))) (by omega) (by rw [flat_app, flat_one]; simp; omega)
        refine ⟨y3, ?_⟩
        rw [forL_one (ρ1 := [x0, some (.str (flat fd)), some (.str r), some (.str (un x (hd xs)))]) rfl b, if_pos c, ← i, flat_app, flat_one]
        simp
      · rw [if_neg c] at b
        obtain ⟨y3, i⟩ := lm_loop x0 xs fd (r ++ un x (hd xs)) (some (.str (un x (hd xs)))) (by rw [List.length_append]; omega) (by omega)
        refine ⟨y3, ?_⟩
        rw [forL_one (ρ1 := [x0, some (.str (flat fd)), some (.str r), some (.str (un x (hd xs)))]) rfl b, if_neg c, ← i]
theorem lm_core (o : Ow) (ho : o ≠ .own) (X U : List D) (hX : X.map D.fz = X) (hU : U.map D.fz = U) (f r : List Nat) (y3 : Option D) (hz : f.length + r.length ≤ 10000000) (eu : F__law_units [.lst o X] = .ok (.lst .own U) [])
    (e : forL (mPut 3) bL U [some (.lst o X), some (.str []), some (.str []), none] = .ok .nx [some (.lst o X), some (.str f), some (.str r), y3]) :
    F__law_marks [.lst o X] = .ok (.str (f ++ if r = [] then [] else r ++ [61, 10])) [] := by
  have el : F__law_marks [.lst o X] = runF 4 [] (mSeq (mSet 1 (mC (.str []))) (mSeq (mSet 2 (mC (.str []))) (mSeq (mFor (mItemsL (mCall F__law_units [.p 0])) (mPut 3) bL)
    (mRet (mBin addD (mMove 1) (mBin mulD (mBin addD (mVar 2) (mC (.str [61, 10]))) (mP1 intBD (.e (mP2 neD (.v 2) (.e (mC (.str []))))))))))) ) [.lst o X] := rfl
  rw [el]
  have ow : (if o = Ow.own then Ow.shr else o) = o := if_neg ho
  have z1 : r.length + 2 ≤ 16777216 := by omega
  have z2 : f.length + (r.length + 2) ≤ 16777216 := by omega
  have z3 : f.length ≤ 16777216 := by omega
  by_cases q : r = []
  · subst q
    simp [ow, hX, hU, eu, e, intBD, z3]
  · simp [ow, hX, hU, eu, e, q, z1, z2, intBD]
theorem law_marks_ok (o : Ow) (ho : o ≠ .own) (l : List Int) (h : ∀ x ∈ l, Oct x) (hl : l.length ≤ 1000) : F__law_marks [.lst o (l.map D.int)] = .ok (.str (mkT l)) [] := by
  obtain ⟨y3, e⟩ := lm_loop (some (.lst o (l.map D.int))) l [] [] none (by simp) (by simp [flat]; omega)
  have hf := mkT_len l hl
  have et : mkT l = flat (mkF [] [] l).1 ++ if (mkF [] [] l).2 = [] then [] else (mkF [] [] l).2 ++ [61, 10] := by
    unfold mkT rowsOf endR
    rw [flat_app]
    split <;> simp [flat]
  obtain ⟨_, hr, _⟩ := mk_rows l [] [] (by simp) (by simp) (by simp)
  rw [et]
  refine lm_core o ho (l.map D.int) (usD l) (ints_fz l) (usD_fz l) _ _ y3 ?_ (units_ok o ho l h hl) e
  rw [et, List.length_append] at hf
  omega
end K43


namespace K43
open VS L2
theorem mWhile_ (c : Cm Bool) (b : Cm Out) (ρ : DE) : mWhile c b ρ = whileL c b FUEL ρ := rfl
def cBb : Cm Bool := (mAnd (mTest (mP2 ltD (.v 1) (.e (mP1 lenD (.v 0))))) (mTest (mP2 eqD (.e (mIdx (.v 0) (mVar 1))) (.e (mC (.str [32]))))))
def bBb : Cm Out := (mAug augA 1 (mC (.int 1)))
theorem cBb_at (t : List Nat) (k d : Nat) (h : t[k]? = some d) : cBb [some (.str t), some (.int k)] = .ok (decide (d = 32)) [some (.str t), some (.int k)] := by
  have lt : k < t.length := (List.getElem?_eq_some_iff.1 h).1
  have a : atI t (k : Int) = some d := by rw [atI_nn _ _ (by omega)]; simpa using h
  by_cases q : d = 32
  · subst q; simp [cBb, a, lt]
  · simp [cBb, a, lt, q]
theorem cBb_end (t : List Nat) (k : Nat) (h : k = t.length) : cBb [some (.str t), some (.int k)] = .ok false [some (.str t), some (.int k)] := by
  subst h
  simp [cBb]
theorem bBb_at (x0 : Option D) (k : Nat) : bBb [x0, some (.int k)] = .ok .nx [x0, some (.int ((k + 1 : Nat) : Int))] := by simp [bBb]
/-- how many blanks a text begins with -/
def nb : List Nat → Nat
  | [] => 0
  | c :: r => if c = 32 then nb r + 1 else 0
theorem nb_le : ∀ s : List Nat, nb s ≤ s.length
  | [] => Nat.le_refl _
  | c :: r => by
    rw [nb]
    split
    · have := nb_le r; simp; omega
    · omega
theorem bb_loop (t : List Nat) : ∀ (N : Nat) (s pre : List Nat), t = pre ++ s → s.length < N →
    whileL cBb bBb N [some (.str t), some (.int (pre.length : Nat))] = .ok .nx [some (.str t), some (.int ((pre.length + nb s : Nat) : Int))]
  | 0, s, pre, _, h => by omega
  | N + 1, [], pre, he, h => by
    have e := cBb_end t pre.length (by rw [he]; simp)
    rw [whileL_end e]
    rfl
  | N + 1, c :: r, pre, he, h => by
    have e := cBb_at t pre.length c (by rw [he]; simp)
    by_cases q : c = 32
    · rw [decide_eq_true q] at e
      have i := bb_loop t N r (pre ++ [c]) (by rw [he]; simp) (by simp at h; omega)
      rw [whileL_step e (bBb_at _ _)]
      rw [List.length_append, List.length_singleton] at i
      rw [i, nb, if_pos q]
      simp
      omega
    · rw [decide_eq_false q] at e
      rw [whileL_end e, nb, if_neg q]
      rfl
theorem behind_ok (t pre s : List Nat) (he : t = pre ++ s) (hk : s.length < 100000) (i : Int) (hi : i = (pre.length : Nat)) : F_behind_blanks [.str t, .int i] = .ok (.int ((pre.length + nb s : Nat) : Int)) [] := by
  subst hi
  have w := bb_loop t FUEL s pre he (by have : FUEL = 1000000000 := rfl; omega)
  have el : F_behind_blanks [.str t, .int (pre.length : Nat)] = runF 2 [] (mSeq (mWhile cBb bBb) (mRet (mMove 1))) [.str t, .int (pre.length : Nat)] := rfl
  rw [el]
  generalize hW : whileL cBb bBb FUEL = W at *
  have hM : mWhile cBb bBb = W := by rw [← hW]; rfl
  rw [hM]
  simp [w]
/-- the value of a figure of sixteen -/
def hxv (c : Nat) : Option Nat := if c ∈ k_SIXTEEN then some (idxC c k_SIXTEEN) else if c ∈ k_SMALL_SIXTEEN then some (idxC c k_SMALL_SIXTEEN) else none
theorem hxv_lt_tab : ∀ c ∈ k_SIXTEEN ++ k_SMALL_SIXTEEN, ∀ v, hxv c = some v → v < 16 := by decide +kernel
theorem hxv_mem (c : Nat) : (c ∈ k_SIXTEEN ++ k_SMALL_SIXTEEN) ↔ (hxv c).isSome = true := by
  unfold hxv
  rw [List.mem_append]
  by_cases a : c ∈ k_SIXTEEN
  · simp [a]
  · by_cases b : c ∈ k_SMALL_SIXTEEN
    · simp [a, b]
    · simp [a, b]
theorem hxv_lt (c v : Nat) (h : hxv c = some v) : v < 16 := hxv_lt_tab c ((hxv_mem c).2 (by rw [h]; rfl)) v h
theorem fig_end (t : List Nat) (k : Nat) (h : k = t.length) : F_figure_at [.str t, .int k] = .exc ⟨"NoCode", ["at"], [.int k]⟩ [] := by
  subst h
  simp [F_figure_at, m_figure_at, mRaiseF]
theorem sidx (c : Nat) (l : List Nat) (h : c ∈ l) : sindexM (.str l) (.str [c]) = some (.int ((idxC c l : Nat) : Int)) := by
  show (if c ∈ l then some (Sc.int ((idxC c l : Nat) : Int)) else none) = _
  rw [if_pos h]
theorem in_one (c : Nat) (l : List Nat) : inD false (.str [c]) (.str l) = some (.bl (decide (c ∈ l))) := by
  have e := inStr_one c l
  simp [inD, e]
theorem fig_at (t : List Nat) (k c : Nat) (h : t[k]? = some c) : F_figure_at [.str t, .int k] = match hxv c with
    | some v => .ok (.int (v : Nat)) []
    | none => .exc ⟨"NoCode", ["at"], [.int k]⟩ [] := by
  have lt : k < t.length := (List.getElem?_eq_some_iff.1 h).1
  have ne : ¬ (k : Int) = (t.length : Int) := by omega
  have ne2 : ¬ k = t.length := by omega
  have ai : atI t (k : Int) = some c := by rw [atI_nn _ _ (by omega)]; simpa using h
  have i1 := in_one c k_SIXTEEN
  have i2 := in_one c k_SMALL_SIXTEEN
  unfold hxv
  by_cases a : c ∈ k_SIXTEEN
  · have si := sidx c k_SIXTEEN a
    rw [decide_eq_true a] at i1
    rw [if_pos a]
    simp [F_figure_at, m_figure_at, ne, ne2, ai, si, i1, forL]
  · rw [decide_eq_false a] at i1
    by_cases b : c ∈ k_SMALL_SIXTEEN
    · have si := sidx c k_SMALL_SIXTEEN b
      rw [decide_eq_true b] at i2
      rw [if_neg a, if_pos b]
      simp [F_figure_at, m_figure_at, ne, ne2, ai, si, i1, i2, forL]
    · rw [decide_eq_false b] at i2
      rw [if_neg a, if_neg b]
      simp [F_figure_at, m_figure_at, ne, ne2, ai, i1, i2, forL, mRaiseF]
/-- what a = at place k tells, r the signs behind it: octets and how many signs it takes, or the place of the refusal -/
def eqM (k : Nat) (r : List Nat) : Except Nat (List Int × Nat) := match r.head?.bind hxv with
  | some v => match r[1]? with
    | some b => match hxv b with
      | some w => .ok ([((16 * v + w : Nat) : Int)], 3)
      | none => .error (k + 2)
    | none => .error (k + 2)
  | none => match r[nb r]? with
    | none => .error (k + 1 + nb r)
    | some d => if d = 10 then .ok ([], nb r + 2) else .error (k + 1 + nb r)
def noc (k : Nat) : Ex := ⟨"NoCode", ["at"], [.int (k : Nat)]⟩
theorem eq_tail (t pre r : List Nat) (he : t = pre ++ 61 :: r) (hl : t.length < 100000) (hh : r.head?.bind hxv = none) :
    F_read_equals [.str t, .int (pre.length : Nat)] = match (eqM pre.length r) with
      | .ok (X, j) => .ok (.tup [.lst .own (X.map D.int), .int ((pre.length + j : Nat) : Int)]) []
      | .error m => .exc (noc m) [] := by
  have bb0 := behind_ok t (pre ++ [61]) r (by rw [he]; simp) (by rw [he] at hl; simp at hl; omega) ((pre.length : Int) + 1) (by simp)
  have bb : F_behind_blanks [.str t, .int ((pre.length : Int) + 1)] = .ok (.int ((pre.length + 1 + nb r : Nat) : Int)) [] := by
    rw [bb0]
    simp
  clear bb0
  have tl : t.length = pre.length + 1 + r.length := by rw [he]; simp; omega
  have nl := nb_le r
  have kl : k_SIXTEEN.length + k_SMALL_SIXTEEN.length ≤ 16777216 := by decide
  have key : F_read_equals [.str t, .int (pre.length : Nat)] = if pre.length + 1 + nb r = t.length then .exc (noc (pre.length + 1 + nb r)) [] else match atI t ((pre.length + 1 + nb r : Nat) : Int) with
      | some d => if d = 10 then .ok (.tup [.lst .own [], .int ((pre.length + (nb r + 2) : Nat) : Int)]) [] else .exc (noc (pre.length + 1 + nb r)) []
      | none => .stuck := by
    generalize hm : pre.length + 1 + nb r = m at *
    have hm2 : (((pre.length + (nb r + 2) : Nat) : Int)) = (m : Int) + 1 := by omega
    rw [hm2]
    cases r with
    | nil =>
      have lt : ¬ (pre.length : Int) + 1 < (t.length : Int) := by simp at tl; omega
      by_cases q : m = t.length
      · have q2 : (m : Int) = (t.length : Int) := by omega
        rw [if_pos q]
        simp [F_read_equals, m_read_equals, lt, bb, q, q2, mRaiseF, noc]
      · simp [nb] at hm; simp at tl; omega
    | cons a r1 =>
      have lt : (pre.length : Int) + 1 < (t.length : Int) := by simp at tl; omega
      have i1 : atI t ((pre.length : Int) + 1) = some a := by
        rw [show (pre.length : Int) + 1 = ((pre.length + 1 : Nat) : Int) by omega, he, show pre ++ 61 :: a :: r1 = (pre ++ [61]) ++ (a :: r1) by simp]
        exact atI_mid _ _ _ _ (by simp)
      have hn : a ∉ k_SIXTEEN ++ k_SMALL_SIXTEEN := by
        rw [hxv_mem]
        have : hxv a = none := hh
        rw [this]
        simp
      have ii := in_one a (k_SIXTEEN ++ k_SMALL_SIXTEEN)
      rw [decide_eq_false hn] at ii
      by_cases q : m = t.length
      · have q2 : (m : Int) = (t.length : Int) := by omega
        rw [if_pos q]
        simp [F_read_equals, m_read_equals, lt, i1, ii, kl, bb, q, q2, mRaiseF, noc]
      · have q2 : ¬ (m : Int) = (t.length : Int) := by omega
        rw [if_neg q]
        have lm : m < t.length := by simp at tl nl; omega
        obtain ⟨d, hd⟩ : ∃ d, atI t (m : Int) = some d := by
          rw [atI_nn _ _ (by omega)]
          exact ⟨t[m], by simp [lm]⟩
        rw [hd]
        by_cases p : d = 10
        · simp [F_read_equals, m_read_equals, lt, i1, ii, kl, bb, q, q2, hd, p]
        · simp [F_read_equals, m_read_equals, lt, i1, ii, kl, bb, q, q2, hd, p, mRaiseF, noc]
  rw [key]
  unfold eqM
  rw [hh]
  by_cases q : nb r = r.length
  · have e1 : r[nb r]? = none := by rw [q]; simp
    rw [if_pos (by omega)]
    simp only [e1]
  · have lt : nb r < r.length := by omega
    rw [if_neg (by omega)]
    have a : atI t ((pre.length + 1 + nb r : Nat) : Int) = r[nb r]? := by
      rw [atI_nn _ _ (by omega), he, show pre ++ 61 :: r = (pre ++ [61]) ++ r by simp, List.getElem?_append_right (by simp)]
      simp
    rw [a]
    have e : r[nb r]? = some r[nb r] := by simp [lt]
    rw [e]
    by_cases p : r[nb r] = 10
    · simp [p]
    · simp [p]
theorem eq_ok (t pre r : List Nat) (he : t = pre ++ 61 :: r) (hl : t.length < 100000) :
    F_read_equals [.str t, .int (pre.length : Nat)] = match (eqM pre.length r) with
      | .ok (X, j) => .ok (.tup [.lst .own (X.map D.int), .int ((pre.length + j : Nat) : Int)]) []
      | .error m => .exc (noc m) [] := by
  cases hh : r.head?.bind hxv with
  | none => exact eq_tail t pre r he hl hh
  | some v =>
    cases r with
    | nil => cases hh
    | cons a r1 =>
      have hv : hxv a = some v := hh
      have tl : t.length = pre.length + 2 + r1.length := by rw [he]; simp; omega
      have lt : (pre.length : Int) + 1 < (t.length : Int) := by omega
      have kl : k_SIXTEEN.length + k_SMALL_SIXTEEN.length ≤ 16777216 := by decide
      have g1 : t[pre.length + 1]? = some a := by rw [he, show pre ++ 61 :: a :: r1 = (pre ++ [61]) ++ (a :: r1) by simp]; exact at_mid _ _ _ _ (by simp)
      have i1 : atI t ((pre.length : Int) + 1) = some a := by
        rw [show (pre.length : Int) + 1 = ((pre.length + 1 : Nat) : Int) by omega, atI_nn _ _ (by omega)]
        simpa using g1
      have ii := in_one a (k_SIXTEEN ++ k_SMALL_SIXTEEN)
      rw [decide_eq_true ((hxv_mem a).2 (by rw [hv]; rfl))] at ii
      have f1 := fig_at t (pre.length + 1) a g1
      rw [hv] at f1
      have f1 : F_figure_at [.str t, .int ((pre.length : Int) + 1)] = .ok (.int ((v : Nat) : Int)) [] := by simpa using f1
      unfold eqM
      rw [hh]
      cases r1 with
      | nil =>
        have f2 := fig_end t (pre.length + 2) (by simp at tl; omega)
        have f2 : F_figure_at [.str t, .int ((pre.length : Int) + 2)] = .exc (noc (pre.length + 2)) [] := by simpa [noc] using f2
        simp [F_read_equals, m_read_equals, lt, i1, ii, kl, f1, f2]
      | cons b r2 =>
        have g2 : t[pre.length + 2]? = some b := by rw [he, show pre ++ 61 :: a :: b :: r2 = (pre ++ [61, a]) ++ (b :: r2) by simp]; exact at_mid _ _ _ _ (by simp)
        have f2 := fig_at t (pre.length + 2) b g2
        cases hb : hxv b with
        | none =>
          rw [hb] at f2
          have f2 : F_figure_at [.str t, .int ((pre.length : Int) + 2)] = .exc (noc (pre.length + 2)) [] := by simpa [noc] using f2
          simp [F_read_equals, m_read_equals, lt, i1, ii, kl, f1, f2, hb]
        | some w =>
          rw [hb] at f2
          have f2 : F_figure_at [.str t, .int ((pre.length : Int) + 2)] = .ok (.int ((w : Nat) : Int)) [] := by simpa using f2
          simp [F_read_equals, m_read_equals, lt, i1, ii, kl, f1, f2, hb]
end K43


namespace K43
open VS L2
theorem cut_to {α : Type} (xs : List α) (a k : Nat) (h : a ≤ xs.length) : cutL xs (some (a : Int)) (some ((a : Int) + (k : Int))) = (xs.drop a).take k := by
  have e : ((a : Int) + (k : Int)) = ((a + k : Nat) : Int) := by omega
  unfold cutL
  rw [e, HT.sIx_nat, HT.sIx_nat, Nat.min_eq_left h]
  by_cases q : a + k ≤ xs.length
  · rw [Nat.min_eq_left q]
    congr 1
    omega
  · rw [Nat.min_eq_right (by omega), List.take_of_length_le (by simp), List.take_of_length_le (by simp; omega)]
theorem mSeq_nx {a b : Cm Out} {ρ ρ1 : DE} (h : a ρ = .ok .nx ρ1) : mSeq a b ρ = b ρ1 := by simp [h]
theorem num_all (n : Nat) (h : isSg (n : Int) = true ∨ n = 10) : F_number_of [.str [n]] = .ok (.int (n : Int)) [] := by
  rcases h with h | rfl
  · exact number_ok n h
  · simp [F_number_of, m_number_of]
def cQ : Cm Bool := (mTest (mP2 ltD (.v 2) (.e (mP1 lenD (.v 0)))))
def bQ : Cm Out := (mIf (mTest (mP2 eqD (.e (mIdx (.v 0) (mVar 2))) (.e (mC (.str [61])))))
  (mSeq (mAsg (mCall F_read_equals [.p 0, .p 2]) (mTupT [(mPut 3), (mPut 2)]))
  (mDrop (mExt 1 (mVar 3))))
  (mIf (mTest (mP2 eqD (.e (mIdx (.v 0) (mVar 2))) (.e (mC (.str [32])))))
  (mSeq (mSet 4 (mCall F_behind_blanks [.p 0, .p 2]))
  (mSeq (mIf (mTest (mP2 neD (.e (mSlc (.v 0) (some (mVar 4)) (some (mBin addD (mVar 4) (mC (.int 1)))))) (.e (mC (.str [10])))))
  (mDrop (mExt 1 (mBin mulD (mLst [(mC (.int 32))]) (mBin subD (mVar 4) (mVar 2)))))
  mNext)
  (mSet 2 (mVar 4))))
  (mSeq (mDrop (mApp 1 (mCall F_number_of [.e (mIdx (.v 0) (mVar 2))])))
  (mAug augA 2 (mC (.int 1))))))
theorem q_sign (t : List Nat) (k n : Nat) (F : List D) (hF : F.length ≤ 100000) (h : t[k]? = some n) (h1 : n ≠ 61) (h2 : n ≠ 32) (h3 : isSg (n : Int) = true ∨ n = 10) (x3 x4 : Option D) :
    bQ [some (.str t), some (.lst .own F), some (.int k), x3, x4] = .ok .nx [some (.str t), some (.lst .own (F ++ [.int (n : Int)])), some (.int ((k + 1 : Nat) : Int)), x3, x4] := by
  have lt : k < t.length := (List.getElem?_eq_some_iff.1 h).1
  have a : atI t (k : Int) = some n := by rw [atI_nn _ _ (by omega)]; simpa using h
  have z : F.length < 16777216 := by omega
  have nu := num_all n h3
  simp [bQ, a, h1, h2, nu, z]
theorem q_eq (t : List Nat) (k : Nat) (F X : List D) (m : Int) (hF : F.length + X.length ≤ 16777216) (h : t[k]? = some 61) (e : F_read_equals [.str t, .int (k : Nat)] = .ok (.tup [.lst .own X, .int m]) []) (hX : X.map D.fz = X) (pX : X.all D.pur = true) (x3 x4 : Option D) :
    ∃ y3, bQ [some (.str t), some (.lst .own F), some (.int k), x3, x4] = .ok .nx [some (.str t), some (.lst .own (F ++ X)), some (.int m), y3, x4] := by
  have lt : k < t.length := (List.getElem?_eq_some_iff.1 h).1
  have a : atI t (k : Int) = some 61 := by rw [atI_nn _ _ (by omega)]; simpa using h
  refine ⟨some (.lst .shr X), ?_⟩
  simp [bQ, a, e, hX, pX, hF, -List.all_eq_true]
theorem q_exc (t : List Nat) (k : Nat) (F : List D) (x : Ex) (h : t[k]? = some 61) (e : F_read_equals [.str t, .int (k : Nat)] = .exc x []) (x3 x4 : Option D) :
    ∃ ρ', bQ [some (.str t), some (.lst .own F), some (.int k), x3, x4] = .exc x ρ' := by
  have lt : k < t.length := (List.getElem?_eq_some_iff.1 h).1
  have a : atI t (k : Int) = some 61 := by rw [atI_nn _ _ (by omega)]; simpa using h
  refine ⟨[some (.str t), some (.lst .own F), some (.int k), x3, x4], ?_⟩
  simp [bQ, a, e]
theorem mul32 (b : Nat) (hb : b ≤ 100000) : mulD (.lst .own [.int 32]) (.int (b : Nat)) = some (.lst .own ((List.replicate b (32 : Int)).map D.int)) := by
  have e : (List.replicate b [D.int 32]).flatten = (List.replicate b (32 : Int)).map D.int := by
    induction b with
    | zero => rfl
    | succ b ih => rw [List.replicate_succ, List.flatten_cons, ih (by omega), List.replicate_succ]; rfl
  rw [mulD_lst, if_pos ⟨.inl rfl, rfl, by simp; omega, by omega⟩]
  simp only [Int.toNat_natCast, e]
theorem cut_one (s pre : List Nat) (j : Nat) (h : j ≤ s.length) : cutL (pre ++ s) (some ((pre.length + j : Nat) : Int)) (some (((pre.length + j : Nat) : Int) + 1)) = (s[j]?).toList := by
  have := cut_to (pre ++ s) (pre.length + j) 1 (by simp; omega)
  rw [show (((1 : Nat) : Int)) = 1 by rfl] at this
  rw [this, ← List.drop_drop, List.drop_left, List.take_one, List.head?_drop]
def isNl (s : List Nat) (j : Nat) : Bool := decide (s[j]? = some 10)
theorem q_blanks (t pre s : List Nat) (he : t = pre ++ (32 :: s)) (hl : t.length < 100000) (F : List D) (hF : F.length ≤ 100000) (x3 x4 : Option D) :
    ∃ y4, bQ [some (.str t), some (.lst .own F), some (.int (pre.length : Nat)), x3, x4] = .ok .nx [some (.str t), some (.lst .own (F ++ (if isNl (32 :: s) (nb (32 :: s)) = true then [] else (List.replicate (nb (32 :: s)) (32 : Int)).map D.int))), some (.int ((pre.length + nb (32 :: s) : Nat) : Int)), x3, y4] := by
  have a : atI t (pre.length : Int) = some 32 := by
    rw [he]
    exact atI_mid _ _ _ _ rfl
  have hs : s.length < 100000 := by rw [he] at hl; simp at hl; omega
  have bb := behind_ok t pre (32 :: s) he (by rw [he] at hl; simp at hl; simp; omega) (pre.length : Nat) rfl
  have ct := cut_one (32 :: s) pre (nb (32 :: s)) (nb_le _)
  rw [← he] at ct
  have nl := nb_le (32 :: s)
  generalize nb (32 :: s) = j at *
  have mu : mulD (.lst .own [.int 32]) (.int (((pre.length + j : Nat) : Int) - (pre.length : Int))) = some (.lst .own ((List.replicate j (32 : Int)).map D.int)) := by
    rw [show ((pre.length + j : Nat) : Int) - (pre.length : Int) = ((j : Nat) : Int) by omega]
    exact mul32 j (by simp at nl; omega)
  have z : F.length + ((List.replicate j (32 : Int)).map D.int).length ≤ 16777216 := by simp; simp at nl; omega
  unfold isNl
  generalize (List.replicate j (32 : Int)).map D.int = B at *
  generalize ((pre.length + j : Nat) : Int) = m at *
  generalize (32 :: s)[j]? = g at *
  refine ⟨some (.int m), ?_⟩
  cases g with
  | none =>
    have ct : cutL t (some m) (some (m + 1)) = [] := ct
    simp [bQ, a, bb, ct, -mulD_lst, mu, z]
  | some c =>
    have ct : cutL t (some m) (some (m + 1)) = [c] := ct
    by_cases q : c = 10
    · subst q
      simp [bQ, a, bb, ct]
    · simp [bQ, a, bb, ct, q, -mulD_lst, mu, z]
/-- what the signs from place k on tell first: octets, and how many signs they take; or the place of the refusal -/
def stM (k : Nat) (c : Nat) (r : List Nat) : Except Nat (List Int × Nat) := if c = 61 then eqM k r else if c = 32 then .ok (if isNl (32 :: r) (nb (32 :: r)) = true then [] else List.replicate (nb (32 :: r)) 32, nb (32 :: r)) else .ok ([(c : Int)], 1)
def Sgn (c : Nat) : Prop := isSg (c : Int) = true ∨ c = 10
theorem eqM_le (k : Nat) (r : List Nat) (X : List Int) (j : Nat) (h : eqM k r = .ok (X, j)) : 1 ≤ j ∧ j ≤ r.length + 1 ∧ X.length ≤ j ∧ ∀ x ∈ X, Oct x := by
  unfold eqM at h
  split at h
  · rename_i v hv
    split at h
    · rename_i b hb
      split at h
      · rename_i w hw
        cases h
        have l1 := (List.getElem?_eq_some_iff.1 hb).1
        have vl : v < 16 := by
          cases r with
          | nil => cases hv
          | cons a r => exact hxv_lt a v hv
        have wl := hxv_lt b w hw
        exact ⟨by omega, by omega, by simp, by simp [Oct]; omega⟩
      · cases h
    · cases h
  · split at h
    · cases h
    · rename_i d hd
      have l1 := (List.getElem?_eq_some_iff.1 hd).1
      split at h
      · cases h
        exact ⟨by omega, by omega, by simp, by simp⟩
      · cases h
theorem stM_le (k c : Nat) (r : List Nat) (hc : Sgn c) (X : List Int) (j : Nat) (h : stM k c r = .ok (X, j)) : 1 ≤ j ∧ j ≤ r.length + 1 ∧ X.length ≤ j ∧ ∀ x ∈ X, Oct x := by
  unfold stM at h
  split at h
  · exact eqM_le k r X j h
  · split at h
    · cases h
      have nl := nb_le (32 :: r)
      refine ⟨by simp [nb], by simpa using nl, by split <;> simp, ?_⟩
      split
      · simp
      · intro x hx
        rw [(List.mem_replicate.1 hx).2]
        exact ⟨by decide, by decide⟩
    · cases h
      refine ⟨by omega, by omega, by simp, ?_⟩
      intro x hx
      rw [List.mem_singleton] at hx
      subst hx
      rcases hc with hc | rfl
      · have := (isSg_iff _).1 hc
        unfold Oct
        omega
      · exact ⟨by decide, by decide⟩
theorem q_step (t pre r : List Nat) (c : Nat) (he : t = pre ++ c :: r) (hl : t.length < 100000) (hc : Sgn c) (F : List D) (hF : F.length ≤ 100000) (x3 x4 : Option D) :
    match stM pre.length c r with
    | .ok (X, j) => ∃ y3 y4, bQ [some (.str t), some (.lst .own F), some (.int (pre.length : Nat)), x3, x4] = .ok .nx [some (.str t), some (.lst .own (F ++ X.map D.int)), some (.int ((pre.length + j : Nat) : Int)), y3, y4]
    | .error m => ∃ ρ', bQ [some (.str t), some (.lst .own F), some (.int (pre.length : Nat)), x3, x4] = .exc (noc m) ρ' := by
  have g : t[pre.length]? = some c := by rw [he]; simp
  unfold stM
  by_cases q : c = 61
  · subst q
    rw [if_pos rfl]
    have e := eq_ok t pre r he hl
    cases hm : eqM pre.length r with
    | error m =>
      rw [hm] at e
      exact q_exc t pre.length F (noc m) g e x3 x4
    | ok p =>
      obtain ⟨X, j⟩ := p
      rw [hm] at e
      have le := eqM_le _ _ X j hm
      have tl : t.length = pre.length + 1 + r.length := by rw [he]; simp; omega
      obtain ⟨y3, h⟩ := q_eq t pre.length F (X.map D.int) _ (by simp; omega) g e (ints_fz X) (by simp) x3 x4
      exact ⟨y3, x4, h⟩
  · rw [if_neg q]
    by_cases p : c = 32
    · subst p
      rw [if_pos rfl]
      obtain ⟨y4, h⟩ := q_blanks t pre r he hl F hF x3 x4
      refine ⟨x3, y4, ?_⟩
      rw [h]
      split <;> rfl
    · rw [if_neg p]
      exact ⟨x3, x4, q_sign t pre.length c F hF g q p hc x3 x4⟩
def rm : Nat → Nat → List Nat → Except Nat (List Int)
  | 0, _, _ => .ok []
  | _ + 1, _, [] => .ok []
  | N + 1, k, c :: r => match stM k c r with
    | .error m => .error m
    | .ok (X, j) => match rm N (k + j) ((c :: r).drop j) with
      | .error m => .error m
      | .ok Y => .ok (X ++ Y)
theorem cQ_true (t : List Nat) (k : Nat) (h : k < t.length) (x1 x3 x4 : Option D) : cQ [some (.str t), x1, some (.int k), x3, x4] = .ok true [some (.str t), x1, some (.int k), x3, x4] := by
  simp [cQ, h]
theorem cQ_false (t : List Nat) (k : Nat) (h : t.length ≤ k) (x1 x3 x4 : Option D) : cQ [some (.str t), x1, some (.int k), x3, x4] = .ok false [some (.str t), x1, some (.int k), x3, x4] := by
  have : ¬ k < t.length := by omega
  simp [cQ, this]
theorem whileL_exc {c : Cm Bool} {b : Cm Out} {n : Nat} {ρ ρ1 ρ2 : DE} {x : Ex} (h : c ρ = .ok true ρ1) (h2 : b ρ1 = .exc x ρ2) : whileL c b (n + 1) ρ = .exc x ρ2 := by
  simp [whileL, h, h2]
theorem rm_len : ∀ (N k : Nat) (s : List Nat) (Y : List Int), (∀ c ∈ s, Sgn c) → rm N k s = .ok Y → Y.length ≤ s.length ∧ ∀ y ∈ Y, Oct y
  | 0, k, s, Y, _, h => by cases h; simp
  | N + 1, k, [], Y, _, h => by cases h; simp
  | N + 1, k, c :: r, Y, hs, h => by
    rw [rm] at h
    split at h
    · cases h
    · rename_i X j hX
      obtain ⟨l1, l2, l3, l4⟩ := stM_le k c r (hs c (by simp)) X j hX
      split at h
      · cases h
      · rename_i Z hZ
        cases h
        obtain ⟨m1, m2⟩ := rm_len N (k + j) ((c :: r).drop j) Z (fun x hx => hs x (List.mem_of_mem_drop hx)) hZ
        refine ⟨by rw [List.length_append]; rw [List.length_drop] at m1; simp at *; omega, fun y hy => ?_⟩
        rcases List.mem_append.1 hy with hy | hy
        · exact l4 y hy
        · exact m2 y hy
theorem rm_loop (t : List Nat) (ht : t.length < 100000) : ∀ (M N : Nat) (s pre : List Nat) (f : List Int) (x3 x4 : Option D), (∀ c ∈ s, Sgn c) → t = pre ++ s → s.length < M → s.length < N → f.length ≤ pre.length →
    match rm M pre.length s with
    | .ok Y => ∃ y2 y3 y4, whileL cQ bQ N [some (.str t), some (.lst .own (f.map D.int)), some (.int (pre.length : Nat)), x3, x4] = .ok .nx [some (.str t), some (.lst .own ((f ++ Y).map D.int)), y2, y3, y4]
    | .error m => ∃ ρ', whileL cQ bQ N [some (.str t), some (.lst .own (f.map D.int)), some (.int (pre.length : Nat)), x3, x4] = .exc (noc m) ρ'
  | 0, N, s, pre, f, x3, x4, _, _, h, _, _ => by omega
  | M + 1, 0, s, pre, f, x3, x4, _, _, _, h, _ => by omega
  | M + 1, N + 1, [], pre, f, x3, x4, hs, he, h1, h2, hf => by
    have c := cQ_false t pre.length (by rw [he]; simp) (some (.lst .own (f.map D.int))) x3 x4
    exact ⟨_, _, _, by rw [whileL_end c, List.append_nil]⟩
  | M + 1, N + 1, c :: r, pre, f, x3, x4, hs, he, h1, h2, hf => by
    have tl : t.length = pre.length + 1 + r.length := by rw [he]; simp; omega
    have cc := cQ_true t pre.length (by omega) (some (.lst .own (f.map D.int))) x3 x4
    have st := q_step t pre r c he ht (hs c (by simp)) (f.map D.int) (by simp; omega) x3 x4
    rw [rm]
    cases hX : stM pre.length c r with
    | error m =>
      rw [hX] at st
      obtain ⟨ρ', e⟩ := st
      exact ⟨ρ', whileL_exc cc e⟩
    | ok p =>
      obtain ⟨X, j⟩ := p
      rw [hX] at st
      obtain ⟨y3, y4, e⟩ := st
      obtain ⟨l1, l2, l3, l4⟩ := stM_le _ c r (hs c (by simp)) X j hX
      have pl : (pre ++ (c :: r).take j).length = pre.length + j := by rw [List.length_append, List.length_take, Nat.min_eq_left (by simpa using l2)]
      have i := rm_loop t ht M N ((c :: r).drop j) (pre ++ (c :: r).take j) (f ++ X) y3 y4 (fun x hx => hs x (List.mem_of_mem_drop hx)) (by rw [he, List.append_assoc, List.take_append_drop]) (by simp at *; omega) (by simp at *; omega) (by rw [pl]; simp; omega)
      rw [pl] at i
      rw [whileL_step cc e, ← List.map_append]
      simp only
      cases hZ : rm M (pre.length + j) ((c :: r).drop j) with
      | error m =>
        rw [hZ] at i
        exact i
      | ok Z =>
        rw [hZ] at i
        obtain ⟨y2, y5, y6, e2⟩ := i
        exact ⟨y2, y5, y6, by rw [e2, List.append_assoc]⟩
theorem rdm_core (S : List Nat) (M : Cm Out) (L : List D) (y2 y3 y4 : Option D)
    (e : M [some (.str S), some (.lst .own []), some (.int 0), none, none] = .ok .nx [some (.str S), some (.lst .own L), y2, y3, y4]) :
    runF 5 [] (mSeq (mSet 1 (mLst [])) (mSeq (mSet 2 (mC (.int 0))) (mSeq M (mRet (mMove 1))))) [.str S] = .ok (.lst .own L) [] := by
  simp [e]
theorem rdm_exc (S : List Nat) (M : Cm Out) (x : Ex) (ρ' : DE)
    (e : M [some (.str S), some (.lst .own []), some (.int 0), none, none] = .exc x ρ') :
    runF 5 [] (mSeq (mSet 1 (mLst [])) (mSeq (mSet 2 (mC (.int 0))) (mSeq M (mRet (mMove 1))))) [.str S] = .exc x [] := by
  simp [e]
/-- what read_marks tells of any text of signs -/
def rmT (t : List Nat) : Except Nat (List Int) := rm (t.length + 1) 0 t
theorem read_marks_any (t : List Nat) (hs : ∀ c ∈ t, Sgn c) (hl : t.length < 100000) : F_read_marks [.str t] = match rmT t with
    | .ok Y => .ok (.lst .own (Y.map D.int)) []
    | .error m => .exc (noc m) [] := by
  have el : F_read_marks [.str t] = runF 5 [] (mSeq (mSet 1 (mLst [])) (mSeq (mSet 2 (mC (.int 0))) (mSeq (mWhile cQ bQ) (mRet (mMove 1))))) [.str t] := rfl
  rw [el]
  have i := rm_loop t hl (t.length + 1) FUEL t [] [] none none hs rfl (by omega) (by have : FUEL = 1000000000 := rfl; omega) (by simp)
  unfold rmT
  cases hZ : rm (t.length + 1) 0 t with
  | error m =>
    rw [List.length_nil, hZ] at i
    obtain ⟨ρ', e⟩ := i
    exact rdm_exc t (mWhile cQ bQ) (noc m) ρ' e
  | ok Y =>
    rw [List.length_nil, hZ] at i
    obtain ⟨y2, y3, y4, e⟩ := i
    exact rdm_core t (mWhile cQ bQ) (Y.map D.int) y2 y3 y4 e
theorem forL_ret {g : D → Cm Unit} {b : Cm Out} {d r : D} {ds : List D} {ρ ρ1 ρ2 : DE} (h1 : g d ρ = .ok () ρ1) (h2 : b ρ1 = .ok (.ret r) ρ2) : forL g b (d :: ds) ρ = .ok (.ret r) ρ2 := by
  simp only [forL, h1, R.bind_ok, h2]
end K43


namespace K43
open VS L2
theorem rm_go {M k c j : Nat} {r : List Nat} {X Y : List Int} (h : stM k c r = .ok (X, j)) (i : rm M (k + j) ((c :: r).drop j) = .ok Y) : rm (M + 1) k (c :: r) = .ok (X ++ Y) := by
  rw [rm, h]
  simp only [i]
theorem rm_go2 {M k c j e : Nat} {r : List Nat} {X : List Int} (h : stM k c r = .ok (X, j)) (i : (∃ Y, rm M (k + j) ((c :: r).drop j) = .ok Y) ∨ rm M (k + j) ((c :: r).drop j) = .error e) : (∃ Y, rm (M + 1) k (c :: r) = .ok Y) ∨ rm (M + 1) k (c :: r) = .error e := by
  rcases i with ⟨Y, i⟩ | i
  · exact .inl ⟨_, rm_go h i⟩
  · right
    rw [rm, h]
    simp only [i]
theorem stM_soft (k : Nat) (r : List Nat) : stM k 61 (10 :: r) = .ok ([], 2) := by
  have h : hxv 10 = none := by decide
  simp [stM, eqM, h, nb]
theorem stM_sign (k c : Nat) (r : List Nat) (h1 : c ≠ 61) (h2 : c ≠ 32) : stM k c r = .ok ([(c : Int)], 1) := by
  simp [stM, h1, h2]
theorem nb_rep (k c : Nat) (R : List Nat) (hc : c ≠ 32) : nb (List.replicate k 32 ++ c :: R) = k := by
  induction k with
  | zero => simp [nb, hc]
  | succ k ih => rw [List.replicate_succ, List.cons_append, nb, if_pos rfl, ih]
theorem stM_blank (k j c : Nat) (R : List Nat) (hc : c ≠ 32) (h10 : c ≠ 10) : stM k 32 (List.replicate j 32 ++ c :: R) = .ok (List.replicate (j + 1) 32, j + 1) := by
  have n := nb_rep (j + 1) c R hc
  rw [List.replicate_succ, List.cons_append] at n
  have g : (32 :: (List.replicate j 32 ++ c :: R))[j + 1]? = some c := by simp
  have i : isNl (32 :: (List.replicate j 32 ++ c :: R)) (j + 1) = false := by
    unfold isNl
    rw [g]
    simp [h10]
  rw [stM, if_neg (by decide), if_pos rfl, n, i]
  rfl
theorem hx_val : ∀ n : Nat, n < 16 → hxv (H16 (n : Int)) = some n := by decide +kernel
theorem hxI (a : Int) (h : 0 ≤ a ∧ a < 16) : hxv (H16 a) = some a.toNat := by
  obtain ⟨n, rfl⟩ := Int.eq_ofNat_of_zero_le h.1
  rw [hx_val n (by omega)]
  rfl
theorem stM_hex (k : Nat) (x : Int) (hx : Oct x) (r : List Nat) : stM k 61 (H16 (x / 16) :: H16 (x % 16) :: r) = .ok ([x], 3) := by
  unfold Oct at hx
  have a := hxI (x / 16) (by omega)
  have b := hxI (x % 16) (by omega)
  have e : ((16 * (x / 16).toNat + (x % 16).toNat : Nat) : Int) = x := by omega
  generalize H16 (x / 16) = u at *
  generalize H16 (x % 16) = v at *
  have h2 : (((u :: v :: r : List Nat).head?).bind hxv) = some (x / 16).toNat := a
  unfold stM eqM
  rw [if_pos rfl, h2]
  simp only [List.getElem?_cons_succ, List.getElem?_cons_zero, b, e]
theorem Sx_ne (n : Nat) (xs : List Int) (h : n ≠ 0 ∨ xs ≠ []) : Sx n xs ≠ [] := by
  cases xs with
  | nil =>
    rcases h with h | h
    · rw [Sx, if_neg h]; simp
    · exact absurd rfl h
  | cons x xs =>
    have := un_len x (hd xs)
    have u : un x (hd xs) ≠ [] := fun e => by rw [e] at this; simp at this
    rw [Sx]
    split
    · simp
    · split
      · simp
      · simp [u]
theorem Sx0 (x : Int) (xs : List Int) (h : x ≠ 10) : Sx 0 (x :: xs) = un x (hd xs) ++ Sx (un x (hd xs)).length xs := by
  have := un_len x (hd xs)
  rw [Sx, if_neg h, if_neg (by omega), Nat.zero_add]
/-- by marks written, read again -/
theorem rm_Sx : ∀ (M : Nat) (xs : List Int) (n k : Nat), (∀ x ∈ xs, Oct x) → (Sx n xs).length < M → rm M k (Sx n xs) = .ok xs
  | 0, xs, n, k, _, h => by omega
  | M + 1, [], n, k, _, h => by
    rw [Sx] at h ⊢
    by_cases q : n = 0
    · rw [if_pos q]; rfl
    · rw [if_neg q] at h ⊢
      refine rm_go (X := []) (stM_soft k []) ?_
      cases M <;> rfl
  | M + 1, x :: xs, n, k, hx, h => by
    have hx0 := hx x (by simp)
    have hxs : ∀ y ∈ xs, Oct y := fun y hy => hx y (by simp [hy])
    by_cases q : x = 10
    · subst q
      rw [Sx, if_pos rfl] at h ⊢
      exact rm_go (X := [10]) (stM_sign k 10 _ (by decide) (by decide)) (rm_Sx M xs 0 _ hxs (by rw [List.length_cons] at h; omega))
    · by_cases br : 72 ≤ n + (un x (hd xs)).length
      · rw [Sx, if_neg q, if_pos br, ← Sx0 x xs q] at h ⊢
        exact rm_go (X := []) (stM_soft k _) (rm_Sx M (x :: xs) 0 _ hx (by rw [List.length_append] at h; simp only [List.length_cons, List.length_nil] at h; omega))
      · rw [Sx, if_neg q, if_neg br] at h ⊢
        by_cases b : x = 32 ∧ hd xs ≠ 10
        · have eu : un x (hd xs) = [32] := by unfold un; rw [if_pos b]
          obtain ⟨j, ys, c, R, e1, e2, e3, e4, e5, _⟩ := blank_run xs (n + 1) (by omega) b.2
          rw [eu] at h ⊢
          simp only [List.length_singleton] at h ⊢
          rw [e2] at h ⊢
          have st := stM_blank k j c R e4 e5
          have d : (32 :: (List.replicate j 32 ++ c :: R)).drop (j + 1) = Sx (n + 1 + j) ys := by
            rw [e3, List.drop_succ_cons, List.drop_left' (by simp)]
          have r := rm_go (M := M) (Y := ys) st (by
            rw [d]
            exact rm_Sx M ys (n + 1 + j) _ (fun y hy => hxs y (by rw [e1]; simp [hy])) (by rw [e3]; simp at h; simp; omega))
          rw [b.1, e1, List.singleton_append, r, List.replicate_succ]
          simp
        · by_cases s : x ≠ 32 ∧ x ≠ 61 ∧ isSg x = true
          · have eu : un x (hd xs) = [x.toNat] := by unfold un; rw [if_neg b, if_pos s]
            have xr := (isSg_iff x).1 s.2.2
            have xc : ((x.toNat : Nat) : Int) = x := by omega
            rw [eu] at h ⊢
            have st := stM_sign k x.toNat (Sx (n + 1) xs) (by omega) (by omega)
            rw [xc] at st
            exact rm_go (X := [x]) st (rm_Sx M xs (n + 1) _ hxs (by rw [List.length_append] at h; simp at h; omega))
          · have eu : un x (hd xs) = [61, H16 (x / 16), H16 (x % 16)] := by unfold un; rw [if_neg b, if_neg s]
            rw [eu] at h ⊢
            exact rm_go (X := [x]) (stM_hex k x hx0 (Sx (n + 3) xs)) (rm_Sx M xs (n + 3) _ hxs (by rw [List.length_append] at h; have h : 3 + (Sx (n + 3) xs).length < M + 1 := h; omega))
theorem rmT_mkT (l : List Int) (h : ∀ x ∈ l, Oct x) : rmT (mkT l) = .ok l := by
  unfold rmT
  rw [mkT_Sx]
  exact rm_Sx _ l 0 0 h (by omega)
theorem app_last {α : Type} (s A T : List α) (z : α) (h : s ++ [z] = A ++ T) (hT : T ≠ []) : ∃ s', s = A ++ s' ∧ s' ++ [z] = T := by
  refine ⟨T.dropLast, ?_, ?_⟩
  · have := congrArg List.dropLast h
    rw [List.dropLast_concat, List.dropLast_append_of_ne_nil hT] at this
    exact this
  · have := congrArg List.getLast? h
    obtain ⟨y, hy⟩ : ∃ y, T.getLast? = some y := by
      cases hy : T.getLast? with
      | none => exact absurd (List.getLast?_eq_none_iff.1 hy) hT
      | some y => exact ⟨y, rfl⟩
    rw [List.getLast?_concat, List.getLast?_append, hy] at this
    have : z = y := by simpa using this
    rw [this]
    obtain ⟨T', rfl⟩ := List.getLast?_eq_some_iff.1 hy
    rw [List.dropLast_concat]
/-- by marks written, the last line feed left out -/
theorem rm_cut : ∀ (M : Nat) (xs : List Int) (n k : Nat) (s : List Nat), (∀ x ∈ xs, Oct x) → s ++ [10] = Sx n xs → s.length < M → (∃ Y, rm M k s = .ok Y) ∨ rm M k s = .error (k + s.length)
  | 0, xs, n, k, s, _, _, h => by omega
  | M + 1, [], n, k, s, _, he, h => by
    rw [Sx] at he
    by_cases q : n = 0
    · rw [if_pos q] at he; simp at he
    · rw [if_neg q] at he
      obtain ⟨s', e1, e2⟩ := app_last s [61] [10] 10 he (by simp)
      have : s' = [] := by simpa using e2
      subst this
      subst e1
      right
      have e0 : stM k 61 [] = .error (k + 1) := by simp [stM, eqM, nb]
      rw [List.append_nil, rm, e0]
      rfl
  | M + 1, x :: xs, n, k, s, hx, he, h => by
    have hx0 := hx x (by simp)
    have hxs : ∀ y ∈ xs, Oct y := fun y hy => hx y (by simp [hy])
    by_cases q : x = 10
    · subst q
      rw [Sx, if_pos rfl] at he
      by_cases z : Sx 0 xs = []
      · rw [z] at he
        have : s = [] := by simpa using he
        subst this
        exact .inl ⟨[], rfl⟩
      · obtain ⟨s', e1, e2⟩ := app_last s [10] (Sx 0 xs) 10 he z
        subst e1
        have i := rm_cut M xs 0 (k + 1) s' hxs e2 (by simp at h; omega)
        have r := rm_go2 (stM_sign k 10 s' (by decide) (by decide)) i
        rw [show k + 1 + s'.length = k + ([10] ++ s').length by simp; omega] at r
        exact r
    · by_cases br : 72 ≤ n + (un x (hd xs)).length
      · rw [Sx, if_neg q, if_pos br, ← Sx0 x xs q] at he
        obtain ⟨s', e1, e2⟩ := app_last s [61, 10] _ 10 he (Sx_ne _ _ (.inr (by simp)))
        subst e1
        have i := rm_cut M (x :: xs) 0 (k + 2) s' hx e2 (by simp at h; omega)
        have r := rm_go2 (r := 10 :: s') (stM_soft k s') i
        rw [show k + 2 + s'.length = k + ([61, 10] ++ s').length by simp; omega] at r
        exact r
      · rw [Sx, if_neg q, if_neg br] at he
        by_cases b : x = 32 ∧ hd xs ≠ 10
        · have eu : un x (hd xs) = [32] := by unfold un; rw [if_pos b]
          obtain ⟨j, ys, c, R, e1, e2, e3, e4, e5, _⟩ := blank_run xs (n + 1) (by omega) b.2
          rw [eu] at he
          simp only [List.length_singleton] at he
          rw [e2, show [32] ++ (List.replicate j 32 ++ c :: R) = (32 :: List.replicate j 32) ++ c :: R by simp] at he
          obtain ⟨s', f1, f2⟩ := app_last s (32 :: List.replicate j 32) (c :: R) 10 he (by simp)
          cases s' with
          | nil =>
            have : c = 10 := by simp at f2; exact f2.1.symm
            exact absurd this e5
          | cons c' R' =>
            have : c' = c := by simp at f2; exact f2.1
            subst this
            have st := stM_blank k j c' R' e4 e5
            have d : (32 :: (List.replicate j 32 ++ c' :: R')).drop (j + 1) = c' :: R' := by
              rw [List.drop_succ_cons, List.drop_left' (by simp)]
            have i := rm_cut M ys (n + 1 + j) (k + (j + 1)) (c' :: R') (fun y hy => hxs y (by rw [e1]; simp [hy])) (by rw [f2, e3]) (by rw [f1] at h; simp at h; simp; omega)
            have r := rm_go2 st (by rw [d]; exact i)
            rw [f1, show (32 :: List.replicate j 32) ++ c' :: R' = 32 :: (List.replicate j 32 ++ c' :: R') by simp]
            have ee : k + (j + 1) + (c' :: R').length = k + (32 :: (List.replicate j 32 ++ c' :: R')).length := by simp; omega
            rw [ee] at r
            exact r
        · by_cases s2 : x ≠ 32 ∧ x ≠ 61 ∧ isSg x = true
          · have eu : un x (hd xs) = [x.toNat] := by unfold un; rw [if_neg b, if_pos s2]
            have xr := (isSg_iff x).1 s2.2.2
            rw [eu] at he
            obtain ⟨s', f1, f2⟩ := app_last s [x.toNat] _ 10 he (Sx_ne _ _ (.inl (by simp)))
            subst f1
            have i := rm_cut M xs _ (k + 1) s' hxs f2 (by simp at h; omega)
            have r := rm_go2 (stM_sign k x.toNat s' (by omega) (by omega)) i
            rw [show k + 1 + s'.length = k + ([x.toNat] ++ s').length by simp; omega] at r
            exact r
          · have eu : un x (hd xs) = [61, H16 (x / 16), H16 (x % 16)] := by unfold un; rw [if_neg b, if_neg s2]
            rw [eu] at he
            obtain ⟨s', f1, f2⟩ := app_last s [61, H16 (x / 16), H16 (x % 16)] _ 10 he (Sx_ne _ _ (.inl (by simp)))
            subst f1
            have i := rm_cut M xs _ (k + 3) s' hxs f2 (by simp at h; omega)
            have r := rm_go2 (stM_hex k x hx0 s') i
            rw [show k + 3 + s'.length = k + ([61, H16 (x / 16), H16 (x % 16)] ++ s').length by simp; omega] at r
            exact r
inductive Wd
  | p | s | m
def Wd.w : Wd → List Nat
  | .p => [112, 108, 97, 105, 110]
  | .s => [115, 105, 120, 101, 115]
  | .m => [109, 97, 114, 107, 115]
theorem wd_word (w : Wd) : F_is_word [.str w.w, .tup (k_CODES.map D.sc)] = .ok (.bl true) [] := by
  have e : inD false (.str w.w) (.tup (k_CODES.map D.sc)) = some (.bl true) := by cases w <;> decide +kernel
  generalize k_CODES.map D.sc = C at *
  simp [F_is_word, m_is_word, e]
theorem wd_code (w : Wd) : F_needed_code [.str w.w] = .ok .non [] := by
  have w : F_is_word [D.sc (Sc.str w.w), D.tup (List.map (D.fz ∘ D.sc) k_CODES)] = RF.ok (D.bl true) [] := wd_word w
  simp [F_needed_code, m_needed_code, w, mK]
def bodyB (t : List Nat) : Bool := decide (t = []) || (t.drop (t.length - 1) == [10])
theorem body_ok (t : List Nat) : F_is_body [.str t] = .ok (.bl (bodyB t)) [] := by
  unfold bodyB
  have e : endswithM (.str t) (.str [10]) = some (.bl (t.drop (t.length - 1) == [10])) := rfl
  generalize (t.drop (t.length - 1) == [10]) = b at *
  by_cases q : t = []
  · simp [F_is_body, m_is_body, q]
  · simp [F_is_body, m_is_body, q, e]
theorem bodyB_end (t : List Nat) (c : Nat) : bodyB (t ++ [c]) = decide (c = 10) := by
  unfold bodyB
  have : (t ++ [c]).drop ((t ++ [c]).length - 1) = [c] := by
    rw [List.length_append, List.length_singleton, Nat.add_sub_cancel, List.drop_left]
  rw [this]
  by_cases q : c = 10 <;> simp [q]
theorem bodyB_nil : bodyB [] = true := rfl
def rdM (FC F6 FM FN FB : List D → RF) : Cm Out := (mSeq (mIf (mNot (mTest (mP1 (isTy .str) (.v 0))))
  (mRaiseF "NoCode" "at" [(mC (.str [97, 32, 116, 101, 120, 116, 32, 105, 115, 32, 119, 97, 110, 116, 101, 100]))])
  mNext)
  (mSeq (mDrop (mCall FC [.p 1]))
  (mSeq (mIf (mTest (mP2 eqD (.v 1) (.e (mC (.str [115, 105, 120, 101, 115])))))
  (mSet 2 (mCall F6 [.p 0]))
  (mIf (mTest (mP2 eqD (.v 1) (.e (mC (.str [109, 97, 114, 107, 115])))))
  (mSet 2 (mCall FM [.p 0]))
  (mSet 2 (mLc (mItemsS (mVar 0)) (mPut 3) mYes (mCall FN [.p 3]) [3]))))
  (mSeq (mIf (mNot (mTest (mCall FB [.p 0])))
  (mRaiseF "NoCode" "at" [(mC (.str [105, 116, 32, 101, 110, 100, 115, 32, 116, 111, 111, 32, 115, 111, 111, 110])), (mP1 lenD (.v 0))])
  mNext)
  (mRet (mMove 2))))))
def resR : Except Nat (List D) → RF
  | .ok X => .ok (.lst .own X) []
  | .error m => .exc (noc m) []
def bodE {α : Type} (t : List Nat) : Except Nat α → Except Nat α
  | .ok X => if bodyB t = true then .ok X else .error t.length
  | .error m => .error m
theorem rd_coreM (FC F6 FM FN FB : List D → RF) (T : List Nat) (XM : Except Nat (List D)) (hXM : ∀ X, XM = .ok X → X.map D.fz = X) (c : FC [.str [109, 97, 114, 107, 115]] = .ok .non [])
    (m : FM [.str T] = resR XM) (b : FB [.str T] = .ok (.bl (bodyB T)) []) :
    runF 4 [] (rdM FC F6 FM FN FB) [.str T, .str [109, 97, 114, 107, 115]] = resR (bodE T XM) := by
  cases XM with
  | error k =>
    have m : FM [.str T] = .exc (noc k) [] := m
    simp [rdM, c, m, unexc, bodE, resR]
  | ok X =>
    have m : FM [.str T] = .ok (.lst .own X) [] := m
    have hX := hXM X rfl
    cases hb : bodyB T
    · rw [hb] at b
      simp [rdM, c, m, b, hX, unexc, bodE, resR, hb, mRaiseF, noc]
    · rw [hb] at b
      simp [rdM, c, m, b, hX, unexc, bodE, resR, hb]
def rdT (t : List Nat) : Except Nat (List Int) := bodE t (rmT t)
def mapE (e : Except Nat (List Int)) : Except Nat (List D) := e.map (List.map D.int)
theorem read_okM (t : List Nat) (hs : ∀ c ∈ t, Sgn c) (hl : t.length ≤ 30000) : F_read_by [.str t, .str [109, 97, 114, 107, 115]] = resR (mapE (rdT t)) := by
  have m : F_read_marks [.str t] = resR (mapE (rmT t)) := by
    rw [read_marks_any t hs (by omega)]
    cases rmT t <;> rfl
  have fz : ∀ e X, mapE e = .ok X → X.map D.fz = X := by
    intro e X h
    cases e with
    | error m => cases h
    | ok Y => cases h; exact ints_fz Y
  have el : F_read_by [.str t, .str [109, 97, 114, 107, 115]] = _ := rd_coreM F_needed_code F_read_sixes F_read_marks F_number_of F_is_body t (mapE (rmT t)) (fz _) (wd_code .m) m (body_ok t)
  rw [el]
  unfold rdT
  cases rmT t with
  | error m => rfl
  | ok Y => simp only [mapE, Except.map, bodE]; cases bodyB t <;> rfl
end K43


namespace K43
open VS L2
theorem mul_rep (v : Int) (b : Nat) (hb : b ≤ 10000) : mulD (.lst .own [.int v]) (.int (b : Nat)) = some (.lst .own ((List.replicate b v).map D.int)) := by
  have e : (List.replicate b [D.int v]).flatten = (List.replicate b v).map D.int := by
    induction b with
    | zero => rfl
    | succ b ih => rw [List.replicate_succ, List.flatten_cons, ih (by omega), List.replicate_succ]; rfl
  rw [mulD_lst, if_pos ⟨.inl rfl, rfl, by simp; omega, by omega⟩]
  simp only [Int.toNat_natCast, e]
theorem pkO (l : List Int) (i m : Int) (h : 0 ≤ i) (h2 : i < m) (hm : m.toNat = l.length) (q : ∀ x ∈ l, Oct x) : Oct (pk l i) := pk_P l i h (by omega) q
theorem oc_nil : ∀ x ∈ ([] : List Int), Oct x := fun _ h => absurd h (by simp)
theorem oc_cons (a : Int) (l : List Int) (h : Oct a) (h2 : ∀ x ∈ l, Oct x) : ∀ x ∈ a :: l, Oct x := fun x hx => by
  rcases List.mem_cons.1 hx with rfl | hx
  · exact h
  · exact h2 x hx
theorem oc_add (a : Int) (s : Int × Int × Int) (m : Int) (h : 0 < m) (h2 : m < 4611686018427387904) (h3 : 0 ≤ a) (h4 : a + m ≤ 256) : Oct (a + nx s m) := by
  have a1 := nx_nn s m h h2
  have a2 := nx_lt s m h h2
  unfold Oct
  omega
theorem oc_nx (s : Int × Int × Int) (m : Int) (h : 0 < m) (h4 : m ≤ 256) : Oct (nx s m) := by
  have a1 := nx_nn s m h (by omega)
  have a2 := nx_lt s m h (by omega)
  unfold Oct
  omega
theorem oc_m10 (k : Int) : Oct (48 + k % 10) := by unfold Oct; omega
theorem oc_m2 (k : Int) : Oct (61 + k % 2) := by unfold Oct; omega
def bodyR : Cm Out := (mSeq (mSet 5 (mIdx (.e (mLst [(mBin addD (mC (.int 97)) (mCall F__law_next [.s 0, .e (mC (.int 26))])), (mC (.int 32)), (mC (.int 10)), (mBin addD (mC (.int 48)) (mBin modD (mVar 4) (mC (.int 10))))])) (mCall F__law_next [.s 0, .e (mC (.int 4))])))
  (mSeq (mSet 6 (mIdx (.e (mLst [(mC (.int 32)), (mC (.int 10)), (mC (.int 61)), (mC (.int 37)), (mC (.int 9)), (mC (.int 13)), (mC (.int 33)), (mC (.int 126)), (mC (.int 127)), (mC (.int 95)), (mC (.int 32)), (mC (.int 10))])) (mCall F__law_next [.s 0, .e (mC (.int 12))])))
  (mDrop (mApp 3 (mIdx (.e (mLst [(mCall F__law_next [.s 0, .e (mC (.int 256))]), (mVar 5), (mVar 6), (mIdx (.e (mLst [(mC (.int 65)), (mC (.int 65)), (mC (.int 65)), (mVar 6)])) (mCall F__law_next [.s 0, .e (mC (.int 4))])), (mBin addD (mC (.int 61)) (mBin modD (mVar 5) (mC (.int 2))))])) (mVar 2))))))
theorem bodyR_ok (s : Int × Int × Int) (w k : Int) (xs : List Int) (hw : 0 ≤ w ∧ w < 5) (hl : xs.length < 16777216) (x1 x5 x6 x7 x8 : Option D) :
    ∃ s' y x5' x6', Oct y ∧ bodyR [some (encS s), x1, some (.int w), some (.lst .own (xs.map D.int)), some (.int k), x5, x6, x7, x8] = .ok .nx [some (encS s'), x1, some (.int w), some (.lst .own ((xs ++ [y]).map D.int)), some (.int k), x5', x6', x7, x8] := by
  refine ⟨_, _, _, _, ?_, by
    simp [bodyR, next_f, nx_nn, nx_lt, atI_pk12, atI_pk4, atI_pk5, hw, hl]
    exact ⟨rfl, rfl, rfl, rfl⟩⟩
  refine pkO _ _ 5 hw.1 hw.2 rfl ?_
  repeat' first
    | exact oc_nil
    | refine oc_cons _ _ ?_ ?_
    | exact oc_add _ _ _ (by decide) (by decide) (by decide) (by decide)
    | exact oc_nx _ _ (by decide) (by decide)
    | exact oc_m10 _
    | exact oc_m2 _
    | exact ⟨by decide, by decide⟩
    | refine pkO _ _ _ (nx_nn _ _ (by decide) (by decide)) (nx_lt _ _ (by decide) (by decide)) rfl ?_
def exR (c : Int) : List Int := if c = 0 then [10] else if c = 1 then [32] else if c = 2 then [61] else if c = 3 then [32, 10] else if c = 4 then [200] else []
theorem exR_ok (c : Int) (h : 0 ≤ c) (h2 : c < 6) : atI [D.lst .own [D.int 10], D.lst .own [D.int 32], D.lst .own [D.int 61], D.lst .own [D.int 32, D.int 10], D.lst .own [D.int 200], D.lst .own []] c = some (.lst .own ((exR c).map D.int)) := by
  have : c = 0 ∨ c = 1 ∨ c = 2 ∨ c = 3 ∨ c = 4 ∨ c = 5 := by omega
  rcases this with rfl | rfl | rfl | rfl | rfl | rfl <;> simp [atI_s, exR]
theorem exR_oct (c : Int) : ∀ x ∈ exR c, Oct x := by
  unfold exR
  repeat' split
  all_goals simp [Oct]
theorem exR_len (c : Int) : (exR c).length ≤ 2 := by
  unfold exR
  repeat' split
  all_goals simp
def lgR (n : Nat) : List Int := (List.range n).map fun k : Nat => 97 + (k : Int) % 26
theorem lgR_oct (n : Nat) : ∀ x ∈ lgR n, Oct x := by
  intro x hx
  obtain ⟨k, _, rfl⟩ := List.mem_map.1 hx
  unfold Oct
  omega
theorem lgR_lc (n : Nat) (x0 x1 x2 x3 x5 x6 x7 x8 : Option D) : lcL (mPut 4) mYes (mBin addD (mC (.int 97)) (mBin modD (mVar 4) (mC (.int 26)))) [4] (rangeD 0 n) [x0, x1, x2, x3, none, x5, x6, x7, x8] = .ok ((lgR n).map D.int) [x0, x1, x2, x3, none, x5, x6, x7, x8] := by
  have k := lcL_mapM (g := mPut 4) (e := mBin addD (mC (.int 97)) (mBin modD (mVar 4) (mC (.int 26)))) (vs := [4]) (ρ := [x0, x1, x2, x3, none, x5, x6, x7, x8]) (fun k : Nat => D.int (0 + (k : Int))) (fun k : Nat => D.int (97 + (k : Int) % 26)) (List.range n) fun k _ => ⟨_, [x0, x1, x2, x3, some (.int (0 + (k : Int))), x5, x6, x7, x8], rfl, by simp, rfl⟩
  unfold rangeD lgR
  rw [List.map_map]
  exact k
def insR : Cm Out := (mSeq (mSet 7 (mLc (mRange1 (mBin addD (mC (.int 66)) (mCall F__law_next [.s 0, .e (mC (.int 12))]))) (mPut 4) mYes (mBin addD (mC (.int 97)) (mBin modD (mVar 4) (mC (.int 26)))) [4]))
  (mSeq (mSet 8 (mCall F__law_next [.s 0, .e (mBin addD (mP1 lenD (.v 3)) (mC (.int 1)))]))
  (mSet 3 (mBin addD (mBin addD (mBin addD (mSlc (.v 3) none (some (mVar 8))) (mVar 7)) (mIdx (.e (mLst [(mLst [(mC (.int 10))]), (mLst [(mC (.int 32))]), (mLst [(mC (.int 61))]), (mLst [(mC (.int 32)), (mC (.int 10))]), (mLst [(mC (.int 200))]), (mLst [])])) (mCall F__law_next [.s 0, .e (mC (.int 6))]))) (mSlc (.v 3) (some (mVar 8)) none)))))
theorem insR_core (s s1 s2 s3 : D) (a k c : Int) (X L A B E M1 M2 R : List D) (x1 x2 x4 x5 x6 x7 x8 : Option D) (h4 : x4 = none ∨ ∃ i : Int, x4 = some (.int i))
    (n1 : F__law_next [s, .int 12] = .ok (.int a) [s1]) (sm : smallR (66 + a)) (la : (66 + a).toNat ≤ 16777216) (lc : ∀ x0 x1 x2 x3 x5 x6 x7 x8, lcL (mPut 4) mYes (mBin addD (mC (.int 97)) (mBin modD (mVar 4) (mC (.int 26)))) [4] (rangeD 0 (66 + a).toNat) [x0, x1, x2, x3, none, x5, x6, x7, x8] = .ok L [x0, x1, x2, x3, none, x5, x6, x7, x8])
    (n2 : F__law_next [s1, .int ((X.length : Int) + 1)] = .ok (.int k) [s2]) (cA : cutL X none (some k) = A) (cB : cutL X (some k) none = B) (pX : X.all D.pur = true) (hL : L.map D.fz = L) (hE : E.map D.fz = E)
    (a1 : addD (.lst .own A) (.lst .shr L) = some (.lst .own M1)) (n3 : F__law_next [s2, .int 6] = .ok (.int c) [s3])
    (ix : atI [D.lst .own [D.int 10], D.lst .own [D.int 32], D.lst .own [D.int 61], D.lst .own [D.int 32, D.int 10], D.lst .own [D.int 200], D.lst .own []] c = some (.lst .own E))
    (a2 : addD (.lst .own M1) (.lst .own E) = some (.lst .own M2)) (a3 : addD (.lst .own M2) (.lst .own B) = some (.lst .own R)) :
    ∃ y4 y7 y8, insR [some s, x1, x2, some (.lst .own X), x4, x5, x6, x7, x8] = .ok .nx [some s3, x1, x2, some (.lst .own R), y4, x5, x6, y7, y8] := by
  refine ⟨x4, some (.lst .shr L), some (.int k), ?_⟩
  rcases h4 with rfl | ⟨i, rfl⟩ <;> simp [insR, n1, sm, la, saved, wipeD, restD, lc, n2, cA, cB, pX, hL, hE, -addD_lst, a1, n3, ix, a2, a3, -List.all_eq_true]
theorem add_s (o : Ow) (ho : o = .own ∨ o = .shr) (a b : List Int) (h : a.length + b.length ≤ 10000) : addD (.lst .own (a.map D.int)) (.lst o (b.map D.int)) = some (.lst .own ((a ++ b).map D.int)) := by
  rw [addD_lst, if_pos ⟨.inl rfl, ho, by simp; omega⟩]; simp
theorem insR_ok (s : Int × Int × Int) (xs : List Int) (hx : ∀ x ∈ xs, Oct x) (hl : xs.length ≤ 200) (x1 x2 x4 x5 x6 x7 x8 : Option D) (h4 : x4 = none ∨ ∃ i : Int, x4 = some (.int i)) :
    ∃ (s' : Int × Int × Int) (ys : List Int) (y4 y7 y8 : Option D), (∀ y ∈ ys, Oct y) ∧ ys.length ≤ 300 ∧ insR [some (encS s), x1, x2, some (.lst .own (xs.map D.int)), x4, x5, x6, x7, x8] = .ok .nx [some (encS s'), x1, x2, some (.lst .own (ys.map D.int)), y4, x5, x6, y7, y8] := by
  have n1 := next_f s 12 (by decide) (by decide)
  have l1 := nx_nn s 12 (by decide) (by decide)
  have u1 := nx_lt s 12 (by decide) (by decide)
  generalize nx s 12 = a at *
  generalize sn s 12 = s1 at *
  have n2 := next_f s1 ((xs.length : Int) + 1) (by omega) (by omega)
  have l2 := nx_nn s1 ((xs.length : Int) + 1) (by omega) (by omega)
  have u2 := nx_lt s1 ((xs.length : Int) + 1) (by omega) (by omega)
  generalize nx s1 ((xs.length : Int) + 1) = b at *
  generalize sn s1 ((xs.length : Int) + 1) = s2 at *
  have n3 := next_f s2 6 (by decide) (by decide)
  have l3 := nx_nn s2 6 (by decide) (by decide)
  have u3 := nx_lt s2 6 (by decide) (by decide)
  generalize nx s2 6 = c at *
  generalize sn s2 6 = s3 at *
  obtain ⟨k, rfl⟩ := Int.eq_ofNat_of_zero_le l2
  have hk : k ≤ xs.length := by omega
  have cA := cut_take (xs.map D.int) k (by simpa using hk)
  have cB := cut_drop (xs.map D.int) k (by simpa using hk)
  rw [← List.map_take] at cA
  rw [← List.map_drop] at cB
  have ll : (((xs.map D.int).length : Nat) : Int) = xs.length := by simp
  have lg : (lgR (66 + a).toNat).length ≤ 78 := by unfold lgR; simp; omega
  have lt : (xs.take k).length ≤ k := by simp; omega
  have ld : (xs.drop k).length = xs.length - k := by simp
  have le := exR_len c
  obtain ⟨y4, y7, y8, e⟩ := insR_core (encS s) (encS s1) (encS s2) (encS s3) a k c (xs.map D.int) ((lgR (66 + a).toNat).map D.int) ((xs.take k).map D.int) ((xs.drop k).map D.int) ((exR c).map D.int) _ _ _ x1 x2 x4 x5 x6 x7 x8 h4 n1 (by unfold smallR; omega) (by omega) (fun _ _ _ _ _ _ _ _ => lgR_lc _ _ _ _ _ _ _ _ _)
    (by rw [ll]; exact n2) cA cB (by simp) (ints_fz _) (ints_fz _) (add_s .shr (.inr rfl) (xs.take k) (lgR (66 + a).toNat) (by omega)) n3 (exR_ok c l3 u3) (add_s .own (.inl rfl) (xs.take k ++ lgR (66 + a).toNat) (exR c) (by rw [List.length_append]; omega)) (add_s .own (.inl rfl) (xs.take k ++ lgR (66 + a).toNat ++ exR c) (xs.drop k) (by rw [List.length_append, List.length_append]; omega))
  refine ⟨s3, _, y4, y7, y8, ?_, ?_, e⟩
  · intro y hy
    rcases List.mem_append.1 hy with hy | hy
    · rcases List.mem_append.1 hy with hy | hy
      · rcases List.mem_append.1 hy with hy | hy
        · exact hx y (List.mem_of_mem_take hy)
        · exact lgR_oct _ y hy
      · exact exR_oct c y hy
    · exact hx y (List.mem_of_mem_drop hy)
  · rw [List.length_append, List.length_append, List.length_append]
    omega
def tailR : Cm Out := (mSeq (mIf (mAnd (mTest (mP2 gtD (.v 2) (.e (mC (.int 0))))) (mTest (mP2 eqD (.e (mCall F__law_next [.s 0, .e (mC (.int 3))])) (.e (mC (.int 0)))))) insR mNext)
  (mRet (mSlc (.e (mBin addD (mMove 3) (mBin mulD (mLst [(mC (.int 10))]) (mCall F__law_next [.s 0, .e (mC (.int 2))])))) none (some (mC (.int 200))))))
theorem ret_core (s s1 : D) (c : Int) (X B M R : List D) (x1 x2 x4 x5 x6 x7 x8 : Option D) (n1 : F__law_next [s, .int 2] = .ok (.int c) [s1]) (m : mulD (.lst .own [.int 10]) (.int c) = some (.lst .own B)) (a : addD (.lst .own X) (.lst .own B) = some (.lst .own M)) (cu : cutL M none (some 200) = R) (pM : M.all D.pur = true) :
    ∃ ρ', (mRet (mSlc (.e (mBin addD (mMove 3) (mBin mulD (mLst [(mC (.int 10))]) (mCall F__law_next [.s 0, .e (mC (.int 2))])))) none (some (mC (.int 200))))) [some s, x1, x2, some (.lst .own X), x4, x5, x6, x7, x8] = .ok (.ret (.lst .own R)) ρ' ∧ ρ'[0]? = some (some s1) := by
  refine ⟨[some s1, x1, x2, none, x4, x5, x6, x7, x8], ?_, rfl⟩
  simp [n1, -mulD_lst, m, -addD_lst, a, cu, pM, -List.all_eq_true]
theorem cut_upto (xs : List Int) (n : Nat) : cutL (xs.map D.int) none (some (n : Int)) = (xs.take n).map D.int := by
  rw [List.map_take]
  by_cases q : n ≤ xs.length
  · exact cut_take _ n (by simpa using q)
  · unfold cutL
    rw [HT.sIx_none, HT.sIx_nat, Nat.min_eq_right (by simp; omega)]
    simp
    omega
theorem ret_ok (s : Int × Int × Int) (xs : List Int) (hx : ∀ x ∈ xs, Oct x) (hl : xs.length ≤ 300) (x1 x2 x4 x5 x6 x7 x8 : Option D) :
    ∃ (s' : Int × Int × Int) (ys : List Int) (ρ' : DE), (∀ y ∈ ys, Oct y) ∧ ys.length ≤ 200 ∧ (mRet (mSlc (.e (mBin addD (mMove 3) (mBin mulD (mLst [(mC (.int 10))]) (mCall F__law_next [.s 0, .e (mC (.int 2))])))) none (some (mC (.int 200))))) [some (encS s), x1, x2, some (.lst .own (xs.map D.int)), x4, x5, x6, x7, x8] = .ok (.ret (.lst .own (ys.map D.int))) ρ' ∧ ρ'[0]? = some (some (encS s')) := by
  have n1 := next_f s 2 (by decide) (by decide)
  have l1 := nx_nn s 2 (by decide) (by decide)
  have u1 := nx_lt s 2 (by decide) (by decide)
  generalize nx s 2 = c at *
  generalize sn s 2 = s1 at *
  obtain ⟨k, rfl⟩ := Int.eq_ofNat_of_zero_le l1
  have hk : k ≤ 1 := by omega
  obtain ⟨ρ', e, e0⟩ := ret_core (encS s) (encS s1) (k : Int) (xs.map D.int) _ _ _ x1 x2 x4 x5 x6 x7 x8 n1 (mul_rep 10 k (by omega)) (add_s .own (.inl rfl) xs (List.replicate k 10) (by simp; omega)) (cut_upto _ 200) (by simp [Function.comp_def])
  refine ⟨s1, _, ρ', ?_, by simp; omega, e, e0⟩
  intro y hy
  rcases List.mem_append.1 (List.mem_of_mem_take hy) with hy | hy
  · exact hx y hy
  · rw [(List.mem_replicate.1 hy).2]; exact ⟨by decide, by decide⟩
theorem cond_core (s s1 : D) (c w : Int) (x1 x3 x4 x5 x6 x7 x8 : Option D) (n1 : F__law_next [s, .int 3] = .ok (.int c) [s1]) :
    (mIf (mAnd (mTest (mP2 gtD (.v 2) (.e (mC (.int 0))))) (mTest (mP2 eqD (.e (mCall F__law_next [.s 0, .e (mC (.int 3))])) (.e (mC (.int 0)))))) insR mNext) [some s, x1, some (.int w), x3, x4, x5, x6, x7, x8] = if 0 < w then (if c = 0 then insR [some s1, x1, some (.int w), x3, x4, x5, x6, x7, x8] else .ok .nx [some s1, x1, some (.int w), x3, x4, x5, x6, x7, x8]) else .ok .nx [some s, x1, some (.int w), x3, x4, x5, x6, x7, x8] := by
  by_cases q : 0 < w
  · by_cases p : c = 0
    · simp [n1, q, p]
    · simp [n1, q, p]
  · simp [q]
theorem tail_ok (s : Int × Int × Int) (w : Int) (xs : List Int) (hx : ∀ x ∈ xs, Oct x) (hl : xs.length ≤ 200) (x1 x4 x5 x6 x7 x8 : Option D) (h4 : x4 = none ∨ ∃ i : Int, x4 = some (.int i)) :
    ∃ (s' : Int × Int × Int) (ys : List Int) (ρ' : DE), (∀ y ∈ ys, Oct y) ∧ ys.length ≤ 200 ∧ tailR [some (encS s), x1, some (.int w), some (.lst .own (xs.map D.int)), x4, x5, x6, x7, x8] = .ok (.ret (.lst .own (ys.map D.int))) ρ' ∧ ρ'[0]? = some (some (encS s')) := by
  have n1 := next_f s 3 (by decide) (by decide)
  have cc := cond_core (encS s) (encS (sn s 3)) (nx s 3) w x1 (some (.lst .own (xs.map D.int))) x4 x5 x6 x7 x8 n1
  unfold tailR
  by_cases q : 0 < w
  · rw [if_pos q] at cc
    by_cases p : nx s 3 = 0
    · rw [if_pos p] at cc
      obtain ⟨s2, ys, y4, y7, y8, i1, i2, i3⟩ := insR_ok (sn s 3) xs hx hl x1 (some (.int w)) x4 x5 x6 x7 x8 h4
      rw [i3] at cc
      rw [mSeq_nx cc]
      exact ret_ok s2 ys i1 i2 x1 _ y4 x5 x6 y7 y8
    · rw [if_neg p] at cc
      rw [mSeq_nx cc]
      exact ret_ok _ xs hx (by omega) x1 _ x4 x5 x6 x7 x8
  · rw [if_neg q] at cc
    rw [mSeq_nx cc]
    exact ret_ok _ xs hx (by omega) x1 _ x4 x5 x6 x7 x8
theorem row_core (Q : Int) (s s1 s2 s3 s4 s5 : D) (w c : Int) (n : Int) (LS X Y : List D) (x4 x5 x6 x7 x8 : Option D) (ρ' : DE)
    (n1 : F__law_next [s, .int 5] = .ok (.int w) [s1]) (n2 : F__law_next [s1, .int 4] = .ok (.int c) [s2]) (p : Int) (ip : atI [D.int 4, D.int 12, D.int 60, D.int Q] c = some (.int p)) (n3 : F__law_next [s2, .int p] = .ok (.int n) [s3]) (sm : smallR n)
    (e : forL (mPut 4) bodyR (rangeD 0 n.toNat) [some s3, some (.int Q), some (.int w), some (.lst .own []), none, none, none, none, none] = .ok .nx [some s4, some (.int Q), some (.int w), some (.lst .own X), x4, x5, x6, x7, x8])
    (t : tailR [some s4, some (.int Q), some (.int w), some (.lst .own X), x4, x5, x6, x7, x8] = .ok (.ret (.lst .own Y)) ρ') (h0 : ρ'[0]? = some (some s5)) : F__law_row [s, .int Q] = .ok (.lst .own Y) [s5] := by
  have el : F__law_row [s, .int Q] = runF 9 [0] (mSeq (mSet 2 (mCall F__law_next [.s 0, .e (mC (.int 5))]))
  (mSeq (mSet 3 (mLst []))
  (mSeq (mFor (mRange1 (mCall F__law_next [.s 0, .e (mIdx (.e (mLst [(mC (.int 4)), (mC (.int 12)), (mC (.int 60)), (mVar 1)])) (mCall F__law_next [.s 0, .e (mC (.int 4))]))])) (mPut 4) bodyR) tailR))) [s, .int Q] := rfl
  rw [el]
  simp [n1, n2, ip, n3, sm, e, t, h0, endF]
theorem row_ok (Q : Int) (hQ : 0 < Q ∧ Q ≤ 200) (s : Int × Int × Int) : ∃ (s' : Int × Int × Int) (xs : List Int), (∀ x ∈ xs, Oct x) ∧ xs.length ≤ 200 ∧ F__law_row [encS s, .int Q] = .ok (.lst .own (xs.map D.int)) [encS s'] := by
  have n1 := next_f s 5 (by decide) (by decide)
  have l1 := nx_nn s 5 (by decide) (by decide)
  have u1 := nx_lt s 5 (by decide) (by decide)
  generalize nx s 5 = w at *
  generalize sn s 5 = s1 at *
  have n2 := next_f s1 4 (by decide) (by decide)
  have l2 := nx_nn s1 4 (by decide) (by decide)
  have u2 := nx_lt s1 4 (by decide) (by decide)
  generalize nx s1 4 = c at *
  generalize sn s1 4 = s2 at *
  have ip := atI_pk4 4 12 60 Q c l2 u2
  have pm := pk_mem [4, 12, 60, Q] c l2 u2
  generalize pk [4, 12, 60, Q] c = p at *
  have hp : 0 < p ∧ p ≤ 200 := by simp at pm; omega
  have n3 := next_f s2 p hp.1 (by omega)
  have l3 := nx_nn s2 p hp.1 (by omega)
  have u3 := nx_lt s2 p hp.1 (by omega)
  generalize nx s2 p = n at *
  generalize sn s2 p = s3 at *
  obtain ⟨m, rfl⟩ := Int.eq_ofNat_of_zero_le l3
  let I : Nat → DE → Prop := fun k ρ => ∃ (s' : Int × Int × Int) (xs : List Int) (x4 x5 x6 x7 x8 : Option D), (∀ x ∈ xs, Oct x) ∧ xs.length = k ∧ (x4 = none ∨ ∃ i : Int, x4 = some (.int i)) ∧ ρ = [some (encS s'), some (.int Q), some (.int w), some (.lst .own (xs.map D.int)), x4, x5, x6, x7, x8]
  have hf : ∃ ρ', forL (mPut 4) bodyR (rangeD 0 m) [some (encS s3), some (.int Q), some (.int w), some (.lst .own []), none, none, none, none, none] = .ok .nx ρ' ∧ I (rangeD 0 m).length ρ' := by
    refine forL_inv0 I ⟨_, [], _, _, _, _, _, by simp, rfl, .inl rfl, rfl⟩ ?_
    rintro i d ρ hd ⟨s', xs, x4, x5, x6, x7, x8, hx, hl, h4, rfl⟩
    obtain ⟨hi, rfl⟩ := rangeD_get hd
    obtain ⟨s2, y, x5', x6', hy, he⟩ := bodyR_ok s' w (0 + (i : Int)) xs ⟨l1, u1⟩ (by omega) (some (.int Q)) x5 x6 x7 x8
    refine ⟨_, rfl, .nx, _, he, Or.inl rfl, s2, xs ++ [y], _, _, _, _, _, ?_, by simp [hl], .inr ⟨_, rfl⟩, rfl⟩
    intro x hx'
    rcases List.mem_append.1 hx' with q | q
    · exact hx x q
    · simp at q; subst q; exact hy
  obtain ⟨ρ', hf1, s4, xs, x4, x5, x6, x7, x8, hx, hl, h4, rfl⟩ := hf
  rw [rangeD_len] at hl
  obtain ⟨s5, ys, ρ2, t1, t2, t3, t4⟩ := tail_ok s4 w xs hx (by omega) (some (.int Q)) x4 x5 x6 x7 x8 h4
  exact ⟨s5, ys, t1, t2, row_core Q (encS s) (encS s1) (encS s2) (encS s3) (encS s4) (encS s5) w c (m : Int) [] (xs.map D.int) (ys.map D.int) x4 x5 x6 x7 x8 ρ2 n1 n2 p ip n3 (by unfold smallR; omega) hf1 t3 t4⟩
theorem h16_tab2 : ∀ n : Nat, n < 16 → isSg ((H16 (n : Int) : Nat) : Int) = true := by decide +kernel
theorem h16_sgn (i : Int) (h : 0 ≤ i ∧ i < 16) : Sgn (H16 i) := by
  obtain ⟨n, rfl⟩ := Int.eq_ofNat_of_zero_le h.1
  exact .inl (h16_tab2 n (by omega))
theorem un_sgn (x y : Int) (hx : Oct x) : ∀ c ∈ un x y, Sgn c := by
  unfold Oct at hx
  unfold un
  split
  · intro c hc; rw [List.mem_singleton] at hc; subst hc; exact .inl rfl
  · split
    · rename_i q
      intro c hc
      rw [List.mem_singleton] at hc
      subst hc
      left
      rw [show ((x.toNat : Nat) : Int) = x by omega]
      exact q.2.2
    · intro c hc
      simp only [List.mem_cons, List.not_mem_nil, or_false] at hc
      rcases hc with rfl | rfl | rfl
      · exact .inl rfl
      · exact h16_sgn _ (by omega)
      · exact h16_sgn _ (by omega)
theorem Sx_sgn : ∀ (xs : List Int) (n : Nat), (∀ x ∈ xs, Oct x) → ∀ c ∈ Sx n xs, Sgn c
  | [], n, _ => by
    rw [Sx]
    split
    · simp
    · intro c hc
      simp only [List.mem_cons, List.not_mem_nil, or_false] at hc
      rcases hc with rfl | rfl
      · exact .inl rfl
      · exact .inr rfl
  | x :: xs, n, h => by
    have hx := h x (by simp)
    have ih := fun m => Sx_sgn xs m fun y hy => h y (by simp [hy])
    have u := un_sgn x (hd xs) hx
    rw [Sx]
    split
    · intro c hc
      rcases List.mem_cons.1 hc with rfl | hc
      · exact .inr rfl
      · exact ih _ c hc
    · split
      · intro c hc
        rcases List.mem_append.1 hc with hc | hc
        · simp only [List.mem_cons, List.not_mem_nil, or_false] at hc
          rcases hc with rfl | rfl
          · exact .inl rfl
          · exact .inr rfl
        · rcases List.mem_append.1 hc with hc | hc
          · exact u c hc
          · exact ih _ c hc
      · intro c hc
        rcases List.mem_append.1 hc with hc | hc
        · exact u c hc
        · exact ih _ c hc
theorem mkT_sgn (l : List Int) (h : ∀ x ∈ l, Oct x) : ∀ c ∈ mkT l, Sgn c := by
  rw [mkT_Sx]
  exact Sx_sgn l 0 h
theorem mkT_len2 (l : List Int) (h : l.length ≤ 300) : (mkT l).length ≤ 25000 := by
  have a := flat_size (rowsOf l) 72 fun w hw => (rows_good l w hw).1
  have b := rows_size l
  have c : 73 * (rowsOf l).length ≤ 73 * 301 := Nat.mul_le_mul_left _ (by omega)
  unfold mkT
  omega
end K43


namespace K43
open VS L2
theorem cut_drop' {α : Type} (xs : List α) (n : Nat) : cutL xs (some (n : Int)) none = xs.drop n := by
  by_cases h : n ≤ xs.length
  · exact cut_drop xs n h
  · unfold cutL
    rw [HT.sIx_none, HT.sIx_nat, Nat.min_eq_right (by omega)]
    simp
    omega
def lw16 : List Nat := [48, 49, 50, 51, 52, 53, 54, 55, 56, 57, 97, 98, 99, 100, 101, 102]
def fgI (c : Nat) : Int := if loC c ∈ lw16 then ((idxC (loC c) lw16 : Nat) : Int) else -1
def hxJ (c : Nat) : Int := match hxv c with
  | some v => (v : Int)
  | none => -1
theorem fg_tab : ∀ n : Nat, n < 128 → fgI n = hxJ n := by decide +kernel
theorem sgn_lt (c : Nat) (h : Sgn c) : c < 127 := by
  rcases h with h | rfl
  · have := (isSg_iff _).1 h; omega
  · omega
def lsg : List Nat := [32, 33, 34, 35, 36, 38, 39, 40, 41, 42, 43, 44, 45, 46, 47, 48, 49, 50, 51, 52, 53, 54, 55, 56, 57, 58, 59, 60, 61, 62, 63, 64, 65, 66, 67, 68, 69, 70, 71, 72, 73, 74, 75, 76, 77, 78, 79, 80, 81, 82, 83, 84, 85, 86, 87, 88, 89, 90, 91, 92, 93, 94, 95, 96, 97, 98, 99, 100, 101, 102, 103, 104, 105, 106, 107, 108, 109, 110, 111, 112, 113, 114, 115, 116, 117, 118, 119, 120, 121, 122, 123, 124, 125, 126]
theorem lsg_tab : ∀ n : Nat, n < 127 → 32 ≤ n → n ≠ 37 → n ∈ lsg ∧ (32 + (idxC n lsg : Int) + (if ([36] : List Nat) < [n] then 1 else 0) = (n : Int)) := by decide +kernel
theorem lnum_core (c : Nat) (S : List Nat) (j : Int) (hs : sindexM (.str S) (.str [c]) = some (.int j)) (g : Bool) (hg : gtS (.str [c]) (.str [36]) = some (.bl g)) (v : Int) (hv : 32 + j + (if g = true then 1 else 0) = v) :
    runF 3 [] (mSeq (mSet 1 (mC (.str S))) (mRet (mLc (mItemsS (mVar 0)) (mPut 2) mYes (mBin addD (mBin addD (mC (.int 32)) (mM sindexM (.v 1) (.v 2))) (mP1 intBD (.e (mP2 gtS (.v 2) (.e (mC (.str [36]))))))) [2]))) [.str [c]] = .ok (.lst .own [.int v]) [] := by
  have lc := lcL_mapM (g := mPut 2) (e := mBin addD (mBin addD (mC (.int 32)) (mM sindexM (.v 1) (.v 2))) (mP1 intBD (.e (mP2 gtS (.v 2) (.e (mC (.str [36])))))))
    (vs := [2]) (ρ := [some (.str [c]), some (.str S), none]) (fun c : Nat => D.str [c]) (fun _ => D.int v) [c] fun x hx => by
      obtain rfl : x = c := by simpa using hx
      refine ⟨_, [some (.str [x]), some (.str S), some (.str [x])], rfl, ?_, rfl⟩
      subst hv
      cases g <;> simp [mM, hs, hg, -gtS_, intBD]
  simp only [List.map_cons, List.map_nil] at lc
  simp [saved, wipeD, restD, lc]
theorem lnum_ok (c : Nat) (h : isSg (c : Int) = true) : F__law_numbers [.str [c]] = .ok (.lst .own [.int (c : Nat)]) [] := by
  obtain ⟨h1, h2, h3⟩ := (isSg_iff _).1 h
  obtain ⟨t1, t2⟩ := lsg_tab c (by omega) (by omega) (by omega)
  exact lnum_core c lsg _ (sidx c lsg t1) _ rfl _ (by simpa using t2)
def cLn : Cm Bool := (mTest (mP2 ltD (.v 4) (.e (mP1 lenD (.v 2)))))
def bLn : Cm Out := (mIf (mTest (mP2 neD (.e (mIdx (.v 2) (mVar 4))) (.e (mC (.str [61])))))
  (mSeq (mSet 3 (mBin addD (mVar 3) (mCall F__law_numbers [.e (mIdx (.v 2) (mVar 4))])))
  (mSet 4 (mBin addD (mVar 4) (mC (.int 1)))))
  (mIf (mTest (mP2 eqD (.e (mM stripM (.e (mSlc (.v 2) (some (mBin addD (mVar 4) (mC (.int 1)))) none)) (.e (mC (.str [32]))))) (.e (mC (.str [])))))
  (mRet (mTup [(mMove 3), (mC (.bl true))]))
  (mSeq (mSet 5 (mLc (mItemsS (mP1 lowerM (.e (mSlc (.v 2) (some (mBin addD (mVar 4) (mC (.int 1)))) (some (mBin addD (mVar 4) (mC (.int 3)))))))) (mPut 7) mYes (mM findM (.e (mC (.str lw16))) (.v 7)) [7]))
  (mSeq (mIf (mTest (mP2 ltD (.e (mIdx (.v 5) (mC (.int 0)))) (.e (mC (.int 0)))))
  (mSeq (mSet 6 (mBin subD (mBin addD (mBin addD (mVar 4) (mC (.int 1))) (mP1 lenD (.e (mSlc (.v 2) (some (mBin addD (mVar 4) (mC (.int 1)))) none)))) (mP1 lenD (.e (mM lstripM (.e (mSlc (.v 2) (some (mBin addD (mVar 4) (mC (.int 1)))) none)) (.e (mC (.str [32]))))))))
  (mRet (mTup [(mC .non), (mMove 6)])))
  mNext)
  (mSeq (mIf (mOr (mTest (mP2 ltD (.e (mP1 lenD (.v 5))) (.e (mC (.int 2))))) (mTest (mP2 ltD (.e (mIdx (.v 5) (mC (.int 1)))) (.e (mC (.int 0))))))
  (mRet (mTup [(mC .non), (mBin addD (mMove 4) (mC (.int 2)))]))
  mNext)
  (mSeq (mDrop (mApp 3 (mBin addD (mBin mulD (mC (.int 16)) (mIdx (.v 5) (mC (.int 0)))) (mIdx (.v 5) (mC (.int 1))))))
  (mSet 4 (mBin addD (mVar 4) (mC (.int 3))))))))))
theorem line_el : m__law_line = (mSeq (mSet 2 (mIfE (mTest (mVar 1)) (mVar 0) (mM rstripM (.v 0) (.e (mC (.str [32]))))))
  (mSeq (mSet 3 (mLst []))
  (mSeq (mSet 4 (mC (.int 0)))
  (mSeq (mWhile cLn bLn) (mRet (mTup [(mMove 3), (mC (.bl false))])))))) := rfl
section
variable (x0 x1 x5 x6 : Option D)
theorem ln_sign (B : List Nat) (F : List Int) (k c : Nat) (hF : F.length ≤ 9000) (h : B[k]? = some c) (h1 : c ≠ 61) (hc : isSg (c : Int) = true) :
    bLn [x0, x1, some (.str B), some (.lst .own (F.map D.int)), some (.int (k : Nat)), x5, x6, none] = .ok .nx [x0, x1, some (.str B), some (.lst .own ((F ++ [(c : Int)]).map D.int)), some (.int ((k + 1 : Nat) : Int)), x5, x6, none] := by
  have lt : k < B.length := (List.getElem?_eq_some_iff.1 h).1
  have a : atI B (k : Int) = some c := by rw [atI_nn _ _ (by omega)]; simpa using h
  have nu := lnum_ok c hc
  have ad := fun o (ho : o = .own ∨ o = .shr) => add_ints o .own ho (.inl rfl) F [(c : Int)] (by simp; omega)
  have fz := ints_fz F
  simp only [List.map_cons, List.map_nil] at ad
  have a1 := ad .own (.inl rfl)
  have a2 := ad .shr (.inr rfl)
  generalize (F ++ [(c : Int)]).map D.int = Y at *
  generalize F.map D.int = X at *
  simp [bLn, a, h1, nu, fz, -addD_lst, a1, a2]
theorem ln_end (B : List Nat) (X : List D) (k : Nat) (lB : B.length ≤ 100000) (h : B[k]? = some 61) (hs : stripL [32] (B.drop (k + 1)) = []) :
    ∃ ρ', bLn [x0, x1, some (.str B), some (.lst .own X), some (.int (k : Nat)), x5, x6, none] = .ok (.ret (.tup [.lst .own X, .bl true])) ρ' := by
  have lt : k < B.length := (List.getElem?_eq_some_iff.1 h).1
  have a : atI B (k : Int) = some 61 := by rw [atI_nn _ _ (by omega)]; simpa using h
  have ct : cutL B (some ((k : Int) + 1)) none = B.drop (k + 1) := by
    have := cut_drop' B (k + 1)
    simpa using this
  have sm : stripM (.str (B.drop (k + 1))) (.str [32]) = some (.str []) := by
    show some (Sc.str (stripL [32] (B.drop (k + 1)))) = _
    rw [hs]
  generalize B.drop (k + 1) = R at *
  exact ⟨_, by simp [bLn, a, ct, sm]; rfl⟩
end
end K43


namespace K43
open VS L2
def fL (c : Nat) : Int := if c ∈ lw16 then ((idxC c lw16 : Nat) : Int) else -1
theorem fL_lo (c : Nat) : fL (loC c) = fgI c := rfl
theorem fig_lc (G : List Nat) (x0 x1 x2 x3 x4 x5 x6 : Option D) : lcL (mPut 7) mYes (mM findM (.e (mC (.str lw16))) (.v 7)) [7] (G.map fun c => D.str [c]) [x0, x1, x2, x3, x4, x5, x6, none] = .ok (G.map fun c => D.int (fL c)) [x0, x1, x2, x3, x4, x5, x6, none] :=
  lcL_mapM (fun c : Nat => D.str [c]) (fun c => D.int (fL c)) G fun c _ => by
    refine ⟨_, [x0, x1, x2, x3, x4, x5, x6, some (.str [c])], rfl, ?_, rfl⟩
    have e : findM (.str lw16) (.str [c]) = some (.int (fL c)) := rfl
    generalize lw16 = L at *
    simp [-findM_, e]
theorem ld_len : ∀ r : List Nat, (ldrop [32].contains r).length + nb r = r.length
  | [] => rfl
  | c :: r => by
    have ih := ld_len r
    unfold ldrop at ih ⊢
    rw [nb, List.dropWhile_cons]
    by_cases q : c = 32
    · subst q
      simp only [if_true]
      rw [if_pos (by simp)]
      simp
      omega
    · rw [if_neg q, if_neg (by simp [q])]
      simp
section
variable (x0 x1 x5 x6 : Option D) (B S R G L : List Nat) (X : List D) (k : Nat) (h : B[k]? = some 61) (sm : stripM (.str R) (.str [32]) = some (.str S)) (hS : S ≠ []) (ct : cutL B (some ((k : Int) + 1)) none = R)
  (c3 : cutL B (some ((k : Int) + 1)) (some ((k : Int) + 3)) = G) (lw : lowerM (.str G) = some (.str L)) (lG : L.length ≤ 16777216)
include h sm hS ct c3 lw lG
theorem ln_bad1 (U : List Nat) (ls : lstripM (.str R) (.str [32]) = some (.str U)) (c : Nat) (T : List Nat) (hL : L = c :: T) (hv : fL c < 0) :
    ∃ ρ', bLn [x0, x1, some (.str B), some (.lst .own X), some (.int (k : Nat)), x5, x6, none] = .ok (.ret (.tup [.non, .int ((k : Int) + 1 + R.length - U.length)])) ρ' := by
  have a : atI B (k : Int) = some 61 := by have lt : k < B.length := (List.getElem?_eq_some_iff.1 h).1; rw [atI_nn _ _ (by omega)]; simpa using h
  have lc := fun y2 y3 y4 y5 y6 => fig_lc L x0 x1 y2 y3 y4 y5 y6
  subst hL
  simp only [List.map_cons] at lc
  generalize fL c = v at *
  generalize T.map (fun c => D.int (fL c)) = W at *
  have tW : T.length + 1 ≤ 16777216 := by simpa using lG
  exact ⟨_, by simp [bLn, a, ct, -lstripM_, -lowerM_, sm, hS, c3, lw, saved, wipeD, restD, lc, tW, hv, ls]; rfl⟩
theorem ln_bad2a (c : Nat) (hL : L = [c]) (hv : 0 ≤ fL c) :
    ∃ ρ', bLn [x0, x1, some (.str B), some (.lst .own X), some (.int (k : Nat)), x5, x6, none] = .ok (.ret (.tup [.non, .int ((k : Int) + 2)])) ρ' := by
  have a : atI B (k : Int) = some 61 := by have lt : k < B.length := (List.getElem?_eq_some_iff.1 h).1; rw [atI_nn _ _ (by omega)]; simpa using h
  have lc := fun y2 y3 y4 y5 y6 => fig_lc L x0 x1 y2 y3 y4 y5 y6
  subst hL
  simp only [List.map_cons, List.map_nil] at lc
  have hv' : ¬ fL c < 0 := by omega
  generalize fL c = v at *
  exact ⟨_, by simp [bLn, a, ct, -lowerM_, sm, hS, c3, lw, saved, wipeD, restD, lc, hv']; rfl⟩
theorem ln_bad2b (c d : Nat) (hL : L = [c, d]) (hv : 0 ≤ fL c) (hw : fL d < 0) :
    ∃ ρ', bLn [x0, x1, some (.str B), some (.lst .own X), some (.int (k : Nat)), x5, x6, none] = .ok (.ret (.tup [.non, .int ((k : Int) + 2)])) ρ' := by
  have a : atI B (k : Int) = some 61 := by have lt : k < B.length := (List.getElem?_eq_some_iff.1 h).1; rw [atI_nn _ _ (by omega)]; simpa using h
  have lc := fun y2 y3 y4 y5 y6 => fig_lc L x0 x1 y2 y3 y4 y5 y6
  subst hL
  simp only [List.map_cons, List.map_nil] at lc
  have hv' : ¬ fL c < 0 := by omega
  generalize fL c = v at *
  generalize fL d = w at *
  have i1 : atI [D.int v, D.int w] 1 = some (D.int w) := rfl
  exact ⟨_, by simp [bLn, a, ct, -lowerM_, sm, hS, c3, lw, saved, wipeD, restD, lc, hv', hw, i1]; rfl⟩
theorem ln_oct (c d : Nat) (hL : L = [c, d]) (hv : 0 ≤ fL c) (hw : 0 ≤ fL d) (hX : X.length < 16777216) :
    ∃ y5, bLn [x0, x1, some (.str B), some (.lst .own X), some (.int (k : Nat)), x5, x6, none] = .ok .nx [x0, x1, some (.str B), some (.lst .own (X ++ [.int (16 * fL c + fL d)])), some (.int ((k + 3 : Nat) : Int)), y5, x6, none] := by
  have a : atI B (k : Int) = some 61 := by have lt : k < B.length := (List.getElem?_eq_some_iff.1 h).1; rw [atI_nn _ _ (by omega)]; simpa using h
  have lc := fun y2 y3 y4 y5 y6 => fig_lc L x0 x1 y2 y3 y4 y5 y6
  subst hL
  simp only [List.map_cons, List.map_nil] at lc
  have hv' : ¬ fL c < 0 := by omega
  have hw' : ¬ fL d < 0 := by omega
  generalize fL c = v at *
  generalize fL d = w at *
  have i1 : atI [D.int v, D.int w] 1 = some (D.int w) := rfl
  exact ⟨_, by simp [bLn, a, ct, -lowerM_, sm, hS, c3, lw, saved, wipeD, restD, lc, hv', hw', hX, i1]; rfl⟩
end
end K43


namespace K43
open VS L2
def lnC (X : List Int) : Except Nat (List Int × Bool) → Except Nat (List Int × Bool)
  | .ok (Y, m) => .ok (X ++ Y, m)
  | .error m => .error m
def lnF : Nat → Nat → List Nat → Except Nat (List Int × Bool)
  | 0, _, _ => .ok ([], false)
  | _ + 1, _, [] => .ok ([], false)
  | N + 1, k, c :: r => if c ≠ 61 then lnC [(c : Int)] (lnF N (k + 1) r)
    else if stripL [32] r = [] then .ok ([], true)
    else match r with
      | [] => .ok ([], true)
      | a :: r1 => match hxv a with
        | none => .error (k + 1 + nb (a :: r1))
        | some v => match r1 with
          | [] => .error (k + 2)
          | b :: r2 => match hxv b with
            | none => .error (k + 2)
            | some w => lnC [((16 * v + w : Nat) : Int)] (lnF N (k + 3) r2)
theorem lnF_nil (N k : Nat) : lnF (N + 1) k [] = .ok ([], false) := rfl
theorem lnF_cons (N k c : Nat) (r : List Nat) : lnF (N + 1) k (c :: r) = if c ≠ 61 then lnC [(c : Int)] (lnF N (k + 1) r)
    else if stripL [32] r = [] then .ok ([], true)
    else match r with
      | [] => .ok ([], true)
      | a :: r1 => match hxv a with
        | none => .error (k + 1 + nb (a :: r1))
        | some v => match r1 with
          | [] => .error (k + 2)
          | b :: r2 => match hxv b with
            | none => .error (k + 2)
            | some w => lnC [((16 * v + w : Nat) : Int)] (lnF N (k + 3) r2) := rfl
theorem fL_hx (a : Nat) (h : isSg (a : Int) = true) : fL (loC a) = hxJ a := by
  rw [fL_lo]
  exact fg_tab a (by have := (isSg_iff _).1 h; omega)
theorem hxJ_s (a v : Nat) (h : hxv a = some v) : hxJ a = (v : Int) := by unfold hxJ; rw [h]
theorem hxJ_n (a : Nat) (h : hxv a = none) : hxJ a = -1 := by unfold hxJ; rw [h]
theorem cLn_true (x0 x1 x3 x5 x6 x7 : Option D) (B : List Nat) (k : Nat) (h : k < B.length) : cLn [x0, x1, some (.str B), x3, some (.int (k : Nat)), x5, x6, x7] = .ok true [x0, x1, some (.str B), x3, some (.int (k : Nat)), x5, x6, x7] := by
  simp [cLn, h]
theorem cLn_false (x0 x1 x3 x5 x6 x7 : Option D) (B : List Nat) (k : Nat) (h : k = B.length) : cLn [x0, x1, some (.str B), x3, some (.int (k : Nat)), x5, x6, x7] = .ok false [x0, x1, some (.str B), x3, some (.int (k : Nat)), x5, x6, x7] := by
  subst h
  simp [cLn]
def lnRes (x0 x1 : Option D) (B : List Nat) (F : List Int) (res : R Out) : Except Nat (List Int × Bool) → Prop
  | .ok (Y, false) => ∃ y5 y6, res = .ok .nx [x0, x1, some (.str B), some (.lst .own ((F ++ Y).map D.int)), some (.int (B.length : Nat)), y5, y6, none]
  | .ok (Y, true) => ∃ ρ', res = .ok (.ret (.tup [.lst .own ((F ++ Y).map D.int), .bl true])) ρ'
  | .error m => ∃ ρ', res = .ok (.ret (.tup [.non, .int (m : Nat)])) ρ'
theorem lnRes_c (x0 x1 : Option D) (B : List Nat) (F X : List Int) (res : R Out) (e : Except Nat (List Int × Bool)) (h : lnRes x0 x1 B (F ++ X) res e) : lnRes x0 x1 B F res (lnC X e) := by
  cases e with
  | error m => exact h
  | ok p =>
    obtain ⟨Y, b⟩ := p
    cases b
    · simpa [lnRes, lnC] using h
    · simpa [lnRes, lnC] using h
theorem low_two (G : List Nat) (h : ∀ c ∈ G, isSg (c : Int) = true) (hl : G.length ≤ 2) : lowerM (.str G) = some (.str (G.map loC)) := by
  rw [lowerM_, if_pos]
  refine ⟨List.all_eq_true.2 fun c hc => ?_, by omega⟩
  have := (isSg_iff _).1 (h c hc)
  simp
  omega
theorem ln_loop (x0 x1 : Option D) (B : List Nat) (hB : ∀ c ∈ B, isSg (c : Int) = true) (lB : B.length ≤ 9000) : ∀ (M N : Nat) (s pre : List Nat) (F : List Int) (x5 x6 : Option D), B = pre ++ s → s.length < M → s.length < N → F.length ≤ pre.length →
    lnRes x0 x1 B F (whileL cLn bLn N [x0, x1, some (.str B), some (.lst .own (F.map D.int)), some (.int (pre.length : Nat)), x5, x6, none]) (lnF M pre.length s)
  | 0, N, s, pre, F, x5, x6, _, h, _, _ => by omega
  | M + 1, 0, s, pre, F, x5, x6, _, _, h, _ => by omega
  | M + 1, N + 1, [], pre, F, x5, x6, he, h1, h2, hF => by
    have hl : pre.length = B.length := by rw [he]; simp
    rw [lnF_nil, whileL_end (cLn_false x0 x1 _ x5 x6 none B pre.length hl)]
    exact ⟨x5, x6, by rw [List.append_nil, hl]⟩
  | M + 1, N + 1, c :: r, pre, F, x5, x6, he, h1, h2, hF => by
    have hl : B.length = pre.length + 1 + r.length := by rw [he]; simp; omega
    have g : B[pre.length]? = some c := by rw [he]; simp
    have cc := cLn_true x0 x1 (some (.lst .own (F.map D.int))) x5 x6 none B pre.length (by omega)
    have hc := hB c (by rw [he]; simp)
    have ct : cutL B (some ((pre.length : Int) + 1)) none = r := by
      have := cut_drop' B (pre.length + 1)
      rw [he, show pre ++ c :: r = (pre ++ [c]) ++ r by simp, List.drop_left' (by simp)] at this
      rw [he, show pre ++ c :: r = (pre ++ [c]) ++ r by simp]
      simpa using this
    have c3 : cutL B (some ((pre.length : Int) + 1)) (some ((pre.length : Int) + 3)) = r.take 2 := by
      have := cut_to B (pre.length + 1) 2 (by omega)
      rw [show (((pre.length + 1 : Nat) : Int)) + ((2 : Nat) : Int) = (pre.length : Int) + 3 by omega, show (((pre.length + 1 : Nat) : Int)) = (pre.length : Int) + 1 by omega] at this
      rw [this, he, show pre ++ c :: r = (pre ++ [c]) ++ r by simp, List.drop_left' (by simp)]
    have hr : ∀ x ∈ r, isSg (x : Int) = true := fun x hx => hB x (by rw [he]; simp [hx])
    rw [lnF_cons]
    by_cases q : c = 61
    · subst q
      rw [if_neg (by simp)]
      have sm : stripM (.str r) (.str [32]) = some (.str (stripL [32] r)) := rfl
      by_cases b : stripL [32] r = []
      · rw [if_pos b]
        obtain ⟨ρ', e⟩ := ln_end x0 x1 x5 x6 B (F.map D.int) pre.length (by omega) g (by rw [he, show pre ++ 61 :: r = (pre ++ [61]) ++ r by simp, List.drop_left' (by simp)]; exact b)
        exact ⟨ρ', by rw [whileL_ret cc e, List.append_nil]⟩
      · rw [if_neg b]
        have lw := low_two (r.take 2) (fun x hx => hr x (List.mem_of_mem_take hx)) (by simp; omega)
        have lG : ((r.take 2).map loC).length ≤ 16777216 := by simp; omega
        cases r with
        | nil => exact absurd rfl b
        | cons a r1 =>
          have ha := fL_hx a (hr a (by simp))
          cases hv : hxv a with
          | none =>
            have v0 : fL (loC a) < 0 := by rw [ha, hxJ_n a hv]; decide
            obtain ⟨ρ', e⟩ := ln_bad1 x0 x1 x5 x6 B _ (a :: r1) _ _ (F.map D.int) pre.length g sm b ct c3 lw lG (ldrop [32].contains (a :: r1)) rfl (loC a) ((r1.take 1).map loC) rfl v0
            have ld := ld_len (a :: r1)
            simp only [hv]
            refine ⟨ρ', ?_⟩
            rw [whileL_ret cc e]
            have : (pre.length : Int) + 1 + ((a :: r1).length : Nat) - ((ldrop [32].contains (a :: r1)).length : Nat) = ((pre.length + 1 + nb (a :: r1) : Nat) : Int) := by omega
            rw [this]
          | some v =>
            have v0 : 0 ≤ fL (loC a) := by rw [ha, hxJ_s a v hv]; omega
            cases r1 with
            | nil =>
              obtain ⟨ρ', e⟩ := ln_bad2a x0 x1 x5 x6 B _ [a] _ _ (F.map D.int) pre.length g sm b ct c3 lw lG (loC a) rfl v0
              simp only [hv]
              refine ⟨ρ', ?_⟩
              rw [whileL_ret cc e]
              rw [show (pre.length : Int) + 2 = ((pre.length + 2 : Nat) : Int) by omega]
            | cons d r2 =>
              have hd := fL_hx d (hr d (by simp))
              cases hw : hxv d with
              | none =>
                have w0 : fL (loC d) < 0 := by rw [hd, hxJ_n d hw]; decide
                obtain ⟨ρ', e⟩ := ln_bad2b x0 x1 x5 x6 B _ (a :: d :: r2) _ _ (F.map D.int) pre.length g sm b ct c3 lw lG (loC a) (loC d) rfl v0 w0
                simp only [hv, hw]
                refine ⟨ρ', ?_⟩
                rw [whileL_ret cc e]
                rw [show (pre.length : Int) + 2 = ((pre.length + 2 : Nat) : Int) by omega]
              | some w =>
                have w0 : 0 ≤ fL (loC d) := by rw [hd, hxJ_s d w hw]; omega
                obtain ⟨y5, e⟩ := ln_oct x0 x1 x5 x6 B _ (a :: d :: r2) _ _ (F.map D.int) pre.length g sm b ct c3 lw lG (loC a) (loC d) rfl v0 w0 (by simp; omega)
                have fe : 16 * fL (loC a) + fL (loC d) = ((16 * v + w : Nat) : Int) := by rw [ha, hd, hxJ_s a v hv, hxJ_s d w hw]; omega
                rw [fe, show F.map D.int ++ [D.int ((16 * v + w : Nat) : Int)] = (F ++ [((16 * v + w : Nat) : Int)]).map D.int by simp] at e
                rw [whileL_step cc e]
                simp only [hv, hw]
                refine lnRes_c _ _ _ _ _ _ _ ?_
                have i := ln_loop x0 x1 B hB lB M N r2 (pre ++ [61, a, d]) (F ++ [((16 * v + w : Nat) : Int)]) y5 x6 (by rw [he]; simp) (by simp at h1; omega) (by simp at h2; omega) (by simp; omega)
                rw [show (pre ++ [61, a, d]).length = pre.length + 3 by simp] at i
                exact i
    · rw [if_pos q]
      have e := ln_sign x0 x1 x5 x6 B F pre.length c (by omega) g q hc
      rw [whileL_step cc e]
      refine lnRes_c _ _ _ _ _ _ _ ?_
      have i := ln_loop x0 x1 B hB lB M N r (pre ++ [c]) (F ++ [(c : Int)]) x5 x6 (by rw [he]; simp) (by simp at h1; omega) (by simp at h2; omega) (by simp; omega)
      rw [show (pre ++ [c]).length = pre.length + 1 by simp] at i
      exact i
end K43


namespace K43
open VS L2
def BT (b : Bool) (t : List Nat) : List Nat := if b = true then t else rdrop [32].contains t
theorem BT_le (b : Bool) (t : List Nat) : (BT b t).length ≤ t.length := by
  unfold BT
  split
  · exact Nat.le_refl _
  · exact rstrip_len _ t
theorem BT_sub (b : Bool) (t : List Nat) : ∀ c ∈ BT b t, c ∈ t := fun c h => by
  unfold BT at h
  split at h
  · exact h
  · exact rstrip_sub _ t c h
def lnR : Except Nat (List Int × Bool) → RF
  | .ok (Y, m) => .ok (.tup [.lst .own (Y.map D.int), .bl m]) []
  | .error m => .ok (.tup [.non, .int (m : Nat)]) []
def lineM (M : Cm Out) : Cm Out := (mSeq (mSet 2 (mIfE (mTest (mVar 1)) (mVar 0) (mM rstripM (.v 0) (.e (mC (.str [32]))))))
  (mSeq (mSet 3 (mLst []))
  (mSeq (mSet 4 (mC (.int 0)))
  (mSeq M (mRet (mTup [(mMove 3), (mC (.bl false))]))))))
theorem line_nx (M : Cm Out) (t B : List Nat) (b : Bool) (hB : BT b t = B) (Y : List D) (y4 y5 y6 : Option D) (e : M [some (.str t), some (.bl b), some (.str B), some (.lst .own []), some (.int 0), none, none, none] = .ok .nx [some (.str t), some (.bl b), some (.str B), some (.lst .own Y), y4, y5, y6, none]) :
    runF 8 [] (lineM M) [.str t, .bl b] = .ok (.tup [.lst .own Y, .bl false]) [] := by
  subst hB
  cases b
  · have e : M [some (.str t), some (.bl false), some (.str (rdrop [32].contains t)), some (.lst .own []), some (.int 0), none, none, none] = .ok .nx [some (.str t), some (.bl false), some (.str (rdrop [32].contains t)), some (.lst .own Y), y4, y5, y6, none] := e
    have rs : rstripM (.str t) (.str [32]) = some (.str (rdrop [32].contains t)) := rfl
    generalize rdrop [32].contains t = B at *
    simp [lineM, -rstripM_, rs, e]
  · have e : M [some (.str t), some (.bl true), some (.str t), some (.lst .own []), some (.int 0), none, none, none] = .ok .nx [some (.str t), some (.bl true), some (.str t), some (.lst .own Y), y4, y5, y6, none] := e
    simp [lineM, e]
theorem line_ret (M : Cm Out) (t B : List Nat) (b : Bool) (hB : BT b t = B) (d : D) (ρ' : DE) (e : M [some (.str t), some (.bl b), some (.str B), some (.lst .own []), some (.int 0), none, none, none] = .ok (.ret d) ρ') :
    runF 8 [] (lineM M) [.str t, .bl b] = .ok d [] := by
  subst hB
  cases b
  · have e : M [some (.str t), some (.bl false), some (.str (rdrop [32].contains t)), some (.lst .own []), some (.int 0), none, none, none] = .ok (.ret d) ρ' := e
    have rs : rstripM (.str t) (.str [32]) = some (.str (rdrop [32].contains t)) := rfl
    generalize rdrop [32].contains t = B at *
    simp [lineM, -rstripM_, rs, e]
  · have e : M [some (.str t), some (.bl true), some (.str t), some (.lst .own []), some (.int 0), none, none, none] = .ok (.ret d) ρ' := e
    simp [lineM, e]
def lnT (b : Bool) (t : List Nat) : Except Nat (List Int × Bool) := lnF ((BT b t).length + 1) 0 (BT b t)
theorem line_ok (t : List Nat) (h : ∀ c ∈ t, isSg (c : Int) = true) (hl : t.length ≤ 9000) (b : Bool) : F__law_line [.str t, .bl b] = lnR (lnT b t) := by
  have el : F__law_line [.str t, .bl b] = runF 8 [] (lineM (mWhile cLn bLn)) [.str t, .bl b] := by
    show runF 8 [] m__law_line _ = _
    rw [line_el]
    rfl
  have lB := BT_le b t
  have lp := ln_loop (some (.str t)) (some (.bl b)) (BT b t) (fun c hc => h c (BT_sub b t c hc)) (by omega) ((BT b t).length + 1) FUEL (BT b t) [] [] none none rfl (by omega) (by have : FUEL = 1000000000 := rfl; omega) (by simp)
  rw [el]
  unfold lnT
  have hW : ∀ ρ, mWhile cLn bLn ρ = whileL cLn bLn FUEL ρ := fun _ => rfl
  generalize FUEL = N at *
  generalize mWhile cLn bLn = W at *
  cases q : lnF ((BT b t).length + 1) 0 (BT b t) with
  | error m =>
    rw [List.length_nil, q] at lp
    obtain ⟨ρ', e⟩ := lp
    exact line_ret W t _ b rfl _ ρ' ((hW _).trans e)
  | ok p =>
    obtain ⟨Y, m⟩ := p
    rw [List.length_nil, q] at lp
    cases m
    · obtain ⟨y5, y6, e⟩ := lp
      exact line_nx W t _ b rfl _ _ y5 y6 ((hW _).trans e)
    · obtain ⟨ρ', e⟩ := lp
      exact line_ret W t _ b rfl _ ρ' ((hW _).trans e)
theorem lnF_len : ∀ (N k : Nat) (s : List Nat) (Y : List Int) (m : Bool), lnF N k s = .ok (Y, m) → Y.length ≤ s.length
  | 0, k, s, Y, m, h => by cases h; simp
  | N + 1, k, [], Y, m, h => by cases h; simp
  | N + 1, k, c :: r, Y, m, h => by
    have go : ∀ (X : List Int) (j : Nat) (s' : List Nat), lnC X (lnF N j s') = .ok (Y, m) → Y.length ≤ X.length + s'.length := by
      intro X j s' e
      cases q : lnF N j s' with
      | error m => rw [q] at e; cases e
      | ok p =>
        obtain ⟨Z, b⟩ := p
        rw [q] at e
        cases e
        have := lnF_len N j s' Z _ q
        simp
        omega
    rw [lnF_cons] at h
    split at h
    · have := go _ _ _ h; simp at *; omega
    · split at h
      · cases h; simp
      · cases r with
        | nil => cases h; simp
        | cons a r1 =>
          simp only [] at h
          split at h
          · cases h
          · cases r1 with
            | nil => cases h
            | cons b r2 =>
              simp only [] at h
              split at h
              · cases h
              · have := go _ _ _ h; simp at *; omega
/-! ### line by line -/
def enW : Nat → List (List Nat) → List D
  | _, [] => []
  | k, w :: ws => .tup [.int (k : Nat), .str w] :: enW (k + 1) ws
theorem enW_from (l : List (List Nat)) : ∀ k : Nat, (l.map D.str).mapIdx (fun i d => D.tup [.sc (.int ((k + i : Nat) : Int)), d]) = enW k l := by
  induction l with
  | nil => intro k; rfl
  | cons x l ih =>
    intro k
    rw [List.map_cons, List.mapIdx_cons, enW, ← ih (k + 1)]
    simp only [Nat.add_zero, Int.natCast_add, List.cons.injEq, true_and]
    congr 1
    funext i d
    have e : (k : Int) + ((i + 1 : Nat) : Int) = ((k + 1 + i : Nat) : Int) := by omega
    simp
    omega
theorem enW_ok (l : List (List Nat)) : enumD (l.map D.str) = enW 0 l := by
  rw [← enW_from l 0]
  simp [enumD]
def tV : D → Cm Unit := mTupT [(mPut 4), (mPut 5)]
def bV : Cm Out := (mSeq (mAsg (mCall F__law_line [.p 5, .e (mP2 eqD (.v 4) (.e (mBin subD (mP1 lenD (.v 1)) (mC (.int 1)))))]) (mTupT [(mPut 6), (mPut 7)]))
  (mSeq (mIf (mTest (mP2 isNon (.v 6) (.e (mC .non))))
  (mRet (mTup [(mC (.str [99, 111, 100, 101])), (mBin addD (mMove 3) (mMove 7))]))
  mNext)
  (mSeq (mSet 2 (mBin addD (mVar 2) (mVar 6)))
  (mSeq (mIf (mAnd (mNot (mTest (mVar 7))) (mTest (mP2 ltD (.v 4) (.e (mBin subD (mP1 lenD (.v 1)) (mC (.int 1)))))))
  (mDrop (mApp 2 (mC (.int 10))))
  mNext)
  (mSet 3 (mBin addD (mBin addD (mVar 3) (mP1 lenD (.v 5))) (mC (.int 1))))))))
theorem due_el : m__law_due = (mSeq (mSet 1 (mMN splitD (.v 0) (.e (mC (.str [10])))))
  (mSeq (mSet 2 (mLst []))
  (mSeq (mSet 3 (mC (.int 0)))
  (mSeq (mFor (mEnum (mVar 1)) tV bV)
  (mSeq (mIf (mTest (mP2 neD (.e (mIdx (.v 1) (mUn negD (mC (.int 1))))) (.e (mC (.str [])))))
  (mRet (mTup [(mC (.str [99, 111, 100, 101])), (mP1 lenD (.v 0))]))
  mNext)
  (mRet (mTup [(mC (.str [116, 111, 108, 100])), (mMove 2)]))))))) := rfl
section
variable (x0 x6 x7 : Option D) (o : Ow) (LS : List D) (X : List D) (w : List Nat) (k n : Nat) (st : Int)
theorem bV_bad (last : Bool) (m : Nat) (hn : LS.length = n + 1) (hL : last = decide (k = n)) (e : F__law_line [.str w, .bl last] = .ok (.tup [.non, .int (m : Nat)]) []) :
    ∃ ρ', bV [x0, some (.lst o LS), some (.lst .own X), some (.int st), some (.int (k : Nat)), some (.str w), x6, x7] = .ok (.ret (.tup [.str [99, 111, 100, 101], .int (st + m)])) ρ' := by
  have q : ((k : Int) == (LS.length : Int) - 1) = last := by
    rw [hL, show (LS.length : Int) - 1 = (n : Int) by omega, Bool.eq_iff_iff, beq_iff_eq, decide_eq_true_iff]
    omega
  exact ⟨_, by simp [bV, q, e]; rfl⟩
theorem bV_ok (last m : Bool) (Y Z : List D) (hn : LS.length = n + 1) (hk : k ≤ n) (hL : last = decide (k = n)) (hX : X.map D.fz = X) (hY : Y.map D.fz = Y) (hZ : Z.map D.fz = Z) (lZ : Z.length < 16777216)
    (ad : ∀ o p, (o = .own ∨ o = .shr) → (p = .own ∨ p = .shr) → addD (.lst o X) (.lst p Y) = some (.lst .own Z))
    (e : F__law_line [.str w, .bl last] = .ok (.tup [.lst .own Y, .bl m]) []) :
    ∃ y6 y7, bV [x0, some (.lst o LS), some (.lst .own X), some (.int st), some (.int (k : Nat)), some (.str w), x6, x7] = .ok .nx [x0, some (.lst o LS), some (.lst .own (Z ++ if m = false ∧ k ≠ n then [.int 10] else [])), some (.int (st + w.length + 1)), some (.int (k : Nat)), some (.str w), y6, y7] := by
  have q : ((k : Int) == (LS.length : Int) - 1) = last := by
    rw [hL, show (LS.length : Int) - 1 = (n : Int) by omega, Bool.eq_iff_iff, beq_iff_eq, decide_eq_true_iff]
    omega
  have a1 := ad .own .own (.inl rfl) (.inl rfl)
  have a2 := ad .own .shr (.inl rfl) (.inr rfl)
  have a3 := ad .shr .own (.inr rfl) (.inl rfl)
  have a4 := ad .shr .shr (.inr rfl) (.inr rfl)
  refine ⟨some (.lst .shr Y), some (.bl m), ?_⟩
  by_cases z : k = n
  · have lt : ¬ (k : Int) < (LS.length : Int) - 1 := by omega
    rw [if_neg (fun q => q.2 z), List.append_nil]
    clear hL
    cases m <;> simp [bV, q, e, hX, hY, hZ, -addD_lst, a1, a2, a3, a4, lt]
  · have lt : (k : Int) < (LS.length : Int) - 1 := by omega
    clear hL
    cases m
    · rw [if_pos ⟨rfl, z⟩]
      simp [bV, q, e, hX, hY, hZ, -addD_lst, a1, a2, a3, a4, lt, lZ]
    · rw [if_neg (fun q => absurd q.1 (by decide)), List.append_nil]
      simp [bV, q, e, hX, hY, hZ, -addD_lst, a1, a2, a3, a4, lt]
end
end K43


namespace K43
open VS L2
def preA (X : List Int) : Except Nat (List Int) → Except Nat (List Int)
  | .ok Y => .ok (X ++ Y)
  | .error m => .error m
def dvF : List (List Nat) → Nat → Except Nat (List Int)
  | [], _ => .ok []
  | w :: ws, st => match lnT (decide (ws = [])) w with
    | .error m => .error (st + m)
    | .ok (Y, m) => preA (Y ++ (if m = false ∧ ws ≠ [] then [10] else [])) (dvF ws (st + w.length + 1))
def codeD (k : Nat) : D := .tup [.str [99, 111, 100, 101], .int (k : Nat)]
theorem spl_sum (t : List Nat) : ((splitC 10 t).map fun w => w.length + 1).sum = t.length + 1 := by
  induction t with
  | nil => rfl
  | cons c r ih =>
    unfold splitC
    split
    · simp only [List.map_cons, List.sum_cons, ih]; simp; omega
    · cases q : splitC 10 r with
      | nil => exact absurd q (splitC_ne 10 r)
      | cons w ws =>
        rw [q] at ih
        simp only [List.map_cons, List.sum_cons, List.length_cons] at ih ⊢
        omega
def dvR (x0 : Option D) (L : List (List Nat)) (F : List Int) (res : R Out) : Except Nat (List Int) → Prop
  | .error m => ∃ ρ', res = .ok (.ret (codeD m)) ρ'
  | .ok W => ∃ y3 y4 y5 y6 y7, res = .ok .nx [x0, some (.lst .shr (L.map D.str)), some (.lst .own ((F ++ W).map D.int)), y3, y4, y5, y6, y7]
theorem dvR_pre (x0 : Option D) (L : List (List Nat)) (F X : List Int) (res : R Out) (e : Except Nat (List Int)) (h : dvR x0 L (F ++ X) res e) : dvR x0 L F res (preA X e) := by
  cases e with
  | error m => exact h
  | ok W => simpa [dvR, preA] using h
theorem dv_loop (x0 : Option D) (L : List (List Nat)) (n : Nat) (hL : L.length = n + 1) (hs : ∀ w ∈ L, ∀ c ∈ w, isSg (c : Int) = true) (lL : ∀ w ∈ L, w.length ≤ 9000) : ∀ (ws pre : List (List Nat)) (F : List Int) (st : Nat) (x4 x5 x6 x7 : Option D), L = pre ++ ws → F.length + (ws.map fun w => w.length + 1).sum ≤ 10000 →
    dvR x0 L F (forL tV bV (enW pre.length ws) [x0, some (.lst .shr (L.map D.str)), some (.lst .own (F.map D.int)), some (.int (st : Nat)), x4, x5, x6, x7]) (dvF ws st)
  | [], pre, F, st, x4, x5, x6, x7, he, hz => ⟨_, _, _, _, _, by rw [List.append_nil]; rfl⟩
  | w :: ws, pre, F, st, x4, x5, x6, x7, he, hz => by
    have hl : pre.length + 1 + ws.length = n + 1 := by rw [← hL, he]; simp; omega
    have hlast : decide (ws = []) = decide (pre.length = n) := by
      refine decide_eq_decide.2 ⟨fun q => ?_, fun q => ?_⟩
      · subst q; simp at hl; omega
      · exact List.length_eq_zero_iff.1 (by omega)
    have lo := line_ok w (hs w (by rw [he]; simp)) (lL w (by rw [he]; simp)) (decide (ws = []))
    have p1 : tV (.tup [.int (pre.length : Nat), .str w]) [x0, some (.lst .shr (L.map D.str)), some (.lst .own (F.map D.int)), some (.int (st : Nat)), x4, x5, x6, x7] = .ok () [x0, some (.lst .shr (L.map D.str)), some (.lst .own (F.map D.int)), some (.int (st : Nat)), some (.int (pre.length : Nat)), some (.str w), x6, x7] := rfl
    rw [enW, dvF]
    cases q : lnT (decide (ws = [])) w with
    | error m =>
      rw [q] at lo
      obtain ⟨ρ', e⟩ := bV_bad x0 x6 x7 .shr (L.map D.str) (F.map D.int) w pre.length n (st : Nat) _ m (by simpa using hL) hlast lo
      refine ⟨ρ', ?_⟩
      rw [forL_ret p1 e]
      unfold codeD
      rw [show ((st + m : Nat) : Int) = (st : Int) + (m : Int) by omega]
    | ok p =>
      obtain ⟨Y, m⟩ := p
      rw [q] at lo
      have yl : Y.length ≤ w.length := by
        have := lnF_len _ _ _ _ _ q
        have := BT_le (decide (ws = [])) w
        omega
      simp only [List.map_cons, List.sum_cons] at hz
      have ad : ∀ o p : Ow, (o = .own ∨ o = .shr) → (p = .own ∨ p = .shr) → addD (.lst o (F.map D.int)) (.lst p (Y.map D.int)) = some (.lst .own ((F ++ Y).map D.int)) := fun o p ho hp => add_ints o p ho hp F Y (by omega)
      obtain ⟨y6, y7, e⟩ := bV_ok x0 x6 x7 .shr (L.map D.str) (F.map D.int) w pre.length n (st : Nat) _ m (Y.map D.int) ((F ++ Y).map D.int) (by simpa using hL) (by omega) hlast (ints_fz F) (ints_fz Y) (ints_fz _) (by simp; omega) ad lo
      rw [forL_one p1 e]
      refine dvR_pre _ _ _ _ _ _ ?_
      have c1 : (m = false ∧ pre.length ≠ n) ↔ (m = false ∧ ws ≠ []) := by
        have := decide_eq_decide.1 hlast
        exact and_congr Iff.rfl (not_congr this.symm)
      have i := dv_loop x0 L n hL hs lL ws (pre ++ [w]) (F ++ (Y ++ (if m = false ∧ ws ≠ [] then [10] else []))) (st + w.length + 1) (some (.int (pre.length : Nat))) (some (.str w)) y6 y7 (by rw [he]; simp) (by
        have : (if m = false ∧ ws ≠ [] then ([10] : List Int) else []).length ≤ 1 := by split <;> simp
        simp only [List.length_append]
        omega)
      rw [show (pre ++ [w]).length = pre.length + 1 by simp] at i
      have e2 : (F ++ (Y ++ (if m = false ∧ ws ≠ [] then ([10] : List Int) else []))).map D.int = (F ++ Y).map D.int ++ (if m = false ∧ pre.length ≠ n then [D.int 10] else []) := by
        by_cases z : m = false ∧ ws ≠ []
        · rw [if_pos z, if_pos (c1.2 z)]; simp
        · rw [if_neg z, if_neg (fun q => z (c1.1 q))]; simp
      rw [e2, show ((st + w.length + 1 : Nat) : Int) = (st : Int) + (w.length : Int) + 1 by omega] at i
      exact i
def saidR : Except Nat (List D) → D
  | .ok X => .tup [.str [116, 111, 108, 100], .lst .own X]
  | .error m => codeD m
def dueM (M : Cm Out) : Cm Out := (mSeq (mSet 1 (mMN splitD (.v 0) (.e (mC (.str [10])))))
  (mSeq (mSet 2 (mLst []))
  (mSeq (mSet 3 (mC (.int 0)))
  (mSeq M
  (mSeq (mIf (mTest (mP2 neD (.e (mIdx (.v 1) (mUn negD (mC (.int 1))))) (.e (mC (.str [])))))
  (mRet (mTup [(mC (.str [99, 111, 100, 101])), (mP1 lenD (.v 0))]))
  mNext)
  (mRet (mTup [(mC (.str [116, 111, 108, 100])), (mMove 2)])))))))
theorem dueM_ret (M : Cm Out) (t : List Nat) (LS : List D) (d : D) (ρ' : DE) (sp : splitD (.str t) (.str [10]) = some (.lst .own LS)) (e : M [some (.str t), some (.lst .own LS), some (.lst .own []), some (.int 0), none, none, none, none] = .ok (.ret d) ρ') :
    runF 8 [] (dueM M) [.str t] = .ok d [] := by
  simp [dueM, sp, e]
theorem dueM_ok (M : Cm Out) (t w : List Nat) (LS X : List D) (y3 y4 y5 y6 y7 : Option D) (sp : splitD (.str t) (.str [10]) = some (.lst .own LS)) (la : atI LS (-1) = some (.str w)) (e : M [some (.str t), some (.lst .own LS), some (.lst .own []), some (.int 0), none, none, none, none] = .ok .nx [some (.str t), some (.lst .shr LS), some (.lst .own X), y3, y4, y5, y6, y7]) :
    runF 8 [] (dueM M) [.str t] = .ok (if w = [] then .tup [.str [116, 111, 108, 100], .lst .own X] else codeD t.length) [] := by
  by_cases q : w = []
  · subst q
    simp [dueM, sp, e, la]
  · simp [dueM, sp, e, la, q, codeD]
def finE (b : Bool) (n : Nat) : Except Nat (List Int) → Except Nat (List Int)
  | .ok X => if b = true then .ok X else .error n
  | .error m => .error m
def lastE (t : List Nat) : Bool := (splitC 10 t).getLast? == some []
theorem at_last (L : List (List Nat)) (w : List Nat) (h : L.getLast? = some w) : atI (L.map D.str) (-1) = some (.str w) := by
  obtain ⟨P, rfl⟩ := List.getLast?_eq_some_iff.1 h
  have e : L2.ixN ((P ++ [w]).map D.str).length (-1) = some P.length := by simp [L2.ixN]; omega
  unfold atI
  rw [e, List.map_append, List.map_singleton]
  show (P.map D.str ++ [D.str w])[P.length]? = _
  rw [List.getElem?_append_right (by simp)]
  simp
theorem dueF_ok (t : List Nat) (hs : ∀ c ∈ t, Sgn c) (hl : t.length ≤ 8000) : F__law_due [.str t] = .ok (saidR ((finE (lastE t) t.length (dvF (splitC 10 t) 0)).map (List.map D.int))) [] := by
  have el : F__law_due [.str t] = runF 8 [] (dueM (mFor (mEnum (mVar 1)) tV bV)) [.str t] := by
    show runF 8 [] m__law_due _ = _
    rw [due_el]
    rfl
  have sp : splitD (.str t) (.str [10]) = some (.lst .own ((splitC 10 t).map D.str)) := by
    show (if t.length + 2 ≤ 16777216 then some (D.lst .own ((splitC 10 t).map D.str)) else none) = _
    rw [if_pos (by omega)]
  have sub : ∀ w ∈ splitC 10 t, (∀ c ∈ w, c ∈ t) ∧ w.length ≤ t.length := fun w hw => ⟨(splitC_sub 10 t w hw).2, (splitC_sub 10 t w hw).1⟩
  have free := splitC_free 10 t
  have sm := spl_sum t
  have hsg : ∀ w ∈ splitC 10 t, ∀ c ∈ w, isSg (c : Int) = true := fun w hw c hc => by
    rcases hs c ((sub w hw).1 c hc) with h | rfl
    · exact h
    · exact absurd hc (free w hw)
  obtain ⟨n, hn⟩ : ∃ n, (splitC 10 t).length = n + 1 := ⟨(splitC 10 t).length - 1, by
    have : (splitC 10 t).length ≠ 0 := fun q => splitC_ne 10 t (List.length_eq_zero_iff.1 q)
    omega⟩
  have lp := dv_loop (some (.str t)) (splitC 10 t) n hn hsg (fun w hw => by have := (sub w hw).2; omega) (splitC 10 t) [] [] 0 none none none none rfl (by simp; omega)
  obtain ⟨w, hw⟩ : ∃ w, (splitC 10 t).getLast? = some w := by
    rw [List.getLast?_eq_some_getLast (splitC_ne 10 t)]; exact ⟨_, rfl⟩
  have la := at_last _ w hw
  have le : lastE t = decide (w = []) := by
    unfold lastE
    rw [hw]
    by_cases q : w = [] <;> simp [q]
  have hM : mFor (mEnum (mVar 1)) tV bV [some (.str t), some (.lst .own ((splitC 10 t).map D.str)), some (.lst .own []), some (.int 0), none, none, none, none] = forL tV bV (enW 0 (splitC 10 t)) [some (.str t), some (.lst .shr ((splitC 10 t).map D.str)), some (.lst .own []), some (.int 0), none, none, none, none] := by
    have en := enW_ok (splitC 10 t)
    have fz := strs_fz (splitC 10 t)
    generalize (splitC 10 t).map D.str = W at *
    simp [fz, en]
  rw [el, le]
  generalize mFor (mEnum (mVar 1)) tV bV = M at *
  cases q : dvF (splitC 10 t) 0 with
  | error m =>
    rw [q] at lp
    obtain ⟨ρ', e⟩ := lp
    exact dueM_ret M t _ _ ρ' sp (hM.trans e)
  | ok X =>
    rw [q] at lp
    obtain ⟨y3, y4, y5, y6, y7, e⟩ := lp
    rw [dueM_ok M t w _ _ y3 y4 y5 y6 y7 sp la (hM.trans e)]
    by_cases z : w = []
    · simp [z, finE, Except.map, saidR]
    · simp [z, finE, Except.map, saidR]
end K43


namespace K43
open VS L2
theorem rm_ok {M k c j : Nat} {r : List Nat} {X : List Int} (h : stM k c r = .ok (X, j)) : rm (M + 1) k (c :: r) = preA X (rm M (k + j) ((c :: r).drop j)) := by
  rw [rm, h]
  cases q : rm M (k + j) ((c :: r).drop j) <;> simp only [q, preA]
theorem rm_er {M k c m : Nat} {r : List Nat} (h : stM k c r = .error m) : rm (M + 1) k (c :: r) = .error m := by
  rw [rm, h]
def rd2 : List Nat → List Nat
  | [] => []
  | c :: r => if c = 32 ∧ rd2 r = [] then [] else c :: rd2 r
theorem rdrop_snoc (p : Nat → Bool) (l : List Nat) (x : Nat) : rdrop p (l ++ [x]) = if p x = true then rdrop p l else l ++ [x] := by
  unfold rdrop
  rw [List.reverse_append, List.reverse_singleton, List.singleton_append, List.dropWhile_cons]
  split
  · rfl
  · simp
theorem rd2_snoc : ∀ (l : List Nat) (x : Nat), rd2 (l ++ [x]) = if x = 32 then rd2 l else l ++ [x]
  | [], x => by
    by_cases q : x = 32 <;> simp [rd2, q]
  | c :: l, x => by
    have ih := rd2_snoc l x
    rw [List.cons_append, rd2, ih]
    by_cases q : x = 32
    · simp [q, rd2]
    · simp [q]
theorem rd2_eq (l : List Nat) : rdrop [32].contains l = rd2 l := by
  rcases List.eq_nil_or_concat l with rfl | ⟨r, x, e⟩
  · rfl
  · rw [List.concat_eq_append] at e
    have ih := rd2_eq r
    rw [e, rdrop_snoc, rd2_snoc, ih]
    simp
termination_by l.length
decreasing_by subst e; simp
theorem rd2_nil : ∀ l : List Nat, rd2 l = [] → l = List.replicate l.length 32
  | [], _ => rfl
  | c :: r, h => by
    rw [rd2] at h
    split at h
    · rename_i q
      have ih := rd2_nil r q.2
      rw [q.1, List.length_cons, List.replicate_succ, ← ih]
    · cases h
theorem rd2_rep : ∀ n : Nat, rd2 (List.replicate n 32) = []
  | 0 => rfl
  | n + 1 => by rw [List.replicate_succ, rd2, rd2_rep n]; simp
theorem rd2_mem : ∀ l : List Nat, rd2 l ≠ [] → ∃ c ∈ rd2 l, c ≠ 32
  | [], h => absurd rfl h
  | c :: r, h => by
    rw [rd2] at h ⊢
    split
    · rename_i q; rw [if_pos q] at h; exact absurd rfl h
    · rename_i q
      by_cases z : rd2 r = []
      · exact ⟨c, by simp, fun e => q ⟨e, z⟩⟩
      · obtain ⟨d, hd, hn⟩ := rd2_mem r z
        exact ⟨d, by simp [hd], hn⟩
theorem dw_all (p : Nat → Bool) : ∀ s : List Nat, s.dropWhile p = [] ↔ ∀ c ∈ s, p c = true
  | [] => by simp
  | c :: r => by
    rw [List.dropWhile_cons]
    by_cases q : p c = true
    · rw [if_pos q, dw_all p r]
      simp [q]
    · rw [if_neg q]
      simp [q]
theorem strip_blank (s : List Nat) (h : stripL [32] s = []) : ∀ c ∈ s, c = 32 := by
  have e : rdrop [32].contains (ldrop [32].contains s) = [] := h
  have h1 : ldrop [32].contains s = [] := by
    by_cases q : ldrop [32].contains s = []
    · exact q
    · exfalso
      obtain ⟨x, r, hx⟩ : ∃ x r, ldrop [32].contains s = x :: r := by
        cases z : ldrop [32].contains s with
        | nil => exact absurd z q
        | cons x r => exact ⟨x, r, rfl⟩
      have hn : x ≠ 32 := by
        have := List.head?_dropWhile_not [32].contains s
        unfold ldrop at hx
        rw [hx] at this
        simpa using this
      rw [rd2_eq, hx, rd2] at e
      rw [if_neg (fun z => hn z.1)] at e
      cases e
  intro c hc
  have := (dw_all [32].contains s).1 h1 c hc
  simpa using this
theorem strip_rep (n : Nat) : stripL [32] (List.replicate n 32) = [] := by
  have : ldrop [32].contains (List.replicate n 32) = [] := by
    unfold ldrop
    rw [dw_all]
    intro x hx
    rw [(List.mem_replicate.1 hx).2]
    rfl
  unfold stripL
  rw [this]
  rfl
theorem nb_dec : ∀ s : List Nat, s = List.replicate (nb s) 32 ++ s.drop (nb s) ∧ ∀ d r, s.drop (nb s) = d :: r → d ≠ 32
  | [] => ⟨rfl, fun d r h => by cases h⟩
  | c :: r => by
    obtain ⟨h1, h2⟩ := nb_dec r
    rw [nb]
    by_cases q : c = 32
    · rw [if_pos q]
      refine ⟨?_, fun d r' h => h2 d r' (by simpa using h)⟩
      rw [List.replicate_succ, List.cons_append, List.drop_succ_cons, ← h1, q]
    · rw [if_neg q]
      refine ⟨rfl, fun d r' h => ?_⟩
      have : c :: r = d :: r' := h
      rw [← (List.cons.inj this).1]
      exact q
theorem nb_app (a : List Nat) (d : Nat) (r : List Nat) (hd : d ≠ 32) : nb (List.replicate a.length 32 ++ d :: r) = a.length := nb_rep _ _ _ hd
theorem nb_tail (L R : List Nat) (d : Nat) (hd : d ≠ 32) : nb (L ++ d :: R) = nb L := by
  induction L with
  | nil => simp [nb, hd]
  | cons c r ih => rw [List.cons_append, nb, nb, ih]
theorem nb_rd2 : ∀ l : List Nat, rd2 l ≠ [] → nb (rd2 l) = nb l
  | [], h => absurd rfl h
  | c :: r, h => by
    rw [rd2] at h ⊢
    split
    · rename_i q; rw [if_pos q] at h; exact absurd rfl h
    · rename_i q
      rw [nb, nb]
      by_cases z : c = 32
      · rw [if_pos z, if_pos z, nb_rd2 r (fun e => q ⟨z, e⟩)]
      · rw [if_neg z, if_neg z]
theorem nb_full (l : List Nat) (h : nb l = l.length) : l = List.replicate l.length 32 := by
  have := (nb_dec l).1
  rw [h, List.drop_length, List.append_nil] at this
  exact this
/-! ### what a line tells, moved -/
def shE (j : Nat) : Except Nat (List Int × Bool) → Except Nat (List Int × Bool)
  | .ok p => .ok p
  | .error m => .error (j + m)
theorem shE_C (j : Nat) (X : List Int) (e : Except Nat (List Int × Bool)) : shE j (lnC X e) = lnC X (shE j e) := by
  cases e with
  | error m => rfl
  | ok p => rfl
theorem lnF_sh (j : Nat) : ∀ (N k : Nat) (s : List Nat), lnF N (j + k) s = shE j (lnF N k s)
  | 0, k, s => rfl
  | N + 1, k, [] => rfl
  | N + 1, k, c :: r => by
    have ih := lnF_sh j N
    rw [lnF_cons, lnF_cons]
    split
    · rw [shE_C, ← ih, Nat.add_assoc]
    · split
      · rfl
      · cases r with
        | nil => rfl
        | cons a r1 =>
          simp only []
          cases hxv a with
          | none => simp [shE]; omega
          | some v =>
            cases r1 with
            | nil => simp [shE]; omega
            | cons b r2 =>
              simp only []
              cases hxv b with
              | none => simp [shE]; omega
              | some w => simp only []; rw [shE_C, ← ih, Nat.add_assoc]
theorem lnC_C (X Y : List Int) (e : Except Nat (List Int × Bool)) : lnC X (lnC Y e) = lnC (X ++ Y) e := by
  cases e with
  | error m => rfl
  | ok p => simp [lnC]
theorem lnC_nil (e : Except Nat (List Int × Bool)) : lnC [] e = e := by
  cases e with
  | error m => rfl
  | ok p => rfl
theorem lnF_bl : ∀ (j N k : Nat) (s : List Nat), lnF (N + j) k (List.replicate j 32 ++ s) = lnC (List.replicate j (32 : Int)) (lnF N (k + j) s)
  | 0, N, k, s => by rw [show List.replicate 0 (32 : Int) = [] by rfl, lnC_nil]; rfl
  | j + 1, N, k, s => by
    have ih := lnF_bl j N (k + 1) s
    rw [List.replicate_succ, List.cons_append, show N + (j + 1) = (N + j) + 1 by omega, lnF_cons, if_pos (by decide), ih, lnC_C, List.replicate_succ, show k + 1 + j = k + (j + 1) by omega]
    rfl
end K43


namespace K43
open VS L2
theorem preA_pre (X Y : List Int) (e : Except Nat (List Int)) : preA X (preA Y e) = preA (X ++ Y) e := by
  cases e with
  | error m => rfl
  | ok W => simp [preA]
theorem preA_nil (e : Except Nat (List Int)) : preA [] e = e := by
  cases e with
  | error m => rfl
  | ok p => rfl
def cmb (res : Except Nat (List Int)) : Except Nat (List Int × Bool) → Except Nat (List Int)
  | .ok (Y, m) => preA (Y ++ if m = true then [] else [10]) res
  | .error m => .error m
theorem cmb_C (res : Except Nat (List Int)) (X : List Int) (e : Except Nat (List Int × Bool)) : cmb res (lnC X e) = preA X (cmb res e) := by
  cases e with
  | error m => rfl
  | ok p => simp [lnC, cmb, preA_pre]
theorem hx10 : hxv 10 = none := by decide
theorem hx32 : hxv 32 = none := by decide
theorem hx_ne {c v : Nat} (h : hxv c = some v) : c ≠ 10 ∧ c ≠ 32 := by
  constructor
  · intro e; subst e; rw [hx10] at h; cases h
  · intro e; subst e; rw [hx32] at h; cases h
theorem stM_61 (k : Nat) (r : List Nat) : stM k 61 r = eqM k r := by unfold stM; rw [if_pos rfl]
theorem stM_32 (k : Nat) (r : List Nat) : stM k 32 r = .ok (if isNl (32 :: r) (nb (32 :: r)) = true then [] else List.replicate (nb (32 :: r)) 32, nb (32 :: r)) := by
  unfold stM
  rw [if_neg (by decide), if_pos rfl]
theorem eqM_no (k : Nat) (a : Nat) (r : List Nat) (h : hxv a = none) : eqM k (a :: r) = match (a :: r)[nb (a :: r)]? with
    | none => .error (k + 1 + nb (a :: r))
    | some d => if d = 10 then .ok ([], nb (a :: r) + 2) else .error (k + 1 + nb (a :: r)) := by
  unfold eqM
  rw [show (a :: r).head?.bind hxv = none from h]
  all_goals rfl
theorem eqM_nil (k : Nat) : eqM k [] = .error (k + 1) := rfl
theorem eqM_one (k a v : Nat) (h : hxv a = some v) : eqM k [a] = .error (k + 2) := by
  unfold eqM
  rw [show [a].head?.bind hxv = some v from h]
  rfl
theorem eqM_two (k a v b : Nat) (r : List Nat) (h : hxv a = some v) : eqM k (a :: b :: r) = match hxv b with
    | some w => .ok ([((16 * v + w : Nat) : Int)], 3)
    | none => .error (k + 2) := by
  unfold eqM
  rw [show (a :: b :: r).head?.bind hxv = some v from h]
  rfl
theorem nb_lt (l : List Nat) (h : rd2 l ≠ []) : nb l < l.length := by
  have := nb_le l
  refine Nat.lt_of_le_of_ne this fun q => h ?_
  rw [nb_full l q, rd2_rep]
theorem nb_get (l : List Nat) (h : nb l < l.length) : ∃ d, l[nb l]? = some d ∧ d ≠ 32 ∧ d ∈ l := by
  obtain ⟨h1, h2⟩ := nb_dec l
  cases q : l.drop (nb l) with
  | nil =>
    have := congrArg List.length q
    simp at this
    omega
  | cons d r =>
    refine ⟨d, ?_, h2 d r q, List.mem_of_mem_drop (by rw [q]; simp)⟩
    rw [← List.head?_drop, q]
    rfl
theorem lnA : ∀ (n : Nat) (L R : List Nat) (k M N : Nat) (res : Except Nat (List Int)), L.length < n → (∀ c ∈ L, c ≠ 10) → (∀ M, R.length < M → rm M (k + L.length + 1) R = res) → L.length + R.length + 1 < M → (rd2 L).length < N →
    rm M k (L ++ 10 :: R) = cmb res (lnF N k (rd2 L))
  | 0, L, R, k, M, N, res, h, _, _, _, _ => by omega
  | n + 1, L, R, k, 0, N, res, _, _, _, h, _ => by omega
  | n + 1, L, R, k, M, 0, res, _, _, _, _, h => by omega
  | n + 1, [], R, k, M + 1, N + 1, res, h0, h10, hR, hM, hN => by
    rw [List.nil_append, rm_ok (stM_sign k 10 R (by decide) (by decide)), List.drop_succ_cons, List.drop_zero, show k + 1 = k + ([] : List Nat).length + 1 from rfl, hR M (by simp at hM; omega)]
    rfl
  | n + 1, c :: r, R, k, M + 1, N + 1, res, h0, h10, hR, hM, hN => by
    have h10r : ∀ x ∈ r, x ≠ 10 := fun x hx => h10 x (by simp [hx])
    have hc10 := h10 c (by simp)
    simp only [List.length_cons] at h0 hM
    by_cases q : c = 61
    · subst q
      have e61 : rd2 (61 :: r) = 61 :: rd2 r := by rw [rd2, if_neg (by simp)]
      rw [e61] at hN ⊢
      rw [lnF_cons, if_neg (by simp)]
      by_cases z : rd2 r = []
      · have hr := rd2_nil r z
        rw [z, if_pos (show stripL [32] [] = [] from rfl)]
        have st : stM k 61 (r ++ 10 :: R) = .ok ([], r.length + 2) := by
          rw [stM_61]
          have hn : nb (r ++ 10 :: R) = r.length := by rw [hr, nb_rep _ _ _ (by decide)]; simp
          have hg : (r ++ 10 :: R)[r.length]? = some 10 := by simp
          obtain ⟨a, s, hs, ha⟩ : ∃ a s, r ++ 10 :: R = a :: s ∧ hxv a = none := by
            cases hr2 : r with
            | nil => exact ⟨10, R, rfl, hx10⟩
            | cons a s =>
              have : a = 32 := by
                rw [hr2] at hr
                exact (List.cons.inj hr).1
              exact ⟨a, s ++ 10 :: R, rfl, by rw [this]; exact hx32⟩
          rw [hs] at hn hg ⊢
          rw [eqM_no k a s ha, hn, hg]
          simp
        rw [List.cons_append, rm_ok st, preA_nil, show (61 :: (r ++ 10 :: R)).drop (r.length + 2) = R by
          rw [List.drop_succ_cons, show r.length + 1 = (r ++ [10]).length by simp, show r ++ 10 :: R = (r ++ [10]) ++ R by simp, List.drop_left], show k + (r.length + 2) = k + (61 :: r).length + 1 by simp; omega, hR M (by omega)]
        show res = preA [] res
        rw [preA_nil]
      · rw [if_neg (fun e => by
          obtain ⟨x, hx, hn⟩ := rd2_mem r z
          exact hn (strip_blank _ e x hx))]
        cases r with
        | nil => exact absurd rfl z
        | cons a r1 =>
          have ea : rd2 (a :: r1) = a :: rd2 r1 := by
            rw [rd2] at z ⊢
            split
            · rename_i w; rw [if_pos w] at z; exact absurd rfl z
            · rfl
          have nlt := nb_lt (a :: r1) z
          have nrd := nb_rd2 (a :: r1) z
          rw [ea] at hN nrd ⊢
          simp only []
          cases hv : hxv a with
          | none =>
            obtain ⟨d, hd, hd32, hdm⟩ := nb_get (a :: r1) nlt
            have hd10 := h10r d hdm
            have st : stM k 61 (a :: r1 ++ 10 :: R) = .error (k + 1 + nb (a :: r1)) := by
              rw [stM_61, List.cons_append, eqM_no k a _ hv, ← List.cons_append, nb_tail _ _ _ (by decide), List.getElem?_append_left nlt, hd]
              simp [hd10]
            rw [List.cons_append, rm_er st]
            simp only [cmb]
            rw [nrd]
          | some v =>
            cases r1 with
            | nil =>
              have st : stM k 61 ([a] ++ 10 :: R) = .error (k + 2) := by
                rw [stM_61, List.singleton_append, eqM_two k a v 10 R hv, hx10]
              rw [List.cons_append, rm_er st]
              rfl
            | cons b r2 =>
              cases hw : hxv b with
              | none =>
                have st : stM k 61 ((a :: b :: r2) ++ 10 :: R) = .error (k + 2) := by
                  rw [stM_61, List.cons_append, List.cons_append, eqM_two k a v b _ hv, hw]
                rw [List.cons_append, rm_er st]
                cases hz : rd2 (b :: r2) with
                | nil => rfl
                | cons d r3 =>
                  have : d = b := by
                    rw [rd2] at hz
                    split at hz
                    · cases hz
                    · exact (List.cons.inj hz).1.symm
                  subst this
                  simp only [hw]
                  rfl
              | some w =>
                have eb : rd2 (b :: r2) = b :: rd2 r2 := by rw [rd2, if_neg (fun e => (hx_ne hw).2 e.1)]
                have st : stM k 61 ((a :: b :: r2) ++ 10 :: R) = .ok ([((16 * v + w : Nat) : Int)], 3) := by
                  rw [stM_61, List.cons_append, List.cons_append, eqM_two k a v b _ hv, hw]
                rw [eb] at hN ⊢
                simp only [hw]
                rw [List.cons_append, rm_ok st, cmb_C]
                congr 1
                simp only [List.length_cons] at h0 hM hN
                have hR' : ∀ M, R.length < M → rm M ((k + 3) + r2.length + 1) R = res := fun M hm => by
                  have := hR M hm
                  rw [show k + (61 :: a :: b :: r2).length + 1 = (k + 3) + r2.length + 1 by simp; omega] at this
                  exact this
                exact lnA n r2 R (k + 3) M N res (by omega) (fun x hx => h10r x (by simp [hx])) hR' (by omega) (by omega)
    · by_cases p : c = 32
      · subst p
        by_cases z : rd2 (32 :: r) = []
        · have hr := rd2_nil (32 :: r) z
          have hn : nb (32 :: (r ++ 10 :: R)) = (32 :: r).length := by
            rw [← List.cons_append, hr, nb_rep _ _ _ (by decide)]; simp
          have hg : isNl (32 :: (r ++ 10 :: R)) (32 :: r).length = true := by
            unfold isNl
            rw [← List.cons_append, List.getElem?_append_right (Nat.le_refl _)]
            simp
          have st : stM k 32 (r ++ 10 :: R) = .ok ([], (32 :: r).length) := by
            rw [stM_32, hn, hg, if_pos rfl]
          rw [List.cons_append, rm_ok st, preA_nil, ← List.cons_append, List.drop_left, z]
          obtain ⟨M2, rfl⟩ : ∃ M2, M = M2 + 1 := ⟨M - 1, by omega⟩
          rw [rm_ok (stM_sign _ 10 R (by decide) (by decide)), List.drop_succ_cons, List.drop_zero, hR M2 (by omega)]
          rfl
        · obtain ⟨d1, d2⟩ := nb_dec (32 :: r)
          have nlt := nb_lt (32 :: r) z
          have npos : 1 ≤ nb (32 :: r) := by rw [nb, if_pos rfl]; omega
          obtain ⟨d, hd, hd32, hdm⟩ := nb_get (32 :: r) nlt
          have hd10 := h10 d hdm
          have hn : nb (32 :: (r ++ 10 :: R)) = nb (32 :: r) := by rw [← List.cons_append, nb_tail _ _ _ (by decide)]
          have hg : isNl (32 :: (r ++ 10 :: R)) (nb (32 :: r)) = false := by
            unfold isNl
            rw [← List.cons_append, List.getElem?_append_left nlt, hd]
            simp [hd10]
          have st : stM k 32 (r ++ 10 :: R) = .ok (List.replicate (nb (32 :: r)) 32, nb (32 :: r)) := by
            rw [stM_32, hn, hg, if_neg (by decide)]
          generalize hj : nb (32 :: r) = j at *
          have er : rd2 (32 :: r) = List.replicate j 32 ++ rd2 ((32 :: r).drop j) := by
            have key : ∀ (j : Nat) (s : List Nat), rd2 s ≠ [] → rd2 (List.replicate j 32 ++ s) = List.replicate j 32 ++ rd2 s := by
              intro j s hs
              induction j with
              | zero => rfl
              | succ j ih =>
                rw [List.replicate_succ, List.cons_append, rd2, ih, if_neg (fun e => by
                  have := e.2
                  rw [List.append_eq_nil_iff] at this
                  exact hs this.2)]
                rfl
            have hs : rd2 ((32 :: r).drop j) ≠ [] := by
              cases q2 : (32 :: r).drop j with
              | nil =>
                have := congrArg List.length q2
                simp at this nlt
                omega
              | cons x s => rw [rd2, if_neg (fun e => d2 x s q2 e.1)]; simp
            rw [← key j _ hs, ← d1]
          have lj : j + (rd2 ((32 :: r).drop j)).length < N + 1 := by
            rw [er] at hN
            simp at hN
            omega
          obtain ⟨N2, hN2⟩ : ∃ N2, N + 1 = N2 + j := ⟨N + 1 - j, by omega⟩
          rw [er, hN2, lnF_bl, cmb_C, List.cons_append, rm_ok st]
          congr 1
          rw [← List.cons_append, List.drop_append_of_le_length (by omega)]
          have hR' : ∀ M, R.length < M → rm M ((k + j) + ((32 :: r).drop j).length + 1) R = res := fun M hm => by
            have := hR M hm
            rw [show (k + j) + ((32 :: r).drop j).length + 1 = k + (32 :: r).length + 1 by simp at nlt ⊢; omega]
            exact this
          exact lnA n ((32 :: r).drop j) R (k + j) M N2 res (by simp at nlt ⊢; omega) (fun x hx => h10 x (List.mem_of_mem_drop hx)) hR' (by simp at nlt ⊢; omega) (by omega)
      · have ec : rd2 (c :: r) = c :: rd2 r := by rw [rd2, if_neg (fun e => p e.1)]
        rw [ec] at hN ⊢
        rw [lnF_cons, if_pos q, cmb_C, List.cons_append, rm_ok (stM_sign k c _ q p)]
        congr 1
        have hR' : ∀ M, R.length < M → rm M ((k + 1) + r.length + 1) R = res := fun M hm => by
          have := hR M hm
          rw [show k + (c :: r).length + 1 = (k + 1) + r.length + 1 by simp; omega] at this
          exact this
        simp only [List.length_cons] at hN
        exact lnA n r R (k + 1) M N res (by omega) h10r hR' (by omega) (by omega)
end K43


namespace K43
open VS L2
def fB (n : Nat) : Except Nat (List Int × Bool) → Except Nat (List Int)
  | .ok (Y, m) => if m = true then .error n else .ok Y
  | .error m => .error m
theorem fB_C (n : Nat) (X : List Int) (e : Except Nat (List Int × Bool)) : fB n (lnC X e) = preA X (fB n e) := by
  cases e with
  | error m => rfl
  | ok p =>
    obtain ⟨Y, m⟩ := p
    cases m <;> rfl
theorem strip_all (s : List Nat) (h : stripL [32] s = []) : s = List.replicate s.length 32 := List.eq_replicate_iff.2 ⟨rfl, strip_blank s h⟩
theorem nb_lt2 (l : List Nat) (h : stripL [32] l ≠ []) : nb l < l.length := by
  have := nb_le l
  refine Nat.lt_of_le_of_ne this fun q => h ?_
  rw [nb_full l q, strip_rep]
theorem nb_all (n : Nat) : nb (List.replicate n 32) = n := by
  induction n with
  | zero => rfl
  | succ n ih => rw [List.replicate_succ, nb, if_pos rfl, ih]
theorem lnB : ∀ (n : Nat) (L : List Nat) (k M N : Nat), L.length < n → (∀ c ∈ L, c ≠ 10) → L.length < M → L.length < N → rm M k L = fB (k + L.length) (lnF N k L)
  | 0, L, k, M, N, h, _, _, _ => by omega
  | n + 1, L, k, 0, N, _, _, h, _ => by omega
  | n + 1, L, k, M, 0, _, _, _, h => by omega
  | n + 1, [], k, M + 1, N + 1, _, _, _, _ => rfl
  | n + 1, c :: r, k, M + 1, N + 1, h0, h10, hM, hN => by
    have h10r : ∀ x ∈ r, x ≠ 10 := fun x hx => h10 x (by simp [hx])
    simp only [List.length_cons] at h0 hM hN
    by_cases q : c = 61
    · subst q
      rw [lnF_cons, if_neg (by simp)]
      by_cases z : stripL [32] r = []
      · rw [if_pos z]
        have hr := strip_all r z
        have st : stM k 61 r = .error (k + 1 + r.length) := by
          rw [stM_61]
          have hn : nb r = r.length := by rw [hr, nb_all]; simp
          cases r with
          | nil => rfl
          | cons a s =>
            have : a = 32 := (List.cons.inj hr).1
            rw [eqM_no k a s (by rw [this]; exact hx32), hn]
            simp
        rw [rm_er st]
        show _ = Except.error (k + (r.length + 1))
        congr 1
        omega
      · rw [if_neg z]
        cases r with
        | nil => exact absurd rfl z
        | cons a r1 =>
          simp only []
          have nlt := nb_lt2 (a :: r1) z
          cases hv : hxv a with
          | none =>
            obtain ⟨d, hd, hd32, hdm⟩ := nb_get (a :: r1) nlt
            have hd10 := h10r d hdm
            have st : stM k 61 (a :: r1) = .error (k + 1 + nb (a :: r1)) := by
              rw [stM_61, eqM_no k a _ hv, hd]
              simp [hd10]
            rw [rm_er st]
            rfl
          | some v =>
            cases r1 with
            | nil =>
              rw [rm_er (by rw [stM_61]; exact eqM_one k a v hv)]
              rfl
            | cons b r2 =>
              simp only []
              cases hw : hxv b with
              | none =>
                rw [rm_er (m := k + 2) (by rw [stM_61, eqM_two k a v b r2 hv, hw])]
                rfl
              | some w =>
                have st : stM k 61 (a :: b :: r2) = .ok ([((16 * v + w : Nat) : Int)], 3) := by
                  rw [stM_61, eqM_two k a v b r2 hv, hw]
                simp only []
                rw [rm_ok st, fB_C]
                congr 1
                simp only [List.length_cons] at h0 hM hN
                rw [show k + (61 :: a :: b :: r2).length = (k + 3) + r2.length by simp; omega]
                exact lnB n r2 (k + 3) M N (by omega) (fun x hx => h10r x (by simp [hx])) (by omega) (by omega)
    · by_cases p : c = 32
      · subst p
        obtain ⟨d1, d2⟩ := nb_dec (32 :: r)
        have nle := nb_le (32 :: r)
        have npos : 1 ≤ nb (32 :: r) := by rw [nb, if_pos rfl]; omega
        have hg : isNl (32 :: r) (nb (32 :: r)) = false := by
          unfold isNl
          refine decide_eq_false fun e => ?_
          exact h10 10 (List.mem_of_getElem? e) rfl
        have st : stM k 32 r = .ok (List.replicate (nb (32 :: r)) 32, nb (32 :: r)) := by
          rw [stM_32, hg, if_neg (by decide)]
        generalize hj : nb (32 :: r) = j at *
        obtain ⟨N2, hN2⟩ : ∃ N2, N + 1 = N2 + j := ⟨N + 1 - j, by simp at nle; omega⟩
        have e1 : lnF (N + 1) k (32 :: r) = lnC (List.replicate j (32 : Int)) (lnF N2 (k + j) ((32 :: r).drop j)) := by
          rw [hN2]
          conv => lhs; rw [d1]
          exact lnF_bl j N2 k _
        rw [e1, fB_C, rm_ok st]
        congr 1
        rw [show k + (32 :: r).length = (k + j) + ((32 :: r).drop j).length by simp at nle ⊢; omega]
        exact lnB n ((32 :: r).drop j) (k + j) M N2 (by simp at nle ⊢; omega) (fun x hx => h10 x (List.mem_of_mem_drop hx)) (by simp at nle ⊢; omega) (by simp at nle ⊢; omega)
      · rw [lnF_cons, if_pos q, fB_C, rm_ok (stM_sign k c _ q p)]
        congr 1
        rw [List.drop_succ_cons, List.drop_zero, show k + (c :: r).length = (k + 1) + r.length by simp; omega]
        exact lnB n r (k + 1) M N (by omega) h10r (by omega) (by omega)
theorem fin_pre (b : Bool) (n : Nat) (X : List Int) (e1 e2 : Except Nat (List Int)) (h : finE b n e1 = finE b n e2) : finE b n (preA X e1) = finE b n (preA X e2) := by
  cases b
  · cases e1 <;> cases e2 <;> simp [finE, preA] at h ⊢ <;> exact h
  · cases e1 <;> cases e2 <;> simp [finE, preA] at h ⊢ <;> exact h
theorem first_line : ∀ t : List Nat, (10 ∉ t) ∨ ∃ L R, t = L ++ 10 :: R ∧ 10 ∉ L
  | [] => .inl (by simp)
  | c :: r => by
    by_cases q : c = 10
    · subst q; exact .inr ⟨[], r, rfl, by simp⟩
    · rcases first_line r with h | ⟨L, R, e, h⟩
      · exact .inl (by simp [h, Ne.symm q])
      · exact .inr ⟨c :: L, R, by rw [e]; rfl, by simp [h, Ne.symm q]⟩
theorem lnT_sh (b : Bool) (w : List Nat) (k : Nat) : shE k (lnT b w) = lnF ((BT b w).length + 1) k (BT b w) := by
  have := lnF_sh k ((BT b w).length + 1) 0 (BT b w)
  rw [Nat.add_zero] at this
  exact this.symm
theorem stM_pos (k c : Nat) (r : List Nat) (X : List Int) (j : Nat) (h : stM k c r = .ok (X, j)) : 1 ≤ j := by
  unfold stM at h
  split at h
  · exact (eqM_le k r X j h).1
  · split at h
    · cases h
      rw [nb, if_pos rfl]
      omega
    · cases h; omega
theorem rm_fuel : ∀ (M M' k : Nat) (s : List Nat), s.length < M → s.length < M' → rm M k s = rm M' k s
  | 0, M', k, s, h, _ => by omega
  | M + 1, 0, k, s, _, h => by omega
  | M + 1, M' + 1, k, [], _, _ => rfl
  | M + 1, M' + 1, k, c :: r, h, h' => by
    cases q : stM k c r with
    | error m => rw [rm_er q, rm_er q]
    | ok p =>
      obtain ⟨X, j⟩ := p
      have := stM_pos k c r X j q
      simp only [List.length_cons] at h h'
      rw [rm_ok q, rm_ok q, rm_fuel M M' (k + j) ((c :: r).drop j) (by simp; omega) (by simp; omega)]
theorem rm_lines : ∀ (n : Nat) (t : List Nat) (k M : Nat), t.length < n → t.length < M → finE (lastE t) (k + t.length) (rm M k t) = finE (lastE t) (k + t.length) (dvF (splitC 10 t) k)
  | 0, t, k, M, h, _ => by omega
  | n + 1, t, k, M, h, hM => by
    rcases first_line t with q | ⟨L, R, e, q⟩
    · have hs := splitC_append 10 t q
      have hl : lastE t = decide (t = []) := by
        unfold lastE
        rw [hs]
        by_cases z : t = [] <;> simp [z]
      have hB := lnB (t.length + 1) t k M (t.length + 1) (by omega) (fun c hc e => q (e ▸ hc)) hM (by omega)
      have sh := lnT_sh true t k
      have eB : BT true t = t := by unfold BT; rw [if_pos rfl]
      rw [eB] at sh
      rw [hB, ← sh, hs, dvF, show decide (([] : List (List Nat)) = []) = true by decide]
      cases hp : lnT true t with
      | error m => rfl
      | ok p =>
        obtain ⟨Y, m⟩ := p
        rw [hl]
        by_cases z : t = []
        · subst z
          have : lnT true [] = .ok ([], false) := rfl
          rw [this] at hp
          cases hp
          rfl
        · rw [decide_eq_false z]
          cases m <;> rfl
    · subst e
      have hs := splitC_cons 10 L R q
      have hl : lastE (L ++ 10 :: R) = lastE R := by
        unfold lastE
        rw [hs]
        cases z : splitC 10 R with
        | nil => exact absurd z (splitC_ne 10 R)
        | cons w ws => rw [List.getLast?_cons_cons]
      have ne := splitC_ne 10 R
      simp only [List.length_append, List.length_cons] at h hM
      have fu : ∀ M, R.length < M → rm M (k + L.length + 1) R = rm (R.length + 1) (k + L.length + 1) R := fun M hm => rm_fuel M (R.length + 1) (k + L.length + 1) R hm (by omega)
      have hA := lnA (L.length + 1) L R k M ((rd2 L).length + 1) (rm (R.length + 1) (k + L.length + 1) R) (by omega) (fun c hc e => q (e ▸ hc)) fu (by omega) (by omega)
      have sh := lnT_sh false L k
      have eB : BT false L = rd2 L := by unfold BT; rw [if_neg (by decide), rd2_eq]
      rw [eB] at sh
      have ih := rm_lines n R (k + L.length + 1) (R.length + 1) (by omega) (by omega)
      rw [hA, ← sh, hs, dvF, show decide (splitC 10 R = []) = false by exact decide_eq_false ne, hl]
      rw [show k + L.length + 1 + R.length = k + (L ++ 10 :: R).length by simp; omega] at ih
      cases hp : lnT false L with
      | error m => rfl
      | ok p =>
        obtain ⟨Y, m⟩ := p
        have e1 : (if m = false ∧ splitC 10 R ≠ [] then ([10] : List Int) else []) = if m = true then [] else [10] := by
          cases m
          · rw [if_pos ⟨rfl, ne⟩]; rfl
          · rw [if_neg (fun z => absurd z.1 (by decide))]; rfl
        simp only [shE, cmb]
        rw [e1]
        exact fin_pre _ _ _ _ _ ih
theorem lastE_body (t : List Nat) : lastE t = bodyB t := by
  rcases List.eq_nil_or_concat t with rfl | ⟨r, x, e⟩
  · rfl
  · rw [List.concat_eq_append] at e
    subst e
    rw [bodyB_end]
    have key : ∀ r : List Nat, lastE (r ++ [x]) = decide (x = 10) := by
      intro r
      induction r with
      | nil =>
        by_cases q : x = 10
        · subst q; rfl
        · have := splitC_append 10 [x] (by simp [Ne.symm q])
          unfold lastE
          rw [List.nil_append, this]
          simp [q]
      | cons c r ih =>
        unfold lastE at ih ⊢
        rw [← ih, List.cons_append, splitC]
        split
        · cases z : splitC 10 (r ++ [x]) with
          | nil => exact absurd z (splitC_ne 10 _)
          | cons w ws => rw [List.getLast?_cons_cons]
        · cases z : splitC 10 (r ++ [x]) with
          | nil => exact absurd z (splitC_ne 10 _)
          | cons w ws =>
            cases ws with
            | nil =>
              rw [z] at ih
              simp at ih ⊢
              have hx : x ≠ 10 := by
                intro e
                subst e
                have : ∀ r : List Nat, ∃ a b s, splitC 10 (r ++ [10]) = a :: b :: s := by
                  intro r
                  induction r with
                  | nil => exact ⟨[], [], [], rfl⟩
                  | cons c r ih2 =>
                    obtain ⟨a, b, s, e⟩ := ih2
                    rw [List.cons_append, splitC, e]
                    split
                    · exact ⟨_, _, _, rfl⟩
                    · exact ⟨_, _, _, rfl⟩
                obtain ⟨a, b, s, e⟩ := this r
                rw [e] at z
                cases z
              have hw : w = r ++ [x] := by
                have j := join_splitC 10 (r ++ [x])
                rw [z] at j
                simpa [joinL, glL] using j
              rw [hw]
              simp
            | cons w2 ws => simp
    exact key r
theorem due_rdT (t : List Nat) : finE (lastE t) t.length (dvF (splitC 10 t) 0) = rdT t := by
  have h := rm_lines (t.length + 1) t 0 (t.length + 1) (by omega) (by omega)
  rw [Nat.zero_add] at h
  rw [← h, lastE_body]
  unfold rdT rmT
  cases rm (t.length + 1) 0 t <;> rfl
theorem due_ok (t : List Nat) (hs : ∀ c ∈ t, Sgn c) (hl : t.length ≤ 8000) : F__law_due [.str t] = .ok (saidR (mapE (rdT t))) [] := by
  rw [dueF_ok t hs hl, due_rdT]
  rfl
end K43


namespace K43
open VS L2
def saidM (FR : List D → RF) : Cm Out := (mTryF exm_ 2 "NoCode"
  (mRet (mTup [(mC (.str [116, 111, 108, 100])), (mCall FR [.e (mMove 0), .e (mMove 1)])]))
  (fun x1 => (mRet (mTup [(mC (.str [99, 111, 100, 101])), (mIdx (.e (mLst [(mXf x1 "at"), (mUn negD (mC (.int 1)))])) (mP1 intBD (.e (mOrV (mIsX exm_ x1 "NoOctets") (mUn notD (mIsV allX x1))))))]))))
theorem said_core (FR : List D → RF) (T w : List Nat) (E : Except Nat (List D)) (r : FR [.str T, .str w] = resR E) : runF 3 [] (saidM FR) [.str T, .str w] = .ok (saidR E) [] := by
  have e1 : exm_ "NoCode" "NoCode" = some true := rfl
  have e2 : exm_ "NoCode" "NoOctets" = some false := rfl
  have e3 : "NoCode" ∈ allX := by decide
  cases E with
  | ok X =>
    have r : FR [.str T, .str w] = .ok (.lst .own X) [] := r
    simp [saidM, mTryF, r, saidR]
  | error m =>
    have r : FR [.str T, .str w] = .exc ⟨"NoCode", ["at"], [.int (m : Nat)]⟩ [] := r
    simp [saidM, mTryF, r, e1, e2, e3, mIsX, mIsV, mXf, xfV, intBD, saidR, codeD]
theorem said_okM (t : List Nat) (hs : ∀ c ∈ t, Sgn c) (hl : t.length ≤ 30000) : F__law_said [.str t, .str [109, 97, 114, 107, 115]] = .ok (saidR (mapE (rdT t))) [] :=
  said_core F_read_by t [109, 97, 114, 107, 115] (mapE (rdT t)) (read_okM t hs hl)
theorem cut_tx (t : List Nat) (h : ∀ c ∈ t, Sgn c) (lo hi : Option Int) : ∀ c ∈ cutL t lo hi, Sgn c := fun c hc => h c (cut_sub _ _ _ c hc)
theorem tx_app (a b : List Nat) (ha : ∀ c ∈ a, Sgn c) (hb : ∀ c ∈ b, Sgn c) : ∀ c ∈ a ++ b, Sgn c := fun c hc => (List.mem_append.1 hc).elim (ha c) (hb c)
theorem atI_strs (L : List (List Nat)) (c : Int) (h : 0 ≤ c) (h2 : c < (L.length : Nat)) : ∃ w, atI (L.map D.str) c = some (.str w) ∧ w ∈ L := by
  obtain ⟨n, rfl⟩ := Int.eq_ofNat_of_zero_le h
  have hn : n < L.length := by omega
  refine ⟨L[n], ?_, List.getElem_mem _⟩
  rw [atI_nn _ _ (by simpa using h2)]
  simp [hn]
theorem atI_nats (L : List Nat) (c : Int) (h : 0 ≤ c) (h2 : c < (L.length : Nat)) : ∃ w, atI L c = some w ∧ w ∈ L := by
  obtain ⟨n, rfl⟩ := Int.eq_ofNat_of_zero_le h
  have hn : n < L.length := by omega
  refine ⟨L[n], ?_, List.getElem_mem _⟩
  rw [atI_nn _ _ (by omega)]
  simp [hn]
def touM : Cm Out := (mSeq (mSet 3 (mCall F__law_next [.s 0, .e (mBin addD (mP1 lenD (.v 1)) (mC (.int 1)))]))
  (mSeq (mSet 4 (mIdx (.v 2) (mCall F__law_next [.s 0, .e (mP1 lenD (.v 2))])))
  (mSeq (mSet 5 (mLst [(mBin addD (mSlc (.v 1) none (some (mVar 3))) (mSlc (.v 1) (some (mBin addD (mVar 3) (mC (.int 1)))) none)), (mBin addD (mBin addD (mSlc (.v 1) none (some (mVar 3))) (mVar 4)) (mSlc (.v 1) (some (mVar 3)) none)), (mBin addD (mBin addD (mSlc (.v 1) none (some (mVar 3))) (mSlc (.v 1) (some (mVar 3)) (some (mBin addD (mVar 3) (mC (.int 1)))))) (mSlc (.v 1) (some (mVar 3)) none))]))
  (mSeq (mSet 6 (mP1 revSD (.e (mSlc (.v 1) (some (mVar 3)) (some (mBin addD (mVar 3) (mC (.int 2))))))))
  (mSeq (mDrop (mApp 5 (mBin addD (mBin addD (mSlc (.v 1) none (some (mVar 3))) (mVar 6)) (mSlc (.v 1) (some (mBin addD (mVar 3) (mC (.int 2)))) none))))
  (mSeq (mDrop (mApp 5 (mBin addD (mBin addD (mSlc (.v 1) none (some (mVar 3))) (mVar 4)) (mSlc (.v 1) (some (mBin addD (mVar 3) (mC (.int 1)))) none))))
  (mRet (mIdx (.e (mBin addD (mMove 5) (mLst [(mSlc (.v 1) none (some (mMove 3)))]))) (mCall F__law_next [.s 0, .e (mC (.int 6))])))))))))
theorem tou_core (s s1 s2 s3 : D) (T G c1 c2 c3 c4 c5 c6 R0 P1 R1 P2 R2 P3 R3 R4 R : List Nat) (a b d : Int) (g : Nat)
    (n1 : F__law_next [s, .int ((T.length : Int) + 1)] = .ok (.int a) [s1]) (n2 : F__law_next [s1, .int (G.length : Nat)] = .ok (.int b) [s2]) (n3 : F__law_next [s2, .int 6] = .ok (.int d) [s3]) (ig : atI G b = some g)
    (h1 : cutL T none (some a) = c1) (h2 : cutL T (some (a + 1)) none = c2) (h3 : cutL T (some a) none = c3) (h4 : cutL T (some a) (some (a + 1)) = c4) (h5 : cutL T (some a) (some (a + 2)) = c5) (h6 : cutL T (some (a + 2)) none = c6)
    (a0 : addD (.str c1) (.str c2) = some (.str R0)) (a1 : addD (.str c1) (.str [g]) = some (.str P1)) (a2 : addD (.str P1) (.str c3) = some (.str R1)) (a3 : addD (.str c1) (.str c4) = some (.str P2)) (a4 : addD (.str P2) (.str c3) = some (.str R2)) (a5 : addD (.str c1) (.str c5.reverse) = some (.str P3)) (a6 : addD (.str P3) (.str c6) = some (.str R3)) (a7 : addD (.str P1) (.str c2) = some (.str R4))
    (ix : atI [D.str R0, D.str R1, D.str R2, D.str R3, D.str R4, D.str c1] d = some (.str R)) :
    runF 7 [0] touM [s, .str T, .str G] = .ok (.str R) [s3] := by
  simp [touM, n1, n2, n3, ig, h1, h2, h3, h4, h5, h6, -addD_str, a0, a1, a2, a3, a4, a5, a6, a7, ix]
theorem add_tx (a b : List Nat) (h : a.length + b.length ≤ 100000) : addD (.str a) (.str b) = some (.str (a ++ b)) := by
  rw [addD_str, if_pos (by omega)]
theorem cut_from_len (T : List Nat) (m : Nat) : (cutL T (some (m : Int)) none).length = T.length - m := by
  unfold cutL
  rw [HT.sIx_nat, HT.sIx_none]
  simp
  omega
theorem cut_upto_len (T : List Nat) (m : Nat) (h : m ≤ T.length) : (cutL T none (some (m : Int))).length = m := by
  rw [cut_take T m h, List.length_take, Nat.min_eq_left h]
theorem cut_btw_len (T : List Nat) (m j : Nat) (h : m ≤ T.length) : (cutL T (some (m : Int)) (some ((m : Int) + (j : Int)))).length ≤ j := by
  rw [cut_to T m j h, List.length_take]
  omega
theorem tou_ok (s : Int × Int × Int) (T G : List Nat) (hT : ∀ c ∈ T, Sgn c) (hG : ∀ c ∈ G, Sgn c) (lT : T.length ≤ 10000) (lG : 0 < G.length) (lG2 : G.length ≤ 10000) : ∃ (s' : Int × Int × Int) (R : List Nat), (∀ c ∈ R, Sgn c) ∧ R.length ≤ T.length + 2 ∧ F__law_touched [encS s, .str T, .str G] = .ok (.str R) [encS s'] := by
  have n1 := next_f s ((T.length : Int) + 1) (by omega) (by omega)
  have l1 := nx_nn s ((T.length : Int) + 1) (by omega) (by omega)
  have u1 := nx_lt s ((T.length : Int) + 1) (by omega) (by omega)
  generalize nx s ((T.length : Int) + 1) = a at *
  generalize sn s ((T.length : Int) + 1) = s1 at *
  have n2 := next_f s1 (G.length : Nat) (by omega) (by omega)
  have l2 := nx_nn s1 (G.length : Nat) (by omega) (by omega)
  have u2 := nx_lt s1 (G.length : Nat) (by omega) (by omega)
  generalize nx s1 (G.length : Nat) = b at *
  generalize sn s1 (G.length : Nat) = s2 at *
  have n3 := next_f s2 6 (by decide) (by decide)
  have l3 := nx_nn s2 6 (by decide) (by decide)
  have u3 := nx_lt s2 6 (by decide) (by decide)
  generalize nx s2 6 = d at *
  generalize sn s2 6 = s3 at *
  obtain ⟨g, ig, hg⟩ := atI_nats G b l2 u2
  have sg : ∀ c ∈ [g], Sgn c := fun c hc => by rw [List.mem_singleton] at hc; subst hc; exact hG _ hg
  have t1 := cut_tx T hT none (some a)
  have t2 := cut_tx T hT (some (a + 1)) none
  have t3 := cut_tx T hT (some a) none
  have t4 := cut_tx T hT (some a) (some (a + 1))
  have t5 := cut_tx T hT (some a) (some (a + 2))
  have t6 := cut_tx T hT (some (a + 2)) none
  have t7 : ∀ c ∈ (cutL T (some a) (some (a + 2))).reverse, Sgn c := fun c hc => t5 c (List.mem_reverse.1 hc)
  have z : ((cutL T none (some a)).length : Int) = a ∧ ((cutL T (some (a + 1)) none).length : Int) ≤ T.length - a ∧ ((cutL T (some a) none).length : Int) = T.length - a ∧ (cutL T (some a) (some (a + 1))).length ≤ 1 ∧ (cutL T (some a) (some (a + 2))).length ≤ 2 ∧ ((cutL T (some (a + 2)) none).length : Int) ≤ T.length - a := by
    obtain ⟨k, rfl⟩ := Int.eq_ofNat_of_zero_le l1
    have hk : k ≤ T.length := by omega
    have q1 := cut_upto_len T k hk
    have q2 := cut_from_len T (k + 1)
    have q3 := cut_from_len T k
    have q4 := cut_btw_len T k 1 hk
    have q5 := cut_btw_len T k 2 hk
    have q6 := cut_from_len T (k + 2)
    rw [Int.natCast_add] at q2 q6
    exact ⟨by omega, by rw [show ((k : Int) + 1) = (k : Int) + ((1 : Nat) : Int) by rfl, q2]; omega, by omega, q4, q5, by rw [show ((k : Int) + 2) = (k : Int) + ((2 : Nat) : Int) by rfl, q6]; omega⟩
  obtain ⟨z1, z2, z3, z4, z5, z6⟩ := z
  generalize h1 : cutL T none (some a) = c1 at *
  generalize h2 : cutL T (some (a + 1)) none = c2 at *
  generalize h3 : cutL T (some a) none = c3 at *
  generalize h4 : cutL T (some a) (some (a + 1)) = c4 at *
  generalize h5 : cutL T (some a) (some (a + 2)) = c5 at *
  generalize h6 : cutL T (some (a + 2)) none = c6 at *
  obtain ⟨R, ix, hR⟩ := atI_strs [c1 ++ c2, c1 ++ [g] ++ c3, c1 ++ c4 ++ c3, c1 ++ c5.reverse ++ c6, c1 ++ [g] ++ c2, c1] d l3 u3
  refine ⟨s3, R, ?_, ?_, tou_core (encS s) (encS s1) (encS s2) (encS s3) T G c1 c2 c3 c4 c5 c6 (c1 ++ c2) (c1 ++ [g]) (c1 ++ [g] ++ c3) (c1 ++ c4) (c1 ++ c4 ++ c3) (c1 ++ c5.reverse) (c1 ++ c5.reverse ++ c6) (c1 ++ [g] ++ c2) R a b d g n1 n2 n3 ig h1 h2 h3 h4 h5 h6 (add_tx _ _ (by omega)) (add_tx _ _ (by simp; omega)) (add_tx _ _ (by simp; omega)) (add_tx _ _ (by omega)) (add_tx _ _ (by simp; omega)) (add_tx _ _ (by simp; omega)) (add_tx _ _ (by simp; omega)) (add_tx _ _ (by simp; omega)) ix⟩
  · simp only [List.mem_cons, List.not_mem_nil, or_false] at hR
    rcases hR with rfl | rfl | rfl | rfl | rfl | rfl
    · exact tx_app _ _ t1 t2
    · exact tx_app _ _ (tx_app _ _ t1 sg) t3
    · exact tx_app _ _ (tx_app _ _ t1 t4) t3
    · exact tx_app _ _ (tx_app _ _ t1 t7) t6
    · exact tx_app _ _ (tx_app _ _ t1 sg) t2
    · exact t1
  · simp only [List.mem_cons, List.not_mem_nil, or_false] at hR
    rcases hR with rfl | rfl | rfl | rfl | rfl | rfl <;> (try simp only [List.length_append, List.length_reverse, List.length_singleton]) <;> omega
def bLs : Cm Out := (mSeq (mSet 3 (mCall F__law_next [.s 0, .e (mBin addD (mP1 lenD (.v 1)) (mC (.int 1)))]))
  (mSet 1 (mBin addD (mBin addD (mSlc (.v 1) none (some (mVar 3))) (mIdx (.e (mLst [(mC (.str [32, 10])), (mC (.str [61, 10])), (mC (.str [61, 32, 10])), (mC (.str [10])), (mC (.str [61, 52, 97])), (mC (.str [61, 48, 97])), (mC (.str [61, 101, 57]))])) (mCall F__law_next [.s 0, .e (mC (.int 7))]))) (mSlc (.v 1) (some (mVar 3)) none))))
def Gw : List (List Nat) := [[32, 10], [61, 10], [61, 32, 10], [10], [61, 52, 97], [61, 48, 97], [61, 101, 57]]
theorem bLs_core (s s1 s2 : D) (T c1 c3 g P R : List Nat) (a b : Int) (x2 x3 : Option D) (n1 : F__law_next [s, .int ((T.length : Int) + 1)] = .ok (.int a) [s1]) (n2 : F__law_next [s1, .int 7] = .ok (.int b) [s2]) (ig : atI (Gw.map D.str) b = some (.str g)) (h1 : cutL T none (some a) = c1) (h3 : cutL T (some a) none = c3)
    (a1 : addD (.str c1) (.str g) = some (.str P)) (a2 : addD (.str P) (.str c3) = some (.str R)) : bLs [some s, some (.str T), x2, x3] = .ok .nx [some s2, some (.str R), x2, some (.int a)] := by
  have ig : atI [D.str [32, 10], D.str [61, 10], D.str [61, 32, 10], D.str [10], D.str [61, 52, 97], D.str [61, 48, 97], D.str [61, 101, 57]] b = some (.str g) := ig
  simp [bLs, n1, n2, ig, h1, h3, -addD_str, a1, a2]
theorem bLs_ok (s : Int × Int × Int) (T : List Nat) (hT : ∀ c ∈ T, Sgn c) (lT : T.length ≤ 10000) (x2 x3 : Option D) : ∃ (s' : Int × Int × Int) (R : List Nat) (y3 : Option D), (∀ c ∈ R, Sgn c) ∧ R.length ≤ T.length + 3 ∧ bLs [some (encS s), some (.str T), x2, x3] = .ok .nx [some (encS s'), some (.str R), x2, y3] := by
  have n1 := next_f s ((T.length : Int) + 1) (by omega) (by omega)
  have l1 := nx_nn s ((T.length : Int) + 1) (by omega) (by omega)
  have u1 := nx_lt s ((T.length : Int) + 1) (by omega) (by omega)
  generalize nx s ((T.length : Int) + 1) = a at *
  generalize sn s ((T.length : Int) + 1) = s1 at *
  have n2 := next_f s1 7 (by decide) (by decide)
  have l2 := nx_nn s1 7 (by decide) (by decide)
  have u2 := nx_lt s1 7 (by decide) (by decide)
  generalize nx s1 7 = b at *
  generalize sn s1 7 = s2 at *
  obtain ⟨g, ig, hg⟩ := atI_strs Gw b l2 u2
  have gg : (∀ c ∈ g, Sgn c) ∧ g.length ≤ 3 := by
    have : ∀ w ∈ Gw, (∀ c ∈ w, isSg (c : Int) = true ∨ c = 10) ∧ w.length ≤ 3 := by decide
    exact this g hg
  have t1 := cut_tx T hT none (some a)
  have t3 := cut_tx T hT (some a) none
  have z : ((cutL T none (some a)).length : Int) = a ∧ ((cutL T (some a) none).length : Int) = T.length - a := by
    obtain ⟨k, rfl⟩ := Int.eq_ofNat_of_zero_le l1
    have q1 := cut_upto_len T k (by omega)
    have q3 := cut_from_len T k
    exact ⟨by omega, by omega⟩
  generalize h1 : cutL T none (some a) = c1 at *
  generalize h3 : cutL T (some a) none = c3 at *
  exact ⟨s2, c1 ++ g ++ c3, _, tx_app _ _ (tx_app _ _ t1 gg.1) t3, by simp only [List.length_append]; omega, bLs_core (encS s) (encS s1) (encS s2) T c1 c3 g (c1 ++ g) (c1 ++ g ++ c3) a b x2 x3 n1 n2 ig h1 h3 (add_tx _ _ (by omega)) (add_tx _ _ (by simp; omega))⟩
def rB : Cm Out := (mSet 1 (mReplF [10] (mVar 1) (mBin mulD (mC (.str [32])) (mBin addD (mC (.int 1)) (mCall F__law_next [.s 0, .e (mC (.int 2))]))) (mC (.str [10]))))
theorem rB_core (s s1 : D) (T A R : List Nat) (c : Int) (x2 x3 : Option D) (n1 : F__law_next [s, .int 2] = .ok (.int c) [s1]) (m : mulD (.str [32]) (.int (1 + c)) = some (.str A)) (lA : 1 ≤ A.length ∧ A.length ≤ 2) (lT : T.length ≤ 10000) (hR : PySem.StrLaws.replL [10] (A ++ [10]) T = R) (rs : R.all (fun c => decide (c < 1114112)) = true) :
    rB [some s, some (.str T), x2, x3] = .ok .nx [some s1, some (.str R), x2, x3] := by
  have z1 : A.length ≤ 16777215 := by omega
  have z4 : ¬ A = [] := fun e => by rw [e] at lA; simp at lA
  have z2 : T.length + (T.length + 1) * (A.length + 1) ≤ 16777216 := by
    have : (T.length + 1) * (A.length + 1) ≤ (T.length + 1) * 3 := Nat.mul_le_mul_left _ (by omega)
    omega
  have z3 : ¬ [10] = A ++ [10] := fun e => by
    have := congrArg List.length e
    simp at this
    rw [this] at lA
    simp at lA
  simp [rB, mReplF, n1, -mulD_str, m, lA, hR, rs, z1, z2, z3, z4, -List.all_eq_true]
theorem repl_sgn (A T : List Nat) (hT : ∀ c ∈ T, Sgn c) (hA : ∀ c ∈ A, Sgn c) (lA : A.length ≤ 3) : (∀ c ∈ PySem.StrLaws.replL [10] A T, Sgn c) ∧ (PySem.StrLaws.replL [10] A T).length ≤ 3 * T.length := by
  rw [repl_one]
  induction T with
  | nil => simp
  | cons c r ih =>
    obtain ⟨h1, h2⟩ := ih fun x hx => hT x (by simp [hx])
    rw [List.flatMap_cons]
    constructor
    · intro x hx
      rcases List.mem_append.1 hx with hx | hx
      · split at hx
        · exact hA x hx
        · rw [List.mem_singleton] at hx; subst hx; exact hT _ (by simp)
      · exact h1 x hx
    · rw [List.length_append, List.length_cons]
      split <;> simp at h2 ⊢ <;> omega
theorem sg_all (R : List Nat) (h : ∀ c ∈ R, Sgn c) : R.all (fun c => decide (c < 1114112)) = true := List.all_eq_true.2 fun c hc => by
  have := sgn_lt c (h c hc)
  simp
  omega
theorem mul_bl (c : Int) (h : 0 ≤ c ∧ c < 2) : mulD (.str [32]) (.int (1 + c)) = some (.str (List.replicate (1 + c).toNat 32)) := by
  have : c = 0 ∨ c = 1 := by omega
  rcases this with rfl | rfl
  · rfl
  · rfl
theorem rB_ok (s : Int × Int × Int) (T : List Nat) (hT : ∀ c ∈ T, Sgn c) (lT : T.length ≤ 1000) (x2 x3 : Option D) : ∃ (s' : Int × Int × Int) (R : List Nat), (∀ c ∈ R, Sgn c) ∧ R.length ≤ 3 * T.length ∧ rB [some (encS s), some (.str T), x2, x3] = .ok .nx [some (encS s'), some (.str R), x2, x3] := by
  have n1 := next_f s 2 (by decide) (by decide)
  have l1 := nx_nn s 2 (by decide) (by decide)
  have u1 := nx_lt s 2 (by decide) (by decide)
  generalize nx s 2 = c at *
  generalize sn s 2 = s1 at *
  have m := mul_bl c ⟨l1, u1⟩
  have lA : (List.replicate (1 + c).toNat 32).length = (1 + c).toNat := by simp
  have hA : ∀ x ∈ List.replicate (1 + c).toNat 32 ++ [10], Sgn x := by
    intro x hx
    rcases List.mem_append.1 hx with hx | hx
    · rw [(List.mem_replicate.1 hx).2]; exact .inl rfl
    · rw [List.mem_singleton] at hx; subst hx; exact .inr rfl
  obtain ⟨r1, r2⟩ := repl_sgn (List.replicate (1 + c).toNat 32 ++ [10]) T hT hA (by simp; omega)
  exact ⟨s1, _, r1, r2, rB_core (encS s) (encS s1) T _ _ c x2 x3 n1 m (by omega) (by omega) rfl (sg_all _ r1)⟩
theorem lo_tab : ∀ n : Nat, n < 127 → (isSg (n : Int) = true ∨ n = 10) → (isSg ((loC n : Nat) : Int) = true ∨ loC n = 10) := by decide +kernel
theorem lo_sgn (T : List Nat) (hT : ∀ c ∈ T, Sgn c) : ∀ c ∈ T.map loC, Sgn c := fun c hc => by
  obtain ⟨x, hx, rfl⟩ := List.mem_map.1 hc
  exact lo_tab x (sgn_lt x (hT x hx)) (hT x hx)
theorem low_all (T : List Nat) (hT : ∀ c ∈ T, Sgn c) (lT : T.length ≤ 10000) : lowerM (.str T) = some (.str (T.map loC)) := by
  rw [lowerM_, if_pos]
  refine ⟨List.all_eq_true.2 fun c hc => ?_, by omega⟩
  have := sgn_lt c (hT c hc)
  simp
  omega
def tlM : Cm Out := (mSeq (mIf (mTest (mP2 eqD (.e (mCall F__law_next [.s 0, .e (mC (.int 3))])) (.e (mC (.int 0))))) rB mNext)
  (mRet (mIdx (.e (mLst [(mVar 1), (mP1 lowerM (.v 1))])) (mP1 intBD (.e (mP2 eqD (.e (mCall F__law_next [.s 0, .e (mC (.int 4))])) (.e (mC (.int 0)))))))))
theorem ret_lo (s s1 : D) (T L : List Nat) (c : Int) (x2 x3 : Option D) (n1 : F__law_next [s, .int 4] = .ok (.int c) [s1]) (lw : lowerM (.str T) = some (.str L)) :
    (mRet (mIdx (.e (mLst [(mVar 1), (mP1 lowerM (.v 1))])) (mP1 intBD (.e (mP2 eqD (.e (mCall F__law_next [.s 0, .e (mC (.int 4))])) (.e (mC (.int 0)))))))) [some s, some (.str T), x2, x3] = .ok (.ret (.str (if c = 0 then L else T))) [some s1, some (.str T), x2, x3] := by
  have i1 : atI [D.str T, D.str L] 1 = some (.str L) := rfl
  have i0 : atI [D.str T, D.str L] 0 = some (.str T) := rfl
  by_cases q : c = 0
  · subst q
    simp [n1, -lowerM_, lw, i1, i0, intBD]
  · have qb : (c == 0) = false := by simpa using q
    simp [n1, -lowerM_, lw, i1, i0, intBD, q, qb]
theorem tl_ok (s : Int × Int × Int) (T : List Nat) (hT : ∀ c ∈ T, Sgn c) (lT : T.length ≤ 1000) (x2 x3 : Option D) : ∃ (s' : Int × Int × Int) (R : List Nat) (ρ' : DE), (∀ c ∈ R, Sgn c) ∧ R.length ≤ 3 * T.length ∧ tlM [some (encS s), some (.str T), x2, x3] = .ok (.ret (.str R)) ρ' ∧ ρ'[0]? = some (some (encS s')) := by
  have n1 := next_f s 3 (by decide) (by decide)
  have fin : ∀ (s : Int × Int × Int) (R : List Nat), (∀ c ∈ R, Sgn c) → R.length ≤ 3 * T.length → ∃ (s' : Int × Int × Int) (R2 : List Nat) (ρ' : DE), (∀ c ∈ R2, Sgn c) ∧ R2.length ≤ 3 * T.length ∧ (mRet (mIdx (.e (mLst [(mVar 1), (mP1 lowerM (.v 1))])) (mP1 intBD (.e (mP2 eqD (.e (mCall F__law_next [.s 0, .e (mC (.int 4))])) (.e (mC (.int 0)))))))) [some (encS s), some (.str R), x2, x3] = .ok (.ret (.str R2)) ρ' ∧ ρ'[0]? = some (some (encS s')) := by
    intro s R hR lR
    have n1 := next_f s 4 (by decide) (by decide)
    generalize nx s 4 = c at *
    generalize sn s 4 = s1 at *
    refine ⟨s1, _, _, ?_, ?_, ret_lo (encS s) (encS s1) R _ c x2 x3 n1 (low_all R hR (by omega)), rfl⟩
    · split
      · exact lo_sgn R hR
      · exact hR
    · split
      · simpa using lR
      · exact lR
  generalize nx s 3 = c at *
  generalize sn s 3 = s1 at *
  unfold tlM
  generalize (mRet (mIdx (.e (mLst [(mVar 1), (mP1 lowerM (.v 1))])) (mP1 intBD (.e (mP2 eqD (.e (mCall F__law_next [.s 0, .e (mC (.int 4))])) (.e (mC (.int 0)))))))) = Rt at *
  by_cases q : c = 0
  · subst q
    obtain ⟨s2, R, h1, h2, e⟩ := rB_ok s1 T hT lT x2 x3
    obtain ⟨s3, R2, ρ', h3, h4, e2, e3⟩ := fin s2 R h1 h2
    generalize rB = B at *
    exact ⟨s3, R2, ρ', h3, h4, by simp [n1, e, e2], e3⟩
  · obtain ⟨s3, R2, ρ', h3, h4, e2, e3⟩ := fin s1 T hT (by omega)
    have qb : (c == 0) = false := by simpa using q
    exact ⟨s3, R2, ρ', h3, h4, by simp [n1, q, qb, e2], e3⟩
end K43


namespace K43
open VS L2
theorem ls_core (s s1 s2 s3 : D) (n : Int) (T R U : List Nat) (x2 x3 : Option D) (ρ' : DE) (n1 : F__law_next [s, .int 4] = .ok (.int n) [s1]) (sm : smallR n) (e : forL (mPut 2) bLs (rangeD 0 n.toNat) [some s1, some (.str T), none, none] = .ok .nx [some s2, some (.str R), x2, x3])
    (t : tlM [some s2, some (.str R), x2, x3] = .ok (.ret (.str U)) ρ') (t2 : ρ'[0]? = some (some s3)) : F__law_loose [s, .str T] = .ok (.str U) [s3] := by
  have el : F__law_loose [s, .str T] = runF 4 [0] (mSeq (mFor (mRange1 (mCall F__law_next [.s 0, .e (mC (.int 4))])) (mPut 2) bLs) tlM) [s, .str T] := rfl
  rw [el]
  generalize tlM = M at *
  simp [n1, sm, e, t, endF, ioGet, t2]
theorem loose_ok (s : Int × Int × Int) (T : List Nat) (hT : ∀ c ∈ T, Sgn c) (lT : T.length ≤ 500) : ∃ (s' : Int × Int × Int) (R : List Nat), (∀ c ∈ R, Sgn c) ∧ R.length ≤ 3 * (T.length + 9) ∧ F__law_loose [encS s, .str T] = .ok (.str R) [encS s'] := by
  have n1 := next_f s 4 (by decide) (by decide)
  have l1 := nx_nn s 4 (by decide) (by decide)
  have u1 := nx_lt s 4 (by decide) (by decide)
  generalize nx s 4 = n at *
  generalize sn s 4 = s1 at *
  obtain ⟨m, rfl⟩ := Int.eq_ofNat_of_zero_le l1
  have hm : m ≤ 3 := by omega
  let I : Nat → DE → Prop := fun k ρ => ∃ (s' : Int × Int × Int) (R : List Nat) (x2 x3 : Option D), (∀ c ∈ R, Sgn c) ∧ R.length ≤ T.length + 3 * k ∧ ρ = [some (encS s'), some (.str R), x2, x3]
  have hf : ∃ ρ', forL (mPut 2) bLs (rangeD 0 m) [some (encS s1), some (.str T), none, none] = .ok .nx ρ' ∧ I (rangeD 0 m).length ρ' := by
    refine forL_inv0 I ⟨_, _, _, _, hT, by omega, rfl⟩ ?_
    rintro i d ρ hd ⟨s', R, x2, x3, hx, hr, rfl⟩
    obtain ⟨hi, rfl⟩ := rangeD_get hd
    obtain ⟨s3, R2, y3, h1, h2, e⟩ := bLs_ok s' R hx (by omega) (some (.int (0 + (i : Int)))) x3
    exact ⟨_, rfl, .nx, _, e, Or.inl rfl, s3, R2, _, _, h1, by omega, rfl⟩
  obtain ⟨ρ', e, s', R, x2, x3, hx, hr, rfl⟩ := hf
  have hlen : (rangeD 0 m).length = m := by simp [rangeD]
  rw [hlen] at hr
  obtain ⟨s4, U, ρ2, h1, h2, t, t2⟩ := tl_ok s' R hx (by omega) x2 x3
  exact ⟨s4, U, h1, by omega, ls_core (encS s) (encS s1) (encS s') (encS s4) (m : Nat) T R U x2 x3 ρ2 n1 (by unfold smallR; omega) e t t2⟩
theorem Sx_len : ∀ (xs : List Int) (n : Nat), (Sx n xs).length ≤ 5 * xs.length + 2
  | [], n => by rw [Sx]; split <;> simp
  | x :: xs, n => by
    have ih := fun n => Sx_len xs n
    have u := un_len x (hd xs)
    rw [Sx]
    split
    · have := ih 0; simp; omega
    · split
      · have := ih (un x (hd xs)).length; simp; omega
      · have := ih (n + (un x (hd xs)).length); simp; omega
theorem mkT_len5 (l : List Int) : (mkT l).length ≤ 5 * l.length + 2 := by
  rw [mkT_Sx]
  exact Sx_len l 0
def bTn (FD FS FT : List D → RF) : Cm Out := (mSeq (mSet 6 (mCall FD [.p 4]))
  (mSeq (mSet 7 (mCall FS [.p 4, .e (mC (.str [109, 97, 114, 107, 115]))]))
  (mSeq (mIf (mOr (mTest (mP2 neD (.v 7) (.v 6))) (mTest (mP2 neD (.e (mCall FS [.p 4, .e (mC (.str [109, 97, 114, 107, 115]))])) (.v 6))))
  (mRet (mC (.bl false)))
  mNext)
  (mSeq (mIf (mAnd (mTest (mP2 eqD (.e (mIdx (.v 7) (mC (.int 0)))) (.e (mC (.str [116, 111, 108, 100]))))) (mNot (mTest (mP1 (isTy .list) (.e (mIdx (.v 7) (mC (.int 1))))))))
  (mRet (mC (.bl false)))
  mNext)
  (mSet 4 (mCall FT [.s 3, .p 4, .p 1]))))))
theorem bTn_ok (FD FS FT : List D → RF) (x0 x2 x5 x6 x7 : Option D) (s s' : D) (G T R : List Nat) (X : List D) (hX : X.map D.fz = X) (fX : ∀ n, X.all (D.flatN n) = true) (qX : Ds.eqB X X = true) (pX : X.all D.pur = true)
    (d : FD [.str T] = .ok (.tup [.str [116, 111, 108, 100], .lst .own X]) []) (sd : FS [.str T, .str [109, 97, 114, 107, 115]] = .ok (.tup [.str [116, 111, 108, 100], .lst .own X]) []) (tt : FT [s, .str T, .str G] = .ok (.str R) [s']) :
    ∃ y6 y7, bTn FD FS FT [x0, some (.str G), x2, some s, some (.str T), x5, x6, x7] = .ok .nx [x0, some (.str G), x2, some s', some (.str R), x5, y6, y7] := by
  refine ⟨some (.tup [.str [116, 111, 108, 100], .lst .own X]), some (.tup [.str [116, 111, 108, 100], .lst .shr X]), ?_⟩
  have ix : atI [D.str [116, 111, 108, 100], D.lst .own X] 1 = some (.lst .own X) := rfl
  simp [bTn, ix, d, sd, tt, hX, fX, qX, pX, Ds.eqB, D.eqB, Sc.eqB, -List.all_eq_true]
theorem bTn_no (FD FS FT : List D → RF) (x0 x2 x5 x6 x7 : Option D) (s s' : D) (G T R : List Nat) (m : Nat)
    (d : FD [.str T] = .ok (codeD m) []) (sd : FS [.str T, .str [109, 97, 114, 107, 115]] = .ok (codeD m) []) (tt : FT [s, .str T, .str G] = .ok (.str R) [s']) :
    ∃ y6 y7, bTn FD FS FT [x0, some (.str G), x2, some s, some (.str T), x5, x6, x7] = .ok .nx [x0, some (.str G), x2, some s', some (.str R), x5, y6, y7] := by
  refine ⟨some (codeD m), some (codeD m), ?_⟩
  unfold codeD at *
  simp [bTn, d, sd, tt, Ds.eqB, D.eqB, Sc.eqB]
def SG : List Nat := [61, 10, 32, 65, 48, 102, 70, 103, 71, 57, 95, 97, 61, 126, 32, 10, 45]
theorem SG_ok : ∀ c ∈ SG, Sgn c := by
  have : ∀ c ∈ SG, isSg (c : Int) = true ∨ c = 10 := by decide
  exact this
theorem turn_ok (s : Int × Int × Int) (T : List Nat) (hT : ∀ c ∈ T, Sgn c) (lT : T.length ≤ 3000) (x0 x2 x5 x6 x7 : Option D) : ∃ (s' : Int × Int × Int) (R : List Nat) (y6 y7 : Option D), (∀ c ∈ R, Sgn c) ∧ R.length ≤ T.length + 2 ∧ bTn F__law_due F__law_said F__law_touched [x0, some (.str SG), x2, some (encS s), some (.str T), x5, x6, x7] = .ok .nx [x0, some (.str SG), x2, some (encS s'), some (.str R), x5, y6, y7] := by
  obtain ⟨s', R, h1, h2, tt⟩ := tou_ok s T SG hT SG_ok (by omega) (by decide) (by decide)
  have d := due_ok T hT (by omega)
  have sd := said_okM T hT (by omega)
  cases e : rdT T with
  | error m =>
    rw [e] at d sd
    obtain ⟨y6, y7, b⟩ := bTn_no F__law_due F__law_said F__law_touched x0 x2 x5 x6 x7 (encS s) (encS s') SG T R m d sd tt
    exact ⟨s', R, y6, y7, h1, h2, b⟩
  | ok Y =>
    rw [e] at d sd
    obtain ⟨y6, y7, b⟩ := bTn_ok F__law_due F__law_said F__law_touched x0 x2 x5 x6 x7 (encS s) (encS s') SG T R (Y.map D.int) (ints_fz _) (flat_int Y) (eqB_ints Y) (by simp) d sd tt
    exact ⟨s', R, y6, y7, h1, h2, b⟩
def cOu : Cm Bool := (mTest (mP2 (inD true) (.e (mSlc (.v 4) (some (mUn negD (mC (.int 1)))) none)) (.e (mLst [(mC (.str [])), (mC (.str [10]))]))))
theorem cOu_ok (x0 x1 x2 x3 x5 x6 x7 : Option D) (T : List Nat) : ∃ b : Bool, cOu [x0, x1, x2, x3, some (.str T), x5, x6, x7] = .ok b [x0, x1, x2, x3, some (.str T), x5, x6, x7] := by
  obtain ⟨b, hb⟩ : ∃ b, inD true (.str (cutL T (some (-1)) none)) (.lst .own [D.str [], D.str [10]]) = some (.bl b) := by
    generalize cutL T (some (-1)) none = U
    exact ⟨_, rfl⟩
  refine ⟨b, ?_⟩
  generalize hU : cutL T (some (-1)) none = U at *
  simp [cOu, hU, hb]
def bOu (FSr FLo FSx FRo : List D → RF) (B : Cm Out) : Cm Out := (mSeq (mSet 3 (mCall FSr [.p 0, .p 2]))
  (mSeq (mSet 4 (mCall FLo [.s 3, .e (mCall FSx [.e (mSlc (.e (mCall FRo [.s 3, .e (mC (.int 60))])) none (some (mC (.int 60))))])]))
  (mSeq (mIf cOu (mSet 4 (mBin addD (mVar 4) (mC (.str [10])))) mNext)
  (mFor (mRange1 (mC (.int 5))) (mPut 5) B))))
theorem bOu_core (FSr FLo FSx FRo : List D → RF) (B : Cm Out) (o : Ow) (ho : o ≠ .own) (NS X Z : List D) (hNS : NS.map D.fz = NS) (k : Int) (s s1 s2 : D) (x1 x3 x4 x5 x6 x7 : Option D) (S T : List Nat) (pX : X.all D.pur = true) (hZ : Z.map D.fz = Z) (lT : T.length ≤ 10000)
    (sr : FSr [.lst o NS, .int k] = .ok s []) (lr : FRo [s, .int 60] = .ok (.lst .own X) [s1]) (cz : cutL X none (some 60) = Z) (sx : FSx [.lst .shr Z] = .ok (.str S) []) (lo : FLo [s1, .str S] = .ok (.str T) [s2]) :
    ∃ b : Bool, bOu FSr FLo FSx FRo B [some (.lst o NS), x1, some (.int k), x3, x4, x5, x6, x7] = forL (mPut 5) B (rangeD 0 5) [some (.lst o NS), x1, some (.int k), some s2, some (.str (if b = true then T ++ [10] else T)), x5, x6, x7] := by
  have ow : (if o = Ow.own then Ow.shr else o) = o := if_neg ho
  have z : T.length + 1 ≤ 16777216 := by omega
  have sm : smallR 5 := by unfold smallR; omega
  obtain ⟨b, hb⟩ := cOu_ok (some (.lst o NS)) x1 (some (.int k)) (some s2) x5 x6 x7 T
  refine ⟨b, ?_⟩
  unfold bOu
  generalize cOu = C at *
  cases b <;> simp [ow, hNS, sr, lr, pX, cz, hZ, sx, lo, z, sm, hb, -List.all_eq_true]
theorem law_el : m_law = (mSeq (mSet 1 (mC (.str SG))) (mSeq (mFor (mRange1 (mBin maxD (mC (.int 1)) (mBin minD (mC (.int 5)) (mP1 lenD (.v 0))))) (mPut 2) (bOu F__law_source F__law_loose F__law_marks F__law_row (bTn F__law_due F__law_said F__law_touched))) (mRet (mC (.bl true))))) := rfl
theorem body_all (o : Ow) (ho : o ≠ .own) (ns : List Int) (k : Nat) (x3 x4 x5 x6 x7 : Option D) : ∃ y3 y4 y5 y6 y7, bOu F__law_source F__law_loose F__law_marks F__law_row (bTn F__law_due F__law_said F__law_touched) [some (.lst o (ns.map D.int)), some (.str SG), some (.int (k : Nat)), x3, x4, x5, x6, x7] = .ok .nx [some (.lst o (ns.map D.int)), some (.str SG), some (.int (k : Nat)), y3, y4, y5, y6, y7] := by
  obtain ⟨s, sr⟩ := source_ok o ns k
  obtain ⟨s1, l, hl, ll, lr⟩ := row_ok 60 ⟨by decide, by decide⟩ s
  have hz : ∀ x ∈ l.take 60, Oct x := fun x hx => hl x (List.mem_of_mem_take hx)
  have sx := law_marks_ok .shr (by decide) (l.take 60) hz (by simp; omega)
  have s6 := mkT_len5 (l.take 60)
  have l6 : (l.take 60).length ≤ 60 := by simp; omega
  obtain ⟨s2, T, hT, lT, lo⟩ := loose_ok s1 (mkT (l.take 60)) (mkT_sgn _ hz) (by omega)
  obtain ⟨bb, b⟩ := bOu_core F__law_source F__law_loose F__law_marks F__law_row (bTn F__law_due F__law_said F__law_touched) o ho (ns.map D.int) (l.map D.int) _ (ints_fz _) (k : Nat) (encS s) (encS s1) (encS s2) (some (.str SG)) x3 x4 x5 x6 x7 _ T (by simp) (ints_fz _) (by omega) sr lr (cut_upto l 60) sx lo
  rw [b]
  have hT2 : ∀ c ∈ (if bb = true then T ++ [10] else T), Sgn c := by
    split
    · exact tx_app _ _ hT fun c hc => by rw [List.mem_singleton] at hc; subst hc; exact .inr rfl
    · exact hT
  have lT2 : (if bb = true then T ++ [10] else T).length ≤ 1000 := by split <;> (try simp) <;> omega
  generalize (if bb = true then T ++ [10] else T) = T2 at *
  let I : Nat → DE → Prop := fun j ρ => ∃ (s' : Int × Int × Int) (R : List Nat) (y5 y6 y7 : Option D), (∀ c ∈ R, Sgn c) ∧ R.length ≤ 1000 + 2 * j ∧ ρ = [some (.lst o (ns.map D.int)), some (.str SG), some (.int (k : Nat)), some (encS s'), some (.str R), y5, y6, y7]
  have hf : ∃ ρ', forL (mPut 5) (bTn F__law_due F__law_said F__law_touched) (rangeD 0 5) [some (.lst o (ns.map D.int)), some (.str SG), some (.int (k : Nat)), some (encS s2), some (.str T2), x5, x6, x7] = .ok .nx ρ' ∧ I (rangeD 0 5).length ρ' := by
    refine forL_inv0 I ⟨_, _, _, _, _, hT2, by omega, rfl⟩ ?_
    rintro i d ρ hd ⟨s', R, y5, y6, y7, hx, hr, rfl⟩
    obtain ⟨hi, rfl⟩ := rangeD_get hd
    obtain ⟨s3, R2, z6, z7, h1, h2, e⟩ := turn_ok s' R hx (by omega) (some (.lst o (ns.map D.int))) (some (.int (k : Nat))) (some (.int (0 + (i : Int)))) y6 y7
    exact ⟨_, rfl, .nx, _, e, Or.inl rfl, s3, R2, _, _, _, h1, by omega, rfl⟩
  obtain ⟨ρ', e, s', R, y5, y6, y7, _, _, rfl⟩ := hf
  exact ⟨_, _, _, _, _, e⟩
theorem law_true : ∀ (o : Ow) (ns : List Int), o = .frz ∨ o = .stc → ns.length ≤ 63 → F_law [.lst o (ns.map D.int)] = .ok (.bl true) [] := by
  intro o ns ho hn
  have ho2 : o ≠ .own := by rcases ho with rfl | rfl <;> decide
  have ba := body_all o ho2 ns
  have el : F_law [.lst o (ns.map D.int)] = runF 8 [] m_law [.lst o (ns.map D.int)] := rfl
  rw [el, law_el]
  generalize (bOu F__law_source F__law_loose F__law_marks F__law_row (bTn F__law_due F__law_said F__law_touched)) = B at *
  generalize SG = S at *
  obtain ⟨n, hn1⟩ := Int.eq_ofNat_of_zero_le (show 0 ≤ max 1 (min 5 (ns.length : Int)) by omega)
  have hs : smallR (n : Int) := by unfold smallR; omega
  let I : Nat → DE → Prop := fun k ρ => ∃ (x2 x3 x4 x5 x6 x7 : Option D), ρ = [some (.lst o (ns.map D.int)), some (.str S), x2, x3, x4, x5, x6, x7]
  have hf : ∃ ρ', forL (mPut 2) B (rangeD 0 n) [some (.lst o (ns.map D.int)), some (.str S), none, none, none, none, none, none] = .ok .nx ρ' ∧ I (rangeD 0 n).length ρ' := by
    refine forL_inv0 I ⟨_, _, _, _, _, _, rfl⟩ ?_
    rintro i d ρ hd ⟨x2, x3, x4, x5, x6, x7, rfl⟩
    obtain ⟨hi, rfl⟩ := rangeD_get hd
    obtain ⟨y3, y4, y5, y6, y7, e⟩ := ba i x3 x4 x5 x6 x7
    rw [show (0 : Int) + (i : Int) = ((i : Nat) : Int) by omega]
    exact ⟨_, rfl, .nx, _, e, Or.inl rfl, _, _, _, _, _, _, rfl⟩
  obtain ⟨ρ', e, x2, x3, x4, x5, x6, x7, rfl⟩ := hf
  rcases ho with rfl | rfl <;> simp [hn1, hs, e]
end K43


namespace K43
open PySem PySem.Spec PyProof.Rows L2 VS
abbrev R : PySem.W.OpenRow := PySem.W.OpenLaw.row PySem.Challenge.rw_foldletter_k43_texts_by_marks_read
def d_is_word : He.DefD := ⟨("is_word", none), "is_word", "is_word", defArgs s_is_word, defBody s_is_word, defScope s_is_word, [], []⟩
def d_is_body : He.DefD := ⟨("is_body", none), "is_body", "is_body", defArgs s_is_body, defBody s_is_body, defScope s_is_body, [], []⟩
def d_number_of : He.DefD := ⟨("number_of", none), "number_of", "number_of", defArgs s_number_of, defBody s_number_of, defScope s_number_of, [], []⟩
def d_needed_code : He.DefD := ⟨("needed_code", none), "needed_code", "needed_code", defArgs s_needed_code, defBody s_needed_code, defScope s_needed_code, [], []⟩
def d_read_sixes : He.DefD := ⟨("read_sixes", none), "read_sixes", "read_sixes", defArgs s_read_sixes, defBody s_read_sixes, defScope s_read_sixes, [], []⟩
def d_behind_blanks : He.DefD := ⟨("behind_blanks", none), "behind_blanks", "behind_blanks", defArgs s_behind_blanks, defBody s_behind_blanks, defScope s_behind_blanks, [], []⟩
def d_figure_at : He.DefD := ⟨("figure_at", none), "figure_at", "figure_at", defArgs s_figure_at, defBody s_figure_at, defScope s_figure_at, [], []⟩
def d_read_equals : He.DefD := ⟨("read_equals", none), "read_equals", "read_equals", defArgs s_read_equals, defBody s_read_equals, defScope s_read_equals, [], []⟩
def d_read_marks : He.DefD := ⟨("read_marks", none), "read_marks", "read_marks", defArgs s_read_marks, defBody s_read_marks, defScope s_read_marks, [], []⟩
def d_read_by : He.DefD := ⟨("read_by", none), "read_by", "read_by", defArgs s_read_by, defBody s_read_by, defScope s_read_by, [], []⟩
def d__law_cell_at : He.DefD := ⟨("_law_cell_at", none), "_law_cell_at", "_law_cell_at", defArgs s__law_cell_at, defBody s__law_cell_at, defScope s__law_cell_at, [], []⟩
def d__law_mixed : He.DefD := ⟨("_law_mixed", none), "_law_mixed", "_law_mixed", defArgs s__law_mixed, defBody s__law_mixed, defScope s__law_mixed, [], []⟩
def d__law_source : He.DefD := ⟨("_law_source", none), "_law_source", "_law_source", defArgs s__law_source, defBody s__law_source, defScope s__law_source, [], []⟩
def d__law_next : He.DefD := ⟨("_law_next", none), "_law_next", "_law_next", defArgs s__law_next, defBody s__law_next, defScope s__law_next, [], []⟩
def d__law_row : He.DefD := ⟨("_law_row", none), "_law_row", "_law_row", defArgs s__law_row, defBody s__law_row, defScope s__law_row, [], []⟩
def d__law_text : He.DefD := ⟨("_law_text", none), "_law_text", "_law_text", defArgs s__law_text, defBody s__law_text, defScope s__law_text, [], []⟩
def d__law_units : He.DefD := ⟨("_law_units", none), "_law_units", "_law_units", defArgs s__law_units, defBody s__law_units, defScope s__law_units, [], []⟩
def d__law_marks : He.DefD := ⟨("_law_marks", none), "_law_marks", "_law_marks", defArgs s__law_marks, defBody s__law_marks, defScope s__law_marks, [], []⟩
def d__law_touched : He.DefD := ⟨("_law_touched", none), "_law_touched", "_law_touched", defArgs s__law_touched, defBody s__law_touched, defScope s__law_touched, [], []⟩
def d__law_loose : He.DefD := ⟨("_law_loose", none), "_law_loose", "_law_loose", defArgs s__law_loose, defBody s__law_loose, defScope s__law_loose, [], []⟩
def d__law_numbers : He.DefD := ⟨("_law_numbers", none), "_law_numbers", "_law_numbers", defArgs s__law_numbers, defBody s__law_numbers, defScope s__law_numbers, [], []⟩
def d__law_line : He.DefD := ⟨("_law_line", none), "_law_line", "_law_line", defArgs s__law_line, defBody s__law_line, defScope s__law_line, [], []⟩
def d__law_due : He.DefD := ⟨("_law_due", none), "_law_due", "_law_due", defArgs s__law_due, defBody s__law_due, defScope s__law_due, [], []⟩
def d__law_said : He.DefD := ⟨("_law_said", none), "_law_said", "_law_said", defArgs s__law_said, defBody s__law_said, defScope s__law_said, [], []⟩
def d_law : He.DefD := ⟨("law", none), "law", "law", defArgs s_law, defBody s_law, defScope s_law, [], []⟩
abbrev sI_NoCode : Stmt := inClass (topS 6) 0
theorem scI_NoCode : FnScope ["self", "why", "at"] ["self", "why", "at"] (defScope sI_NoCode) := ⟨rfl, rfl, rfl, by decide +kernel, rfl, by decide +kernel, by decide +kernel⟩
def dI_NoCode : He.DefD := ⟨("NoCode", some "__init__"), "__init__", "NoCode.__init__", defArgs sI_NoCode, defBody sI_NoCode, defScope sI_NoCode, [.int 0], []⟩
def fn : List He.DefD := [d_is_word, d_is_body, d_number_of, d_needed_code, d_read_sixes, d_behind_blanks, d_figure_at, d_read_equals, d_read_marks, d_read_by, d__law_cell_at, d__law_mixed, d__law_source, d__law_next, d__law_row, d__law_text, d__law_units, d__law_marks, d__law_touched, d__law_loose, d__law_numbers, d__law_line, d__law_due, d__law_said, d_law, dI_NoCode]
def exB (K : PySem.W.Frag) : Bool := [xtB K (clsOf K) allX dsX, iniB K "NoCode" "at", tupE K "CODES" k_CODES].all id
def fa : List He.Fa := [.glo "is_word", .glo "is_body", .glo "number_of", .glo "needed_code", .glo "read_sixes", .glo "behind_blanks", .glo "figure_at", .glo "read_equals", .glo "read_marks", .glo "read_by", .glo "_law_cell_at", .glo "_law_mixed", .glo "_law_source", .glo "_law_next", .glo "_law_row", .glo "_law_text", .glo "_law_units", .glo "_law_marks", .glo "_law_touched", .glo "_law_loose", .glo "_law_numbers", .glo "_law_line", .glo "_law_due", .glo "_law_said", .glo "law", .glo "LetterError", .glo "NoCode", .glo "NoOctets", .glo "CODES", .free "ValueError", .free "enumerate", .free "int", .free "isinstance", .free "len", .free "list", .free "max", .free "min", .free "range", .free "str", .free "zip", .str "SIGNS" ⟨k_SIGNS.toArray⟩, .str "SIXTEEN" ⟨k_SIXTEEN.toArray⟩, .str "SMALL_SIXTEEN" ⟨k_SMALL_SIXTEEN.toArray⟩]
abbrev hk : PySem.W.Hook := hookE 4 fa fn exB
def ob (s : PySem.W.SharedT) : He.AlD × Bool := obsE 4 fa fn exB (HandSHeadRun.getT s)
theorem ob_eq (s : PySem.W.SharedT) : ob s = hk.obs s.abs := obsE_eq (HandSHeadRun.getT_eq s)
def names0 : List PySem.Str := ["is_word", "is_body", "LetterError", "NoOctets", "NoCode", "CODES", "SIGNS", "SIX", "SIXTEEN", "SMALL_SIXTEEN", "number_of", "needed_code", "SixReading", "read_sixes", "behind_blanks", "figure_at"]
def names1 : List PySem.Str := ["read_equals", "read_marks", "read_by", "_law_cell_at", "_law_mixed", "_law_source", "_law_next", "_law_row", "_law_text", "_law_units", "_law_marks", "_law_touched", "_law_loose", "_law_numbers", "_law_line", "_law_due"]
def names2 : List PySem.Str := ["_law_said"]
def names : List PySem.Str := names0 ++ names1 ++ names2
open HandSHeadRun PySem.W in
theorem run_a (w : World) (os : OsState) : (HandSHeadRun.endF (HandSHeadRun.stepQ (HandSHeadRun.denQ HandSHeadRun.tabQ) R.prog w) 6000 R.prog w os).map (fun s => (HandSHeadRun.looksF R.prog (boot_heap w.params) s.abs, HandSHeadRun.seenQ (PySem.W.view R.prog [37]) names (importedModules R.prog.main.body) (fun s => PySem.W.xlAt (PySem.W.view R.prog [37]) [] s && PySem.W.recOk R.toRowW.records s) s.abs)) = some (true, openGood (PySem.W.view R.prog [37]) names) := by
  kernel_rfl
def fn0 : List He.DefD := (fn.drop 0).take 13
def fn1 : List He.DefD := (fn.drop 13)
theorem fnJ : fn = fn0 ++ fn1 := by
  kernel_rfl
def fa0 : List He.Fa := (fa.drop 0).take 21
def fa1 : List He.Fa := (fa.drop 21)
theorem faJ : fa = fa0 ++ fa1 := by
  kernel_rfl
def KK (s : PySem.W.SharedT) : PySem.W.Frag := He.frG (HandSHeadRun.getT s) (He.asD (HandSHeadRun.getT s) 4)
theorem run_b0 (w : World) (os : OsState) : (HandSHeadRun.endF (HandSHeadRun.stepQ (HandSHeadRun.denQ HandSHeadRun.tabQ) R.prog w) 6000 R.prog w os).map (fun s => fa0.all fun f => f.ok (KK s)) = some true := by
  kernel_rfl
theorem run_b1 (w : World) (os : OsState) : (HandSHeadRun.endF (HandSHeadRun.stepQ (HandSHeadRun.denQ HandSHeadRun.tabQ) R.prog w) 6000 R.prog w os).map (fun s => fa1.all fun f => f.ok (KK s)) = some true := by
  kernel_rfl
theorem run_b2 (w : World) (os : OsState) : (HandSHeadRun.endF (HandSHeadRun.stepQ (HandSHeadRun.denQ HandSHeadRun.tabQ) R.prog w) 6000 R.prog w os).map (fun s => fn0.all fun d => d.ok (KK s)) = some true := by
  kernel_rfl
theorem run_b3 (w : World) (os : OsState) : (HandSHeadRun.endF (HandSHeadRun.stepQ (HandSHeadRun.denQ HandSHeadRun.tabQ) R.prog w) 6000 R.prog w os).map (fun s => fn1.all fun d => d.ok (KK s)) = some true := by
  kernel_rfl
theorem run_c0 (w : World) (os : OsState) : (HandSHeadRun.endF (HandSHeadRun.stepQ (HandSHeadRun.denQ HandSHeadRun.tabQ) R.prog w) 6000 R.prog w os).map (fun s => fn0.map fun d => He.fnW (KK s) d.at_) = some (fn0.map He.DefD.val) := by
  kernel_rfl
theorem run_c1 (w : World) (os : OsState) : (HandSHeadRun.endF (HandSHeadRun.stepQ (HandSHeadRun.denQ HandSHeadRun.tabQ) R.prog w) 6000 R.prog w os).map (fun s => fn1.map fun d => He.fnW (KK s) d.at_) = some (fn1.map He.DefD.val) := by
  kernel_rfl
theorem and2 {A : Type} {o : Option A} {f g : A → Bool} (h1 : o.map f = some true) (h2 : o.map g = some true) : o.map (fun s => f s && g s) = some true := by
  cases o with
  | none => cases h1
  | some s =>
    simp only [Option.map_some, Option.some.injEq] at h1 h2 ⊢
    rw [h1, h2]; rfl
theorem app2 {A B : Type} {o : Option A} {f g : A → List B} {x y : List B} (h1 : o.map f = some x) (h2 : o.map g = some y) : o.map (fun s => f s ++ g s) = some (x ++ y) := by
  cases o with
  | none => cases h1
  | some s =>
    simp only [Option.map_some, Option.some.injEq] at h1 h2 ⊢
    rw [h1, h2]
theorem ob_b : (fun s => (ob s).1.1) = fun s => ((fa0.all fun f => f.ok (KK s)) && (fa1.all fun f => f.ok (KK s))) && ((fn0.all fun d => d.ok (KK s)) && (fn1.all fun d => d.ok (KK s))) := by
  funext s
  have a : (fa.all fun f => f.ok (KK s)) = ((fa0.all fun f => f.ok (KK s)) && (fa1.all fun f => f.ok (KK s))) := by rw [faJ]; simp only [List.all_append]
  have b : (fn.all fun f => f.ok (KK s)) = ((fn0.all fun d => d.ok (KK s)) && (fn1.all fun d => d.ok (KK s))) := by rw [fnJ]; simp only [List.all_append]
  exact (show (ob s).1.1 = ((fa.all fun f => f.ok (KK s)) && fn.all fun f => f.ok (KK s)) from rfl).trans (by rw [a, b])
theorem ob_c : (fun s => (ob s).1.2) = fun s => (fn0.map fun d => He.fnW (KK s) d.at_) ++ (fn1.map fun d => He.fnW (KK s) d.at_) := by
  funext s
  exact (show (ob s).1.2 = fn.map fun d => He.fnW (KK s) d.at_ from rfl).trans (by rw [fnJ]; simp only [List.map_append])
theorem run_b (w : World) (os : OsState) : (HandSHeadRun.endF (HandSHeadRun.stepQ (HandSHeadRun.denQ HandSHeadRun.tabQ) R.prog w) 6000 R.prog w os).map (fun s => (ob s).1.1) = some true := by
  rw [ob_b]
  exact and2 (and2 (run_b0 w os) (run_b1 w os)) (and2 (run_b2 w os) (run_b3 w os))
theorem run_c (w : World) (os : OsState) : (HandSHeadRun.endF (HandSHeadRun.stepQ (HandSHeadRun.denQ HandSHeadRun.tabQ) R.prog w) 6000 R.prog w os).map (fun s => (ob s).1.2) = some (fn.map He.DefD.val) := by
  rw [ob_c, show fn.map He.DefD.val = fn0.map He.DefD.val ++ fn1.map He.DefD.val from (by rw [fnJ]; simp only [List.map_append])]
  exact (app2 (run_c0 w os) (run_c1 w os))
theorem run_d (w : World) (os : OsState) : (HandSHeadRun.endF (HandSHeadRun.stepQ (HandSHeadRun.denQ HandSHeadRun.tabQ) R.prog w) 6000 R.prog w os).map (fun s => (ob s).2) = some true := by
  kernel_rfl
theorem run_j {A B C D E F : Type} (o : Option A) (f : A → B) (g : A → C) (h : A → (D × E) × F) {a : B} {b : C} {c1 : D} {c2 : E} {c3 : F} (h1 : o.map (fun s => (f s, g s)) = some (a, b)) (h2 : o.map (fun s => (h s).1.1) = some c1) (h3 : o.map (fun s => (h s).1.2) = some c2) (h4 : o.map (fun s => (h s).2) = some c3) : o.map (fun s => (f s, g s, h s)) = some (a, b, ((c1, c2), c3)) := by
  cases o with
  | none => cases h1
  | some s =>
    simp only [Option.map_some, Option.some.injEq, Prod.mk.injEq] at h1 h2 h3 h4 ⊢
    refine ⟨h1.1, h1.2, ?_⟩
    rw [← h2, ← h3, ← h4]
theorem run (w : World) : HandSHeadRun.RunEq R (PySem.W.view R.prog [37]) hk ob 6000 names w := fun os => run_j _ _ _ _ (run_a w os) (run_b w os) (run_c w os) (run_d w os)
theorem facts {P : Program} {w : World} {K : PySem.W.Frag} {h : Heap} {mg : Str → Option Value} {f : Addr} (X : K.In h) (G : h.Ns mainGlobals mg) (hfa : mg ("law" : Str) = some (.ref f)) (c : He.SaysD fa fn K) (cx : exB K = true) :
    ∃ (fd : FuncData) (cf : Cfg), (cf.K = K ∧ cf.tb = []) ∧ (∀ (s : Shared) (v : Value), BindsTo s fd ⟨[v], []⟩ [("_law_script", v)]) ∧ ∀ base : Heap, K.In base → base.Ns mainGlobals mg → FnOk P w K mg base (L2.CX P w) 8 f fd ["_law_script"] (spM cf 1 [] F_law) := by
  obtain ⟨fd_is_word, D_is_word⟩ := c.def_ 0 (d := d_is_word) rfl
  have A_is_word : At K mg "is_word" s_is_word ["thing", "words"] _ fd_is_word := ⟨D_is_word, He.glo_ok X G (c.fact 0 (f := .glo "is_word") rfl), FunD.bindsN D_is_word fun _ _ _ _ _ _ us hl => match us, hl with | [_, _], _ => rfl⟩
  obtain ⟨fd_is_body, D_is_body⟩ := c.def_ 1 (d := d_is_body) rfl
  have A_is_body : At K mg "is_body" s_is_body ["thing"] _ fd_is_body := ⟨D_is_body, He.glo_ok X G (c.fact 1 (f := .glo "is_body") rfl), FunD.bindsN D_is_body fun _ _ _ _ _ _ us hl => match us, hl with | [_], _ => rfl⟩
  obtain ⟨fd_number_of, D_number_of⟩ := c.def_ 2 (d := d_number_of) rfl
  have A_number_of : At K mg "number_of" s_number_of ["sign"] _ fd_number_of := ⟨D_number_of, He.glo_ok X G (c.fact 2 (f := .glo "number_of") rfl), FunD.bindsN D_number_of fun _ _ _ _ _ _ us hl => match us, hl with | [_], _ => rfl⟩
  obtain ⟨fd_needed_code, D_needed_code⟩ := c.def_ 3 (d := d_needed_code) rfl
  have A_needed_code : At K mg "needed_code" s_needed_code ["thing"] _ fd_needed_code := ⟨D_needed_code, He.glo_ok X G (c.fact 3 (f := .glo "needed_code") rfl), FunD.bindsN D_needed_code fun _ _ _ _ _ _ us hl => match us, hl with | [_], _ => rfl⟩
  obtain ⟨fd_read_sixes, D_read_sixes⟩ := c.def_ 4 (d := d_read_sixes) rfl
  have A_read_sixes : At K mg "read_sixes" s_read_sixes ["text"] _ fd_read_sixes := ⟨D_read_sixes, He.glo_ok X G (c.fact 4 (f := .glo "read_sixes") rfl), FunD.bindsN D_read_sixes fun _ _ _ _ _ _ us hl => match us, hl with | [_], _ => rfl⟩
  obtain ⟨fd_behind_blanks, D_behind_blanks⟩ := c.def_ 5 (d := d_behind_blanks) rfl
  have A_behind_blanks : At K mg "behind_blanks" s_behind_blanks ["text", "at"] _ fd_behind_blanks := ⟨D_behind_blanks, He.glo_ok X G (c.fact 5 (f := .glo "behind_blanks") rfl), FunD.bindsN D_behind_blanks fun _ _ _ _ _ _ us hl => match us, hl with | [_, _], _ => rfl⟩
  obtain ⟨fd_figure_at, D_figure_at⟩ := c.def_ 6 (d := d_figure_at) rfl
  have A_figure_at : At K mg "figure_at" s_figure_at ["text", "at"] _ fd_figure_at := ⟨D_figure_at, He.glo_ok X G (c.fact 6 (f := .glo "figure_at") rfl), FunD.bindsN D_figure_at fun _ _ _ _ _ _ us hl => match us, hl with | [_, _], _ => rfl⟩
  obtain ⟨fd_read_equals, D_read_equals⟩ := c.def_ 7 (d := d_read_equals) rfl
  have A_read_equals : At K mg "read_equals" s_read_equals ["text", "at"] _ fd_read_equals := ⟨D_read_equals, He.glo_ok X G (c.fact 7 (f := .glo "read_equals") rfl), FunD.bindsN D_read_equals fun _ _ _ _ _ _ us hl => match us, hl with | [_, _], _ => rfl⟩
  obtain ⟨fd_read_marks, D_read_marks⟩ := c.def_ 8 (d := d_read_marks) rfl
  have A_read_marks : At K mg "read_marks" s_read_marks ["text"] _ fd_read_marks := ⟨D_read_marks, He.glo_ok X G (c.fact 8 (f := .glo "read_marks") rfl), FunD.bindsN D_read_marks fun _ _ _ _ _ _ us hl => match us, hl with | [_], _ => rfl⟩
  obtain ⟨fd_read_by, D_read_by⟩ := c.def_ 9 (d := d_read_by) rfl
  have A_read_by : At K mg "read_by" s_read_by ["text", "code"] _ fd_read_by := ⟨D_read_by, He.glo_ok X G (c.fact 9 (f := .glo "read_by") rfl), FunD.bindsN D_read_by fun _ _ _ _ _ _ us hl => match us, hl with | [_, _], _ => rfl⟩
  obtain ⟨fd__law_cell_at, D__law_cell_at⟩ := c.def_ 10 (d := d__law_cell_at) rfl
  have A__law_cell_at : At K mg "_law_cell_at" s__law_cell_at ["_law_script", "_law_k"] _ fd__law_cell_at := ⟨D__law_cell_at, He.glo_ok X G (c.fact 10 (f := .glo "_law_cell_at") rfl), FunD.bindsN D__law_cell_at fun _ _ _ _ _ _ us hl => match us, hl with | [_, _], _ => rfl⟩
  obtain ⟨fd__law_mixed, D__law_mixed⟩ := c.def_ 11 (d := d__law_mixed) rfl
  have A__law_mixed : At K mg "_law_mixed" s__law_mixed ["_law_cell", "_law_k"] _ fd__law_mixed := ⟨D__law_mixed, He.glo_ok X G (c.fact 11 (f := .glo "_law_mixed") rfl), FunD.bindsN D__law_mixed fun _ _ _ _ _ _ us hl => match us, hl with | [_, _], _ => rfl⟩
  obtain ⟨fd__law_source, D__law_source⟩ := c.def_ 12 (d := d__law_source) rfl
  have A__law_source : At K mg "_law_source" s__law_source ["_law_script", "_law_k"] _ fd__law_source := ⟨D__law_source, He.glo_ok X G (c.fact 12 (f := .glo "_law_source") rfl), FunD.bindsN D__law_source fun _ _ _ _ _ _ us hl => match us, hl with | [_, _], _ => rfl⟩
  obtain ⟨fd__law_next, D__law_next⟩ := c.def_ 13 (d := d__law_next) rfl
  have A__law_next : At K mg "_law_next" s__law_next ["_law_source_here", "_law_many"] _ fd__law_next := ⟨D__law_next, He.glo_ok X G (c.fact 13 (f := .glo "_law_next") rfl), FunD.bindsN D__law_next fun _ _ _ _ _ _ us hl => match us, hl with | [_, _], _ => rfl⟩
  obtain ⟨fd__law_row, D__law_row⟩ := c.def_ 14 (d := d__law_row) rfl
  have A__law_row : At K mg "_law_row" s__law_row ["_law_source_here", "_law_most"] _ fd__law_row := ⟨D__law_row, He.glo_ok X G (c.fact 14 (f := .glo "_law_row") rfl), FunD.bindsN D__law_row fun _ _ _ _ _ _ us hl => match us, hl with | [_, _], _ => rfl⟩
  obtain ⟨fd__law_text, D__law_text⟩ := c.def_ 15 (d := d__law_text) rfl
  have A__law_text : At K mg "_law_text" s__law_text ["_law_numbers_here"] _ fd__law_text := ⟨D__law_text, He.glo_ok X G (c.fact 15 (f := .glo "_law_text") rfl), FunD.bindsN D__law_text fun _ _ _ _ _ _ us hl => match us, hl with | [_], _ => rfl⟩
  obtain ⟨fd__law_units, D__law_units⟩ := c.def_ 16 (d := d__law_units) rfl
  have A__law_units : At K mg "_law_units" s__law_units ["_law_eights"] _ fd__law_units := ⟨D__law_units, He.glo_ok X G (c.fact 16 (f := .glo "_law_units") rfl), FunD.bindsN D__law_units fun _ _ _ _ _ _ us hl => match us, hl with | [_], _ => rfl⟩
  obtain ⟨fd__law_marks, D__law_marks⟩ := c.def_ 17 (d := d__law_marks) rfl
  have A__law_marks : At K mg "_law_marks" s__law_marks ["_law_eights"] _ fd__law_marks := ⟨D__law_marks, He.glo_ok X G (c.fact 17 (f := .glo "_law_marks") rfl), FunD.bindsN D__law_marks fun _ _ _ _ _ _ us hl => match us, hl with | [_], _ => rfl⟩
  obtain ⟨fd__law_touched, D__law_touched⟩ := c.def_ 18 (d := d__law_touched) rfl
  have A__law_touched : At K mg "_law_touched" s__law_touched ["_law_source_here", "_law_line_here", "_law_signs"] _ fd__law_touched := ⟨D__law_touched, He.glo_ok X G (c.fact 18 (f := .glo "_law_touched") rfl), FunD.bindsN D__law_touched fun _ _ _ _ _ _ us hl => match us, hl with | [_, _, _], _ => rfl⟩
  obtain ⟨fd__law_loose, D__law_loose⟩ := c.def_ 19 (d := d__law_loose) rfl
  have A__law_loose : At K mg "_law_loose" s__law_loose ["_law_source_here", "_law_line_here"] _ fd__law_loose := ⟨D__law_loose, He.glo_ok X G (c.fact 19 (f := .glo "_law_loose") rfl), FunD.bindsN D__law_loose fun _ _ _ _ _ _ us hl => match us, hl with | [_, _], _ => rfl⟩
  obtain ⟨fd__law_numbers, D__law_numbers⟩ := c.def_ 20 (d := d__law_numbers) rfl
  have A__law_numbers : At K mg "_law_numbers" s__law_numbers ["_law_line_here"] _ fd__law_numbers := ⟨D__law_numbers, He.glo_ok X G (c.fact 20 (f := .glo "_law_numbers") rfl), FunD.bindsN D__law_numbers fun _ _ _ _ _ _ us hl => match us, hl with | [_], _ => rfl⟩
  obtain ⟨fd__law_line, D__law_line⟩ := c.def_ 21 (d := d__law_line) rfl
  have A__law_line : At K mg "_law_line" s__law_line ["_law_line_here", "_law_is_last"] _ fd__law_line := ⟨D__law_line, He.glo_ok X G (c.fact 21 (f := .glo "_law_line") rfl), FunD.bindsN D__law_line fun _ _ _ _ _ _ us hl => match us, hl with | [_, _], _ => rfl⟩
  obtain ⟨fd__law_due, D__law_due⟩ := c.def_ 22 (d := d__law_due) rfl
  have A__law_due : At K mg "_law_due" s__law_due ["_law_line_here"] _ fd__law_due := ⟨D__law_due, He.glo_ok X G (c.fact 22 (f := .glo "_law_due") rfl), FunD.bindsN D__law_due fun _ _ _ _ _ _ us hl => match us, hl with | [_], _ => rfl⟩
  obtain ⟨fd__law_said, D__law_said⟩ := c.def_ 23 (d := d__law_said) rfl
  have A__law_said : At K mg "_law_said" s__law_said ["_law_line_here", "_law_word"] _ fd__law_said := ⟨D__law_said, He.glo_ok X G (c.fact 23 (f := .glo "_law_said") rfl), FunD.bindsN D__law_said fun _ _ _ _ _ _ us hl => match us, hl with | [_, _], _ => rfl⟩
  obtain ⟨fd_law, D_law⟩ := c.def_ 24 (d := d_law) rfl
  have A_law : At K mg "law" s_law ["_law_script"] _ fd_law := ⟨D_law, He.glo_ok X G (c.fact 24 (f := .glo "law") rfl), FunD.bindsN D_law fun _ _ _ _ _ _ us hl => match us, hl with | [_], _ => rfl⟩
  obtain ⟨fdI_NoCode, DI_NoCode⟩ := c.def_ 25 (d := dI_NoCode) rfl
  have cx2 : ∀ b ∈ [xtB K (clsOf K) allX dsX, iniB K "NoCode" "at", tupE K "CODES" k_CODES], b = true := fun b hb => List.all_eq_true.mp cx b hb
  have B_NoCode := iniB_ok (cx2 _ (by simp) : iniB K "NoCode" "at" = true)
  have B_CODES := tupE_ok (cx2 _ (by simp) : tupE K "CODES" k_CODES = true)
  have T : Tx K mg ⟨K, fun x => He.ga K (Str.ofString x), []⟩ :=
    { hK := rfl
      f_ValueError := He.free_ok X G (c.fact 29 (f := .free "ValueError") rfl)
      f_enumerate := He.free_ok X G (c.fact 30 (f := .free "enumerate") rfl)
      f_int := He.free_ok X G (c.fact 31 (f := .free "int") rfl)
      f_isinstance := He.free_ok X G (c.fact 32 (f := .free "isinstance") rfl)
      f_len := He.free_ok X G (c.fact 33 (f := .free "len") rfl)
      f_list := He.free_ok X G (c.fact 34 (f := .free "list") rfl)
      f_max := He.free_ok X G (c.fact 35 (f := .free "max") rfl)
      f_min := He.free_ok X G (c.fact 36 (f := .free "min") rfl)
      f_range := He.free_ok X G (c.fact 37 (f := .free "range") rfl)
      f_str := He.free_ok X G (c.fact 38 (f := .free "str") rfl)
      f_zip := He.free_ok X G (c.fact 39 (f := .free "zip") rfl)
      c_CODES := ⟨_, He.glo_ok X G (c.fact 28 (f := .glo "CODES") rfl), B_CODES.1⟩
      c_SIGNS := He.str_ok X G (c.fact 40 (f := .str "SIGNS" ⟨k_SIGNS.toArray⟩) rfl)
      c_SIXTEEN := He.str_ok X G (c.fact 41 (f := .str "SIXTEEN" ⟨k_SIXTEEN.toArray⟩) rfl)
      c_SMALL_SIXTEEN := He.str_ok X G (c.fact 42 (f := .str "SMALL_SIXTEEN" ⟨k_SMALL_SIXTEEN.toArray⟩) rfl)
      xt := xtB_ok (cx2 _ (by simp) : xtB K (clsOf K) allX dsX = true)
      g_LetterError := He.glo_ok X G (c.fact 25 (f := .glo "LetterError") rfl)
      g_NoCode := He.glo_ok X G (c.fact 26 (f := .glo "NoCode") rfl)
      g_NoOctets := He.glo_ok X G (c.fact 27 (f := .glo "NoOctets") rfl)
    }
  have e := hfa.symm.trans A_law.g
  cases e
  refine ⟨fd_law, ⟨K, fun x => He.ga K (Str.ofString x), []⟩, ⟨rfl, rfl⟩, fun s v => FunD.bindsA (ps := ["_law_script"]) D_law (fun _ _ _ _ _ _ us hl => match us, hl with | [_], _ => rfl) s [v] rfl, fun base _ _ => ?_⟩
  have I_NoCode : XIni P w K mg base ⟨K, fun x => He.ga K (Str.ofString x), []⟩ "NoCode" "at" _ fdI_NoCode := {
      T := B_NoCode.1
      no := B_NoCode.2.1
      iC := B_NoCode.2.2.1
      tI := B_NoCode.2.2.2
      g := He.glo_ok X G (c.fact 26 (f := .glo "NoCode") rfl)
      F := init_ok DI_NoCode scI_NoCode fun _ _ _ _ _ _ => pss_one (ps_ost (pv 0) (pv 2))
      b1 := FunD.binds1 (ps := ["self", "why", "at"]) DI_NoCode 2 0 (by simp [He.DefD.dvs, dI_NoCode]) rfl fun _ _ _ _ _ _ _ us its hu hi => match us, hu, its, hi with | [_, _], _, [_], _ => ⟨_, rfl, rfl⟩
      b2 := by
        obtain ⟨ds, hv, hb⟩ := FunD.binds1 (ps := ["self", "why", "at"]) DI_NoCode 3 1 (by simp [He.DefD.dvs, dI_NoCode]) rfl fun _ _ _ _ _ _ _ us its hu hi => match us, hu, its, hi with | [_, _, _], _, [_], _ => ⟨_, rfl, rfl⟩
        cases hv
        exact hb }
  have G_is_word : FnOk P w K mg base (L2.CX P w) 1 _ fd_is_word ["thing", "words"] (spM ⟨K, fun x => He.ga K (Str.ofString x), []⟩ 2 [] F_is_word) := ok_is_word T A_is_word 
  have G_is_body : FnOk P w K mg base (L2.CX P w) 1 _ fd_is_body ["thing"] (spM ⟨K, fun x => He.ga K (Str.ofString x), []⟩ 1 [] F_is_body) := ok_is_body T A_is_body 
  have G_number_of : FnOk P w K mg base (L2.CX P w) 1 _ fd_number_of ["sign"] (spM ⟨K, fun x => He.ga K (Str.ofString x), []⟩ 1 [] F_number_of) := ok_number_of T A_number_of 
  have G_needed_code : FnOk P w K mg base (L2.CX P w) 3 _ fd_needed_code ["thing"] (spM ⟨K, fun x => He.ga K (Str.ofString x), []⟩ 1 [] F_needed_code) := ok_needed_code T A_needed_code I_NoCode A_is_word G_is_word
  have G_read_sixes : FnOk P w K mg base (L2.CX P w) 3 _ fd_read_sixes ["text"] (spM ⟨K, fun x => He.ga K (Str.ofString x), []⟩ 1 [] F_read_sixes) := ok_read_sixes T A_read_sixes I_NoCode
  have G_behind_blanks : FnOk P w K mg base (L2.CX P w) 1 _ fd_behind_blanks ["text", "at"] (spM ⟨K, fun x => He.ga K (Str.ofString x), []⟩ 2 [] F_behind_blanks) := ok_behind_blanks T A_behind_blanks 
  have G_figure_at : FnOk P w K mg base (L2.CX P w) 3 _ fd_figure_at ["text", "at"] (spM ⟨K, fun x => He.ga K (Str.ofString x), []⟩ 2 [] F_figure_at) := ok_figure_at T A_figure_at I_NoCode
  have G_read_equals : FnOk P w K mg base (L2.CX P w) 4 _ fd_read_equals ["text", "at"] (spM ⟨K, fun x => He.ga K (Str.ofString x), []⟩ 2 [] F_read_equals) := ok_read_equals T A_read_equals I_NoCode A_behind_blanks G_behind_blanks A_figure_at G_figure_at
  have G_read_marks : FnOk P w K mg base (L2.CX P w) 5 _ fd_read_marks ["text"] (spM ⟨K, fun x => He.ga K (Str.ofString x), []⟩ 1 [] F_read_marks) := ok_read_marks T A_read_marks A_read_equals G_read_equals A_behind_blanks G_behind_blanks A_number_of G_number_of
  have G_read_by : FnOk P w K mg base (L2.CX P w) 6 _ fd_read_by ["text", "code"] (spM ⟨K, fun x => He.ga K (Str.ofString x), []⟩ 2 [] F_read_by) := ok_read_by T A_read_by I_NoCode A_needed_code G_needed_code A_read_sixes G_read_sixes A_is_body G_is_body A_read_marks G_read_marks A_number_of G_number_of
  have G__law_cell_at : FnOk P w K mg base (L2.CX P w) 1 _ fd__law_cell_at ["_law_script", "_law_k"] (spM ⟨K, fun x => He.ga K (Str.ofString x), []⟩ 2 [] F__law_cell_at) := ok__law_cell_at T A__law_cell_at 
  have G__law_mixed : FnOk P w K mg base (L2.CX P w) 1 _ fd__law_mixed ["_law_cell", "_law_k"] (spM ⟨K, fun x => He.ga K (Str.ofString x), []⟩ 2 [] F__law_mixed) := ok__law_mixed T A__law_mixed 
  have G__law_source : FnOk P w K mg base (L2.CX P w) 2 _ fd__law_source ["_law_script", "_law_k"] (spM ⟨K, fun x => He.ga K (Str.ofString x), []⟩ 2 [] F__law_source) := ok__law_source T A__law_source A__law_mixed G__law_mixed A__law_cell_at G__law_cell_at
  have G__law_next : FnOk P w K mg base (L2.CX P w) 2 _ fd__law_next ["_law_source_here", "_law_many"] (spM ⟨K, fun x => He.ga K (Str.ofString x), []⟩ 2 [0] F__law_next) := ok__law_next T A__law_next A__law_mixed G__law_mixed
  have G__law_row : FnOk P w K mg base (L2.CX P w) 3 _ fd__law_row ["_law_source_here", "_law_most"] (spM ⟨K, fun x => He.ga K (Str.ofString x), []⟩ 2 [0] F__law_row) := ok__law_row T A__law_row A__law_next G__law_next
  have G__law_text : FnOk P w K mg base (L2.CX P w) 1 _ fd__law_text ["_law_numbers_here"] (spM ⟨K, fun x => He.ga K (Str.ofString x), []⟩ 1 [] F__law_text) := ok__law_text T A__law_text 
  have G__law_units : FnOk P w K mg base (L2.CX P w) 2 _ fd__law_units ["_law_eights"] (spM ⟨K, fun x => He.ga K (Str.ofString x), []⟩ 1 [] F__law_units) := ok__law_units T A__law_units A__law_text G__law_text
  have G__law_marks : FnOk P w K mg base (L2.CX P w) 3 _ fd__law_marks ["_law_eights"] (spM ⟨K, fun x => He.ga K (Str.ofString x), []⟩ 1 [] F__law_marks) := ok__law_marks T A__law_marks A__law_units G__law_units
  have G__law_touched : FnOk P w K mg base (L2.CX P w) 3 _ fd__law_touched ["_law_source_here", "_law_line_here", "_law_signs"] (spM ⟨K, fun x => He.ga K (Str.ofString x), []⟩ 3 [0] F__law_touched) := ok__law_touched T A__law_touched A__law_next G__law_next
  have G__law_loose : FnOk P w K mg base (L2.CX P w) 3 _ fd__law_loose ["_law_source_here", "_law_line_here"] (spM ⟨K, fun x => He.ga K (Str.ofString x), []⟩ 2 [0] F__law_loose) := ok__law_loose T A__law_loose A__law_next G__law_next
  have G__law_numbers : FnOk P w K mg base (L2.CX P w) 1 _ fd__law_numbers ["_law_line_here"] (spM ⟨K, fun x => He.ga K (Str.ofString x), []⟩ 1 [] F__law_numbers) := ok__law_numbers T A__law_numbers 
  have G__law_line : FnOk P w K mg base (L2.CX P w) 2 _ fd__law_line ["_law_line_here", "_law_is_last"] (spM ⟨K, fun x => He.ga K (Str.ofString x), []⟩ 2 [] F__law_line) := ok__law_line T A__law_line A__law_numbers G__law_numbers
  have G__law_due : FnOk P w K mg base (L2.CX P w) 3 _ fd__law_due ["_law_line_here"] (spM ⟨K, fun x => He.ga K (Str.ofString x), []⟩ 1 [] F__law_due) := ok__law_due T A__law_due A__law_line G__law_line
  have G__law_said : FnOk P w K mg base (L2.CX P w) 7 _ fd__law_said ["_law_line_here", "_law_word"] (spM ⟨K, fun x => He.ga K (Str.ofString x), []⟩ 2 [] F__law_said) := ok__law_said T A__law_said A_read_by G_read_by
  have G_law : FnOk P w K mg base (L2.CX P w) 8 _ fd_law ["_law_script"] (spM ⟨K, fun x => He.ga K (Str.ofString x), []⟩ 1 [] F_law) := ok_law T A_law A__law_source G__law_source A__law_loose G__law_loose A__law_marks G__law_marks A__law_due G__law_due A__law_said G__law_said A__law_touched G__law_touched A__law_row G__law_row
  exact G_law

end K43
open PySem PySem.W PySem.Calls PyProof.Rows
theorem PySem.Challenge.cw_foldletter_k43_texts_by_marks_read_holds : PySem.Challenge.rw_foldletter_k43_texts_by_marks_read.Holds := by
  w_on; o_law
  refine HandSHeadRun.head_any (r := OpenLaw.row PySem.Challenge.rw_foldletter_k43_texts_by_marks_read) (q := view (OpenLaw.row PySem.Challenge.rw_foldletter_k43_texts_by_marks_read).prog [37]) (H := K43.hk) (ob := K43.ob) (M := 6000) (loose := K43.names) (d := HandSHeadRun.topDef (OpenLaw.row PySem.Challenge.rw_foldletter_k43_texts_by_marks_read).prog 37) (kwd := []) K43.ob_eq
    (by kernel_rfl) (fun s => by kernel_rfl) K43.run (by kernel_rfl) (by kernel_rfl) (by kernel_rfl) (by rfl) (by first | assumption | decide +kernel) (by decide +kernel) ⟨rfl, rfl, rfl, rfl, rfl, by decide +kernel⟩ ?hw ?hc
  case hw => w_witness2
  case hc =>
    refine VS.walk_ofEw (l := PySem.Challenge.rw_foldletter_k43_texts_by_marks_read) (n := 63) (k := 8) (x := "_law_script") rfl (by decide) (by kernel_rfl) ⟨rfl, by decide, by decide⟩ ?F
    intro w mg fa h Y G hmg0
    obtain ⟨K, KX, c, cx⟩ := Y
    have hmg : mg ("law" : PySem.Str) = some (.ref fa) := by
      have e : (HandSHeadRun.topDef (OpenLaw.row PySem.Challenge.rw_foldletter_k43_texts_by_marks_read).prog 37).name = ("law" : PySem.Str) := by kernel_rfl
      rw [← e]
      exact hmg0
    obtain ⟨fd, cf, hcf, hb, hF⟩ := K43.facts (P := (PySem.Challenge.rw_foldletter_k43_texts_by_marks_read).prog) (w := w) KX G hmg c cx
    exact ⟨K, fd, cf, K43.F_law, KX, hcf, hb, K43.law_true, hF⟩
