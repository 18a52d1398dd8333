import PyProof.Rows.All
import Wide.All
import OpenK.AllK
import Wide.FinOn
import HandS.ForMost
import HandS.ForExc
import HandS.ExcCtx
import HandS.HotCalls
import HandS.ExcInitHot
import HandS.ExcIs
import HandS.ExcField
import HandS.CallLocal
import HandS.Deep
import HandS.TupLe
import HandS.Conv
import HandS.StrMore
import HandS.Codes
import HandS.Replace
import HandS.Defaults
import HandS.Head2
import HandS.HeadEnd
import HandS.HeadHook2
import HandS.Flow
import HandS.IsInst
import HandS.Zip
import HandS.Style
import HandS.TupAny
import HandS.TupMul
import HandS.RaiseMore
import HandS.EndBits
import HandS.ReplaceLit
import HandS.ReplaceList
import PySem.Challenge.RW_shiftshold_k96_texts_of_papers
set_option Elab.async false
set_option linter.all false
set_option maxRecDepth 100000
set_option maxHeartbeats 4000000
/-! PI1: pure data, how it lies in the abstract heap, and what a step may change. -/
namespace PI
open PySem PySem.Spec PyProof.Rows L2

/-- how a changeable thing is had: owned, never changed again, lent, known to the module or locked -/
inductive Md where
  | own | frz | bor | ro
  deriving DecidableEq

/-- pure data -/
inductive D where
  | non
  | bl (b : Bool)
  | int (i : Int)
  | str (s : Str)
  | fn (f : Str)
  | exc (c : Str) (fs : List (Str × Int))
  | tup (ds : List D)
  | lst (m : Md) (ds : List D)
  | dct (m : Md) (ks vs : List D)
  | ins (m : Md) (c : Str) (ns : List Str) (vs : List D)

mutual
/-- no owned part: may be had twice -/
def copyable : D → Bool
  | .tup ds => copyables ds
  | .lst m ds => (m != .own) && copyables ds
  | .dct m ks vs => (m != .own) && (copyables ks && copyables vs)
  | .ins m _ _ vs => (m != .own) && copyables vs
  | .non => true
  | .bl _ => true
  | .int _ => true
  | .str _ => true
  | .fn _ => true
  | .exc _ _ => true
def copyables : List D → Bool
  | [] => true
  | d :: ds => copyable d && copyables ds
end
mutual
/-- no lent part -/
def clean : D → Bool
  | .tup ds => cleans ds
  | .lst m ds => (m != .bor) && cleans ds
  | .dct m ks vs => (m != .bor) && (cleans ks && cleans vs)
  | .ins m _ _ vs => (m != .bor) && cleans vs
  | .non => true
  | .bl _ => true
  | .int _ => true
  | .str _ => true
  | .fn _ => true
  | .exc _ _ => true
def cleans : List D → Bool
  | [] => true
  | d :: ds => clean d && cleans ds
end
def fzm : Md → Md
  | .own => .frz
  | m => m
def brm : Md → Md
  | .own => .bor
  | m => m
mutual
/-- given up as owned -/
def fz : D → D
  | .tup ds => .tup (fzs ds)
  | .lst m ds => .lst (fzm m) (fzs ds)
  | .dct m ks vs => .dct (fzm m) (fzs ks) (fzs vs)
  | .ins m c ns vs => .ins (fzm m) c ns (fzs vs)
  | .non => .non
  | .bl b => .bl b
  | .int i => .int i
  | .str s => .str s
  | .fn f => .fn f
  | .exc c fs => .exc c fs
def fzs : List D → List D
  | [] => []
  | d :: ds => fz d :: fzs ds
end
mutual
/-- lent -/
def br : D → D
  | .tup ds => .tup (brs ds)
  | .lst m ds => .lst (brm m) (brs ds)
  | .dct m ks vs => .dct (brm m) (brs ks) (brs vs)
  | .ins m c ns vs => .ins (brm m) c ns (brs vs)
  | .non => .non
  | .bl b => .bl b
  | .int i => .int i
  | .str s => .str s
  | .fn f => .fn f
  | .exc c fs => .exc c fs
def brs : List D → List D
  | [] => []
  | d :: ds => br d :: brs ds
end

/-- what the data lean on besides the heap: the written part, the module's names, the exceptions at hand -/
structure RC where
  K : PySem.W.Frag
  mg : Str → Option Value
  Z : Addr → Str → Option Addr → Prop

/-- a list at a, had so -/
def LstAt (C : RC) (H : Hp) (F B : Addr → Prop) : Md → Addr → List V → Prop
  | .own, a, vs => H a = some (.lst vs)
  | .frz, a, vs => H a = some (.lst vs) ∧ F a
  | .bor, a, vs => H a = some (.lst vs) ∧ B a
  | .ro, a, vs => (∃ o, H a = some (.frz o (.lst vs))) ∨ ∀ H' : Hp, SqL C.K H' a vs
/-- a tuple at a -/
def TupAt (C : RC) (H : Hp) (a : Addr) (vs : List V) : Prop := H a = some (.tup vs) ∨ ∀ H' : Hp, SqT C.K H' a vs
def xdOf (fs : List (Str × Int)) : HO := .xd (fs.map fun p => (p.1, V.int p.2))

mutual
/-- the value v is the data d; fp: the owned addresses -/
def Rep (C : RC) (H : Hp) (F B : Addr → Prop) : D → V → List Addr → Prop
  | .non, v, fp => v = .non ∧ fp = []
  | .bl b, v, fp => v = .bl b ∧ fp = []
  | .int i, v, fp => v = .int i ∧ fp = []
  | .str s, v, fp => v = .str s ∧ fp = []
  | .fn f, v, fp => (∃ a, v = .ref a ∧ C.mg f = some (.ref a)) ∧ fp = []
  | .exc c fs, v, fp => (∃ a d, v = .ref a ∧ C.Z a c d ∧ ((fs = [] ∧ d = none) ∨ ∃ dd, d = some dd ∧ H dd = some (xdOf fs))) ∧ fp = []
  | .tup ds, v, fp => ∃ a vs, v = .ref a ∧ TupAt C H a vs ∧ Reps C H F B ds vs fp
  | .lst m ds, v, fp => ∃ a vs fq, v = .ref a ∧ LstAt C H F B m a vs ∧ Reps C H F B ds vs fq ∧ fp = (if m = .own then [a] else []) ++ fq
  | .dct _ _ _, _, _ => False
  | .ins _ _ _ _, _, _ => False
def Reps (C : RC) (H : Hp) (F B : Addr → Prop) : List D → List V → List Addr → Prop
  | [], vs, fp => vs = [] ∧ fp = []
  | d :: ds, vs, fp => ∃ v vr f1 f2, vs = v :: vr ∧ Rep C H F B d v f1 ∧ Reps C H F B ds vr f2 ∧ fp = f1 ++ f2
end

/-- a thing that may change -/
def MtO : HO → Prop
  | .lst _ => True
  | .dK _ => True
  | .dT _ => True
  | .ins _ _ _ => True
  | .own _ => True
  | .ext _ => True
  | _ => False

/-- the addresses in fm alone may have changed -/
structure Chg (H : Hp) (F B : Addr → Prop) (fm : List Addr) (H' : Hp) (F' : Addr → Prop) : Prop where
  ext : ∀ a o, H a = some o → a ∉ fm → H' a = some o
  mt : ∀ a ∈ fm, ∃ o, H a = some o ∧ MtO o
  fF : ∀ a ∈ fm, ¬ F a
  fB : ∀ a ∈ fm, ¬ B a
  fm : ∀ a, F a → F' a

section
variable {C : RC} {H H' : Hp} {F F' B : Addr → Prop} {fm : List Addr}

theorem Chg.keep (c : Chg H F B fm H' F') {a : Addr} {o : HO} (h : H a = some o) (n : ¬ MtO o) : H' a = some o := by
  refine c.ext a o h fun hm => ?_
  obtain ⟨o', e, m⟩ := c.mt a hm
  rw [h] at e
  cases e
  exact n m
theorem Chg.tup (c : Chg H F B fm H' F') {a : Addr} {vs : List V} (h : TupAt C H a vs) : TupAt C H' a vs := by
  rcases h with h | h
  · exact .inl (c.keep h fun z => z)
  · exact .inr h
theorem Chg.lst (c : Chg H F B fm H' F') {m : Md} {a : Addr} {vs : List V} (h : LstAt C H F B m a vs) (hx : m = .own → a ∉ fm) : LstAt C H' F' B m a vs := by
  cases m with
  | own => exact c.ext a _ h (hx rfl)
  | frz => exact ⟨c.ext a _ h.1 fun z => c.fF a z h.2, c.fm a h.2⟩
  | bor => exact ⟨c.ext a _ h.1 fun z => c.fB a z h.2, h.2⟩
  | ro =>
    rcases h with ⟨o, h⟩ | h
    · exact .inl ⟨o, c.keep h fun z => z⟩
    · exact .inr h
mutual
theorem Chg.rep (c : Chg H F B fm H' F') : ∀ (d : D) (v : V) (fx : List Addr), Rep C H F B d v fx → (∀ a ∈ fx, a ∉ fm) → Rep C H' F' B d v fx
  | .non, _, _, h, _ => h
  | .bl _, _, _, h, _ => h
  | .int _, _, _, h, _ => h
  | .str _, _, _, h, _ => h
  | .fn _, _, _, h, _ => h
  | .exc _ _, _, _, h, _ => by
    obtain ⟨⟨a, d, e, z, hf⟩, e2⟩ := h
    exact ⟨⟨a, d, e, z, hf.imp id fun ⟨dd, e3, e4⟩ => ⟨dd, e3, c.keep e4 fun z => z⟩⟩, e2⟩
  | .tup ds, _, fx, h, hx => by
    obtain ⟨a, vs, e, t, r⟩ := h
    exact ⟨a, vs, e, c.tup t, Chg.reps c ds vs fx r hx⟩
  | .lst m ds, _, fx, h, hx => by
    obtain ⟨a, vs, fq, e, t, r, ef⟩ := h
    subst ef
    refine ⟨a, vs, fq, e, c.lst t fun hm => ?_, Chg.reps c ds vs fq r fun b hb => hx b (List.mem_append_right _ hb), rfl⟩
    subst hm
    exact hx a (by simp)
  | .dct _ _ _, _, _, h, _ => h.elim
  | .ins _ _ _ _, _, _, h, _ => h.elim
theorem Chg.reps (c : Chg H F B fm H' F') : ∀ (ds : List D) (vs : List V) (fx : List Addr), Reps C H F B ds vs fx → (∀ a ∈ fx, a ∉ fm) → Reps C H' F' B ds vs fx
  | [], _, _, h, _ => h
  | d :: ds, _, _, h, hx => by
    obtain ⟨v, vr, f1, f2, e, r1, r2, ef⟩ := h
    subst ef
    exact ⟨v, vr, f1, f2, e, Chg.rep c d v f1 r1 fun a ha => hx a (List.mem_append_left _ ha), Chg.reps c ds vr f2 r2 fun a ha => hx a (List.mem_append_right _ ha), rfl⟩
end
mutual
theorem Rep.mt : ∀ (d : D) (v : V) (fx : List Addr), Rep C H F B d v fx → ∀ a ∈ fx, ∃ o, H a = some o ∧ MtO o
  | .non, _, _, h, a, ha => by rw [h.2] at ha; cases ha
  | .bl _, _, _, h, a, ha => by rw [h.2] at ha; cases ha
  | .int _, _, _, h, a, ha => by rw [h.2] at ha; cases ha
  | .str _, _, _, h, a, ha => by rw [h.2] at ha; cases ha
  | .fn _, _, _, h, a, ha => by rw [h.2] at ha; cases ha
  | .exc _ _, _, _, h, a, ha => by rw [h.2] at ha; cases ha
  | .tup ds, _, fx, h, a, ha => by
    obtain ⟨_, vs, e, t, r⟩ := h
    exact Reps.mt ds vs fx r a ha
  | .lst m ds, _, fx, h, a, ha => by
    obtain ⟨b, vs, fq, e, t, r, ef⟩ := h
    subst ef
    rcases List.mem_append.mp ha with ha | ha
    · by_cases hm : m = .own
      · subst hm
        have e2 : a = b := by simpa using ha
        subst e2
        exact ⟨_, t, trivial⟩
      · rw [if_neg hm] at ha
        cases ha
    · exact Reps.mt ds vs fq r a ha
  | .dct _ _ _, _, _, h, _, _ => h.elim
  | .ins _ _ _ _, _, _, h, _, _ => h.elim
theorem Reps.mt : ∀ (ds : List D) (vs : List V) (fx : List Addr), Reps C H F B ds vs fx → ∀ a ∈ fx, ∃ o, H a = some o ∧ MtO o
  | [], _, _, h, a, ha => by rw [h.2] at ha; cases ha
  | d :: ds, _, _, h, a, ha => by
    obtain ⟨v, vr, f1, f2, e, r1, r2, ef⟩ := h
    subst ef
    rcases List.mem_append.mp ha with ha | ha
    · exact Rep.mt d v f1 r1 a ha
    · exact Reps.mt ds vr f2 r2 a ha
end
mutual
/-- what has no owned part owns nothing -/
theorem Rep.copy : ∀ (d : D) (v : V) (fx : List Addr), Rep C H F B d v fx → copyable d = true → fx = []
  | .non, _, _, h, _ => h.2
  | .bl _, _, _, h, _ => h.2
  | .int _, _, _, h, _ => h.2
  | .str _, _, _, h, _ => h.2
  | .fn _, _, _, h, _ => h.2
  | .exc _ _, _, _, h, _ => h.2
  | .tup ds, _, fx, h, hc => by
    obtain ⟨_, vs, e, t, r⟩ := h
    exact Reps.copy ds vs fx r hc
  | .lst m ds, _, fx, h, hc => by
    obtain ⟨b, vs, fq, e, t, r, ef⟩ := h
    obtain ⟨h1, h2⟩ := Bool.and_eq_true_iff.mp (show ((m != .own) && copyables ds) = true from hc)
    have hm : m ≠ .own := by simpa using h1
    rw [if_neg hm] at ef
    rw [ef, Reps.copy ds vs fq r h2] <;> rfl
  | .dct _ _ _, _, _, h, _ => h.elim
  | .ins _ _ _ _, _, _, h, _ => h.elim
theorem Reps.copy : ∀ (ds : List D) (vs : List V) (fx : List Addr), Reps C H F B ds vs fx → copyables ds = true → fx = []
  | [], _, _, h, _ => h.2
  | d :: ds, _, _, h, hc => by
    obtain ⟨v, vr, f1, f2, e, r1, r2, ef⟩ := h
    obtain ⟨h1, h2⟩ := Bool.and_eq_true_iff.mp (show (copyable d && copyables ds) = true from hc)
    rw [ef, Rep.copy d v f1 r1 h1, Reps.copy ds vr f2 r2 h2] <;> rfl
end
mutual
/-- giving up: the owned addresses go over to F -/
theorem Rep.fz {G : Addr → Prop} : ∀ (d : D) (v : V) (fx : List Addr), Rep C H F B d v fx → (∀ a, F a → G a) → (∀ a ∈ fx, G a) → Rep C H G B (fz d) v []
  | .non, _, _, h, _, _ => ⟨h.1, rfl⟩
  | .bl _, _, _, h, _, _ => ⟨h.1, rfl⟩
  | .int _, _, _, h, _, _ => ⟨h.1, rfl⟩
  | .str _, _, _, h, _, _ => ⟨h.1, rfl⟩
  | .fn _, _, _, h, _, _ => ⟨h.1, rfl⟩
  | .exc _ _, _, _, h, _, _ => ⟨h.1, rfl⟩
  | .tup ds, _, fx, h, hF, hx => by
    obtain ⟨a, vs, e, t, r⟩ := h
    exact ⟨a, vs, e, t, Reps.fz ds vs fx r hF hx⟩
  | .lst m ds, _, fx, h, hF, hx => by
    obtain ⟨a, vs, fq, e, t, r, ef⟩ := h
    subst ef
    refine ⟨a, vs, [], e, ?_, Reps.fz ds vs fq r hF fun b hb => hx b (List.mem_append_right _ hb), ?_⟩
    · cases m with
      | own => exact ⟨t, hx a (by simp)⟩
      | frz => exact ⟨t.1, hF a t.2⟩
      | bor => exact t
      | ro => exact t
    · cases m <;> rfl
  | .dct _ _ _, _, _, h, _, _ => h.elim
  | .ins _ _ _ _, _, _, h, _, _ => h.elim
theorem Reps.fz {G : Addr → Prop} : ∀ (ds : List D) (vs : List V) (fx : List Addr), Reps C H F B ds vs fx → (∀ a, F a → G a) → (∀ a ∈ fx, G a) → Reps C H G B (fzs ds) vs []
  | [], _, _, h, _, _ => ⟨h.1, rfl⟩
  | d :: ds, _, _, h, hF, hx => by
    obtain ⟨v, vr, f1, f2, e, r1, r2, ef⟩ := h
    subst ef
    exact ⟨v, vr, [], [], e, Rep.fz d v f1 r1 hF fun a ha => hx a (List.mem_append_left _ ha), Reps.fz ds vr f2 r2 hF fun a ha => hx a (List.mem_append_right _ ha), rfl⟩
end
mutual
/-- lending: the owned addresses are among the new B -/
theorem Rep.br {G : Addr → Prop} : ∀ (d : D) (v : V) (fx : List Addr), Rep C H F B d v fx → (∀ a, B a → G a) → (∀ a ∈ fx, G a) → Rep C H F G (br d) v []
  | .non, _, _, h, _, _ => ⟨h.1, rfl⟩
  | .bl _, _, _, h, _, _ => ⟨h.1, rfl⟩
  | .int _, _, _, h, _, _ => ⟨h.1, rfl⟩
  | .str _, _, _, h, _, _ => ⟨h.1, rfl⟩
  | .fn _, _, _, h, _, _ => ⟨h.1, rfl⟩
  | .exc _ _, _, _, h, _, _ => ⟨h.1, rfl⟩
  | .tup ds, _, fx, h, hF, hx => by
    obtain ⟨a, vs, e, t, r⟩ := h
    exact ⟨a, vs, e, t, Reps.br ds vs fx r hF hx⟩
  | .lst m ds, _, fx, h, hF, hx => by
    obtain ⟨a, vs, fq, e, t, r, ef⟩ := h
    subst ef
    refine ⟨a, vs, [], e, ?_, Reps.br ds vs fq r hF fun b hb => hx b (List.mem_append_right _ hb), ?_⟩
    · cases m with
      | own => exact ⟨t, hx a (by simp)⟩
      | frz => exact t
      | bor => exact ⟨t.1, hF a t.2⟩
      | ro => exact t
    · cases m <;> rfl
  | .dct _ _ _, _, _, h, _, _ => h.elim
  | .ins _ _ _ _, _, _, h, _, _ => h.elim
theorem Reps.br {G : Addr → Prop} : ∀ (ds : List D) (vs : List V) (fx : List Addr), Reps C H F B ds vs fx → (∀ a, B a → G a) → (∀ a ∈ fx, G a) → Reps C H F G (brs ds) vs []
  | [], _, _, h, _, _ => ⟨h.1, rfl⟩
  | d :: ds, _, _, h, hF, hx => by
    obtain ⟨v, vr, f1, f2, e, r1, r2, ef⟩ := h
    subst ef
    exact ⟨v, vr, [], [], e, Rep.br d v f1 r1 hF fun a ha => hx a (List.mem_append_left _ ha), Reps.br ds vr f2 r2 hF fun a ha => hx a (List.mem_append_right _ ha), rfl⟩
end
mutual
/-- what has no lent part needs no B -/
theorem Rep.clean {G : Addr → Prop} : ∀ (d : D) (v : V) (fx : List Addr), Rep C H F B d v fx → clean d = true → Rep C H F G d v fx
  | .non, _, _, h, _ => h
  | .bl _, _, _, h, _ => h
  | .int _, _, _, h, _ => h
  | .str _, _, _, h, _ => h
  | .fn _, _, _, h, _ => h
  | .exc _ _, _, _, h, _ => h
  | .tup ds, _, fx, h, hc => by
    obtain ⟨a, vs, e, t, r⟩ := h
    exact ⟨a, vs, e, t, Reps.clean ds vs fx r hc⟩
  | .lst m ds, _, _, h, hc => by
    obtain ⟨a, vs, fq, e, t, r, ef⟩ := h
    obtain ⟨h1, h2⟩ := Bool.and_eq_true_iff.mp (show ((m != .bor) && cleans ds) = true from hc)
    refine ⟨a, vs, fq, e, ?_, Reps.clean ds vs fq r h2, ef⟩
    cases m with
    | own => exact t
    | frz => exact t
    | bor => cases h1
    | ro => exact t
  | .dct _ _ _, _, _, h, _ => h.elim
  | .ins _ _ _ _, _, _, h, _ => h.elim
theorem Reps.clean {G : Addr → Prop} : ∀ (ds : List D) (vs : List V) (fx : List Addr), Reps C H F B ds vs fx → cleans ds = true → Reps C H F G ds vs fx
  | [], _, _, h, _ => h
  | d :: ds, _, _, h, hc => by
    obtain ⟨v, vr, f1, f2, e, r1, r2, ef⟩ := h
    obtain ⟨h1, h2⟩ := Bool.and_eq_true_iff.mp (show (PI.clean d && cleans ds) = true from hc)
    exact ⟨v, vr, f1, f2, e, Rep.clean d v f1 r1 h1, Reps.clean ds vr f2 r2 h2, ef⟩
end

theorem Reps.length : ∀ {ds : List D} {vs : List V} {fx : List Addr}, Reps C H F B ds vs fx → ds.length = vs.length
  | [], _, _, h => by rw [h.1] <;> rfl
  | d :: ds, _, _, h => by
    obtain ⟨v, vr, f1, f2, e, r1, r2, ef⟩ := h
    rw [e, List.length_cons, List.length_cons, Reps.length r2]
/-- the item at a place -/
theorem Reps.get : ∀ {ds : List D} {vs : List V} {fx : List Addr} {i : Nat} {d : D}, Reps C H F B ds vs fx → ds[i]? = some d → ∃ v f, vs[i]? = some v ∧ Rep C H F B d v f ∧ ∀ a ∈ f, a ∈ fx
  | [], _, _, _, _, _, e => by simp at e
  | d :: ds, _, _, 0, _, h, e => by
    obtain ⟨v, vr, f1, f2, ev, r1, r2, ef⟩ := h
    have e2 := Option.some.inj e
    subst e2 ev ef
    exact ⟨v, f1, rfl, r1, fun a ha => List.mem_append_left _ ha⟩
  | d :: ds, _, _, i + 1, _, h, e => by
    obtain ⟨v, vr, f1, f2, ev, r1, r2, ef⟩ := h
    subst ev ef
    obtain ⟨w, f, h1, h2, h3⟩ := Reps.get r2 (show ds[i]? = some _ from e)
    exact ⟨w, f, h1, h2, fun a ha => List.mem_append_right _ (h3 a ha)⟩
theorem Reps.append : ∀ {ds es : List D} {vs ws : List V} {f g : List Addr}, Reps C H F B ds vs f → Reps C H F B es ws g → Reps C H F B (ds ++ es) (vs ++ ws) (f ++ g)
  | [], _, _, _, _, _, h, k => by
    obtain ⟨rfl, rfl⟩ := h
    exact k
  | d :: ds, es, _, ws, _, g, h, k => by
    obtain ⟨v, vr, f1, f2, ev, r1, r2, ef⟩ := h
    subst ev ef
    exact ⟨v, vr ++ ws, f1, f2 ++ g, rfl, r1, Reps.append r2 k, by rw [List.append_assoc]⟩
theorem Reps.one {d : D} {v : V} {f : List Addr} (h : Rep C H F B d v f) : Reps C H F B [d] [v] f := ⟨v, [], f, [], rfl, h, ⟨rfl, rfl⟩, by rw [List.append_nil]⟩
/-- cut anywhere -/
theorem Reps.split : ∀ {ds es : List D} {us : List V} {f : List Addr}, Reps C H F B (ds ++ es) us f → ∃ vs ws g k, us = vs ++ ws ∧ Reps C H F B ds vs g ∧ Reps C H F B es ws k ∧ f = g ++ k
  | [], es, us, f, h => ⟨[], us, [], f, rfl, ⟨rfl, rfl⟩, h, rfl⟩
  | d :: ds, es, _, _, h => by
    obtain ⟨v, vr, f1, f2, ev, r1, r2, ef⟩ := h
    subst ev ef
    obtain ⟨vs, ws, g, k, e, h1, h2, e2⟩ := Reps.split (ds := ds) r2
    subst e e2
    exact ⟨v :: vs, ws, f1 ++ g, k, rfl, ⟨v, vs, f1, g, rfl, r1, h1, rfl⟩, h2, by rw [List.append_assoc]⟩
end
end PI
set_option maxRecDepth 100000
set_option maxHeartbeats 4000000
/-! PI2: the slots of a def, steps, what is wanted of a piece of code. -/
namespace PI
open PySem PySem.Spec PyProof.Rows L2

abbrev Rho := List (Option D)

/-- the slots' data -/
def Slots (C : RC) (H : Hp) (F B : Addr → Prop) : Rho → L2.St → List Addr → Prop
  | [], _, fp => fp = []
  | none :: r, s, fp => Slots C H F B r s.tail fp
  | some d :: r, s, fp => ∃ v sr f1 f2, s = some v :: sr ∧ Rep C H F B d v f1 ∧ Slots C H F B r sr f2 ∧ fp = f1 ++ f2

section
variable {C : RC} {H H' : Hp} {F F' B : Addr → Prop} {fm : List Addr}

theorem Slots.get : ∀ {r : Rho} {s : L2.St} {fp : List Addr} {i : Nat} {d : D}, Slots C H F B r s fp → r[i]? = some (some d) → ∃ v f, s[i]? = some (some v) ∧ Rep C H F B d v f ∧ ∀ a ∈ f, a ∈ fp
  | [], _, _, _, _, _, e => by simp at e
  | none :: r, s, _, 0, _, _, e => by simp at e
  | none :: r, s, _, i + 1, _, h, e => by
    obtain ⟨v, f, h1, h2, h3⟩ := Slots.get (r := r) h (by simpa using e)
    refine ⟨v, f, ?_, h2, h3⟩
    cases s with
    | nil => simp at h1
    | cons x s => simpa using h1
  | some d :: r, _, _, 0, _, h, e => by
    obtain ⟨v, sr, f1, f2, es, r1, r2, ef⟩ := h
    have e2 := Option.some.inj (Option.some.inj (show some (some d) = _ from e))
    subst es ef e2
    exact ⟨v, f1, rfl, r1, fun a ha => List.mem_append_left _ ha⟩
  | some d :: r, _, _, i + 1, _, h, e => by
    obtain ⟨v, sr, f1, f2, es, r1, r2, ef⟩ := h
    subst es ef
    obtain ⟨w, f, h1, h2, h3⟩ := Slots.get (r := r) r2 (by simpa using e)
    exact ⟨w, f, by simpa using h1, h2, fun a ha => List.mem_append_right _ (h3 a ha)⟩
/-- a slot emptied -/
theorem Slots.off : ∀ {r : Rho} {s : L2.St} {fp : List Addr} (i : Nat), Slots C H F B r s fp → ∃ g, Slots C H F B (r.set i none) s g ∧ g.Sublist fp ∧
    ∀ d, r[i]? = some (some d) → ∃ v f, s[i]? = some (some v) ∧ Rep C H F B d v f ∧ fp.Perm (f ++ g)
  | [], _, _, i, h => ⟨_, by simpa using h, List.Sublist.refl _, fun d e => by simp at e⟩
  | none :: r, s, fp, 0, h => ⟨fp, h, List.Sublist.refl _, fun d e => by simp at e⟩
  | none :: r, s, fp, i + 1, h => by
    obtain ⟨g, h1, h2, h3⟩ := Slots.off i (show Slots C H F B r s.tail fp from h)
    refine ⟨g, h1, h2, fun d e => ?_⟩
    obtain ⟨v, f, e1, e2, e3⟩ := h3 d (by simpa using e)
    refine ⟨v, f, ?_, e2, e3⟩
    cases s with
    | nil => simp at e1
    | cons x s => simpa using e1
  | some d :: r, _, _, 0, h => by
    obtain ⟨v, sr, f1, f2, es, r1, r2, ef⟩ := h
    subst es ef
    refine ⟨f2, r2, List.sublist_append_right _ _, fun d' e => ?_⟩
    have e2 : d = d' := by simpa using e
    subst e2
    exact ⟨v, f1, rfl, r1, List.Perm.refl _⟩
  | some d :: r, _, _, i + 1, h => by
    obtain ⟨v, sr, f1, f2, es, r1, r2, ef⟩ := h
    subst es ef
    obtain ⟨g, h1, h2, h3⟩ := Slots.off i r2
    refine ⟨f1 ++ g, ⟨v, sr, f1, g, rfl, r1, h1, rfl⟩, List.Sublist.append (List.Sublist.refl _) h2, fun d' e => ?_⟩
    obtain ⟨w, f, e1, e2, e3⟩ := h3 d' (by simpa using e)
    refine ⟨w, f, by simpa using e1, e2, ?_⟩
    have p1 : (f1 ++ f2).Perm (f1 ++ (f ++ g)) := e3.append_left f1
    refine p1.trans ?_
    rw [← List.append_assoc, ← List.append_assoc]
    exact List.perm_append_comm.append_right g
/-- an empty slot filled -/
theorem Slots.put : ∀ {r : Rho} {s : L2.St} {fp : List Addr} {i : Nat} {d : D} {v : V} {f : List Addr}, Slots C H F B (r.set i none) s fp → i < r.length → i < s.length → Rep C H F B d v f →
    ∃ g, Slots C H F B (r.set i (some d)) (s.set i (some v)) g ∧ g.Perm (f ++ fp)
  | [], _, _, _, _, _, _, _, h, _, _ => absurd h (by simp)
  | _ :: r, [], _, _, _, _, _, _, _, h, _ => absurd h (by simp)
  | _ :: r, x :: s, fp, 0, d, v, f, h, _, _, hr => ⟨f ++ fp, ⟨v, s, f, fp, rfl, hr, h, rfl⟩, List.Perm.refl _⟩
  | none :: r, x :: s, fp, i + 1, d, v, f, h, h1, h2, hr => by
    obtain ⟨g, k1, k2⟩ := Slots.put (r := r) (s := s) (i := i) h (by simpa using h1) (by simpa using h2) hr
    exact ⟨g, k1, k2⟩
  | some d0 :: r, x :: s, fp, i + 1, d, v, f, h, h1, h2, hr => by
    obtain ⟨w, sr, f1, f2, es, r1, r2, ef⟩ := h
    cases es
    subst ef
    obtain ⟨g, k1, k2⟩ := Slots.put (r := r) (s := s) (i := i) r2 (by simpa using h1) (by simpa using h2) hr
    refine ⟨f1 ++ g, ⟨w, s.set i (some v), f1, g, rfl, r1, k1, rfl⟩, ?_⟩
    refine (k2.append_left f1).trans ?_
    rw [← List.append_assoc, ← List.append_assoc]
    exact List.perm_append_comm.append_right f2
/-- an empty slot may hold anything -/
theorem Slots.any : ∀ {r : Rho} {s : L2.St} {fp : List Addr} {i : Nat} {x : Option V}, Slots C H F B r s fp → (r[i]? = some none ∨ r.length ≤ i) → Slots C H F B r (s.set i x) fp
  | [], _, _, _, _, h, _ => h
  | none :: r, [], _, _, _, h, _ => by simpa using h
  | none :: r, y :: s, _, 0, _, h, _ => h
  | none :: r, y :: s, _, i + 1, _, h, e => Slots.any (r := r) (s := s) (i := i) h (by simpa using e)
  | some d :: r, _, _, 0, _, h, e => by simp at e
  | some d :: r, _, _, i + 1, _, h, e => by
    obtain ⟨v, sr, f1, f2, es, r1, r2, ef⟩ := h
    subst es ef
    exact ⟨v, sr.set i _, f1, f2, rfl, r1, Slots.any (r := r) r2 (by simpa using e), rfl⟩
theorem Slots.chg (c : Chg H F B fm H' F') : ∀ {r : Rho} {s : L2.St} {fp : List Addr}, Slots C H F B r s fp → (∀ a ∈ fp, a ∉ fm) → Slots C H' F' B r s fp
  | [], _, _, h, _ => h
  | none :: r, s, _, h, hx => Slots.chg c (r := r) h hx
  | some d :: r, _, _, h, hx => by
    obtain ⟨v, sr, f1, f2, es, r1, r2, ef⟩ := h
    subst es ef
    exact ⟨v, sr, f1, f2, rfl, c.rep d v f1 r1 fun a ha => hx a (List.mem_append_left _ ha), Slots.chg c (r := r) r2 fun a ha => hx a (List.mem_append_right _ ha), rfl⟩
theorem Slots.mt : ∀ {r : Rho} {s : L2.St} {fp : List Addr}, Slots C H F B r s fp → ∀ a ∈ fp, ∃ o, H a = some o ∧ MtO o
  | [], _, _, h, a, ha => by
    rw [show _ = [] from h] at ha
    cases ha
  | none :: r, s, _, h, a, ha => Slots.mt (r := r) h a ha
  | some d :: r, _, _, h, a, ha => by
    obtain ⟨v, sr, f1, f2, es, r1, r2, ef⟩ := h
    subst ef
    rcases List.mem_append.mp ha with ha | ha
    · exact Rep.mt d v f1 r1 a ha
    · exact Slots.mt (r := r) r2 a ha
end

/-- where a def stands: its slots' data, what is owned, what is given up, what is lent -/
structure Sd (C : RC) (B : Addr → Prop) (H : Hp) (F : Addr → Prop) (r : Rho) (s : L2.St) (fp : List Addr) : Prop where
  sl : Slots C H F B r s fp
  nd : fp.Nodup
  fF : ∀ a ∈ fp, ¬ F a
  fB : ∀ a ∈ fp, ¬ B a
  fd : ∀ a, F a → H a ≠ none
  bd : ∀ a, B a → H a ≠ none
  len : r.length = s.length

/-- a step; pu: nothing that stood was changed -/
structure Stp (pu : Bool) (H : Hp) (F : Addr → Prop) (fp : List Addr) (H' : Hp) (F' : Addr → Prop) (fp' : List Addr) : Prop where
  ext : ∀ a o, H a = some o → (pu = true ∨ a ∉ fp) → H' a = some o
  new : ∀ a ∈ fp', a ∈ fp ∨ H a = none
  fm : ∀ a, F a → F' a
  fn : ∀ a, F' a → F a ∨ a ∈ fp ∨ H a = none

section
variable {C : RC} {B : Addr → Prop} {H H1 H2 : Hp} {F F1 F2 : Addr → Prop} {fp f1 f2 g : List Addr} {r : Rho} {s : L2.St} {pu pv : Bool}

theorem Stp.refl : Stp true H F fp H F fp := ⟨fun _ _ h _ => h, fun _ h => .inl h, fun _ h => h, fun _ h => .inl h⟩
theorem Stp.weak (a : Stp pu H F fp H1 F1 f1) (h : pv = true → pu = true) : Stp pv H F fp H1 F1 f1 := ⟨fun b o e k => a.ext b o e (k.imp h fun z => z), a.new, a.fm, a.fn⟩
theorem Stp.less (a : Stp pu H F fp H1 F1 f1) (h : ∀ x ∈ g, x ∈ f1) : Stp pu H F fp H1 F1 g := ⟨a.ext, fun b hb => a.new b (h b hb), a.fm, a.fn⟩
/-- what is free behind a step was free or owned -/
theorem Stp.back (a : Stp pu H F fp H1 F1 f1) {x : Addr} (h : H1 x = none) : x ∈ fp ∨ H x = none := by
  by_cases hx : x ∈ fp
  · exact .inl hx
  · cases e : H x with
    | none => exact .inr rfl
    | some o =>
      rw [a.ext x o e (.inr hx)] at h
      cases h
theorem Stp.trans (a : Stp pu H F fp H1 F1 f1) (hg : ∀ x ∈ g, x ∈ f1) (b : Stp pv H1 F1 g H2 F2 f2) : Stp (pu && pv) H F fp H2 F2 f2 := by
  refine ⟨fun x o e k => ?_, fun x hx => ?_, fun x h => b.fm x (a.fm x h), fun x h => ?_⟩
  · rcases k with k | k
    · obtain ⟨k1, k2⟩ := Bool.and_eq_true_iff.mp k
      exact b.ext x o (a.ext x o e (.inl k1)) (.inl k2)
    · refine b.ext x o (a.ext x o e (.inr k)) (.inr fun hx => ?_)
      rcases a.new x (hg x hx) with z | z
      · exact k z
      · rw [e] at z
        cases z
  · rcases b.new x hx with z | z
    · exact a.new x (hg x z)
    · exact a.back z
  · rcases b.fn x h with z | z | z
    · exact a.fn x z
    · exact .inr (a.new x (hg x z))
    · exact .inr (a.back z)
theorem Sd.chg (S : Sd C B H F r s fp) (a : Stp pu H F fp H1 F1 f1) : Chg H F B (if pu = true then [] else fp) H1 F1 := by
  cases pu with
  | true => exact ⟨fun x o e _ => a.ext x o e (.inl rfl), fun x hx => absurd hx (by simp), fun x hx => absurd hx (by simp), fun x hx => absurd hx (by simp), a.fm⟩
  | false => exact ⟨fun x o e k => a.ext x o e (.inr k), fun x hx => S.sl.mt x hx, fun x hx => S.fF x hx, fun x hx => S.fB x hx, a.fm⟩
/-- a value at hand is carried over a step -/
theorem Sd.carry (S : Sd C B H F r s fp) (a : Stp pu H F fp H1 F1 f1) {d : D} {v : V} {fx : List Addr} (h : Rep C H F B d v fx) (hd : pu = true ∨ ∀ x ∈ fx, x ∉ fp) : Rep C H1 F1 B d v fx := by
  refine (S.chg a).rep d v fx h fun x hx => ?_
  cases pu with
  | true => simp
  | false =>
    rcases hd with hd | hd
    · cases hd
    · exact hd x hx
theorem Sd.carrys (S : Sd C B H F r s fp) (a : Stp pu H F fp H1 F1 f1) {d : List D} {v : List V} {fx : List Addr} (h : Reps C H F B d v fx) (hd : pu = true ∨ ∀ x ∈ fx, x ∉ fp) : Reps C H1 F1 B d v fx := by
  refine (S.chg a).reps d v fx h fun x hx => ?_
  cases pu with
  | true => simp
  | false =>
    rcases hd with hd | hd
    · cases hd
    · exact hd x hx
/-- a new thing is laid -/
theorem Stp.new1 {p : Addr} {o : HO} (h : H p = none) : Stp true H F fp (upd H p o) F (p :: fp) := by
  refine ⟨fun a u e _ => ?_, fun a ha => ?_, fun _ h => h, fun _ h => .inl h⟩
  · rw [upd_ne (ne_of_none e h)]
    exact e
  · rcases List.mem_cons.mp ha with rfl | ha
    · exact .inr h
    · exact .inl ha
theorem Sd.pure (S : Sd C B H F r s fp) (a : Stp true H F fp H1 F1 f1) (hF : ∀ x ∈ fp, ¬ F1 x) (hd : ∀ x, F1 x → H1 x ≠ none) : Sd C B H1 F1 r s fp := by
  refine ⟨Slots.chg (S.chg a) S.sl fun x hx => by simp, S.nd, hF, S.fB, hd, fun x hx e => ?_, S.len⟩
  cases q : H x with
  | none => exact S.bd x hx q
  | some o =>
    rw [a.ext x o q (.inl rfl)] at e
    cases e
theorem Sd.fresh (S : Sd C B H F r s fp) {p : Addr} (h : H p = none) : p ∉ fp ∧ ¬ F p ∧ ¬ B p := by
  refine ⟨fun hp => ?_, fun hp => S.fd p hp h, fun hp => S.bd p hp h⟩
  obtain ⟨o, e, _⟩ := S.sl.mt p hp
  rw [h] at e
  cases e
theorem Sd.laid (S : Sd C B H F r s fp) {p : Addr} {o : HO} (h : H p = none) : Sd C B (upd H p o) F r s fp :=
  S.pure (f1 := fp) ((Stp.new1 h).less fun x hx => List.mem_cons_of_mem _ hx) S.fF fun x hx e => by
    by_cases hp : x = p
    · subst hp
      rw [upd_same] at e
      cases e
    · rw [upd_ne hp] at e
      exact S.fd x hx e
end

/-! ### results, and what is wanted -/
inductive R (α : Type) where
  | ok (a : α) (r : Rho)
  | exc (c : Str) (fs : List (Str × Int)) (r : Rho)
  | bad
def R.bind {α β : Type} (x : R α) (k : α → Rho → R β) : R β := match x with
  | .ok a r => k a r
  | .exc c fs r => .exc c fs r
  | .bad => .bad
def ofO {α : Type} (o : Option α) (r : Rho) : R α := match o with
  | some a => .ok a r
  | none => .bad

/-- an exception of the class named c, with these fields -/
def ExcAt (C : RC) (H : Hp) (c : Str) (fs : List (Str × Int)) (cls : Value) (d : Option Addr) : Prop :=
  (∃ a, C.mg c = some (.ref a) ∧ cls = .ref a) ∧ ((fs = [] ∧ d = none) ∨ ∃ dd, d = some dd ∧ H dd = some (xdOf fs))

/-- values at hand: apart from the slots' owned addresses, neither given up nor lent -/
structure Fly (F B : Addr → Prop) (fp fx : List Addr) : Prop where
  nd : (fp ++ fx).Nodup
  nF : ∀ a ∈ fx, ¬ F a
  nB : ∀ a ∈ fx, ¬ B a
theorem Fly.nil {F B : Addr → Prop} {fp : List Addr} (h : fp.Nodup) : Fly F B fp [] := ⟨by rw [List.append_nil]; exact h, fun _ z => absurd z (by simp), fun _ z => absurd z (by simp)⟩

/-- how a result lies: pure data against a value -/
abbrev Rp (α β : Type) := Hp → (Addr → Prop) → α → β → List Addr → Prop
/-- wanted of the rest of an evaluation, from H, F, the owned addresses gp on; iv: the value owns its parts apart from the slots -/
def Goal {α β : Type} (C : RC) (B : Addr → Prop) (W : WX) (P : Rp α β) (pu iv : Bool) (s : L2.St) (Q : β → Hp → Prop) (H : Hp) (F : Addr → Prop) (gp : List Addr) : R α → Prop
  | .ok d r => ∀ v H' F' fp' fq, Sd C B H' F' r s fp' → P H' F' d v fq → (iv = true → Fly F' B fp' fq) → Stp pu H F gp H' F' (fp' ++ fq) → Q v H'
  | .exc c fs r => ∀ cls d H' F' fp', Sd C B H' F' r s fp' → ExcAt C H' c fs cls d → Stp pu H F gp H' F' fp' → W cls d s H'
  | .bad => False
/-- the reading of a piece of code whose meaning is ev -/
def tX {α β : Type} (C : RC) (B : Addr → Prop) (W : WX) (P : Rp α β) (pu iv : Bool) (ev : Rho → R α) : L2.St → Hp → (β → Hp → Prop) → Prop :=
  fun s H Q => ∃ r F fp gp, Sd C B H F r s fp ∧ (∀ a ∈ fp, a ∈ gp) ∧ Goal C B W P pu iv s Q H F gp (ev r)

section
variable {α β γ δ : Type} {C : RC} {B : Addr → Prop} {W : WX} {P : Rp α β} {P' : Rp γ δ} {pu pv iv jv : Bool} {s : L2.St} {Q : β → Hp → Prop} {H H1 : Hp} {F F1 : Addr → Prop} {fp f1 gp g : List Addr} {x : R α} {r r1 : Rho}

theorem Goal.base (h : Goal C B W P (pu && pv) iv s Q H F gp x) (a : Stp pu H F gp H1 F1 f1) (hg : ∀ y ∈ g, y ∈ f1) : Goal C B W P pv iv s Q H1 F1 g x := by
  cases x with
  | ok d r => exact fun v H' F' fp' fq S R I b => h v H' F' fp' fq S R I (a.trans hg b)
  | exc c fs r => exact fun cls d H' F' fp' S e b => h cls d H' F' fp' S e (a.trans hg b)
  | bad => exact h
theorem Goal.weak (h : Goal C B W P pu iv s Q H F gp x) (hp : pu = true → pv = true) (hi : iv = true → jv = true) : Goal C B W P pv jv s Q H F gp x := by
  cases x with
  | ok d r => exact fun v H' F' fp' fq S R I b => h v H' F' fp' fq S R (fun z => I (hi z)) (b.weak hp)
  | exc c fs r => exact fun cls d H' F' fp' S e b => h cls d H' F' fp' S e (b.weak hp)
  | bad => exact h
/-- what is known behind a part -/
structure At (C : RC) (B : Addr → Prop) (P : Rp α β) (pu iv : Bool) (H : Hp) (F : Addr → Prop) (fp : List Addr) (s : L2.St) (H1 : Hp) (F1 : Addr → Prop) (r1 : Rho) (f1 fq : List Addr) (d : α) (v : β) : Prop where
  sd : Sd C B H1 F1 r1 s f1
  rep : P H1 F1 d v fq
  iv : iv = true → Fly F1 B f1 fq
  stp : Stp pu H F fp H1 F1 (f1 ++ fq)
theorem Stp.more (a : Stp pu H F fp H1 F1 f1) (h : ∀ x ∈ fp, x ∈ gp) : Stp pu H F gp H1 F1 (f1 ++ gp) := by
  refine ⟨fun x o e k => a.ext x o e (k.imp id fun z y => z (h x y)), fun x hx => ?_, a.fm, fun x hx => ?_⟩
  · rcases List.mem_append.mp hx with hx | hx
    · exact (a.new x hx).imp (h x) id
    · exact .inl hx
  · rcases a.fn x hx with z | z | z
    · exact .inl z
    · exact .inr (.inl (h x z))
    · exact .inr (.inr z)
/-- the whole of the slots -/
theorem Stp.wide (a : Stp pu H F fp H1 F1 f1) (h : ∀ x ∈ fp, x ∈ gp) : Stp pu H F gp H1 F1 f1 := (a.more h).less fun x hx => List.mem_append_left _ hx
/-- one part after the other -/
theorem tX_bind {ev : Rho → R γ} {k : γ → Rho → R α} {Q1 : δ → Hp → Prop} (S : Sd C B H F r s fp) (hs : ∀ a ∈ fp, a ∈ gp) (h : Goal C B W P (pu && pv) jv s Q H F gp ((ev r).bind k))
    (hk : ∀ d r1 v H1 F1 f1 fq, ev r = .ok d r1 → At C B P' pu iv H F fp s H1 F1 r1 f1 fq d v → Goal C B W P pv jv s Q H1 F1 (f1 ++ fq ++ gp) (k d r1) → Q1 v H1) : tX C B W P' pu iv ev s H Q1 := by
  refine ⟨r, F, fp, fp, S, fun _ z => z, ?_⟩
  cases e : ev r with
  | ok d r1 =>
    rw [e] at h
    intro v H1 F1 f1 fq S1 R1 I1 b
    exact hk d r1 v H1 F1 f1 fq e ⟨S1, R1, I1, b⟩ (Goal.base (show Goal C B W P (pu && pv) jv s Q H F gp (k d r1) from h) (b.more hs) fun _ z => z)
  | exc c fs r1 =>
    rw [e] at h
    intro cls d H1 F1 f1 S1 e1 b
    exact h cls d H1 F1 f1 S1 e1 ((b.wide hs).weak fun z => (Bool.and_eq_true_iff.mp z).1)
  | bad =>
    rw [e] at h
    exact h
/-- the same where the rest asks for no less of changes -/
theorem tX_map {ev : Rho → R γ} {k : γ → Rho → R α} {Q1 : δ → Hp → Prop} (S : Sd C B H F r s fp) (hs : ∀ a ∈ fp, a ∈ gp) (h : Goal C B W P pu jv s Q H F gp ((ev r).bind k))
    (hk : ∀ d r1 v H1 F1 f1 fq, ev r = .ok d r1 → At C B P' pu iv H F fp s H1 F1 r1 f1 fq d v → Goal C B W P true jv s Q H1 F1 (f1 ++ fq ++ gp) (k d r1) → Q1 v H1) : tX C B W P' pu iv ev s H Q1 :=
  tX_bind (pv := true) S hs (by rw [Bool.and_true]; exact h) hk
/-- the end, over the heap as it stands -/
theorem Goal.fin {d : α} {v : β} {fq : List Addr} (h : Goal C B W P pu iv s Q H F gp (.ok d r)) (S : Sd C B H F r s fp) (hs : ∀ a ∈ fp, a ∈ gp) (hr : P H F d v fq) (hi : iv = true → Fly F B fp fq) (hq : ∀ a ∈ fq, a ∈ gp) : Q v H :=
  h v H F fp fq S hr hi (((Stp.refl (fp := gp)).weak fun _ => rfl).less fun x hx => (List.mem_append.mp hx).elim (hs x) (hq x))
theorem Goal.fin0 {d : α} {v : β} (h : Goal C B W P pu iv s Q H F gp (.ok d r)) (S : Sd C B H F r s fp) (hs : ∀ a ∈ fp, a ∈ gp) (hr : P H F d v []) : Q v H :=
  h.fin S hs hr (fun _ => Fly.nil S.nd) fun _ z => absurd z (by simp)
/-- the end, a new thing laid -/
theorem Goal.laid {d : α} {v : β} {fq : List Addr} {p : Addr} {o : HO} (h : Goal C B W P pu iv s Q H F gp (.ok d r)) (S : Sd C B H F r s fp) (hs : ∀ a ∈ fp, a ∈ gp) (hp : H p = none) (hr : P (upd H p o) F d v fq) (hi : iv = true → Fly F B fp fq) (hq : ∀ a ∈ fq, a = p ∨ a ∈ gp) : Q v (upd H p o) :=
  h v (upd H p o) F fp fq (S.laid hp) hr hi (((Stp.new1 (fp := gp) hp).weak fun _ => rfl).less fun x hx => by
    rcases List.mem_append.mp hx with hx | hx
    · exact List.mem_cons_of_mem _ (hs x hx)
    · rcases hq x hx with e | e
      · rw [e]
        exact List.mem_cons_self
      · exact List.mem_cons_of_mem _ e)
/-- values at hand stay apart over a step -/
theorem Fly.carry {fx fq : List Addr} (S : Sd C B H F r s fp) (a : Stp pu H F fp H1 F1 (f1 ++ fq)) (h : Fly F B fp fx) (hx : ∀ x ∈ fx, H x ≠ none) (k : Fly F1 B f1 fq) : Fly F1 B f1 (fx ++ fq) := by
  have apart : ∀ x ∈ fx, x ∉ fp := fun x hm hp => by
    have e := List.nodup_append.mp h.nd
    exact e.2.2 x hp x hm rfl
  have out : ∀ x ∈ fx, x ∉ f1 ++ fq := fun x hm hn => (a.new x hn).elim (apart x hm) (hx x hm)
  have nq := List.nodup_append.mp k.nd
  have nx := (List.nodup_append.mp h.nd).2.1
  refine ⟨List.nodup_append.mpr ⟨nq.1, List.nodup_append.mpr ⟨nx, nq.2.1, fun x hx1 y hy e => ?_⟩, fun x hx1 y hy e => ?_⟩, fun x hm hF => ?_, fun x hm hB => ?_⟩
  · subst e
    exact out x hx1 (List.mem_append_right _ hy)
  · subst e
    rcases List.mem_append.mp hy with hy | hy
    · exact out x hy (List.mem_append_left _ hx1)
    · exact nq.2.2 x hx1 x hy rfl
  · rcases List.mem_append.mp hm with hm | hm
    · rcases a.fn x hF with z | z | z
      · exact h.nF x hm z
      · exact apart x hm z
      · exact hx x hm z
    · exact k.nF x hm hF
  · rcases List.mem_append.mp hm with hm | hm
    · exact h.nB x hm hB
    · exact k.nB x hm hB
theorem Fly.apart {fx : List Addr} (h : Fly F B fp fx) : ∀ x ∈ fx, x ∉ fp := fun x hm hp => (List.nodup_append.mp h.nd).2.2 x hp x hm rfl
theorem Fly.sub {fx fy : List Addr} (h : Fly F B fp fx) (k : fy.Sublist fx) : Fly F B fp fy :=
  ⟨h.nd.sublist (List.Sublist.append (List.Sublist.refl _) k), fun a ha => h.nF a (k.subset ha), fun a ha => h.nB a (k.subset ha)⟩
end
theorem Rep.there {C : RC} {H : Hp} {F B : Addr → Prop} {d : D} {v : V} {fx : List Addr} (h : Rep C H F B d v fx) : ∀ x ∈ fx, H x ≠ none := fun x hx e => by
  obtain ⟨o, q, _⟩ := Rep.mt d v fx h x hx
  rw [e] at q
  cases q
theorem Reps.there {C : RC} {H : Hp} {F B : Addr → Prop} {d : List D} {v : List V} {fx : List Addr} (h : Reps C H F B d v fx) : ∀ x ∈ fx, H x ≠ none := fun x hx e => by
  obtain ⟨o, q, _⟩ := Reps.mt d v fx h x hx
  rw [e] at q
  cases q
end PI
set_option maxRecDepth 100000
set_option maxHeartbeats 4000000
/-! PI3: the code of a def in short, and its meaning on pure data. -/
namespace PI
open PySem PySem.Spec PyProof.Rows L2

inductive Bop where
  | add | sub | mul | fdiv | mod | pow
  deriving DecidableEq
inductive Cop where
  | eq | ne | lt | le | gt | ge | isin | notin | isn | notn
  deriving DecidableEq
/-- built-ins of one argument -/
inductive Bi where
  | len | int | str | tuple | list | abs | sum | any | all
  deriving DecidableEq
/-- built-ins of two arguments -/
inductive Bj where
  | max | min
  deriving DecidableEq
/-- methods of texts that give a text, a list, a number -/
inductive Me where
  | split | join | startswith | index
  deriving DecidableEq
/-- what isinstance asks -/
inductive Ty where
  | int | bool | str | tup | exc (c : Str) | verr
  deriving DecidableEq

/-- targets -/
inductive Tg where
  | nm (i : Nat)
  | tu (ts : List Tg)

mutual
inductive E where
  | k (d : D)                          -- a constant
  | gl (x : Str)                       -- a name of the module
  | s (i : Nat)                        -- a slot, looked at
  | cp (e : E)                         -- had twice
  | mv (i : Nat)                       -- taken out of a slot
  | vf (i : Nat)                       -- given up as owned, and read
  | fz (e : E)
  | tup (es : Es)
  | lst (es : Es)
  | bin (o : Bop) (a b : E)
  | neg (a : E)
  | cmp (o : Cop) (a b : E)
  | chn (o u : Cop) (a b c : E)
  | andv (a b : E)
  | orv (a b : E)
  | notv (a : E)
  | ife (t : T) (a b : E)
  | cal (f : Str) (as : As)
  | cav (i : Nat) (as : As)
  | bi (b : Bi) (a : E)
  | bj (b : Bj) (a c : E)
  | me (m : Me) (a b : E)
  | rpl (a : E) (y z : Str)              -- a.replace(y, z), written texts
  | pop (i : Nat)
  | ix (a b : E)
  | sl (a : E) (lo hi : Oe)
  | cmpr (elt : E) (tg : Tg) (src : Sr) (cond : Ot) (own : List (Str × Nat))
  | xf (i : Nat) (n : Str)             -- a field of the exception in slot i
  | isi (a : E) (t : Ty)
  | isx (i : Nat) (c : Str)            -- isinstance of the exception in slot i
/-- tests -/
inductive T where
  | e (e : E)
  | an (a b : T)
  | oo (a b : T)
  | no (a : T)
inductive Ot where
  | no
  | yes (t : T)
inductive Es where
  | nil
  | cons (e : E) (es : Es)
/-- arguments of a def -/
inductive As where
  | nil
  | val (e : E) (as : As)
  | io (i : Nat) (as : As)
  | bor (i : Nat) (as : As)
inductive Oe where
  | no
  | yes (e : E)
/-- what a loop goes over -/
inductive Sr where
  | it (e : E)
  | itl (e : E)                        -- a list, no other thing
  | rng (e : E)
  | rng2 (a b : E)
  | enum (e : E)
  | zip (a b : E)
end
mutual
inductive S where
  | set (t : Tg) (e : E)
  | asgc (i : Nat) (z : Bool) (e : E)             -- a slot stored, the value a comprehension
  | aug (i : Nat) (o : Bop) (e : E)
  | dro (e : E)
  | app (i : Nat) (e : E)
  | ext (i : Nat) (e : E)
  | rev (i : Nat)
  | sti (i : Nat) (k e : E)            -- xs[k] = e
  | ifs (t : T) (a b : Ss)
  | fors (t : Tg) (src : Sr) (b : Ss)
  | whl (t : T) (b : Ss)
  | ret (e : E)
  | retn
  | brk
  | cnt
  | pas
  | rai (c : Str) (es : Es)
  | tra (b : Ss) (c : Str) (i : Nat) (h : Ss)   -- try: b except c as i: h
inductive Ss where
  | nil
  | cons (s : S) (ss : Ss)
end

/-- a def's code: how many parameters, the parameters that it changes for its caller, the body -/
structure Df where
  np : Nat
  ns : Nat
  io : List Nat
  body : Ss

mutual
/-- nothing that stood is changed, no slot is changed -/
def pu : E → Bool
  | .k _ => true
  | .gl _ => true
  | .s _ => true
  | .cp e => pu e
  | .mv _ => false
  | .vf _ => false
  | .fz e => pu e
  | .tup es => pus es
  | .lst es => pus es
  | .bin _ a b => pu a && pu b
  | .neg a => pu a
  | .cmp _ a b => pu a && pu b
  | .chn _ _ a b c => pu a && (pu b && pu c)
  | .andv a b => pu a && pu b
  | .orv a b => pu a && pu b
  | .notv a => pu a
  | .ife t a b => put t && (pu a && pu b)
  | .cal _ _ => false
  | .cav _ _ => false
  | .bi _ a => pu a
  | .bj _ a c => pu a && pu c
  | .me _ a b => pu a && pu b
  | .rpl a _ _ => pu a
  | .pop _ => false
  | .ix a b => pu a && pu b
  | .sl a lo hi => pu a && (puo lo && puo hi)
  | .cmpr _ _ _ _ _ => false
  | .xf _ _ => true
  | .isi a _ => pu a
  | .isx _ _ => true
def put : T → Bool
  | .e e => pu e
  | .an a b => put a && put b
  | .oo a b => put a && put b
  | .no a => put a
def pus : Es → Bool
  | .nil => true
  | .cons e es => pu e && pus es
def puo : Oe → Bool
  | .no => true
  | .yes e => pu e
end
/-- the value owns its parts apart from the slots -/
def iv : E → Bool
  | .s _ => false
  | .ix a _ => iv a
  | _ => true

/-! ### what the operations give -/
def toPy : D → Option PyData
  | .non => some .none
  | .bl b => some (.bool b)
  | .int i => some (.int i)
  | .str s => some (.str s)
  | .fn _ => none
  | .exc _ _ => none
  | .tup ds => (toPys ds).map .tuple
  | .lst _ ds => (toPys ds).map .list
  | .dct _ _ _ => none
  | .ins _ _ _ _ => none
where toPys : List D → Option (List PyData)
  | [] => some []
  | d :: ds => (toPy d).bind fun x => (toPys ds).map fun xs => x :: xs
/-- == -/
def eqD (a b : D) : Option Bool := (toPy a).bind fun x => (toPy b).bind fun y => if SeqAt.shaped x = true ∧ SeqAt.shaped y = true then some (PyData.eqv x y) else none
def flat : D → Bool
  | .non => true
  | .bl _ => true
  | .int _ => true
  | .str _ => true
  | _ => false
def eqF : D → D → Bool
  | .non, .non => true
  | .bl a, .bl b => a == b
  | .bl a, .int b => (if a then 1 else 0) == b
  | .int a, .bl b => a == (if b then 1 else 0)
  | .int a, .int b => a == b
  | .str a, .str b => a == b
  | _, _ => false
def inF (x : D) (xs : List D) : Bool := xs.any fun y => eqF y x
/-- x in xs -/
def inD (x y : D) : Option Bool := match x, y with
  | .str a, .str b => some (!(Builtin.Str.occurrences b a 0 b.length 1).isEmpty)
  | x, .tup ds => if flat x = true ∧ ds.all flat = true then some (inF x ds) else none
  | x, .lst _ ds => if flat x = true ∧ ds.all flat = true then some (inF x ds) else none
  | _, _ => none
instance {i j : Int} : Decidable (CMul i j) := by unfold CMul; infer_instance
instance {i j : Int} : Decidable (CDivN i j) := by unfold CDivN; infer_instance
instance {i j : Int} : Decidable (CPow i j) := by unfold CPow; infer_instance
def szl (n : Nat) : Bool := decide (n ≤ 16777216)
def szlt (n : Nat) : Bool := decide (n < 16777216)
/-- a text, n times -/
def strRep (a : Str) (n : Nat) : Str := ⟨(List.replicate n a.cps).foldl (· ++ ·) #[]⟩
def binD : Bop → D → D → Option D
  | .add, .int i, .int j => some (.int (i + j))
  | .add, .str a, .str b => if szl (a.length + b.length) then some (.str (a ++ b)) else none
  | .add, .tup a, .tup b => if szl (a.length + b.length) && (copyables a && copyables b) then some (.tup (a ++ b)) else none
  | .add, .lst m a, .lst n b => if (m != .ro && n != .ro) && (szl (a.length + b.length) && (copyables a && copyables b)) then some (.lst .own (a ++ b)) else none
  | .sub, .int i, .int j => some (.int (i - j))
  | .mul, .int i, .int j => if decide (CMul i j) then some (.int (i * j)) else none
  | .mul, .str a, .int k => if (decide (1 < k) && !(a.length == 0)) && szl (a.length * k.toNat) then some (.str (strRep a k.toNat)) else none
  | .mul, .lst m a, .int k => if (m != .ro && copyables a) && (decide (-(2 ^ 63) ≤ k ∧ k < 2 ^ 63) && szl (a.length * k.toNat)) then some (.lst .own (List.replicate k.toNat a).flatten) else none
  | .fdiv, .int i, .int j => if decide (CDivN i j) then some (.int (i.fdiv j)) else none
  | .mod, .int i, .int j => if decide (j ≠ 0) then some (.int (i.fmod j)) else none
  | .pow, .int i, .int j => if decide (CPow i j) then some (.int (i ^ j.toNat)) else none
  | _, _, _ => none
def cmpD : Cop → D → D → Option Bool
  | .eq, a, b => eqD a b
  | .ne, a, b => (eqD a b).map (!·)
  | .lt, .int i, .int j => some (decide (i < j))
  | .le, .int i, .int j => some (decide (i ≤ j))
  | .gt, .int i, .int j => some (decide (j < i))
  | .ge, .int i, .int j => some (decide (j ≤ i))
  | .isin, a, b => inD a b
  | .notin, a, b => (inD a b).map (!·)
  | .isn, a, .non => some (match a with | .non => true | _ => false)
  | .notn, a, .non => some (match a with | .non => false | _ => true)
  | _, _, _ => none
def negD : D → Option D
  | .int i => some (.int (-i))
  | _ => none
/-- ints of a list -/
def intsOf : List D → Option (List Int)
  | [] => some []
  | .int i :: ds => (intsOf ds).map (i :: ·)
  | _ => none
def blsOf : List D → Option (List Bool)
  | [] => some []
  | .bl b :: ds => (blsOf ds).map (b :: ·)
  | _ => none
def strsOf : List D → Option (List Str)
  | [] => some []
  | .str s :: ds => (strsOf ds).map (s :: ·)
  | _ => none
def biD : Bi → D → Option D
  | .len, .str s => if szl s.length then some (.int s.length) else none
  | .len, .tup ds => some (.int ds.length)
  | .len, .lst _ ds => some (.int ds.length)
  | .int, .int i => some (.int i)
  | .int, .bl b => some (.int (if b then 1 else 0))
  | .int, .str s => if decide (s.length ≤ 640) then (PySem.intText? s).map D.int else none
  | .str, .int i => if decide (i.natAbs.log2 < 1920) then some (.str (toString i)) else none
  | .tuple, .tup ds => if copyables ds then some (.tup ds) else none
  | .tuple, .lst _ ds => if copyables ds then some (.tup ds) else none
  | .list, .tup ds => if copyables ds then some (.lst .own ds) else none
  | .list, .lst _ ds => if copyables ds then some (.lst .own ds) else none
  | .abs, .int i => some (.int (if i < 0 then -i else i))
  | .sum, .lst _ ds => (intsOf ds).map fun ns => .int ns.sum
  | .any, .lst _ ds => (blsOf ds).map fun bs => .bl (bs.any id)
  | .all, .lst _ ds => (blsOf ds).map fun bs => .bl (bs.all id)
  | _, _ => none
def bjD : Bj → D → D → Option D
  | .max, .int i, .int j => some (.int (if j > i then j else i))
  | .min, .int i, .int j => some (.int (if j < i then j else i))
  | _, _, _ => none
def joinLen (a : Str) (ys : List Str) : Nat := (ys.map Str.length).sum + ys.length * a.length
def meD : Me → D → D → Option D
  | .split, .str a, .str b => if !(b.length == 0) && szl (a.length + 2) then some (.lst .own ((Txt.split a b).map D.str)) else none
  | .join, .str a, .lst _ ds => (strsOf ds).bind fun ys => if szl (joinLen a ys) then some (.str (Txt.join a ys)) else none
  | .startswith, .str a, .str b => some (.bl (Txt.startswith a b))
  | _, _, _ => none
def ixD : D → D → Option D
  | .tup ds, .int i => atI ds i
  | .lst _ ds, .int i => atI ds i
  | .str s, .int i => if szl s.length then (atI s.cps.toList i).map fun c => .str ⟨#[c]⟩ else none
  | _, _ => none
def cutL {α : Type} (xs : List α) (lo hi : Option Int) : List α := (xs.drop (HT.sIx xs.length 0 lo)).take (HT.sIx xs.length xs.length hi - HT.sIx xs.length 0 lo)
def slD (a : D) (lo hi : Option Int) : Option D := match a with
  | .tup ds => if copyables ds then some (.tup (cutL ds lo hi)) else none
  | .lst _ ds => if copyables ds then some (.lst .own (cutL ds lo hi)) else none
  | .str s => if szl s.length then some (.str (cutS s lo hi)) else none
  | _ => none
def tgIn (own : List (Str × Nat)) : Tg → Bool
  | .nm i => (own.map (·.2)).contains i
  | .tu ts => goes ts
where goes : List Tg → Bool
  | [] => true
  | t :: ts => tgIn own t && goes ts
def isCmp : E → Bool
  | .cmp _ _ _ => true
  | .chn _ _ _ _ _ => true
  | _ => false
def itemsD : D → Option (List D)
  | .tup ds => if copyables ds then some ds else none
  | .lst _ ds => if copyables ds then some ds else none
  | .str s => some (s.cps.toList.map fun c => .str ⟨#[c]⟩)
  | _ => none
/-- truth -/
def truD : D → Option Bool
  | .non => some false
  | .bl b => some b
  | .int i => some (i != 0)
  | .str s => if szl s.length then some ((s.length : Int) != 0) else none
  | .tup ds => some (!ds.isEmpty)
  | .lst _ ds => some (!ds.isEmpty)
  | _ => none
def isTy : Ty → D → Option Bool
  | .exc _, _ => none
  | .verr, _ => none
  | t, .non => some false
  | t, .bl _ => some (decide (t = .bool ∨ t = .int))
  | t, .int _ => some (decide (t = .int))
  | t, .str _ => some (decide (t = .str))
  | t, .tup _ => some (decide (t = .tup))
  | t, .lst _ _ => some false
  | _, _ => none
/-- a target takes a value -/
def setT : Tg → D → Rho → Option Rho
  | .nm i, d, r => some (r.set i (some d))
  | .tu ts, .tup ds, r => if copyables ds then setTs ts ds r else none
  | .tu _, _, _ => none
where setTs : List Tg → List D → Rho → Option Rho
  | [], [], r => some r
  | t :: ts, d :: ds, r => (setT t d r).bind fun r1 => setTs ts ds r1
  | _, _, _ => none

/-! ### what code gives -/
inductive FR where
  | ret (d : D) (fin : List D)
  | exc (c : Str) (fs : List (Str × Int)) (fin : List D)
  | bad
/-- how a statement ends -/
inductive Fl where
  | nx | rt (d : D) | bk | ct

/-- the arguments: those by value, lent ones, places of those that the def changes -/
inductive Ar where
  | val (d : D) | io (i : Nat) | bor (i : Nat)
def wipeR (r : Rho) : List Nat → Rho
  | [] => r
  | v :: vs => (wipeR r vs).set v none
/-- the io slots taken out -/
def outIo : List Ar → Rho → Option Rho
  | [], r => some r
  | .val _ :: as, r => outIo as r
  | .bor _ :: as, r => outIo as r
  | .io i :: as, r => match r[i]? with
    | some (some _) => outIo as (r.set i none)
    | _ => none
/-- what the def is given; r: ahead, r1: behind outIo -/
def argD (r r1 : Rho) : List Ar → Option (List D)
  | [] => some []
  | .val d :: as => (argD r r1 as).map (d :: ·)
  | .io i :: as => match r[i]? with
    | some (some d) => (argD r r1 as).map (d :: ·)
    | _ => none
  | .bor i :: as => match r1[i]? with
    | some (some d) => (argD r r1 as).map (br d :: ·)
    | _ => none
/-- and put back -/
def putIo : List Ar → List D → Rho → Option Rho
  | [], [], r => some r
  | .val _ :: as, fin, r => putIo as fin r
  | .bor _ :: as, fin, r => putIo as fin r
  | .io i :: as, d :: fin, r => putIo as fin (r.set i (some d))
  | _, _, _ => none
/-- the places of io arguments -/
def ioAt : List Ar → Nat → List Nat
  | [], _ => []
  | .val _ :: as, n => ioAt as (n + 1)
  | .bor _ :: as, n => ioAt as (n + 1)
  | .io _ :: as, n => n :: ioAt as (n + 1)
def isBor : Ar → Bool
  | .bor _ => true
  | _ => false

mutual
/-- no exception among the data -/
def noexc : D → Bool
  | .exc _ _ => false
  | .tup ds => noexcs ds
  | .lst _ ds => noexcs ds
  | _ => true
def noexcs : List D → Bool
  | [] => true
  | d :: ds => noexc d && noexcs ds
end
def noexcR : Rho → Bool
  | [] => true
  | none :: r => noexcR r
  | some d :: r => noexc d && noexcR r
def noexcF : Fl → Bool
  | .rt d => noexc d
  | _ => true
structure Gm where
  /-- the module's constants and defs as values -/
  glob : Str → Option D
  /-- the io places of a def -/
  io : Str → List Nat
  /-- the defs -/
  isFn : Str → Bool
  /-- those that code may call where nothing is handled -/
  isCold : Str → Bool
  /-- is the class of the one name below that of the other? -/
  sub : Str → Str → Bool
  /-- the names of the own exception classes -/
  exs : List Str
  /-- the defs that a suite of except may call -/
  isHot : Str → Bool

section
variable (G : Gm) (cf : Str → List D → FR) (wf : Nat)
/-- a call: the arguments are at hand -/
def callR (f : Str) (as : List Ar) (r : Rho) : R D :=
  if ioAt as 0 = G.io f then
    match outIo as r with
    | some r1 => match argD r r1 as with
      | some ds => match cf f ds with
        | .ret d fin => if as.any isBor && !(clean d && cleans fin) then .bad else match putIo as fin r1 with
          | some r2 => .ok d r2
          | none => .bad
        | .exc c fs fin => if as.any isBor && !cleans fin then .bad else match putIo as fin r1 with
          | some r2 => .exc c fs r2
          | none => .bad
        | .bad => .bad
      | none => .bad
    | none => .bad
  else .bad
def R.calm {α : Type} : R α → R α
  | .ok a r => .ok a r
  | _ => .bad
/-- the turns of a comprehension -/
def turns (one : D → Rho → R (Option D)) : List D → List D → Rho → R (List D)
  | [], acc, r => .ok acc r
  | x :: xs, acc, r => (one x r).bind fun o r1 => match o with
    | some y => if szlt acc.length = true then turns one xs (acc ++ [y]) r1 else .bad
    | none => turns one xs acc r1
/-- one turn of a comprehension -/
def oneC (tg : Tg) (vs : List Nat) (ec : Rho → R Bool) (ee : Rho → R D) : D → Rho → R (Option D) := fun x r => match setT tg x (wipeR r vs) with
  | some r1 => (ec r1).bind fun b r2 => if b = true then (ee r2).bind fun y r3 => if copyable y = true then .ok (some y) (wipeR r3 vs) else .bad else .ok none (wipeR r2 vs)
  | none => .bad
def blR (o : Option Bool) (r : Rho) : R D := match o with
  | some b => .ok (.bl b) r
  | none => .bad
def isBl : D → Option Bool
  | .bl b => some b
  | _ => none
mutual
def evE : E → Rho → R D
  | .k d, r => .ok d r
  | .gl x, r => ofO (G.glob x) r
  | .s i, r => match r[i]? with
    | some (some d) => .ok d r
    | _ => .bad
  | .cp e, r => (evE e r).bind fun d r => if copyable d then .ok d r else .bad
  | .mv i, r => match r[i]? with
    | some (some d) => .ok d (r.set i none)
    | _ => .bad
  | .vf i, r => match r[i]? with
    | some (some d) => .ok (fz d) (r.set i (some (fz d)))
    | _ => .bad
  | .fz e, r => (evE e r).bind fun d r => .ok (fz d) r
  | .tup es, r => (evEs es r).bind fun ds r => if szl ds.length then .ok (.tup ds) r else .bad
  | .lst es, r => (evEs es r).bind fun ds r => if szl ds.length then .ok (.lst .own ds) r else .bad
  | .bin o a b, r => (evE a r).bind fun x r => (evE b r).bind fun y r => ofO (binD o x y) r
  | .neg a, r => (evE a r).bind fun x r => ofO (negD x) r
  | .cmp o a b, r => (evE a r).bind fun x r => (evE b r).bind fun y r => blR (cmpD o x y) r
  | .chn o u a b c, r => (evE a r).bind fun x r => (evE b r).bind fun y r => (blR (cmpD o x y) r).bind fun z r => match isBl z with
    | some true => (evE c r).bind fun w r => blR (cmpD u y w) r
    | _ => .ok (.bl false) r
  | .andv a b, r => (evE a r).bind fun x r => match isBl x with
    | some true => evE b r
    | some false => .ok (.bl false) r
    | none => .bad
  | .orv a b, r => (evE a r).bind fun x r => match isBl x with
    | some true => .ok (.bl true) r
    | some false => evE b r
    | none => .bad
  | .notv a, r => (evE a r).bind fun x r => match isBl x with
    | some b => .ok (.bl (!b)) r
    | none => .bad
  | .ife t a b, r => (evT t r).bind fun x r => match isBl x with
    | some true => evE a r
    | some false => evE b r
    | none => .bad
  | .cal f as, r => (evAs as r).bind fun p r => callR G cf f p r
  | .cav i as, r => match r[i]? with
    | some (some (.fn f)) => if (G.isFn f && G.isCold f) = true then (evAs as r).bind fun p r => callR G cf f p r else .bad
    | _ => .bad
  | .bi b a, r => (evE a r).bind fun x r => ofO (biD b x) r
  | .bj b a c, r => (evE a r).bind fun x r => (evE c r).bind fun y r => ofO (bjD b x y) r
  | .me m a b, r => (evE a r).bind fun x r => match x with
    | .str z => (evE b r).bind fun y r => ofO (meD m (.str z) y) r
    | _ => .bad
  | .rpl a y z, r => (evE a r).bind fun x r => match x with
    | .str x => if szl (x.length + (x.length + 1) * z.length) then .ok (.str (Txt.replace x y z)) r else .bad
    | _ => .bad
  | .pop i, r => match r[i]? with
    | some (some (.lst .own ds)) => match ds[ds.length - 1]? with
      | some d => .ok d (r.set i (some (.lst .own ds.dropLast)))
      | none => .bad
    | _ => .bad
  | .ix a b, r => (evE a r).bind fun x r => (evE b r).bind fun y r => ofO (ixD x y) r
  | .sl a lo hi, r => (evE a r).bind fun x r => (evO lo r).bind fun l r => (evO hi r).bind fun h r => ofO (slD x l h) r
  | .cmpr elt tg src cond own, r => (evSr src r).bind fun xs r => (turns (oneC tg (own.map (·.2)) (fun r => evC cond r) (fun r => evE elt r)) xs [] (wipeR r (own.map (·.2)))).calm.bind fun ys r => .ok (.lst .own ys) r
  | .xf i n, r => match r[i]? with
    | some (some (.exc c fs)) => if G.exs.contains c = true then match fs.lookup n with
      | some v => .ok (.int v) r
      | none => .bad
      else .bad
    | _ => .bad
  | .isi a t, r => (evE a r).bind fun x r => blR (isTy t x) r
  | .isx i c, r => match r[i]? with
    | some (some (.exc c' _)) => if G.exs.contains c' = true then .ok (.bl (G.sub c' c)) r else .bad
    | _ => .bad
def evEs : Es → Rho → R (List D)
  | .nil, r => .ok [] r
  | .cons e es, r => (evE e r).bind fun d r => (evEs es r).bind fun ds r => .ok (d :: ds) r
def evAs : As → Rho → R (List Ar)
  | .nil, r => .ok [] r
  | .val e as, r => (evE e r).bind fun d r => (evAs as r).bind fun p r => .ok (.val d :: p) r
  | .io i as, r => match r[i]? with
    | some (some _) => (evAs as r).bind fun p r => .ok (.io i :: p) r
    | _ => .bad
  | .bor i as, r => match r[i]? with
    | some (some _) => (evAs as r).bind fun p r => .ok (.bor i :: p) r
    | _ => .bad
def evO : Oe → Rho → R (Option Int)
  | .no, r => .ok none r
  | .yes e, r => (evE e r).bind fun d r => match d with
    | .int i => .ok (some i) r
    | _ => .bad
def evC : Ot → Rho → R Bool
  | .no, r => .ok true r
  | .yes t, r => (evT t r).bind fun d r => match isBl d with
    | some b => .ok b r
    | none => .bad
/-- a test -/
def evT : T → Rho → R D
  | .e e, r => (evE e r).bind fun x r => blR (truD x) r
  | .an a b, r => (evT a r).bind fun x r => match isBl x with
    | some true => evT b r
    | some false => .ok (.bl false) r
    | none => .bad
  | .oo a b, r => (evT a r).bind fun x r => match isBl x with
    | some true => .ok (.bl true) r
    | some false => evT b r
    | none => .bad
  | .no a, r => (evT a r).bind fun x r => match isBl x with
    | some b => .ok (.bl (!b)) r
    | none => .bad
def evSr : Sr → Rho → R (List D)
  | .it e, r => (evE e r).bind fun x r => ofO (itemsD x) r
  | .itl e, r => (evE e r).bind fun x r => match x with
    | .lst _ ds => if copyables ds then .ok ds r else .bad
    | _ => .bad
  | .rng e, r => (evE e r).bind fun x r => match x with
    | .int j => if decide (-(2 ^ 62) ≤ j ∧ j < 2 ^ 62) then .ok ((List.range j.toNat).map fun i => .int (i : Nat)) r else .bad
    | _ => .bad
  | .rng2 a b, r => (evE a r).bind fun x r => (evE b r).bind fun y r => match x, y with
    | .int i, .int j => if decide (-(2 ^ 62) ≤ i ∧ i < 2 ^ 62 ∧ -(2 ^ 62) ≤ j ∧ j < 2 ^ 62) then .ok ((List.range (j - i).toNat).map fun k => .int (i + (k : Nat))) r else .bad
    | _, _ => .bad
  | .enum e, r => (evE e r).bind fun x r => match x with
    | .lst _ ds => if copyables ds then .ok (ds.mapIdx fun i d => .tup [.int (i : Nat), d]) r else .bad
    | _ => .bad
  | .zip a b, r => (evE a r).bind fun x r => (evE b r).bind fun y r => match x, y with
    | .lst _ xs, .lst _ ys => if copyables xs && copyables ys then .ok ((xs.zip ys).map fun p => .tup [p.1, p.2]) r else .bad
    | _, _ => .bad
end
/-- a while, n turns at most -/
def whileN (t : Rho → R D) (b : Rho → R Fl) : Nat → Rho → R Fl
  | 0, _ => .bad
  | n + 1, r => (t r).bind fun x r => match isBl x with
    | some true => (b r).bind fun f r => match f with
      | .nx => whileN t b n r
      | .ct => whileN t b n r
      | .bk => .ok .nx r
      | .rt d => .ok (.rt d) r
    | some false => .ok .nx r
    | none => .bad
/-- a for -/
def forN (t : Tg) (b : Rho → R Fl) : List D → Rho → R Fl
  | [], r => .ok .nx r
  | x :: xs, r => match setT t x r with
    | some r1 => (b r1).bind fun f r => match f with
      | .nx => forN t b xs r
      | .ct => forN t b xs r
      | .bk => .ok .nx r
      | .rt d => .ok (.rt d) r
    | none => .bad
mutual
def evS : S → Rho → R Fl
  | .set t e, r => (evE G cf e r).bind fun d r => match setT t d r with
    | some r1 => .ok .nx r1
    | none => .bad
  | .asgc i z e, r => (match z with
    | true => evE G cf (.fz e) r
    | false => evE G cf e r).bind fun d r => .ok .nx (r.set i (some d))
  | .aug i o e, r => match r[i]? with
    | some (some x) => (evE G cf e r).bind fun y r => match binD o x y with
      | some (.int z) => .ok .nx (r.set i (some (.int z)))
      | _ => .bad
    | _ => .bad
  | .dro e, r => (evE G cf e r).bind fun _ r => .ok .nx r
  | .app i e, r => match r[i]? with
    | some (some (.lst .own _)) => (evE G cf e r).bind fun d r => match r[i]? with
      | some (some (.lst .own ds)) => if szlt ds.length then .ok .nx (r.set i (some (.lst .own (ds ++ [d])))) else .bad
      | _ => .bad
    | _ => .bad
  | .ext i e, r => match r[i]? with
    | some (some (.lst .own _)) => (evE G cf e r).bind fun d r => match r[i]?, d with
      | some (some (.lst .own ds)), .lst m es => if (m != .ro && copyables es) && szl (ds.length + es.length) then .ok .nx (r.set i (some (.lst .own (ds ++ es)))) else .bad
      | _, _ => .bad
    | _ => .bad
  | .rev i, r => match r[i]? with
    | some (some (.lst .own ds)) => .ok .nx (r.set i (some (.lst .own ds.reverse)))
    | _ => .bad
  | .sti i k e, r => (evE G cf e r).bind fun d r => match r[i]? with
    | some (some (.lst .own _)) => (evE G cf k r).bind fun x r => match r[i]?, x with
      | some (some (.lst .own ds)), .int j => match ixN ds.length j with
        | some n => .ok .nx (r.set i (some (.lst .own (ds.set n d))))
        | none => .bad
      | _, _ => .bad
    | _ => .bad
  | .ifs t a b, r => (evT G cf t r).bind fun x r => match isBl x with
    | some true => evSs a r
    | some false => evSs b r
    | none => .bad
  | .fors t src b, r => (evSr G cf src r).bind fun xs r => forN t (evSs b) xs r
  | .whl t b, r => whileN (evT G cf t) (evSs b) wf r
  | .ret e, r => (evE G cf e r).bind fun d r => .ok (.rt d) r
  | .retn, r => .ok (.rt .non) r
  | .brk, r => .ok .bk r
  | .cnt, r => .ok .ct r
  | .pas, r => .ok .nx r
  | .rai c es, r => (evEs G cf es r).bind fun ds r => match c == "BadText", ds with
    | true, [.int l, .int k] => .exc c [("column", k), ("line", l)] r
    | true, _ => .bad
    | false, _ => .exc c [] r
  | .tra b c i h, r => match evSs b r with
    | .exc c' fs r1 => if G.exs.contains c' = true then
        if G.sub c' c = true then match evSs h (r1.set i (some (.exc c' fs))) with
          | .ok f r2 => if noexcR (r2.set i none) = true ∧ noexcF f = true then .ok f (r2.set i none) else .bad
          | _ => .bad
        else .exc c' fs r1
      else .bad
    | x => x
def evSs : Ss → Rho → R Fl
  | .nil, r => .ok .nx r
  | .cons s ss, r => (evS s r).bind fun f r => match f with
    | .nx => evSs ss r
    | f => .ok f r
end
end
/-- the slots at io places -/
def finOf : List Nat → Rho → Option (List D)
  | [], _ => some []
  | i :: is, r => match r[i]? with
    | some (some d) => (finOf is r).map (d :: ·)
    | _ => none
/-- a def called: n levels deep at most -/
def callF (G : Gm) (defs : Str → Option Df) (wf : Nat) : Nat → Str → List D → FR
  | 0, _, _ => .bad
  | n + 1, f, ds => match defs f with
    | some df => if ds.length = df.np then
        match evSs G (callF G defs wf n) wf df.body (ds.map some ++ List.replicate (df.ns - df.np) none) with
        | .ok fl r => match finOf df.io r with
          | some fin => match fl with
            | .rt d => .ret d fin
            | .nx => .ret .non fin
            | _ => .bad
          | none => .bad
        | .exc c fs r => match finOf df.io r with
          | some fin => .exc c fs fin
          | none => .bad
        | .bad => .bad
      else .bad
    | none => .bad
end PI
set_option maxRecDepth 100000
set_option maxHeartbeats 4000000
/-! PI23a: what a row's written part says, as a Bool; the Hook; the tables of a row. -/
namespace PI
open PySem PySem.Spec PyProof.Rows L2

/-- a def as the text has it -/
structure Syn where
  qual : Str
  params : Arguments
  body : List Stmt
  scope : Scope
  ps : List Str
  N : List Str
/-- the built-in names that code may use -/
def blts : List Str := ["len", "int", "str", "tuple", "list", "abs", "sum", "any", "all", "max", "min", "range", "enumerate", "zip", "isinstance", "bool", "ValueError"]
/-- one def of a row -/
structure Rec where
  f : Str
  df : Df
  sy : Syn
def Rec.d (e : Rec) : He.DefD := ⟨(e.f, none), e.f, e.sy.qual, e.sy.params, e.sy.body, e.sy.scope, [], []⟩

def oexB (K : PySem.W.Frag) (C : Addr) : Bool := match K.lookup C with
  | some ⟨.type t, dd, .cls ⟨nm, bs, .ref C' :: bm, N, q, hdct, sn, sub, ab, col, hdel⟩, ⟨[k0, k1, k2, k3, some (.builtin n), k5]⟩⟩ => ((decide (t = "type") && decide (C' = C)) && (hdct && !hdel)) && (decide (n = "ValueError.__new__") && PySem.HandSPX.refsVE bm)
  | _ => false
def excCB (K : PySem.W.Frag) (D : Addr) : Bool :=
  (decide (PySem.W.findIn K (.ref D) "__getattribute__" = some (some (.builtin "BaseException.__getattribute__"))) && decide (PySem.W.findIn K (.ref D) "__getattr__" = some none)) &&
  ((decide (PySem.W.subIn K (.ref D) (.type "BaseException") = some true) && PySem.W.hasDictIn K D) && ((decide (PySem.W.findIn K (.ref D) "__class__" = some (some (.builtin "object.__class__"))) && decide (PySem.W.mroIn K D (.type "object") = some true)) &&
    (decide (PySem.W.findIn K (.ref D) "line" = some none) && decide (PySem.W.findIn K (.ref D) "column" = some none))))
def excCK (K : PySem.W.Frag) : Bool := decide (PySem.W.specialIn K (.builtin "object.__class__") "__get__" = some (some (.builtin "getset_descriptor.__get__"))) && decide (PySem.W.takesIn K (.builtin "object.__class__") = some true)
def gloB (K : PySem.W.Frag) (x : Str) : Bool := (He.Fa.glo x).ok K
def excB (K : PySem.W.Frag) (x : Str) : Bool := (He.Fa.exc x).ok K
def globB (K : PySem.W.Frag) (fs : List Str) (e : Str × D) : Bool := match e.2 with
  | .str z => (He.Fa.str e.1 z).ok K
  | .int i => (He.Fa.int e.1 i).ok K
  | .fn f => decide (f = e.1) && fs.contains f
  | _ => false
/-- BadText: its class, its __init__ -/
def btB (K : PySem.W.Frag) : Bool := (oexB K (He.ga K "BadText") && decide (PySem.W.findIn K (.ref (He.ga K "BadText")) "__setattr__" = some (some (.builtin "object.__setattr__")))) &&
  ((decide (PySem.W.subIn K (.ref (He.ga K "BadText")) (.type "BaseException") = some true) && decide (PySem.W.typeIn K (.ref (He.ga K "BadText")) = some (.type "type"))) && (PySem.W.keepIn K (.ref (He.ga K "BadText")) &&
  (decide (PySem.W.findIn K (.ref (He.ga K "BadText")) "__init__" = some (some (.ref (He.ma K (He.ga K "BadText") "__init__")))) && decide (PySem.W.typeIn K (.ref (He.ma K (He.ga K "BadText") "__init__")) = some (.type "function")))))
/-- all of it -/
def rowB (G : Gm) (globs : List (Str × D)) (fs : List Str) (K : PySem.W.Frag) : Bool :=
  (excCK K && (G.exs.all (fun c => gloB K c && excCB K (He.ga K c)) && G.exs.all fun c => decide (c = "BadText") || excB K c)) &&
  (((G.exs.all fun c' => decide (PySem.W.kitOne K (.ref (He.ga K c')) (.type "ValueError") = some (G.sub c' "ValueError"))) &&
    (G.exs.all fun c' => G.exs.all fun c => decide (PySem.W.kitOne K (.ref (He.ga K c')) (.ref (He.ga K c)) = some (G.sub c' c)) && decide (PySem.W.exmOne K (.ref (He.ga K c')) (.ref (He.ga K c)) = some (G.sub c' c)))) &&
  ((globs.all (globB K fs) && (fs.all (gloB K) && blts.all fun x => (He.Fa.free x).ok K)) && (!G.exs.contains "BadText" || btB K)))

def hookP (n : Nat) (cb : PySem.W.Frag → Bool) (fa : List He.Fa) (fn : List He.DefD) : PySem.W.Hook where
  α := Bool × He.AlD
  obs := fun s => (cb (He.frG s.heap.get? (He.asD s.heap.get? n)), He.obsDG n fa fn s.heap.get?)
  val := fun _ => (true, He.valD fn)
  says := fun _ h => ∃ K : PySem.W.Frag, K.In h ∧ cb K = true ∧ He.SaysD fa fn K
  of := fun _ _ e => ⟨_, He.frG_in, congrArg (fun z : Bool × He.AlD => z.1) e, congrArg (fun z : Bool × He.AlD => z.2) e⟩
  keeps := fun _ _ _ ⟨K, hK, b, c⟩ k => ⟨K, PySem.W.Frag.In.keeps hK k, b, c⟩
def obP (n : Nat) (cb : PySem.W.Frag → Bool) (fa : List He.Fa) (fn : List He.DefD) (g : Addr → Option Obj) : Bool × He.AlD := (cb (He.frG g (He.asD g n)), He.obsDG n fa fn g)
theorem obP_eq {n : Nat} {cb : PySem.W.Frag → Bool} {fa : List He.Fa} {fn : List He.DefD} {g : Addr → Option Obj} {s : Shared} (h : ∀ a, g a = s.heap.get? a) : obP n cb fa fn g = (hookP n cb fa fn).obs s := by
  have e : g = s.heap.get? := funext h
  rw [e] <;> rfl

structure Tab where
  recs : List Rec
  globs : List (Str × D)
  ios : List (Str × List Nat)
  hots : List Str
  subs : List (Str × List Str)
  exs : List Str
  ini : Syn
def Tab.find (T : Tab) (f : Str) : Option Rec := T.recs.find? fun e => e.f == f
def Tab.G (T : Tab) : Gm where
  glob := fun x => T.globs.lookup x
  io := fun f => (T.ios.lookup f).getD []
  isFn := fun f => (T.find f).isSome
  isCold := fun f => !T.hots.contains f
  sub := fun c d => ((T.subs.lookup c).getD []).contains d
  exs := T.exs
  isHot := fun f => T.hots.contains f
def Tab.defs (T : Tab) (f : Str) : Option Df := (T.find f).map (·.df)
def Tab.syn (T : Tab) (f : Str) : Option Syn := (T.find f).map (·.sy)
def Tab.iniD (T : Tab) : He.DefD := ⟨("BadText", some "__init__"), "__init__", T.ini.qual, T.ini.params, T.ini.body, T.ini.scope, [], []⟩
def Tab.fn (T : Tab) : List He.DefD := T.recs.map Rec.d ++ [T.iniD]
def Tab.cb (T : Tab) : PySem.W.Frag → Bool := rowB T.G T.globs (T.recs.map (·.f))
end PI
set_option maxRecDepth 100000
set_option maxHeartbeats 4000000
/-! the defs of a row, in code (written by gen.py) -/
namespace K96
open PySem PySem.Spec PyProof.Rows L2 PI
abbrev Pk : Program := PySem.Challenge.rw_shiftshold_k96_texts_of_papers.prog
def top (i : Nat) : Stmt := Pk.main.body.getD i (.Pass ⟨0, 0, 0, 0⟩)
def T_run_end_0 : T := (.an (.e (.cmp .lt (.cp (.s 1)) (.bi .len (.cp (.s 0))))) (.e (.cmp .isin (.ix (.cp (.s 0)) (.cp (.s 1))) (.cp (.s 2)))))
def B_run_end_1 : Ss := (.cons (.aug 1 .add (.k (.int 1))) .nil)
def F_run_end : Ss := (.cons (.whl T_run_end_0 B_run_end_1) (.cons (.ret (.cp (.s 1))) .nil))
def RF_run_end : Rec := ⟨"run_end", ⟨3, 3, [], F_run_end⟩, ⟨"run_end", defArgs (top 18), defBody (top 18), defScope (top 18), ["text", "at", "signs"], ["text", "at", "signs"]⟩⟩
def F_is_integer : Ss := (.cons (.set (.nm 1) (.cp (.s 0))) (.cons (.ifs (.e (.cmp .eq (.sl (.cp (.s 0)) .no (.yes (.k (.int 1)))) (.k (.str "-")))) (.cons (.set (.nm 1) (.fz (.sl (.cp (.s 0)) (.yes (.k (.int 1))) .no))) .nil) .nil) (.cons (.ifs (.oo (.e (.cmp .eq (.cp (.s 1)) (.k (.str "")))) (.oo (.e (.cmp .gt (.bi .len (.cp (.s 1))) (.gl "MOST_DIGITS"))) (.e (.cmp .lt (.cal "run_end" (.val (.cp (.s 1)) (.val (.k (.int 0)) (.val (.gl "DIGITS") .nil)))) (.bi .len (.cp (.s 1))))))) (.cons (.ret (.k (.bl false))) .nil) .nil) (.cons (.ret (.orv (.cmp .ne (.ix (.cp (.s 1)) (.k (.int 0))) (.k (.str "0"))) (.cmp .eq (.cp (.s 0)) (.k (.str "0"))))) .nil))))
def RF_is_integer : Rec := ⟨"is_integer", ⟨1, 2, [], F_is_integer⟩, ⟨"is_integer", defArgs (top 19), defBody (top 19), defScope (top 19), ["word"], ["word", "digits"]⟩⟩
def C_lines_of_0 : E := (.cmpr (.tup (.cons (.cp (.s 3)) (.cons (.k (.bl true)) .nil))) (.nm 3) (.it (.sl (.cp (.s 1)) .no (.yes (.neg (.k (.int 1)))))) .no [("part", 3)])
def F_lines_of : Ss := (.cons (.set (.nm 1) (.fz (.me .split (.cp (.s 0)) (.k (.str "\n"))))) (.cons (.asgc 2 false C_lines_of_0) (.cons (.ifs (.e (.cmp .ne (.ix (.cp (.s 1)) (.neg (.k (.int 1)))) (.k (.str "")))) (.cons (.app 2 (.tup (.cons (.ix (.cp (.s 1)) (.neg (.k (.int 1)))) (.cons (.k (.bl false)) .nil)))) .nil) .nil) (.cons (.ret (.mv 2)) .nil))))
def RF_lines_of : Rec := ⟨"lines_of", ⟨1, 4, [], F_lines_of⟩, ⟨"lines_of", defArgs (top 21), defBody (top 21), defScope (top 21), ["text"], ["text", "parts", "found", "part"]⟩⟩
def B_sections_of_0 : Ss := (.cons (.ifs (.e (.cmp .isin (.cp (.s 3)) (.cp (.s 1)))) (.cons (.app 2 (.tup (.cons (.cp (.s 3)) (.cons (.tup .nil) .nil)))) .nil) (.cons (.ifs (.oo (.no (.e (.cal "is_integer" (.val (.cp (.s 3)) .nil)))) (.e (.cmp .eq (.bi .len (.s 2)) (.k (.int 0))))) (.cons (.ret (.k .non)) .nil) .nil) (.cons (.set (.tu [(.nm 4), (.nm 5)]) (.pop 2)) (.cons (.app 2 (.tup (.cons (.cp (.s 4)) (.cons (.bin .add (.cp (.s 5)) (.tup (.cons (.bi .int (.cp (.s 3))) .nil))) .nil)))) .nil)))) .nil)
def F_sections_of : Ss := (.cons (.set (.nm 2) (.lst .nil)) (.cons (.fors (.nm 3) (.it (.me .split (.cp (.s 0)) (.k (.str " ")))) B_sections_of_0) (.cons (.ret (.mv 2)) .nil)))
def RF_sections_of : Rec := ⟨"sections_of", ⟨2, 6, [], F_sections_of⟩, ⟨"sections_of", defArgs (top 22), defBody (top 22), defScope (top 22), ["line", "names"], ["line", "names", "found", "word", "name", "numbers"]⟩⟩
def C_written_0 : E := (.cmpr (.bi .str (.cp (.s 2))) (.nm 2) (.it (.cp (.s 1))) .no [("number", 2)])
def F_written : Ss := (.cons (.ret (.me .join (.k (.str " ")) (.bin .add (.lst (.cons (.cp (.s 0)) .nil)) C_written_0))) .nil)
def RF_written : Rec := ⟨"written", ⟨2, 3, [], F_written⟩, ⟨"written", defArgs (top 23), defBody (top 23), defScope (top 23), ["name", "numbers"], ["name", "numbers", "number"]⟩⟩
def B_rows_of_text_0 : Ss := (.cons (.set (.nm 6) (.fz (.cav 1 (.val (.cp (.s 4)) .nil)))) (.cons (.ifs (.oo (.e (.cmp .isn (.cp (.s 6)) (.k .non))) (.no (.e (.cp (.s 5))))) (.cons (.rai "BadText" (.cons (.bin .add (.cp (.s 3)) (.k (.int 1))) (.cons (.k (.int 1)) .nil))) .nil) .nil) (.cons (.app 2 (.cp (.s 6))) .nil)))
def F_rows_of_text : Ss := (.cons (.set (.nm 2) (.lst .nil)) (.cons (.fors (.tu [(.nm 3), (.tu [(.nm 4), (.nm 5)])]) (.enum (.fz (.cal "lines_of" (.val (.cp (.s 0)) .nil)))) B_rows_of_text_0) (.cons (.ret (.bi .tuple (.s 2))) .nil)))
def RF_rows_of_text : Rec := ⟨"rows_of_text", ⟨2, 7, [], F_rows_of_text⟩, ⟨"rows_of_text", defArgs (top 24), defBody (top 24), defScope (top 24), ["text", "row_of"], ["text", "row_of", "found", "number", "line", "ended", "row"]⟩⟩
def F_stand_words : Ss := (.cons (.ret (.cal "written" (.val (.k (.str "stand")) (.val (.fz (.bin .add (.sl (.cp (.s 0)) .no (.yes (.k (.int 3)))) (.ix (.cp (.s 0)) (.k (.int 3))))) .nil)))) .nil)
def RF_stand_words : Rec := ⟨"stand_words", ⟨1, 1, [], F_stand_words⟩, ⟨"stand_words", defArgs (top 26), defBody (top 26), defScope (top 26), ["stand"], ["stand"]⟩⟩
def C_text_of_0 : E := (.cmpr (.bin .add (.me .join (.k (.str " ")) (.cp (.s 1))) (.k (.str "\n"))) (.nm 1) (.it (.cp (.s 0))) .no [("row", 1)])
def F_text_of : Ss := (.cons (.ret (.me .join (.k (.str "")) C_text_of_0)) .nil)
def RF_text_of : Rec := ⟨"text_of", ⟨1, 2, [], F_text_of⟩, ⟨"text_of", defArgs (top 27), defBody (top 27), defScope (top 27), ["rows"], ["rows", "row"]⟩⟩
def C_write_holding_0 : E := (.cmpr (.cal "written" (.val (.k (.str "pick")) (.val (.cp (.s 3)) .nil))) (.nm 3) (.it (.cp (.s 2))) .no [("pick", 3)])
def C_write_holding_1 : E := (.cmpr (.fz (.bin .add (.lst (.cons (.cal "stand_words" (.val (.cp (.s 1)) .nil)) .nil)) C_write_holding_0)) (.tu [(.nm 1), (.nm 2)]) (.it (.cp (.s 0))) .no [("stand", 1), ("picks", 2)])
def F_write_holding : Ss := (.cons (.ret (.cal "text_of" (.val (.fz C_write_holding_1) .nil))) .nil)
def RF_write_holding : Rec := ⟨"write_holding", ⟨1, 4, [], F_write_holding⟩, ⟨"write_holding", defArgs (top 28), defBody (top 28), defScope (top 28), ["paper"], ["paper", "stand", "picks", "pick"]⟩⟩
def C_write_falling_0 : E := (.cmpr (.cal "written" (.val (.k (.str "answer")) (.val (.cp (.s 7)) .nil))) (.nm 7) (.it (.cp (.s 5))) .no [("answer", 7)])
def B_write_falling_1 : Ss := (.cons (.set (.nm 6) (.fz (.lst (.cons (.cal "stand_words" (.val (.cp (.s 2)) .nil)) (.cons (.cal "written" (.val (.k (.str "rank")) (.val (.tup (.cons (.cp (.s 3)) .nil)) .nil))) (.cons (.cal "written" (.val (.k (.str "absent")) (.val (.cp (.s 4)) .nil))) .nil)))))) (.cons (.app 1 (.fz (.bin .add (.cp (.s 6)) C_write_falling_0))) .nil))
def F_write_falling : Ss := (.cons (.set (.nm 1) (.lst .nil)) (.cons (.fors (.tu [(.nm 2), (.nm 3), (.nm 4), (.nm 5)]) (.it (.cp (.s 0))) B_write_falling_1) (.cons (.ret (.cal "text_of" (.bor 1 .nil))) .nil)))
def RF_write_falling : Rec := ⟨"write_falling", ⟨1, 8, [], F_write_falling⟩, ⟨"write_falling", defArgs (top 29), defBody (top 29), defScope (top 29), ["paper"], ["paper", "rows", "stand", "rank", "absent", "told", "row", "answer"]⟩⟩
def C_write_course_0 : E := (.cmpr (.fz (.lst (.cons (.cal "written" (.val (.k (.str "absent")) (.val (.cp (.s 1)) .nil))) (.cons (.cal "written" (.val (.k (.str "pick")) (.val (.cp (.s 2)) .nil))) (.cons (.cal "written" (.val (.k (.str "overruns")) (.val (.cp (.s 3)) .nil))) .nil))))) (.tu [(.nm 1), (.nm 2), (.nm 3)]) (.it (.cp (.s 0))) .no [("absent", 1), ("pick", 2), ("overruns", 3)])
def F_write_course : Ss := (.cons (.ret (.cal "text_of" (.val (.fz C_write_course_0) .nil))) .nil)
def RF_write_course : Rec := ⟨"write_course", ⟨1, 4, [], F_write_course⟩, ⟨"write_course", defArgs (top 30), defBody (top 30), defScope (top 30), ["course"], ["course", "absent", "pick", "overruns"]⟩⟩
def C_are_named_0 : E := (.cmpr (.cmp .eq (.cp (.s 4)) (.cp (.s 2))) (.nm 4) (.it (.sl (.cp (.s 3)) (.yes (.bi .len (.cp (.s 1)))) .no)) .no [("name", 4)])
def C_are_named_1 : E := (.cmpr (.cp (.s 4)) (.tu [(.nm 4), (.nm 5)]) (.it (.cp (.s 0))) .no [("name", 4), ("numbers", 5)])
def F_are_named : Ss := (.cons (.ifs (.oo (.e (.cmp .isn (.cp (.s 0)) (.k .non))) (.e (.cmp .lt (.bi .len (.cp (.s 0))) (.bi .len (.cp (.s 1)))))) (.cons (.ret (.k (.bl false))) .nil) .nil) (.cons (.asgc 3 true C_are_named_1) (.cons (.ret (.andv (.cmp .eq (.sl (.cp (.s 3)) .no (.yes (.bi .len (.cp (.s 1))))) (.bi .list (.cp (.s 1)))) (.bi .all C_are_named_0))) .nil)))
def RF_are_named : Rec := ⟨"are_named", ⟨3, 6, [], F_are_named⟩, ⟨"are_named", defArgs (top 31), defBody (top 31), defScope (top 31), ["sections", "names", "rest"], ["sections", "names", "rest", "told", "name", "numbers"]⟩⟩
def F_stand_of_words : Ss := (.cons (.ret (.bin .add (.sl (.cp (.s 0)) .no (.yes (.k (.int 3)))) (.tup (.cons (.fz (.sl (.cp (.s 0)) (.yes (.k (.int 3))) .no)) .nil)))) .nil)
def RF_stand_of_words : Rec := ⟨"stand_of_words", ⟨1, 1, [], F_stand_of_words⟩, ⟨"stand_of_words", defArgs (top 32), defBody (top 32), defScope (top 32), ["numbers"], ["numbers"]⟩⟩
def C_holding_row_0 : E := (.cmpr (.cp (.s 3)) (.tu [(.nm 2), (.nm 3)]) (.it (.sl (.cp (.s 1)) (.yes (.k (.int 1))) .no)) .no [("name", 2), ("numbers", 3)])
def F_holding_row : Ss := (.cons (.set (.nm 1) (.fz (.cal "sections_of" (.val (.cp (.s 0)) (.val (.tup (.cons (.k (.str "stand")) (.cons (.k (.str "pick")) .nil))) .nil))))) (.cons (.ifs (.oo (.no (.e (.cal "are_named" (.val (.cp (.s 1)) (.val (.tup (.cons (.k (.str "stand")) .nil)) (.val (.k (.str "pick")) .nil)))))) (.e (.cmp .lt (.bi .len (.ix (.ix (.cp (.s 1)) (.k (.int 0))) (.k (.int 1)))) (.k (.int 3))))) (.cons (.ret (.k .non)) .nil) .nil) (.cons (.ret (.tup (.cons (.cal "stand_of_words" (.val (.ix (.ix (.cp (.s 1)) (.k (.int 0))) (.k (.int 1))) .nil)) (.cons (.bi .tuple C_holding_row_0) .nil)))) .nil)))
def RF_holding_row : Rec := ⟨"holding_row", ⟨1, 4, [], F_holding_row⟩, ⟨"holding_row", defArgs (top 33), defBody (top 33), defScope (top 33), ["line"], ["line", "sections", "name", "numbers"]⟩⟩
def C_falling_row_0 : E := (.cmpr (.cp (.s 4)) (.tu [(.nm 3), (.nm 4)]) (.it (.sl (.cp (.s 1)) (.yes (.k (.int 3))) .no)) .no [("name", 3), ("numbers", 4)])
def F_falling_row : Ss := (.cons (.set (.nm 1) (.fz (.cal "sections_of" (.val (.cp (.s 0)) (.val (.tup (.cons (.k (.str "stand")) (.cons (.k (.str "rank")) (.cons (.k (.str "absent")) (.cons (.k (.str "answer")) .nil))))) .nil))))) (.cons (.ifs (.no (.e (.cal "are_named" (.val (.cp (.s 1)) (.val (.tup (.cons (.k (.str "stand")) (.cons (.k (.str "rank")) (.cons (.k (.str "absent")) .nil)))) (.val (.k (.str "answer")) .nil)))))) (.cons (.ret (.k .non)) .nil) .nil) (.cons (.ifs (.oo (.e (.cmp .lt (.bi .len (.ix (.ix (.cp (.s 1)) (.k (.int 0))) (.k (.int 1)))) (.k (.int 3)))) (.e (.cmp .ne (.bi .len (.ix (.ix (.cp (.s 1)) (.k (.int 1))) (.k (.int 1)))) (.k (.int 1))))) (.cons (.ret (.k .non)) .nil) .nil) (.cons (.set (.nm 2) (.bi .tuple C_falling_row_0)) (.cons (.ret (.tup (.cons (.cal "stand_of_words" (.val (.ix (.ix (.cp (.s 1)) (.k (.int 0))) (.k (.int 1))) .nil)) (.cons (.ix (.ix (.ix (.cp (.s 1)) (.k (.int 1))) (.k (.int 1))) (.k (.int 0))) (.cons (.ix (.ix (.cp (.s 1)) (.k (.int 2))) (.k (.int 1))) (.cons (.cp (.s 2)) .nil)))))) .nil)))))
def RF_falling_row : Rec := ⟨"falling_row", ⟨1, 5, [], F_falling_row⟩, ⟨"falling_row", defArgs (top 34), defBody (top 34), defScope (top 34), ["line"], ["line", "sections", "told", "name", "numbers"]⟩⟩
def F_course_row : Ss := (.cons (.set (.nm 1) (.fz (.cal "sections_of" (.val (.cp (.s 0)) (.val (.tup (.cons (.k (.str "absent")) (.cons (.k (.str "pick")) (.cons (.k (.str "overruns")) .nil)))) .nil))))) (.cons (.ifs (.oo (.no (.e (.cal "are_named" (.val (.cp (.s 1)) (.val (.tup (.cons (.k (.str "absent")) (.cons (.k (.str "pick")) (.cons (.k (.str "overruns")) .nil)))) (.val (.k (.str "")) .nil)))))) (.e (.cmp .ne (.bi .len (.cp (.s 1))) (.k (.int 3))))) (.cons (.ret (.k .non)) .nil) .nil) (.cons (.ret (.tup (.cons (.ix (.ix (.cp (.s 1)) (.k (.int 0))) (.k (.int 1))) (.cons (.ix (.ix (.cp (.s 1)) (.k (.int 1))) (.k (.int 1))) (.cons (.ix (.ix (.cp (.s 1)) (.k (.int 2))) (.k (.int 1))) .nil))))) .nil)))
def RF_course_row : Rec := ⟨"course_row", ⟨1, 2, [], F_course_row⟩, ⟨"course_row", defArgs (top 35), defBody (top 35), defScope (top 35), ["line"], ["line", "sections"]⟩⟩
def F_read_holding : Ss := (.cons (.ret (.cal "rows_of_text" (.val (.cp (.s 0)) (.val (.gl "holding_row") .nil)))) .nil)
def RF_read_holding : Rec := ⟨"read_holding", ⟨1, 1, [], F_read_holding⟩, ⟨"read_holding", defArgs (top 36), defBody (top 36), defScope (top 36), ["text"], ["text"]⟩⟩
def F_read_falling : Ss := (.cons (.ret (.cal "rows_of_text" (.val (.cp (.s 0)) (.val (.gl "falling_row") .nil)))) .nil)
def RF_read_falling : Rec := ⟨"read_falling", ⟨1, 1, [], F_read_falling⟩, ⟨"read_falling", defArgs (top 37), defBody (top 37), defScope (top 37), ["text"], ["text"]⟩⟩
def F_read_course : Ss := (.cons (.ret (.cal "rows_of_text" (.val (.cp (.s 0)) (.val (.gl "course_row") .nil)))) .nil)
def RF_read_course : Rec := ⟨"read_course", ⟨1, 1, [], F_read_course⟩, ⟨"read_course", defArgs (top 38), defBody (top 38), defScope (top 38), ["text"], ["text"]⟩⟩
def B_law_draws_0 : Ss := (.cons (.set (.nm 6) (.bin .mod (.cp (.s 5)) (.bi .len (.s 2)))) (.cons (.ifs (.e (.cmp .ge (.cp (.ix (.s 2) (.cp (.s 6)))) (.bin .pow (.k (.int 10)) (.k (.int 18))))) (.cons (.app 4 (.bin .mod (.bi .int (.cp (.ix (.s 3) (.cp (.s 6))))) (.k (.int 1000)))) (.cons (.sti 3 (.cp (.s 6)) (.bin .fdiv (.cp (.ix (.s 3) (.cp (.s 6)))) (.k (.int 1000)))) .nil)) (.cons (.set (.nm 7) (.bin .mod (.bi .int (.bin .add (.bin .add (.bin .mul (.cp (.ix (.s 2) (.cp (.s 6)))) (.k (.int 48271))) (.bin .mul (.cp (.s 5)) (.k (.int 69621)))) (.k (.int 11)))) (.k (.int 2147483647)))) (.cons (.app 4 (.bin .mod (.bi .int (.bin .add (.bin .add (.bin .mul (.cp (.s 7)) (.cp (.s 7))) (.bin .mul (.k (.int 3)) (.cp (.s 7)))) (.cp (.s 5)))) (.k (.int 1000003)))) .nil))) .nil))
def C_law_draws_1 : E := (.cmpr (.bi .int (.cp (.s 8))) (.nm 8) (.it (.cp (.s 0))) .no [("cell", 8)])
def F_law_draws : Ss := (.cons (.asgc 2 false C_law_draws_1) (.cons (.ifs (.e (.cmp .eq (.bi .len (.s 2)) (.k (.int 0)))) (.cons (.app 2 (.k (.int 0))) .nil) .nil) (.cons (.set (.nm 3) (.bi .list (.s 2))) (.cons (.set (.nm 4) (.lst .nil)) (.cons (.fors (.nm 5) (.rng (.cp (.s 1))) B_law_draws_0) (.cons (.rev 4) (.cons (.ret (.mv 4)) .nil)))))))
def RF_law_draws : Rec := ⟨"_law_draws", ⟨2, 9, [], F_law_draws⟩, ⟨"_law_draws", defArgs (top 40), defBody (top 40), defScope (top 40), ["script", "many"], ["script", "many", "cells", "rest", "draws", "k", "at", "once", "cell"]⟩⟩
def F_law_take : Ss := (.cons (.ifs (.e (.cmp .eq (.bi .len (.s 0)) (.k (.int 0)))) (.cons (.ret (.k (.int 0))) .nil) .nil) (.cons (.ret (.bin .mod (.bi .int (.pop 0)) (.cp (.s 1)))) .nil))
def RF_law_take : Rec := ⟨"_law_take", ⟨2, 2, [0], F_law_take⟩, ⟨"_law_take", defArgs (top 41), defBody (top 41), defScope (top 41), ["draws", "many"], ["draws", "many"]⟩⟩
def F_law_cell : Ss := (.cons (.ifs (.e (.cmp .eq (.bi .len (.cp (.s 0))) (.k (.int 0)))) (.cons (.ret (.k (.int 0))) .nil) .nil) (.cons (.ret (.bi .int (.ix (.cp (.s 0)) (.bin .mod (.bi .int (.cp (.s 1))) (.bi .len (.cp (.s 0))))))) .nil))
def RF_law_cell : Rec := ⟨"_law_cell", ⟨2, 2, [], F_law_cell⟩, ⟨"_law_cell", defArgs (top 42), defBody (top 42), defScope (top 42), ["script", "at"], ["script", "at"]⟩⟩
def B_law_same_0 : Ss := (.cons (.ifs (.no (.e (.cal "_law_same" (.val (.ix (.cp (.s 0)) (.cp (.s 2))) (.val (.ix (.cp (.s 1)) (.cp (.s 2))) .nil))))) (.cons (.ret (.k (.bl false))) .nil) .nil) .nil)
def F_law_same : Ss := (.cons (.ifs (.e (.cmp .isn (.cp (.s 1)) (.k .non))) (.cons (.ret (.cmp .isn (.cp (.s 0)) (.k .non))) .nil) .nil) (.cons (.ifs (.e (.isi (.cp (.s 1)) .bool)) (.cons (.ret (.andv (.isi (.cp (.s 0)) .bool) (.cmp .eq (.cp (.s 0)) (.cp (.s 1))))) .nil) .nil) (.cons (.ifs (.e (.isi (.cp (.s 1)) .int)) (.cons (.ret (.andv (.isi (.cp (.s 0)) .int) (.andv (.notv (.isi (.cp (.s 0)) .bool)) (.cmp .eq (.cp (.s 0)) (.cp (.s 1)))))) .nil) .nil) (.cons (.ifs (.e (.isi (.cp (.s 1)) .str)) (.cons (.ret (.andv (.isi (.cp (.s 0)) .str) (.cmp .eq (.cp (.s 0)) (.cp (.s 1))))) .nil) .nil) (.cons (.ifs (.oo (.no (.e (.isi (.cp (.s 0)) .tup))) (.e (.cmp .ne (.bi .len (.cp (.s 0))) (.bi .len (.cp (.s 1)))))) (.cons (.ret (.k (.bl false))) .nil) .nil) (.cons (.fors (.nm 2) (.rng (.bi .len (.cp (.s 1)))) B_law_same_0) (.cons (.ret (.k (.bl true))) .nil)))))))
def RF_law_same : Rec := ⟨"_law_same", ⟨2, 3, [], F_law_same⟩, ⟨"_law_same", defArgs (top 43), defBody (top 43), defScope (top 43), ["actual", "due"], ["actual", "due", "k"]⟩⟩
def C_law_which_0 : E := (.cmpr (.ix (.cp (.s 2)) (.k (.int 0))) (.nm 2) (.itl (.cp (.s 1))) (.yes (.e (.ix (.cp (.s 2)) (.k (.int 1))))) [("mark", 2)])
def F_law_which : Ss := (.cons (.set (.nm 1) (.fz (.lst (.cons (.tup (.cons (.k (.str "InvalidFeast")) (.cons (.isx 0 "InvalidFeast") .nil))) (.cons (.tup (.cons (.k (.str "InvalidZone")) (.cons (.isx 0 "InvalidZone") .nil))) .nil))))) (.cons (.set (.nm 1) (.fz (.bin .add (.cp (.s 1)) (.lst (.cons (.tup (.cons (.k (.str "NoTime")) (.cons (.isx 0 "NoTime") .nil))) (.cons (.tup (.cons (.k (.str "InvalidBook")) (.cons (.isx 0 "InvalidBook") .nil))) .nil)))))) (.cons (.set (.nm 1) (.fz (.bin .add (.cp (.s 1)) (.lst (.cons (.tup (.cons (.k (.str "InvalidRow")) (.cons (.isx 0 "InvalidRow") .nil))) (.cons (.tup (.cons (.k (.str "InvalidRule")) (.cons (.isx 0 "InvalidRule") .nil))) .nil)))))) (.cons (.set (.nm 1) (.fz (.bin .add (.cp (.s 1)) (.lst (.cons (.tup (.cons (.k (.str "InvalidHouse")) (.cons (.isx 0 "InvalidHouse") .nil))) (.cons (.tup (.cons (.k (.str "BadText")) (.cons (.isx 0 "BadText") .nil))) .nil)))))) (.cons (.set (.nm 1) (.fz (.bin .add (.cp (.s 1)) (.lst (.cons (.tup (.cons (.k (.str "NoPerson")) (.cons (.isx 0 "NoPerson") .nil))) (.cons (.tup (.cons (.k (.str "NotHeld")) (.cons (.isx 0 "NotHeld") .nil))) .nil)))))) (.cons (.set (.nm 1) (.fz (.bin .add (.cp (.s 1)) (.lst (.cons (.tup (.cons (.k (.str "NotKept")) (.cons (.isx 0 "NotKept") .nil))) (.cons (.tup (.cons (.k (.str "NothingToUndo")) (.cons (.isx 0 "NothingToUndo") .nil))) .nil)))))) (.cons (.set (.nm 1) (.fz (.bin .add (.cp (.s 1)) (.lst (.cons (.tup (.cons (.k (.str "NothingToRedo")) (.cons (.isx 0 "NothingToRedo") .nil))) (.cons (.tup (.cons (.k (.str "ValueError")) (.cons (.isx 0 "ValueError") .nil))) .nil)))))) (.cons (.ret C_law_which_0) .nil))))))))
def RF_law_which : Rec := ⟨"_law_which", ⟨1, 3, [], F_law_which⟩, ⟨"_law_which", defArgs (top 44), defBody (top 44), defScope (top 44), ["e"], ["e", "marks", "mark"]⟩⟩
def C_law_number_0 : E := (.cmpr (.cp (.s 2)) (.nm 2) (.it (.cp (.s 1))) (.yes (.e (.cmp .notin (.cp (.s 2)) (.k (.str "0123456789"))))) [("sign", 2)])
def F_law_number : Ss := (.cons (.set (.nm 1) (.cp (.s 0))) (.cons (.ifs (.e (.cmp .eq (.sl (.cp (.s 0)) .no (.yes (.k (.int 1)))) (.k (.str "-")))) (.cons (.set (.nm 1) (.fz (.sl (.cp (.s 0)) (.yes (.k (.int 1))) .no))) .nil) .nil) (.cons (.ifs (.oo (.e (.cmp .eq (.cp (.s 1)) (.k (.str "")))) (.oo (.e (.cmp .gt (.bi .len (.cp (.s 1))) (.k (.int 60)))) (.e (.cmp .gt (.bi .len C_law_number_0) (.k (.int 0)))))) (.cons (.ret (.k .non)) .nil) .nil) (.cons (.ifs (.an (.e (.cmp .eq (.ix (.cp (.s 1)) (.k (.int 0))) (.k (.str "0")))) (.e (.cmp .ne (.cp (.s 0)) (.k (.str "0"))))) (.cons (.ret (.k .non)) .nil) .nil) (.cons (.ret (.bi .int (.cp (.s 0)))) .nil)))))
def RF_law_number : Rec := ⟨"_law_number", ⟨1, 3, [], F_law_number⟩, ⟨"_law_number", defArgs (top 45), defBody (top 45), defScope (top 45), ["word"], ["word", "digits", "sign"]⟩⟩
def F_law_any_number : Ss := (.cons (.set (.nm 2) (.bin .sub (.cal "_law_take" (.io 1 (.val (.k (.int 30)) .nil))) (.k (.int 4)))) (.cons (.ifs (.e (.cmp .eq (.cal "_law_take" (.io 1 (.val (.k (.int 9)) .nil))) (.k (.int 2)))) (.cons (.set (.nm 3) (.cal "_law_cell" (.val (.cp (.s 0)) (.val (.cp (.s 2)) .nil)))) (.cons (.set (.nm 2) (.fz (.bin .mul (.ix (.lst (.cons (.k (.int 1)) (.cons (.neg (.k (.int 1))) .nil))) (.bi .int (.cmp .lt (.cp (.s 3)) (.k (.int 0))))) (.bin .mod (.bi .abs (.cp (.s 3))) (.bin .pow (.k (.int 10)) (.k (.int 60))))))) (.cons (.ifs (.e (.cmp .eq (.cal "_law_take" (.io 1 (.val (.k (.int 3)) .nil))) (.k (.int 0)))) (.cons (.set (.nm 2) (.bin .add (.bin .pow (.k (.int 10)) (.k (.int 59))) (.bin .mod (.bi .abs (.cp (.s 3))) (.k (.int 1000))))) .nil) .nil) .nil))) .nil) (.cons (.ret (.cp (.s 2))) .nil)))
def RF_law_any_number : Rec := ⟨"_law_any_number", ⟨2, 4, [1], F_law_any_number⟩, ⟨"_law_any_number", defArgs (top 46), defBody (top 46), defScope (top 46), ["script", "draws"], ["script", "draws", "number", "cell"]⟩⟩
def C_law_some_numbers_0 : E := (.cmpr (.cal "_law_any_number" (.val (.cp (.s 0)) (.io 1 .nil))) (.nm 3) (.rng (.cp (.s 2))) .no [("k", 3)])
def F_law_some_numbers : Ss := (.cons (.ret (.bi .tuple C_law_some_numbers_0)) .nil)
def RF_law_some_numbers : Rec := ⟨"_law_some_numbers", ⟨3, 4, [1], F_law_some_numbers⟩, ⟨"_law_some_numbers", defArgs (top 47), defBody (top 47), defScope (top 47), ["script", "draws", "many"], ["script", "draws", "many", "k"]⟩⟩
def C_law_tuples_0 : E := (.cmpr (.cal "_law_some_numbers" (.val (.cp (.s 0)) (.io 1 (.val (.cal "_law_take" (.io 1 (.val (.k (.int 4)) .nil))) .nil)))) (.nm 3) (.rng (.cp (.s 2))) .no [("k", 3)])
def F_law_tuples : Ss := (.cons (.ret (.bi .tuple C_law_tuples_0)) .nil)
def RF_law_tuples : Rec := ⟨"_law_tuples", ⟨3, 4, [1], F_law_tuples⟩, ⟨"_law_tuples", defArgs (top 48), defBody (top 48), defScope (top 48), ["script", "draws", "many"], ["script", "draws", "many", "k"]⟩⟩
def F_law_row : Ss := (.cons (.ifs (.e (.cmp .eq (.cp (.s 2)) (.k (.int 2)))) (.cons (.ret (.cal "_law_tuples" (.val (.cp (.s 0)) (.io 1 (.val (.k (.int 3)) .nil))))) .nil) .nil) (.cons (.set (.nm 3) (.cal "_law_some_numbers" (.val (.cp (.s 0)) (.io 1 (.val (.k (.int 4)) .nil))))) (.cons (.set (.nm 4) (.bin .add (.sl (.cp (.s 3)) .no (.yes (.k (.int 3)))) (.tup (.cons (.cal "_law_some_numbers" (.val (.cp (.s 0)) (.io 1 (.val (.cal "_law_take" (.io 1 (.val (.k (.int 4)) .nil))) .nil)))) .nil)))) (.cons (.set (.nm 5) (.cal "_law_tuples" (.val (.cp (.s 0)) (.io 1 (.val (.cal "_law_take" (.io 1 (.val (.k (.int 4)) .nil))) .nil))))) (.cons (.ifs (.e (.cmp .eq (.cp (.s 2)) (.k (.int 0)))) (.cons (.ret (.tup (.cons (.cp (.s 4)) (.cons (.cp (.s 5)) .nil)))) .nil) .nil) (.cons (.ret (.tup (.cons (.cp (.s 4)) (.cons (.ix (.cp (.s 3)) (.k (.int 3))) (.cons (.cal "_law_some_numbers" (.val (.cp (.s 0)) (.io 1 (.val (.cal "_law_take" (.io 1 (.val (.k (.int 3)) .nil))) .nil)))) (.cons (.cp (.s 5)) .nil)))))) .nil))))))
def RF_law_row : Rec := ⟨"_law_row", ⟨3, 6, [1], F_law_row⟩, ⟨"_law_row", defArgs (top 49), defBody (top 49), defScope (top 49), ["script", "draws", "kind"], ["script", "draws", "kind", "numbers", "stand", "more"]⟩⟩
def C_law_long_row_0 : E := (.cmpr (.bi .tuple (.sl (.cp (.s 3)) (.yes (.bin .add (.k (.int 11)) (.bin .mul (.k (.int 5)) (.cp (.s 6))))) (.yes (.bin .add (.k (.int 16)) (.bin .mul (.k (.int 5)) (.cp (.s 6))))))) (.nm 6) (.rng (.k (.int 40))) .no [("k", 6)])
def C_law_long_row_1 : E := (.cmpr (.bin .sub (.bin .mod (.bi .int (.bin .add (.bin .mul (.cp (.s 2)) (.bin .add (.cp (.s 6)) (.k (.int 3)))) (.bin .mul (.cp (.s 6)) (.cp (.s 6))))) (.k (.int 97))) (.k (.int 9))) (.nm 6) (.rng (.k (.int 211))) .no [("k", 6)])
def F_law_long_row : Ss := (.cons (.set (.nm 2) (.cal "_law_take" (.io 0 (.val (.k (.int 1000)) .nil)))) (.cons (.set (.nm 3) (.fz C_law_long_row_1)) (.cons (.set (.nm 4) (.bin .add (.bi .tuple (.sl (.cp (.s 3)) .no (.yes (.k (.int 3))))) (.tup (.cons (.bi .tuple (.sl (.cp (.s 3)) (.yes (.k (.int 3))) (.yes (.k (.int 11))))) .nil)))) (.cons (.set (.nm 5) (.bi .tuple C_law_long_row_0)) (.cons (.ifs (.e (.cmp .eq (.cp (.s 1)) (.k (.int 0)))) (.cons (.ret (.tup (.cons (.cp (.s 4)) (.cons (.cp (.s 5)) .nil)))) .nil) .nil) (.cons (.ifs (.e (.cmp .eq (.cp (.s 1)) (.k (.int 1)))) (.cons (.ret (.tup (.cons (.cp (.s 4)) (.cons (.ix (.cp (.s 3)) (.k (.int 0))) (.cons (.bi .tuple (.sl (.cp (.s 3)) (.yes (.k (.int 11))) (.yes (.k (.int 19))))) (.cons (.cp (.s 5)) .nil)))))) .nil) .nil) (.cons (.ret (.tup (.cons (.bi .tuple (.sl (.cp (.s 3)) .no (.yes (.k (.int 9))))) (.cons (.bi .tuple (.sl (.cp (.s 3)) (.yes (.k (.int 9))) (.yes (.k (.int 40))))) (.cons (.bi .tuple (.sl (.cp (.s 3)) (.yes (.k (.int 40))) (.yes (.k (.int 60))))) .nil))))) .nil)))))))
def RF_law_long_row : Rec := ⟨"_law_long_row", ⟨2, 7, [0], F_law_long_row⟩, ⟨"_law_long_row", defArgs (top 50), defBody (top 50), defScope (top 50), ["draws", "kind"], ["draws", "kind", "seed", "numbers", "stand", "more", "k"]⟩⟩
def C_law_part_0 : E := (.cmpr (.bi .str (.cp (.s 2))) (.nm 2) (.it (.cp (.s 1))) .no [("number", 2)])
def F_law_part : Ss := (.cons (.ret (.me .join (.k (.str " ")) (.bin .add (.lst (.cons (.cp (.s 0)) .nil)) C_law_part_0))) .nil)
def RF_law_part : Rec := ⟨"_law_part", ⟨2, 3, [], F_law_part⟩, ⟨"_law_part", defArgs (top 51), defBody (top 51), defScope (top 51), ["name", "numbers"], ["name", "numbers", "number"]⟩⟩
def C_law_line_0 : E := (.cmpr (.cal "_law_part" (.val (.k (.str "answer")) (.val (.cp (.s 5)) .nil))) (.nm 5) (.it (.ix (.cp (.s 1)) (.k (.int 3)))) .no [("answer", 5)])
def C_law_line_1 : E := (.cmpr (.cal "_law_part" (.val (.k (.str "pick")) (.val (.cp (.s 6)) .nil))) (.nm 6) (.it (.ix (.cp (.s 1)) (.k (.int 1)))) .no [("pick", 6)])
def C_law_line_2 : E := (.cmpr (.cal "_law_part" (.val (.ix (.cp (.s 3)) (.cp (.s 4))) (.val (.ix (.cp (.s 1)) (.cp (.s 4))) .nil))) (.nm 4) (.rng (.k (.int 3))) .no [("k", 4)])
def F_law_line : Ss := (.cons (.ifs (.e (.cmp .eq (.cp (.s 0)) (.k (.int 2)))) (.cons (.set (.nm 3) (.fz (.lst (.cons (.k (.str "absent")) (.cons (.k (.str "pick")) (.cons (.k (.str "overruns")) .nil)))))) (.cons (.ret (.me .join (.k (.str " ")) C_law_line_2)) .nil)) .nil) (.cons (.set (.nm 2) (.fz (.lst (.cons (.cal "_law_part" (.val (.k (.str "stand")) (.val (.fz (.bin .add (.sl (.ix (.cp (.s 1)) (.k (.int 0))) .no (.yes (.k (.int 3)))) (.ix (.ix (.cp (.s 1)) (.k (.int 0))) (.k (.int 3))))) .nil))) .nil)))) (.cons (.ifs (.e (.cmp .eq (.cp (.s 0)) (.k (.int 0)))) (.cons (.ret (.me .join (.k (.str " ")) (.bin .add (.cp (.s 2)) C_law_line_1))) .nil) .nil) (.cons (.set (.nm 2) (.fz (.bin .add (.cp (.s 2)) (.lst (.cons (.cal "_law_part" (.val (.k (.str "rank")) (.val (.tup (.cons (.ix (.cp (.s 1)) (.k (.int 1))) .nil)) .nil))) (.cons (.cal "_law_part" (.val (.k (.str "absent")) (.val (.ix (.cp (.s 1)) (.k (.int 2))) .nil))) .nil)))))) (.cons (.ret (.me .join (.k (.str " ")) (.bin .add (.cp (.s 2)) C_law_line_0))) .nil)))))
def RF_law_line : Rec := ⟨"_law_line", ⟨2, 7, [], F_law_line⟩, ⟨"_law_line", defArgs (top 52), defBody (top 52), defScope (top 52), ["kind", "row"], ["kind", "row", "parts", "names", "k", "answer", "pick"]⟩⟩
def B_law_sections_0 : Ss := (.cons (.set (.nm 3) (.cal "_law_number" (.val (.cp (.s 2)) .nil))) (.cons (.ifs (.e (.cmp .isn (.cp (.s 3)) (.k .non))) (.cons (.app 1 (.tup (.cons (.cp (.s 2)) (.cons (.tup .nil) .nil)))) .nil) (.cons (.ifs (.e (.cmp .eq (.bi .len (.s 1)) (.k (.int 0)))) (.cons (.ret (.k .non)) .nil) (.cons (.set (.nm 4) (.pop 1)) (.cons (.app 1 (.tup (.cons (.ix (.cp (.s 4)) (.k (.int 0))) (.cons (.bin .add (.ix (.cp (.s 4)) (.k (.int 1))) (.tup (.cons (.cp (.s 3)) .nil))) .nil)))) .nil))) .nil)) .nil))
def F_law_sections : Ss := (.cons (.set (.nm 1) (.lst .nil)) (.cons (.fors (.nm 2) (.it (.me .split (.cp (.s 0)) (.k (.str " ")))) B_law_sections_0) (.cons (.ret (.mv 1)) .nil)))
def RF_law_sections : Rec := ⟨"_law_sections", ⟨1, 5, [], F_law_sections⟩, ⟨"_law_sections", defArgs (top 53), defBody (top 53), defScope (top 53), ["line"], ["line", "found", "word", "number", "last"]⟩⟩
def C_law_row_of_0 : E := (.cmpr (.ix (.cp (.s 8)) (.k (.int 1))) (.nm 8) (.it (.cp (.s 2))) .no [("part", 8)])
def C_law_row_of_1 : E := (.cmpr (.ix (.cp (.s 8)) (.k (.int 0))) (.nm 8) (.it (.cp (.s 2))) .no [("part", 8)])
def F_law_row_of : Ss := (.cons (.set (.nm 2) (.fz (.cal "_law_sections" (.val (.cp (.s 1)) .nil)))) (.cons (.ifs (.e (.cmp .isn (.cp (.s 2)) (.k .non))) (.cons (.ret (.k .non)) .nil) .nil) (.cons (.asgc 3 true C_law_row_of_1) (.cons (.asgc 4 true C_law_row_of_0) (.cons (.set (.nm 5) (.ix (.lst (.cons (.fz (.lst (.cons (.k (.str "stand")) .nil))) (.cons (.fz (.lst (.cons (.k (.str "stand")) (.cons (.k (.str "rank")) (.cons (.k (.str "absent")) .nil))))) (.cons (.fz (.lst (.cons (.k (.str "absent")) (.cons (.k (.str "pick")) (.cons (.k (.str "overruns")) .nil))))) .nil)))) (.cp (.s 0)))) (.cons (.set (.nm 6) (.fz (.sl (.cp (.s 3)) (.yes (.bi .len (.cp (.s 5)))) .no))) (.cons (.ifs (.oo (.e (.cmp .ne (.sl (.cp (.s 3)) .no (.yes (.bi .len (.cp (.s 5))))) (.cp (.s 5)))) (.e (.cmp .ne (.cp (.s 6)) (.bin .mul (.ix (.lst (.cons (.fz (.lst (.cons (.k (.str "pick")) .nil))) (.cons (.fz (.lst (.cons (.k (.str "answer")) .nil))) (.cons (.fz (.lst (.cons (.k (.str "")) .nil))) .nil)))) (.cp (.s 0))) (.bi .len (.cp (.s 6))))))) (.cons (.ret (.k .non)) .nil) .nil) (.cons (.ifs (.e (.cmp .eq (.cp (.s 0)) (.k (.int 2)))) (.cons (.ifs (.e (.cmp .gt (.bi .len (.cp (.s 6))) (.k (.int 0)))) (.cons (.ret (.k .non)) .nil) .nil) (.cons (.ret (.bi .tuple (.cp (.s 4)))) .nil)) .nil) (.cons (.ifs (.oo (.e (.cmp .lt (.bi .len (.ix (.cp (.s 4)) (.k (.int 0)))) (.k (.int 3)))) (.an (.e (.cmp .eq (.cp (.s 0)) (.k (.int 1)))) (.e (.cmp .ne (.bi .len (.ix (.cp (.s 4)) (.k (.int 1)))) (.k (.int 1)))))) (.cons (.ret (.k .non)) .nil) .nil) (.cons (.set (.nm 7) (.bin .add (.sl (.ix (.cp (.s 4)) (.k (.int 0))) .no (.yes (.k (.int 3)))) (.tup (.cons (.fz (.sl (.ix (.cp (.s 4)) (.k (.int 0))) (.yes (.k (.int 3))) .no)) .nil)))) (.cons (.ifs (.e (.cmp .eq (.cp (.s 0)) (.k (.int 0)))) (.cons (.ret (.tup (.cons (.cp (.s 7)) (.cons (.bi .tuple (.sl (.cp (.s 4)) (.yes (.k (.int 1))) .no)) .nil)))) .nil) .nil) (.cons (.ret (.tup (.cons (.cp (.s 7)) (.cons (.ix (.ix (.cp (.s 4)) (.k (.int 1))) (.k (.int 0))) (.cons (.ix (.cp (.s 4)) (.k (.int 2))) (.cons (.bi .tuple (.sl (.cp (.s 4)) (.yes (.k (.int 3))) .no)) .nil)))))) .nil))))))))))))
def RF_law_row_of : Rec := ⟨"_law_row_of", ⟨2, 9, [], F_law_row_of⟩, ⟨"_law_row_of", defArgs (top 54), defBody (top 54), defScope (top 54), ["kind", "line"], ["kind", "line", "parts", "names", "numbers", "first", "rest", "stand", "part"]⟩⟩
def B_law_read_0 : Ss := (.cons (.set (.nm 5) (.cal "_law_row_of" (.val (.cp (.s 0)) (.val (.ix (.cp (.s 2)) (.cp (.s 4))) .nil)))) (.cons (.ifs (.e (.cmp .isn (.cp (.s 5)) (.k .non))) (.cons (.ret (.tup (.cons (.bin .add (.cp (.s 4)) (.k (.int 1))) (.cons (.k (.int 1)) .nil)))) .nil) .nil) (.cons (.app 3 (.cp (.s 5))) .nil)))
def F_law_read : Ss := (.cons (.set (.nm 2) (.fz (.me .split (.cp (.s 1)) (.k (.str "\n"))))) (.cons (.set (.nm 3) (.lst .nil)) (.cons (.fors (.nm 4) (.rng (.bin .sub (.bi .len (.cp (.s 2))) (.k (.int 1)))) B_law_read_0) (.cons (.ifs (.e (.cmp .ne (.ix (.cp (.s 2)) (.neg (.k (.int 1)))) (.k (.str "")))) (.cons (.ret (.tup (.cons (.bi .len (.cp (.s 2))) (.cons (.k (.int 1)) .nil)))) .nil) .nil) (.cons (.ret (.tup (.cons (.k (.str "read")) (.cons (.bi .tuple (.s 3)) .nil)))) .nil)))))
def RF_law_read : Rec := ⟨"_law_read", ⟨2, 6, [], F_law_read⟩, ⟨"_law_read", defArgs (top 55), defBody (top 55), defScope (top 55), ["kind", "text"], ["kind", "text", "lines", "rows", "k", "row"]⟩⟩
def F_law_told : Ss := (.cons (.tra (.cons (.ifs (.e (.cmp .eq (.cp (.s 0)) (.k (.int 0)))) (.cons (.ret (.tup (.cons (.k (.str "read")) (.cons (.cal "read_holding" (.val (.cp (.s 1)) .nil)) .nil)))) .nil) .nil) (.cons (.ifs (.e (.cmp .eq (.cp (.s 0)) (.k (.int 1)))) (.cons (.ret (.tup (.cons (.k (.str "read")) (.cons (.cal "read_falling" (.val (.cp (.s 1)) .nil)) .nil)))) .nil) .nil) (.cons (.ret (.tup (.cons (.k (.str "read")) (.cons (.cal "read_course" (.val (.cp (.s 1)) .nil)) .nil)))) .nil))) "BadText" 2 (.cons (.ifs (.e (.cmp .ne (.cal "_law_which" (.val (.cp (.s 2)) .nil)) (.lst (.cons (.k (.str "BadText")) (.cons (.k (.str "ValueError")) .nil))))) (.cons (.ret (.k .non)) .nil) .nil) (.cons (.ret (.tup (.cons (.xf 2 "line") (.cons (.xf 2 "column") .nil)))) .nil))) .nil)
def RF_law_told : Rec := ⟨"_law_told", ⟨2, 3, [], F_law_told⟩, ⟨"_law_told", defArgs (top 56), defBody (top 56), defScope (top 56), ["kind", "text"], ["kind", "text", "e"]⟩⟩
def F_law_written_by : Ss := (.cons (.ifs (.e (.cmp .eq (.cp (.s 0)) (.k (.int 0)))) (.cons (.ret (.cal "write_holding" (.val (.cp (.s 1)) .nil))) .nil) .nil) (.cons (.ifs (.e (.cmp .eq (.cp (.s 0)) (.k (.int 1)))) (.cons (.ret (.cal "write_falling" (.val (.cp (.s 1)) .nil))) .nil) .nil) (.cons (.ret (.cal "write_course" (.val (.cp (.s 1)) .nil))) .nil)))
def RF_law_written_by : Rec := ⟨"_law_written_by", ⟨2, 2, [], F_law_written_by⟩, ⟨"_law_written_by", defArgs (top 57), defBody (top 57), defScope (top 57), ["kind", "rows"], ["kind", "rows"]⟩⟩
def F_law_one_sign : Ss := (.cons (.set (.nm 3) (.k (.str " !\"#$&'()*+,-./0123456789:;<=>?@ABCDEFGHIJKLMNOPQRSTUVWXYZ[\\]^_`abcdefghijklmnopqrstuvwxyz{|}~\t"))) (.cons (.set (.nm 4) (.ix (.cp (.s 3)) (.cal "_law_take" (.io 0 (.val (.bi .len (.cp (.s 3))) .nil))))) (.cons (.ifs (.e (.cmp .eq (.cal "_law_take" (.io 0 (.val (.k (.int 2)) .nil))) (.k (.int 0)))) (.cons (.set (.nm 4) (.ix (.lst (.cons (.k (.str "\t")) (.cons (.k (.str "-")) (.cons (.k (.str "0")) (.cons (.k (.str ",")) (.cons (.k (.str "\t")) (.cons (.k (.str "  ")) .nil))))))) (.cal "_law_take" (.io 0 (.val (.k (.int 6)) .nil))))) .nil) .nil) (.cons (.ret (.bin .add (.bin .add (.sl (.cp (.s 1)) .no (.yes (.cp (.s 2)))) (.ix (.lst (.cons (.cp (.s 4)) (.cons (.k (.str "")) (.cons (.fz (.bin .add (.cp (.s 4)) (.sl (.cp (.s 1)) (.yes (.cp (.s 2))) (.yes (.bin .add (.cp (.s 2)) (.k (.int 1))))))) .nil)))) (.cal "_law_take" (.io 0 (.val (.k (.int 3)) .nil))))) (.sl (.cp (.s 1)) (.yes (.bin .add (.cp (.s 2)) (.k (.int 1)))) .no))) .nil))))
def RF_law_one_sign : Rec := ⟨"_law_one_sign", ⟨3, 5, [0], F_law_one_sign⟩, ⟨"_law_one_sign", defArgs (top 58), defBody (top 58), defScope (top 58), ["draws", "line", "at"], ["draws", "line", "at", "signs", "sign"]⟩⟩
def F_law_signed : Ss := (.cons (.set (.nm 2) (.cal "_law_take" (.io 0 (.val (.bi .len (.cp (.s 1))) .nil)))) (.cons (.set (.nm 3) (.fz (.me .split (.ix (.cp (.s 1)) (.cp (.s 2))) (.k (.str " "))))) (.cons (.set (.nm 4) (.fz (.lst (.cons (.bi .len (.me .join (.k (.str " ")) (.sl (.cp (.s 3)) .no (.yes (.bin .add (.k (.int 1)) (.cal "_law_take" (.io 0 (.val (.bi .len (.cp (.s 3))) .nil)))))))) (.cons (.cal "_law_take" (.io 0 (.val (.bin .add (.bi .len (.ix (.cp (.s 1)) (.cp (.s 2)))) (.k (.int 1))) .nil))) .nil))))) (.cons (.set (.nm 5) (.fz (.cal "_law_one_sign" (.io 0 (.val (.ix (.cp (.s 1)) (.cp (.s 2))) (.val (.ix (.cp (.s 4)) (.cal "_law_take" (.io 0 (.val (.k (.int 2)) .nil)))) .nil)))))) (.cons (.ret (.bin .add (.bin .add (.sl (.cp (.s 1)) .no (.yes (.cp (.s 2)))) (.lst (.cons (.cp (.s 5)) .nil))) (.sl (.cp (.s 1)) (.yes (.bin .add (.cp (.s 2)) (.k (.int 1)))) .no))) .nil)))))
def RF_law_signed : Rec := ⟨"_law_signed", ⟨2, 6, [0], F_law_signed⟩, ⟨"_law_signed", defArgs (top 59), defBody (top 59), defScope (top 59), ["draws", "lines"], ["draws", "lines", "at", "words", "places", "changed"]⟩⟩
def F_law_bad_line : Ss := (.cons (.set (.nm 2) (.fz (.me .split (.cp (.s 1)) (.k (.str " "))))) (.cons (.set (.nm 3) (.cal "_law_take" (.io 0 (.val (.bin .add (.bi .len (.cp (.s 2))) (.k (.int 1))) .nil)))) (.cons (.set (.nm 4) (.fz (.lst (.cons (.k (.str "00")) (.cons (.k (.str "-0")) (.cons (.k (.str "07")) (.cons (.k (.str "+1")) (.cons (.k (.str "")) (.cons (.k (.str "x")) (.cons (.bin .mul (.k (.str "1")) (.k (.int 61))) (.cons (.bin .add (.k (.str "-")) (.bin .mul (.k (.str "9")) (.k (.int 60)))) (.cons (.k (.str "0")) (.cons (.k (.str "\t")) (.cons (.k (.str "-")) (.cons (.k (.str "1_0")) (.cons (.k (.str "5")) (.cons (.k (.str "-07")) (.cons (.k (.str "-00")) (.cons (.k (.str "--5")) .nil))))))))))))))))))) (.cons (.set (.nm 4) (.fz (.bin .add (.cp (.s 4)) (.lst (.cons (.k (.str "stand")) (.cons (.k (.str "rank")) (.cons (.k (.str "absent")) (.cons (.k (.str "answer")) (.cons (.k (.str "pick")) (.cons (.k (.str "overruns")) (.cons (.k (.str "picks")) (.cons (.k (.str "Stand")) .nil)))))))))))) (.cons (.set (.nm 5) (.ix (.cp (.s 4)) (.cal "_law_take" (.io 0 (.val (.bi .len (.cp (.s 4))) .nil))))) (.cons (.set (.nm 6) (.cal "_law_take" (.io 0 (.val (.k (.int 6)) .nil)))) (.cons (.ifs (.e (.cmp .eq (.cp (.s 6)) (.k (.int 0)))) (.cons (.ret (.me .join (.k (.str " ")) (.bin .add (.sl (.cp (.s 2)) .no (.yes (.cp (.s 3)))) (.sl (.cp (.s 2)) (.yes (.bin .add (.cp (.s 3)) (.k (.int 1)))) .no)))) .nil) .nil) (.cons (.ifs (.e (.cmp .eq (.cp (.s 6)) (.k (.int 1)))) (.cons (.ret (.ix (.lst (.cons (.bin .add (.k (.str " ")) (.cp (.s 1))) (.cons (.bin .add (.cp (.s 1)) (.k (.str " "))) (.cons (.rpl (.cp (.s 1)) " " "  ") (.cons (.k (.str "")) (.cons (.bin .add (.cp (.s 1)) (.k (.str "\t"))) (.cons (.bin .add (.bin .add (.cp (.s 1)) (.k (.str " "))) (.cp (.s 1))) .nil))))))) (.bin .mod (.bi .int (.cp (.s 3))) (.k (.int 6))))) .nil) .nil) (.cons (.ifs (.e (.cmp .lt (.cp (.s 6)) (.k (.int 4)))) (.cons (.ret (.me .join (.k (.str " ")) (.bin .add (.bin .add (.sl (.cp (.s 2)) .no (.yes (.cp (.s 3)))) (.lst (.cons (.cp (.s 5)) .nil))) (.sl (.cp (.s 2)) (.yes (.cp (.s 3))) .no)))) .nil) .nil) (.cons (.ret (.me .join (.k (.str " ")) (.bin .add (.bin .add (.sl (.cp (.s 2)) .no (.yes (.cp (.s 3)))) (.lst (.cons (.cp (.s 5)) .nil))) (.sl (.cp (.s 2)) (.yes (.bin .add (.cp (.s 3)) (.k (.int 1)))) .no)))) .nil))))))))))
def RF_law_bad_line : Rec := ⟨"_law_bad_line", ⟨2, 7, [0], F_law_bad_line⟩, ⟨"_law_bad_line", defArgs (top 60), defBody (top 60), defScope (top 60), ["draws", "line"], ["draws", "line", "words", "at", "more", "word", "kind"]⟩⟩
def F_law_changed : Ss := (.cons (.set (.nm 2) (.cal "_law_take" (.io 0 (.val (.bin .add (.bi .len (.cp (.s 1))) (.k (.int 1))) .nil)))) (.cons (.set (.nm 3) (.cal "_law_take" (.io 0 (.val (.k (.int 7)) .nil)))) (.cons (.ifs (.e (.cmp .eq (.cp (.s 2)) (.bi .len (.cp (.s 1))))) (.cons (.set (.nm 4) (.fz (.lst (.cons (.k (.str "")) (.cons (.k (.str "stand")) (.cons (.k (.str "stand 0 0 0")) (.cons (.k (.str "absent pick overruns")) (.cons (.k (.str "stand 0 0 0 rank 1 absent")) .nil)))))))) (.cons (.ret (.bin .add (.cp (.s 1)) (.lst (.cons (.ix (.cp (.s 4)) (.bin .mod (.bi .int (.cp (.s 3))) (.k (.int 5)))) .nil)))) .nil)) .nil) (.cons (.ifs (.e (.cmp .eq (.cp (.s 3)) (.k (.int 0)))) (.cons (.ret (.bin .add (.sl (.cp (.s 1)) .no (.yes (.cp (.s 2)))) (.sl (.cp (.s 1)) (.yes (.bin .add (.cp (.s 2)) (.k (.int 1)))) .no))) .nil) .nil) (.cons (.ifs (.e (.cmp .eq (.cp (.s 3)) (.k (.int 1)))) (.cons (.ret (.bin .add (.bin .add (.sl (.cp (.s 1)) .no (.yes (.cp (.s 2)))) (.lst (.cons (.ix (.cp (.s 1)) (.k (.int 0))) .nil))) (.sl (.cp (.s 1)) (.yes (.cp (.s 2))) .no))) .nil) .nil) (.cons (.ret (.bin .add (.bin .add (.sl (.cp (.s 1)) .no (.yes (.cp (.s 2)))) (.lst (.cons (.cal "_law_bad_line" (.io 0 (.val (.ix (.cp (.s 1)) (.cp (.s 2))) .nil))) .nil))) (.sl (.cp (.s 1)) (.yes (.bin .add (.cp (.s 2)) (.k (.int 1)))) .no))) .nil))))))
def RF_law_changed : Rec := ⟨"_law_changed", ⟨2, 5, [0], F_law_changed⟩, ⟨"_law_changed", defArgs (top 61), defBody (top 61), defScope (top 61), ["draws", "lines"], ["draws", "lines", "at", "kind", "last"]⟩⟩
def B_law_0 : Ss := (.cons (.ifs (.no (.e (.cal "_law_same" (.val (.cal "_law_told" (.val (.cp (.s 12)) (.val (.cp (.s 6)) .nil))) (.val (.cal "_law_read" (.val (.cp (.s 12)) (.val (.cp (.s 6)) .nil))) .nil))))) (.cons (.ret (.k (.bl false))) .nil) .nil) .nil)
def B_law_1 : Ss := (.cons (.ifs (.no (.e (.cal "_law_same" (.val (.cal "_law_told" (.val (.cp (.s 3)) (.val (.cp (.s 11)) .nil))) (.val (.cal "_law_read" (.val (.cp (.s 3)) (.val (.cp (.s 11)) .nil))) .nil))))) (.cons (.ret (.k (.bl false))) .nil) .nil) .nil)
def C_law_2 : E := (.cmpr (.bin .add (.cp (.s 16)) (.k (.str "\n"))) (.nm 16) (.it (.cp (.s 15))) .no [("line", 16)])
def C_law_3 : E := (.cmpr (.me .join (.k (.str "")) C_law_2) (.nm 15) (.it (.lst (.cons (.cp (.s 7)) (.cons (.cp (.s 8)) (.cons (.cp (.s 9)) .nil))))) .no [("some", 15)])
def C_law_4 : E := (.cmpr (.bin .add (.cp (.s 16)) (.k (.str "\n"))) (.nm 16) (.it (.cp (.s 5))) .no [("line", 16)])
def C_law_5 : E := (.cmpr (.bi .len (.cp (.s 16))) (.nm 16) (.it (.cp (.s 5))) .no [("line", 16)])
def C_law_6 : E := (.cmpr (.cal "_law_line" (.val (.cp (.s 3)) (.val (.cp (.s 14)) .nil))) (.nm 14) (.it (.vf 4)) .no [("row", 14)])
def C_law_7 : E := (.cmpr (.cal "_law_row" (.val (.cp (.s 0)) (.io 1 (.val (.cp (.s 3)) .nil)))) (.nm 13) (.rng (.cal "_law_take" (.io 2 (.val (.k (.int 6)) .nil)))) .no [("k", 13)])
def F_law : Ss := (.cons (.set (.nm 1) (.cal "_law_draws" (.val (.cp (.s 0)) (.val (.k (.int 460)) .nil)))) (.cons (.set (.nm 2) (.sl (.s 1) .no (.yes (.k (.int 80))))) (.cons (.set (.nm 3) (.cal "_law_take" (.io 2 (.val (.k (.int 3)) .nil)))) (.cons (.asgc 4 false C_law_7) (.cons (.ifs (.e (.cmp .eq (.cal "_law_take" (.io 2 (.val (.k (.int 6)) .nil))) (.k (.int 2)))) (.cons (.app 4 (.cal "_law_long_row" (.io 2 (.val (.cp (.s 3)) .nil)))) .nil) .nil) (.cons (.asgc 5 true C_law_6) (.cons (.ifs (.an (.e (.cmp .eq (.cal "_law_take" (.io 2 (.val (.k (.int 6)) .nil))) (.k (.int 3)))) (.e (.cmp .lt (.bi .sum C_law_5) (.k (.int 1000))))) (.cons (.set (.nm 4) (.bin .mul (.s 4) (.k (.int 12)))) (.cons (.set (.nm 5) (.fz (.bin .mul (.cp (.s 5)) (.k (.int 12))))) .nil)) .nil) (.cons (.set (.nm 6) (.me .join (.k (.str "")) C_law_4)) (.cons (.ifs (.no (.e (.cal "_law_same" (.val (.cal "_law_written_by" (.val (.cp (.s 3)) (.val (.bi .tuple (.s 4)) .nil))) (.val (.cp (.s 6)) .nil))))) (.cons (.ret (.k (.bl false))) .nil) .nil) (.cons (.ifs (.no (.e (.cal "_law_same" (.val (.cal "_law_told" (.val (.cp (.s 3)) (.val (.cp (.s 6)) .nil))) (.val (.tup (.cons (.k (.str "read")) (.cons (.bi .tuple (.s 4)) .nil))) .nil))))) (.cons (.ret (.k (.bl false))) .nil) .nil) (.cons (.set (.nm 7) (.fz (.cal "_law_changed" (.io 2 (.val (.cp (.s 5)) .nil))))) (.cons (.set (.nm 8) (.fz (.cal "_law_changed" (.io 2 (.val (.cp (.s 7)) .nil))))) (.cons (.set (.nm 9) (.fz (.cal "_law_signed" (.io 2 (.val (.fz (.bin .add (.cp (.s 5)) (.bin .mul (.lst (.cons (.k (.str "stand 0 0 0")) .nil)) (.bi .int (.cmp .eq (.bi .len (.cp (.s 5))) (.k (.int 0))))))) .nil))))) (.cons (.asgc 10 true C_law_3) (.cons (.fors (.nm 11) (.it (.bin .add (.cp (.s 10)) (.lst (.cons (.sl (.cp (.s 6)) .no (.yes (.neg (.k (.int 1))))) (.cons (.fz (.sl (.ix (.cp (.s 10)) (.k (.int 0))) .no (.yes (.neg (.k (.int 1)))))) (.cons (.bin .add (.cp (.s 6)) (.k (.str "\n"))) (.cons (.k (.str "")) (.cons (.bin .add (.k (.str "\n")) (.cp (.s 6))) .nil)))))))) B_law_1) (.cons (.fors (.nm 12) (.rng (.k (.int 3))) B_law_0) (.cons (.ret (.k (.bl true))) .nil)))))))))))))))))
def RF_law : Rec := ⟨"law", ⟨1, 17, [], F_law⟩, ⟨"law", defArgs (top 62), defBody (top 62), defScope (top 62), ["script"], ["script", "draws", "drawn", "kind", "rows", "lines", "text", "once", "twice", "signed", "texts", "tried", "other", "k", "row", "some", "line"]⟩⟩
def ioL : List (Str × List Nat) := [("_law_take", [0]), ("_law_any_number", [1]), ("_law_some_numbers", [1]), ("_law_tuples", [1]), ("_law_row", [1]), ("_law_long_row", [0]), ("_law_one_sign", [0]), ("_law_signed", [0]), ("_law_bad_line", [0]), ("_law_changed", [0])]
def globL : List (Str × D) := [("DIGITS", .str "0123456789"), ("MOST_DIGITS", .int 60), ("holding_row", .fn "holding_row"), ("falling_row", .fn "falling_row"), ("course_row", .fn "course_row")]
def exsL : List Str := ["ShiftError", "InvalidFeast", "InvalidZone", "NoTime", "InvalidBook", "InvalidRow", "InvalidRule", "InvalidHouse", "BadText", "NoPerson", "NotHeld", "NotKept", "NothingToUndo", "NothingToRedo"]
def subL : List (Str × List Str) := [("ShiftError", ["ShiftError", "ValueError"]), ("InvalidFeast", ["ShiftError", "InvalidFeast", "ValueError"]), ("InvalidZone", ["ShiftError", "InvalidZone", "ValueError"]), ("NoTime", ["ShiftError", "NoTime", "ValueError"]), ("InvalidBook", ["ShiftError", "InvalidBook", "ValueError"]), ("InvalidRow", ["ShiftError", "InvalidRow", "ValueError"]), ("InvalidRule", ["ShiftError", "InvalidRule", "ValueError"]), ("InvalidHouse", ["ShiftError", "InvalidHouse", "ValueError"]), ("BadText", ["ShiftError", "BadText", "ValueError"]), ("NoPerson", ["ShiftError", "NoPerson", "ValueError"]), ("NotHeld", ["ShiftError", "NotHeld", "ValueError"]), ("NotKept", ["ShiftError", "NotKept", "ValueError"]), ("NothingToUndo", ["ShiftError", "NothingToUndo", "ValueError"]), ("NothingToRedo", ["ShiftError", "NothingToRedo", "ValueError"])]
def hotL : List Str := ["_law_which"]
def btS : Stmt := match top 9 with
  | .ClassDef _ _ _ body _ _ _ _ _ _ _ => body.getD 0 (.Pass ⟨0, 0, 0, 0⟩)
  | _ => .Pass ⟨0, 0, 0, 0⟩
def Tk : Tab where
  recs := [RF_run_end, RF_is_integer, RF_lines_of, RF_sections_of, RF_written, RF_rows_of_text, RF_stand_words, RF_text_of, RF_write_holding, RF_write_falling, RF_write_course, RF_are_named, RF_stand_of_words, RF_holding_row, RF_falling_row, RF_course_row, RF_read_holding, RF_read_falling, RF_read_course, RF_law_draws, RF_law_take, RF_law_cell, RF_law_same, RF_law_which, RF_law_number, RF_law_any_number, RF_law_some_numbers, RF_law_tuples, RF_law_row, RF_law_long_row, RF_law_part, RF_law_line, RF_law_sections, RF_law_row_of, RF_law_read, RF_law_told, RF_law_written_by, RF_law_one_sign, RF_law_signed, RF_law_bad_line, RF_law_changed, RF_law]
  globs := globL
  ios := ioL
  hots := hotL
  subs := subL
  exs := exsL
  ini := ⟨"BadText.__init__", defArgs btS, defBody btS, defScope btS, ["self", "line", "column"], ["self", "line", "column"]⟩
end K96
set_option maxRecDepth 100000
set_option maxHeartbeats 0
namespace K96
open PySem PySem.Spec PyProof.Rows L2 PI
def loose0 : List PySem.Str := ["__name__", "ShiftError", "InvalidFeast", "InvalidZone", "NoTime", "InvalidBook", "InvalidRow", "InvalidRule", "InvalidHouse", "BadText", "NoPerson", "NotHeld", "NotKept", "NothingToUndo", "NothingToRedo", "DIGITS", "MOST_DIGITS", "run_end", "is_integer", "lines_of", "sections_of", "written", "rows_of_text", "stand_words", "text_of", "write_holding", "write_falling", "write_course", "are_named", "stand_of_words"]
def loose1 : List PySem.Str := ["holding_row", "falling_row", "course_row", "read_holding", "read_falling", "read_course", "_law_draws", "_law_take", "_law_cell", "_law_same", "_law_which", "_law_number", "_law_any_number", "_law_some_numbers", "_law_tuples", "_law_row", "_law_long_row", "_law_part", "_law_line", "_law_sections", "_law_row_of", "_law_read", "_law_told", "_law_written_by", "_law_one_sign", "_law_signed", "_law_bad_line", "_law_changed"]
def looseL : List PySem.Str := loose0 ++ loose1
def lawAt : Nat := 62

abbrev R : PySem.W.OpenRow := PySem.W.OpenLaw.row PySem.Challenge.rw_shiftshold_k96_texts_of_papers
abbrev hk : PySem.W.Hook := hookP 5 Tk.cb [] Tk.fn
def ob (s : PySem.W.SharedT) : Bool × He.AlD := obP 5 Tk.cb [] Tk.fn (HandSHeadRun.getT s)
theorem ob_eq (s : PySem.W.SharedT) : ob s = hk.obs s.abs := obP_eq (HandSHeadRun.getT_eq s)
theorem run (w : World) : HandSHeadRun.RunEq R (PySem.W.view R.prog [lawAt]) hk ob 6000 looseL w := by
  intro os
  kernel_rfl
end K96
set_option maxRecDepth 100000
set_option maxHeartbeats 4000000
/-! PI4: the operations on values give what they give on pure data. -/
namespace PI
open PySem PySem.Spec PyProof.Rows L2

/-- a value's place: pure data -/
abbrev RD (C : RC) (B : Addr → Prop) : Rp D V := fun H F d v fq => Rep C H F B d v fq
abbrev RDs (C : RC) (B : Addr → Prop) : Rp (List D) (List V) := fun H F d v fq => Reps C H F B d v fq
abbrev RT : Rp D Bool := fun _ _ d b fq => d = .bl b ∧ fq = []

section
variable {C : RC} {H : Hp} {F B : Addr → Prop}
theorem LstAt.sq {m : Md} {a : Addr} {vs : List V} (h : LstAt C H F B m a vs) : SqL C.K H a vs := by
  cases m with
  | own => exact .inl (.inl h)
  | frz => exact .inl (.inl h.1)
  | bor => exact .inl (.inl h.1)
  | ro =>
    rcases h with ⟨o, h⟩ | h
    · exact .inl (.inr ⟨o, h⟩)
    · exact h H
theorem LstAt.plain {m : Md} {a : Addr} {vs : List V} (h : LstAt C H F B m a vs) (hm : (m != .ro) = true) : H a = some (.lst vs) := by
  cases m with
  | own => exact h
  | frz => exact h.1
  | bor => exact h.1
  | ro => cases hm
theorem TupAt.sq {a : Addr} {vs : List V} (h : TupAt C H a vs) : SqT C.K H a vs := by
  rcases h with h | h
  · exact .inl (.inl h)
  · exact h H
end
theorem szl_ok {n : Nat} (h : szl n = true) : n ≤ sizeLine := by
  have q := of_decide_eq_true h
  rw [sizeLine_eq]
  exact q
theorem szl16 {n : Nat} (h : szl n = true) : n ≤ 16777216 := of_decide_eq_true h
theorem szlt_ok {n : Nat} (h : szlt n = true) : n < sizeLine := by
  have q := of_decide_eq_true h
  rw [sizeLine_eq]
  exact q

theorem OpR.imp {X : Cx} {f : Value → Value → Sem Value} {r r' : R2} (h : OpR X f r) (k : ∀ x y H Q, r' x y H Q → r x y H Q) : OpR X f r' := by
  intro pins s σ H x y v u Q I rx ry q
  exact h pins s σ H x y v u Q I rx ry (k x y H Q q)
theorem OpR.no {X : Cx} {f : Value → Value → Sem Value} : OpR X f (fun _ _ _ _ => False) := by
  intro pins s σ H x y v u Q I rx ry q
  exact q.elim

/-! ### + - * // % ** -/
def asB : Bop → Operator
  | .add => .Add
  | .sub => .Sub
  | .mul => .Mult
  | .fdiv => .FloorDiv
  | .mod => .Mod
  | .pow => .Pow
abbrev rAddS : R2 := fun x y H Q => ∃ i j, x = .str i ∧ y = .str j ∧ i.length + j.length ≤ sizeLine ∧ Q (.str (i ++ j)) H
abbrev rSMul : R2 := fun x y H Q => ∃ (a : Str) (k : Int), x = .str a ∧ y = .int k ∧ 1 < k ∧ a.length ≠ 0 ∧ a.length * k.toNat ≤ 16777216 ∧ Q (.str (strRep a k.toNat)) H
theorem strRep_len (a : Str) (n : Nat) : (strRep a n).length = a.length * n := by
  have key : ∀ (n : Nat) (acc : Array Nat), ((List.replicate n a.cps).foldl (· ++ ·) acc).size = acc.size + a.cps.size * n := by
    intro n
    induction n with
    | zero => intro acc; simp
    | succ n ih =>
      intro acc
      rw [List.replicate_succ, List.foldl_cons, ih, Array.size_append, Nat.mul_succ]
      omega
  show ((List.replicate n a.cps).foldl (· ++ ·) #[]).size = a.cps.size * n
  rw [key]
  simp
theorem op_smul {X : Cx} : OpR X (binaryOp .Mult) rSMul := by
  intro pins s σ H x y v u Q I rx ry h
  obtain ⟨a, k, rfl, rfl, h1, h2, h3, q⟩ := h
  obtain ⟨t, rfl⟩ := rx
  obtain ⟨t', rfl⟩ := ry
  have hpos : 0 < a.length := Nat.pos_of_ne_zero h2
  have hk : k.toNat ≤ 16777216 := Nat.le_trans (Nat.le_mul_of_pos_left _ hpos) h3
  have hk2 : k ≤ 16777216 := by omega
  have e1 : decide (k < -(2 ^ 63 : Int)) = false := decide_eq_false (by omega)
  have e2 : decide (k ≥ 2 ^ 63) = false := decide_eq_false (by omega)
  have hn : ¬ k < 1 := by omega
  have hz : (k == 1 || a.length == 0) = false := by
    rw [Bool.or_eq_false_iff]
    exact ⟨by simp; omega, by simpa using h2⟩
  have hmul : (a.length : Int) * k ≤ 16777216 := by
    have e : ((a.length * k.toNat : Nat) : Int) = (a.length : Int) * k := by
      rw [Int.natCast_mul, Int.toNat_of_nonneg (by omega)]
    rw [← e]
    exact Int.ofNat_le.mpr h3
  refine PySem.P.mul_str (by rw [e1, e2] <;> rfl) (fun _ _ hgt => ?_) (fun _ _ => ?_) ?_
  · have hd : (a.length : Int) ≤ (2 ^ 63 - 1) / k := (Int.le_ediv_iff_mul_le (by omega)).mpr (by omega)
    omega
  · show decide (a.length * k.toNat > sizeLine) = false
    rw [sizeLine_eq]
    exact decide_eq_false (by omega)
  · rw [if_neg hn, hz, if_neg Bool.false_ne_true]
    refine ⟨?_, .str (strRep a k.toNat), H, I.tok _, ⟨_, rfl⟩, q⟩
    have e := strRep_len a k.toNat
    show (strRep a k.toNat).length ≤ sizeLine
    rw [e, sizeLine_eq]
    exact h3
def rB (K : PySem.W.Frag) : Bop → R2
  | .add => fun x y H Q => rI0 (fun i j => .int (i + j)) x y H Q ∨ (rAddS x y H Q ∨ (rCatA K x y H Q ∨ rCat x y H Q))
  | .sub => rI0 fun i j => .int (i - j)
  | .mul => fun x y H Q => rI CMul (fun i j => .int (i * j)) x y H Q ∨ (rSMul x y H Q ∨ rRep x y H Q)
  | .fdiv => rI CDivN fun i j => .int (i.fdiv j)
  | .mod => rI (fun _ j => j ≠ 0) fun i j => .int (i.fmod j)
  | .pow => rI CPow fun i j => .int (i ^ j.toNat)
theorem opB (X : Cx) : ∀ o : Bop, OpR X (binaryOp (asB o)) (rB X.K o)
  | .add => op_add.or (op_add_str.or (op_catA.or op_cat))
  | .sub => op_sub
  | .mul => op_mul.or (op_smul.or op_rep)
  | .fdiv => op_fdivN
  | .mod => op_modN
  | .pow => op_pow

section
variable {C : RC} {B : Addr → Prop} {W : WX} {p iv : Bool} {s : L2.St} {Q : VK} {H : Hp} {F : Addr → Prop} {fp gp : List Addr} {r : Rho}

/-- a number, a text .. -/
theorem goal_val {d : D} {v : V} (g : Goal C B W (RD C B) p iv s Q H F gp (.ok d r)) (S : Sd C B H F r s fp) (hs : ∀ a ∈ fp, a ∈ gp) (hr : Rep C H F B d v []) : Q v H := g.fin0 S hs hr
/-- a new list of parts that may be had twice -/
theorem goal_lst {ds : List D} {vs : List V} {fq : List Addr} (g : Goal C B W (RD C B) p iv s Q H F gp (.ok (.lst .own ds) r)) (S : Sd C B H F r s fp) (hs : ∀ a ∈ fp, a ∈ gp) (hr : Reps C H F B ds vs fq) (hi : iv = true → Fly F B fp fq) (hq : ∀ a ∈ fq, a ∈ gp) {q : Addr} (hn : H q = none) : Q (.ref q) (upd H q (.lst vs)) := by
  have nq : ∀ x ∈ fq, x ≠ q := fun x hx e => by
    rw [e] at hx
    exact hr.there q hx hn
  have hr2 : Reps C (upd H q (.lst vs)) F B ds vs fq := S.carrys (pu := true) (f1 := fp) ((Stp.new1 hn).less fun x hx => List.mem_cons_of_mem _ hx) hr (.inl rfl)
  have fr := S.fresh hn
  refine h_laid g S hs hn ⟨q, vs, fq, rfl, upd_same, hr2, rfl⟩ (fun z => ?_) fun x hx => ?_
  · have k := hi z
    have nd := List.nodup_append.mp k.nd
    refine ⟨List.nodup_append.mpr ⟨nd.1, List.nodup_cons.mpr ⟨fun hm => nq q hm rfl, nd.2.1⟩, fun x hx y hy e => ?_⟩, fun x hx => ?_, fun x hx => ?_⟩
    · subst e
      rcases List.mem_cons.mp hy with e | hy
      · rw [e] at hx
        exact fr.1 hx
      · exact nd.2.2 x hx x hy rfl
    · rcases List.mem_cons.mp hx with e | hx
      · rw [e]
        exact fr.2.1
      · exact k.nF x hx
    · rcases List.mem_cons.mp hx with e | hx
      · rw [e]
        exact fr.2.2
      · exact k.nB x hx
  · rcases List.mem_cons.mp hx with e | hx
    · exact .inl e
    · exact .inr (hq x hx)
where
  h_laid {C : RC} {B : Addr → Prop} {W : WX} {p iv : Bool} {s : L2.St} {Q : VK} {H : Hp} {F : Addr → Prop} {fp gp : List Addr} {r : Rho} {d : D} {v : V} {fq : List Addr} {q : Addr} {o : HO} (h : Goal C B W (RD C B) p iv s Q H F gp (.ok d r)) (S : Sd C B H F r s fp) (hs : ∀ a ∈ fp, a ∈ gp) (hp : H q = none) (hr : Rep C (upd H q o) F B d v fq) (hi : iv = true → Fly F B fp fq) (hq : ∀ a ∈ fq, a = q ∨ a ∈ gp) : Q v (upd H q o) := h.laid S hs hp hr hi hq
/-- a new tuple -/
theorem goal_tup {ds : List D} {vs : List V} {fq : List Addr} (g : Goal C B W (RD C B) p iv s Q H F gp (.ok (.tup ds) r)) (S : Sd C B H F r s fp) (hs : ∀ a ∈ fp, a ∈ gp) (hr : Reps C H F B ds vs fq) (hi : iv = true → Fly F B fp fq) (hq : ∀ a ∈ fq, a ∈ gp) {q : Addr} (hn : H q = none) : Q (.ref q) (upd H q (.tup vs)) := by
  have hr2 : Reps C (upd H q (.tup vs)) F B ds vs fq := S.carrys (pu := true) (f1 := fp) ((Stp.new1 hn).less fun x hx => List.mem_cons_of_mem _ hx) hr (.inl rfl)
  exact g.laid S hs hn ⟨q, vs, rfl, .inl upd_same, hr2⟩ hi fun x hx => .inr (hq x hx)
theorem goal_lst0 {ds : List D} {vs : List V} (g : Goal C B W (RD C B) p iv s Q H F gp (.ok (.lst .own ds) r)) (S : Sd C B H F r s fp) (hs : ∀ a ∈ fp, a ∈ gp) (hr : Reps C H F B ds vs []) {q : Addr} (hn : H q = none) : Q (.ref q) (upd H q (.lst vs)) :=
  goal_lst g S hs hr (fun _ => Fly.nil S.nd) (fun _ z => absurd z (by simp)) hn
theorem goal_tup0 {ds : List D} {vs : List V} (g : Goal C B W (RD C B) p iv s Q H F gp (.ok (.tup ds) r)) (S : Sd C B H F r s fp) (hs : ∀ a ∈ fp, a ∈ gp) (hr : Reps C H F B ds vs []) {q : Addr} (hn : H q = none) : Q (.ref q) (upd H q (.tup vs)) :=
  goal_tup g S hs hr (fun _ => Fly.nil S.nd) (fun _ z => absurd z (by simp)) hn
theorem Reps.copy0 {ds : List D} {vs : List V} {fq : List Addr} (h : Reps C H F B ds vs fq) (hc : copyables ds = true) : Reps C H F B ds vs [] := by
  have e := Reps.copy ds vs fq h hc
  rw [e] at h
  exact h
theorem Reps.nil_iff {ds : List D} {vs : List V} {fq : List Addr} (h : Reps C H F B ds vs fq) : vs = [] ↔ ds = [] := by
  have e := h.length
  constructor
  · intro q
    subst q
    exact List.eq_nil_of_length_eq_zero e
  · intro q
    subst q
    exact List.eq_nil_of_length_eq_zero e.symm
theorem copyables_append {a b : List D} : copyables (a ++ b) = (copyables a && copyables b) := by
  induction a with
  | nil => rfl
  | cons d a ih =>
    show (copyable d && copyables (a ++ b)) = ((copyable d && copyables a) && copyables b)
    rw [ih, Bool.and_assoc]
theorem and4 {a b c d : Bool} (h : ((a && b) && (c && d)) = true) : a = true ∧ b = true ∧ c = true ∧ d = true := by
  obtain ⟨h1, h2⟩ := Bool.and_eq_true_iff.mp h
  obtain ⟨h3, h4⟩ := Bool.and_eq_true_iff.mp h1
  obtain ⟨h5, h6⟩ := Bool.and_eq_true_iff.mp h2
  exact ⟨h3, h4, h5, h6⟩
theorem reps_flat {ds : List D} {vs : List V} (h : Reps C H F B ds vs []) : ∀ k : Nat, Reps C H F B (List.replicate k ds).flatten (List.replicate k vs).flatten []
  | 0 => ⟨rfl, rfl⟩
  | k + 1 => by
    rw [List.replicate_succ, List.replicate_succ, List.flatten_cons, List.flatten_cons]
    exact Reps.append (f := []) (g := []) h (reps_flat h k)
/-- o on two values -/
theorem bin_ok {o : Bop} {a b : D} {x y : V} {f1 f2 : List Addr} (g : Goal C B W (RD C B) p iv s Q H F gp (ofO (binD o a b) r)) (S : Sd C B H F r s fp) (hs : ∀ a ∈ fp, a ∈ gp) (h1 : Rep C H F B a x f1) (h2 : Rep C H F B b y f2) : rB C.K o x y H Q := by
  cases o with
  | add =>
    match a, b, h1, h2, g with
    | .int i, .int j, h1, h2, g => exact .inl ⟨i, j, h1.1, h2.1, goal_val g S hs ⟨rfl, rfl⟩⟩
    | .str i, .str j, h1, h2, g =>
      have g : Goal C B W (RD C B) p iv s Q H F gp (ofO (if szl (i.length + j.length) then some (.str (i ++ j)) else none) r) := g
      by_cases hz : szl (i.length + j.length) = true
      · rw [if_pos hz] at g
        exact .inr (.inl ⟨i, j, h1.1, h2.1, szl_ok hz, goal_val g S hs ⟨rfl, rfl⟩⟩)
      · rw [if_neg hz] at g
        exact False.elim g
    | .tup xs, .tup ys, h1, h2, g =>
      have g : Goal C B W (RD C B) p iv s Q H F gp (ofO (if szl (xs.length + ys.length) && (copyables xs && copyables ys) then some (.tup (xs ++ ys)) else none) r) := g
      by_cases hz : (szl (xs.length + ys.length) && (copyables xs && copyables ys)) = true
      · rw [if_pos hz] at g
        obtain ⟨z1, z2⟩ := Bool.and_eq_true_iff.mp hz
        obtain ⟨c1, c2⟩ := Bool.and_eq_true_iff.mp z2
        obtain ⟨l, us, rfl, t1, r1⟩ := h1
        obtain ⟨k, ws, rfl, t2, r2⟩ := h2
        have r1 := r1.copy0 c1
        have r2 := r2.copy0 c2
        refine .inr (.inr (.inl ⟨l, k, us, ws, rfl, rfl, t1.sq, t2.sq, by rw [← r1.length, ← r2.length]; exact szl_ok z1, fun e => ?_, fun _ e => ?_, fun _ _ q hq => ?_⟩))
        · have e2 := r1.nil_iff.mp e
          subst e2
          exact goal_val g S hs ⟨k, ws, rfl, t2, r2⟩
        · have e2 := r2.nil_iff.mp e
          subst e2
          rw [List.append_nil] at g
          exact goal_val g S hs ⟨l, us, rfl, t1, r1⟩
        · exact goal_tup0 g S hs (Reps.append (f := []) (g := []) r1 r2) hq
      · rw [if_neg hz] at g
        exact False.elim g
    | .lst m xs, .lst n ys, h1, h2, g =>
      have g : Goal C B W (RD C B) p iv s Q H F gp (ofO (if (m != .ro && n != .ro) && (szl (xs.length + ys.length) && (copyables xs && copyables ys)) then some (.lst .own (xs ++ ys)) else none) r) := g
      by_cases hz : ((m != .ro && n != .ro) && (szl (xs.length + ys.length) && (copyables xs && copyables ys))) = true
      · rw [if_pos hz] at g
        obtain ⟨m1, m2, z1, z2⟩ := and4 hz
        obtain ⟨c1, c2⟩ := Bool.and_eq_true_iff.mp z2
        obtain ⟨l, us, q1, rfl, t1, r1, _⟩ := h1
        obtain ⟨k, ws, q2, rfl, t2, r2, _⟩ := h2
        have r1 := r1.copy0 c1
        have r2 := r2.copy0 c2
        exact .inr (.inr (.inr ⟨l, k, us, ws, rfl, rfl, t1.plain m1, t2.plain m2, by rw [← r1.length, ← r2.length]; exact szl_ok z1, fun q hq => goal_lst0 g S hs (Reps.append (f := []) (g := []) r1 r2) hq⟩))
      · rw [if_neg hz] at g
        exact False.elim g
    | .non, _, _, _, g => exact False.elim g
    | .bl _, _, _, _, g => exact False.elim g
    | .fn _, _, _, _, g => exact False.elim g
    | .exc _ _, _, _, _, g => exact False.elim g
    | .dct _ _ _, _, _, _, g => exact False.elim g
    | .ins _ _ _ _, _, _, _, g => exact False.elim g
    | .int _, .non, _, _, g => exact False.elim g
    | .int _, .bl _, _, _, g => exact False.elim g
    | .int _, .str _, _, _, g => exact False.elim g
    | .int _, .fn _, _, _, g => exact False.elim g
    | .int _, .exc _ _, _, _, g => exact False.elim g
    | .int _, .tup _, _, _, g => exact False.elim g
    | .int _, .lst _ _, _, _, g => exact False.elim g
    | .int _, .dct _ _ _, _, _, g => exact False.elim g
    | .int _, .ins _ _ _ _, _, _, g => exact False.elim g
    | .str _, .non, _, _, g => exact False.elim g
    | .str _, .bl _, _, _, g => exact False.elim g
    | .str _, .int _, _, _, g => exact False.elim g
    | .str _, .fn _, _, _, g => exact False.elim g
    | .str _, .exc _ _, _, _, g => exact False.elim g
    | .str _, .tup _, _, _, g => exact False.elim g
    | .str _, .lst _ _, _, _, g => exact False.elim g
    | .str _, .dct _ _ _, _, _, g => exact False.elim g
    | .str _, .ins _ _ _ _, _, _, g => exact False.elim g
    | .tup _, .non, _, _, g => exact False.elim g
    | .tup _, .bl _, _, _, g => exact False.elim g
    | .tup _, .int _, _, _, g => exact False.elim g
    | .tup _, .str _, _, _, g => exact False.elim g
    | .tup _, .fn _, _, _, g => exact False.elim g
    | .tup _, .exc _ _, _, _, g => exact False.elim g
    | .tup _, .lst _ _, _, _, g => exact False.elim g
    | .tup _, .dct _ _ _, _, _, g => exact False.elim g
    | .tup _, .ins _ _ _ _, _, _, g => exact False.elim g
    | .lst _ _, .non, _, _, g => exact False.elim g
    | .lst _ _, .bl _, _, _, g => exact False.elim g
    | .lst _ _, .int _, _, _, g => exact False.elim g
    | .lst _ _, .str _, _, _, g => exact False.elim g
    | .lst _ _, .fn _, _, _, g => exact False.elim g
    | .lst _ _, .exc _ _, _, _, g => exact False.elim g
    | .lst _ _, .tup _, _, _, g => exact False.elim g
    | .lst _ _, .dct _ _ _, _, _, g => exact False.elim g
    | .lst _ _, .ins _ _ _ _, _, _, g => exact False.elim g
  | sub =>
    cases a <;> cases b <;> first
      | exact ⟨_, _, h1.1, h2.1, goal_val g S hs ⟨rfl, rfl⟩⟩
      | exact False.elim g
  | mul =>
    cases a with
    | int i =>
      cases b with
      | int j =>
        have g : Goal C B W (RD C B) p iv s Q H F gp (ofO (if decide (CMul i j) then some (.int (i * j)) else none) r) := g
        by_cases hz : decide (CMul i j) = true
        · rw [if_pos hz] at g
          exact .inl ⟨i, j, h1.1, h2.1, of_decide_eq_true hz, goal_val g S hs ⟨rfl, rfl⟩⟩
        · rw [if_neg hz] at g
          exact False.elim g
      | _ => exact False.elim g
    | str z =>
      cases b with
      | int k =>
        have g : Goal C B W (RD C B) p iv s Q H F gp (ofO (if (decide (1 < k) && !(z.length == 0)) && szl (z.length * k.toNat) then some (.str (strRep z k.toNat)) else none) r) := g
        by_cases hz : ((decide (1 < k) && !(z.length == 0)) && szl (z.length * k.toNat)) = true
        · rw [if_pos hz] at g
          obtain ⟨z1, z2⟩ := Bool.and_eq_true_iff.mp hz
          obtain ⟨z3, z4⟩ := Bool.and_eq_true_iff.mp z1
          rw [Bool.not_eq_true'] at z4
          exact .inr (.inl ⟨z, k, h1.1, h2.1, of_decide_eq_true z3, by simpa using z4, szl16 z2, goal_val g S hs ⟨rfl, rfl⟩⟩)
        · rw [if_neg hz] at g
          exact False.elim g
      | _ => exact False.elim g
    | lst m xs =>
      cases b with
      | int k =>
        have g : Goal C B W (RD C B) p iv s Q H F gp (ofO (if (m != .ro && copyables xs) && (decide (-(2 ^ 63) ≤ k ∧ k < 2 ^ 63) && szl (xs.length * k.toNat)) then some (.lst .own (List.replicate k.toNat xs).flatten) else none) r) := g
        by_cases hz : ((m != .ro && copyables xs) && (decide (-(2 ^ 63) ≤ k ∧ k < 2 ^ 63) && szl (xs.length * k.toNat))) = true
        · rw [if_pos hz] at g
          obtain ⟨m1, c1, z1, z2⟩ := and4 hz
          obtain ⟨l, us, q1, rfl, t1, r1, _⟩ := h1
          have r1 := r1.copy0 c1
          have zz := of_decide_eq_true z1
          exact .inr (.inr ⟨l, k, us, rfl, h2.1, t1.plain m1, zz.1, zz.2, by rw [← r1.length]; exact szl_ok z2, fun q hq => goal_lst0 g S hs (reps_flat r1 _) hq⟩)
        · rw [if_neg hz] at g
          exact False.elim g
      | _ => exact False.elim g
    | _ => exact False.elim g
  | fdiv =>
    cases a with
    | int i =>
      cases b with
      | int j =>
        have g : Goal C B W (RD C B) p iv s Q H F gp (ofO (if decide (CDivN i j) then some (.int (i.fdiv j)) else none) r) := g
        by_cases hz : decide (CDivN i j) = true
        · rw [if_pos hz] at g
          exact ⟨i, j, h1.1, h2.1, of_decide_eq_true hz, goal_val g S hs ⟨rfl, rfl⟩⟩
        · rw [if_neg hz] at g
          exact False.elim g
      | _ => exact False.elim g
    | _ => exact False.elim g
  | mod =>
    cases a with
    | int i =>
      cases b with
      | int j =>
        have g : Goal C B W (RD C B) p iv s Q H F gp (ofO (if decide (j ≠ 0) then some (.int (i.fmod j)) else none) r) := g
        by_cases hz : decide (j ≠ 0) = true
        · rw [if_pos hz] at g
          exact ⟨i, j, h1.1, h2.1, of_decide_eq_true hz, goal_val g S hs ⟨rfl, rfl⟩⟩
        · rw [if_neg hz] at g
          exact False.elim g
      | _ => exact False.elim g
    | _ => exact False.elim g
  | pow =>
    cases a with
    | int i =>
      cases b with
      | int j =>
        have g : Goal C B W (RD C B) p iv s Q H F gp (ofO (if decide (CPow i j) then some (.int (i ^ j.toNat)) else none) r) := g
        by_cases hz : decide (CPow i j) = true
        · rw [if_pos hz] at g
          exact ⟨i, j, h1.1, h2.1, of_decide_eq_true hz, goal_val g S hs ⟨rfl, rfl⟩⟩
        · rw [if_neg hz] at g
          exact False.elim g
      | _ => exact False.elim g
    | _ => exact False.elim g
end
end PI
set_option maxRecDepth 100000
set_option maxHeartbeats 4000000
/-! PI5: comparisons, built-ins, methods, subscripts, slices, truth. -/
namespace PI
open PySem PySem.Spec PyProof.Rows L2

section
variable {C : RC} {B : Addr → Prop} {W : WX} {p iv : Bool} {s : L2.St} {Q : VK} {H : Hp} {F : Addr → Prop} {fp gp : List Addr} {r : Rho}

mutual
theorem Rep.dp : ∀ (d : D) (v : V) (f : List Addr) (x : PyData), Rep C H F B d v f → toPy d = some x → Dp C.K H v x
  | .non, _, _, _, h, e => by
    cases e
    rw [h.1]
    exact .non
  | .bl b, _, _, _, h, e => by
    cases e
    rw [h.1]
    exact .bl b
  | .int i, _, _, _, h, e => by
    cases e
    rw [h.1]
    exact .int i
  | .str z, _, _, _, h, e => by
    cases e
    rw [h.1]
    exact .str z
  | .fn _, _, _, _, _, e => by cases e
  | .exc _ _, _, _, _, _, e => by cases e
  | .tup ds, _, _, x, h, e => by
    obtain ⟨a, vs, rfl, t, r⟩ := h
    have e : (toPy.toPys ds).map PyData.tuple = some x := e
    cases q : toPy.toPys ds with
    | none =>
      rw [q] at e
      cases e
    | some xs =>
      rw [q] at e
      cases e
      exact .tup t.sq (Reps.dp ds vs _ xs r q)
  | .lst m ds, _, _, x, h, e => by
    obtain ⟨a, vs, fq, rfl, t, r, _⟩ := h
    have e : (toPy.toPys ds).map PyData.list = some x := e
    cases q : toPy.toPys ds with
    | none =>
      rw [q] at e
      cases e
    | some xs =>
      rw [q] at e
      cases e
      exact .lst t.sq (Reps.dp ds vs _ xs r q)
  | .dct _ _ _, _, _, _, h, _ => h.elim
  | .ins _ _ _ _, _, _, _, h, _ => h.elim
theorem Reps.dp : ∀ (ds : List D) (vs : List V) (f : List Addr) (xs : List PyData), Reps C H F B ds vs f → toPy.toPys ds = some xs → DpAll C.K H vs xs
  | [], _, _, _, h, e => by
    cases e
    rw [h.1]
    exact .nil
  | d :: ds, _, _, zs, h, e => by
    obtain ⟨v, vr, f1, f2, rfl, r1, r2, _⟩ := h
    have e : (toPy d).bind (fun x => (toPy.toPys ds).map fun xs => x :: xs) = some zs := e
    cases q : toPy d with
    | none =>
      rw [q] at e
      cases e
    | some x =>
      rw [q] at e
      have e : (toPy.toPys ds).map (fun xs => x :: xs) = some zs := e
      cases q2 : toPy.toPys ds with
      | none =>
        rw [q2] at e
        cases e
      | some xs =>
        rw [q2] at e
        cases e
        exact .cons (Rep.dp d v f1 x r1 q) (Reps.dp ds vr f2 xs r2 q2)
end
theorem Rep.flat {d : D} {v : V} {f : List Addr} (h : Rep C H F B d v f) (hf : flat d = true) : flatV v = true := by
  cases d <;> first
    | (rw [h.1]; rfl)
    | cases hf
theorem Reps.flats : ∀ {ds : List D} {vs : List V} {f : List Addr}, Reps C H F B ds vs f → ds.all PI.flat = true → vs.all flatV = true
  | [], _, _, h, _ => by rw [h.1] <;> rfl
  | d :: ds, _, _, h, hf => by
    obtain ⟨v, vr, f1, f2, rfl, r1, r2, _⟩ := h
    rw [List.all_cons] at hf ⊢
    obtain ⟨h1, h2⟩ := Bool.and_eq_true_iff.mp hf
    rw [r1.flat h1, Reps.flats r2 h2] <;> rfl
theorem Rep.eqF {d e : D} {v w : V} {f g : List Addr} (h : Rep C H F B d v f) (k : Rep C H F B e w g) (hd : PI.flat d = true) (he : PI.flat e = true) : eqV v w = PI.eqF d e := by
  cases d <;> first
    | (rw [h.1]; cases e <;> first
        | (rw [k.1]; rfl)
        | cases he)
    | cases hd
theorem Reps.inF {d : D} {v : V} {g : List Addr} (k : Rep C H F B d v g) (hd : PI.flat d = true) : ∀ {ds : List D} {vs : List V} {f : List Addr}, Reps C H F B ds vs f → ds.all PI.flat = true → inV v vs = PI.inF d ds
  | [], _, _, h, _ => by rw [h.1] <;> rfl
  | x :: ds, _, _, h, hf => by
    obtain ⟨w, vr, f1, f2, rfl, r1, r2, _⟩ := h
    rw [List.all_cons] at hf
    obtain ⟨h1, h2⟩ := Bool.and_eq_true_iff.mp hf
    show (eqV w v || inV v vr) = (PI.eqF x d || PI.inF d ds)
    rw [r1.eqF k h1 hd, Reps.inF k hd r2 h2]

/-! ### comparisons -/
def asC : Cop → CmpOp
  | .eq => .Eq
  | .ne => .NotEq
  | .lt => .Lt
  | .le => .LtE
  | .gt => .Gt
  | .ge => .GtE
  | .isin => .In
  | .notin => .NotIn
  | .isn => .Is
  | .notn => .IsNot
abbrev rInS : R2 := fun x y H Q => ∃ i j, x = .str i ∧ y = .str j ∧ Q (.bl (!(Builtin.Str.occurrences j i 0 j.length 1).isEmpty)) H
abbrev rNotInS : R2 := fun x y H Q => ∃ i j, x = .str i ∧ y = .str j ∧ Q (.bl (!(!(Builtin.Str.occurrences j i 0 j.length 1).isEmpty))) H
def rC (K : PySem.W.Frag) : Cop → R2
  | .eq => rEqD K
  | .ne => rNeD K
  | .lt => rI0 fun i j => .bl (decide (i < j))
  | .le => rI0 fun i j => .bl (decide (i ≤ j))
  | .gt => rI0 fun i j => .bl (decide (j < i))
  | .ge => rI0 fun i j => .bl (decide (j ≤ i))
  | .isin => fun x y H Q => rInS x y H Q ∨ rIn K false x y H Q
  | .notin => fun x y H Q => rNotInS x y H Q ∨ rIn K true x y H Q
  | .isn => fun x y H Q => y = .non ∧ Q (.bl (decide (x = .non))) H
  | .notn => fun x y H Q => y = .non ∧ Q (.bl (!decide (x = .non))) H
theorem opC (X : Cx) (hu : X.A.units + 64 < cLine) : ∀ o : Cop, OpR X (compareOp (asC o)) (rC X.K o)
  | .eq => op_eqD hu
  | .ne => op_neD hu
  | .lt => op_lt
  | .le => op_le
  | .gt => op_gt
  | .ge => op_ge
  | .isin => op_in_str.or op_in_seq
  | .notin => op_notin_str.or op_notIn_seq
  | .isn => op_isN
  | .notn => op_notN
/-- what is known of an answer -/
theorem eqD_some {a b : D} {x y : V} {f1 f2 : List Addr} {t : Bool} (h1 : Rep C H F B a x f1) (h2 : Rep C H F B b y f2) (e : eqD a b = some t) : ∃ u w, Dp C.K H x u ∧ Dp C.K H y w ∧ SeqAt.shaped u = true ∧ SeqAt.shaped w = true ∧ PyData.eqv u w = t := by
  unfold eqD at e
  cases q1 : toPy a with
  | none =>
    rw [q1] at e
    cases e
  | some u =>
    cases q2 : toPy b with
    | none =>
      rw [q1, q2] at e
      cases e
    | some w =>
      rw [q1, q2] at e
      have e : (if SeqAt.shaped u = true ∧ SeqAt.shaped w = true then some (PyData.eqv u w) else none) = some t := e
      by_cases hz : SeqAt.shaped u = true ∧ SeqAt.shaped w = true
      · rw [if_pos hz] at e
        exact ⟨u, w, h1.dp _ _ _ _ q1, h2.dp _ _ _ _ q2, hz.1, hz.2, Option.some.inj e⟩
      · rw [if_neg hz] at e
        cases e
theorem inD_some {a b : D} {x y : V} {f1 f2 : List Addr} {t : Bool} (h1 : Rep C H F B a x f1) (h2 : Rep C H F B b y f2) (e : inD a b = some t) :
    (∃ i j, x = .str i ∧ y = .str j ∧ (!(Builtin.Str.occurrences j i 0 j.length 1).isEmpty) = t) ∨ ∃ q xs, y = .ref q ∧ (SqL C.K H q xs ∨ SqT C.K H q xs) ∧ flatV x = true ∧ xs.all flatV = true ∧ inV x xs = t := by
  have seq : ∀ {ds : List D} {vs : List V} {f : List Addr} {q : Addr}, y = .ref q → (SqL C.K H q vs ∨ SqT C.K H q vs) → Reps C H F B ds vs f → (if PI.flat a = true ∧ ds.all PI.flat = true then some (PI.inF a ds) else none) = some t →
      ∃ q xs, y = .ref q ∧ (SqL C.K H q xs ∨ SqT C.K H q xs) ∧ flatV x = true ∧ xs.all flatV = true ∧ inV x xs = t := by
    intro ds vs f q ey hq hr e
    by_cases hz : PI.flat a = true ∧ ds.all PI.flat = true
    · rw [if_pos hz] at e
      exact ⟨q, vs, ey, hq, h1.flat hz.1, Reps.flats hr hz.2, (Reps.inF h1 hz.1 hr hz.2).trans (Option.some.inj e)⟩
    · rw [if_neg hz] at e
      cases e
  cases b with
  | str j =>
    cases a with
    | str i => exact .inl ⟨i, j, h1.1, h2.1, Option.some.inj e⟩
    | _ => cases e
  | tup ds =>
    obtain ⟨q, vs, rfl, tt, rr⟩ := h2
    refine .inr (seq rfl (.inr tt.sq) rr ?_)
    cases a <;> exact e
  | lst m ds =>
    obtain ⟨q, vs, fq, rfl, tt, rr, _⟩ := h2
    refine .inr (seq rfl (.inl tt.sq) rr ?_)
    cases a <;> exact e
  | _ => cases a <;> cases e
theorem blR_some {β : Type} {P : Rp D β} {Q : β → Hp → Prop} {o : Option Bool} (g : Goal C B W P p iv s Q H F gp (blR o r)) : ∃ b, o = some b ∧ Goal C B W P p iv s Q H F gp (.ok (.bl b) r) := by
  cases o with
  | none => exact False.elim g
  | some b => exact ⟨b, rfl, g⟩
/-- the answer of a comparison of two values -/
theorem cmp_ok {o : Cop} {a b : D} {x y : V} {f1 f2 : List Addr} {Q1 : VK} {t : Bool} (e : cmpD o a b = some t) (h1 : Rep C H F B a x f1) (h2 : Rep C H F B b y f2) (q : Q1 (.bl t) H) : rC C.K o x y H Q1 := by
  cases o with
  | eq =>
    obtain ⟨u, w, d1, d2, s1, s2, e2⟩ := eqD_some h1 h2 (show eqD a b = some t from e)
    exact ⟨u, w, d1, d2, s1, s2, by rw [e2]; exact q⟩
  | ne =>
    have e : (eqD a b).map (!·) = some t := e
    cases k : eqD a b with
    | none =>
      rw [k] at e
      cases e
    | some z =>
      rw [k] at e
      cases e
      obtain ⟨u, w, d1, d2, s1, s2, e2⟩ := eqD_some h1 h2 k
      exact ⟨u, w, d1, d2, s1, s2, by rw [e2]; exact q⟩
  | lt => cases a <;> cases b <;> first | (cases e; exact ⟨_, _, h1.1, h2.1, q⟩) | cases e
  | le => cases a <;> cases b <;> first | (cases e; exact ⟨_, _, h1.1, h2.1, q⟩) | cases e
  | gt => cases a <;> cases b <;> first | (cases e; exact ⟨_, _, h1.1, h2.1, q⟩) | cases e
  | ge => cases a <;> cases b <;> first | (cases e; exact ⟨_, _, h1.1, h2.1, q⟩) | cases e
  | isin =>
    rcases inD_some h1 h2 (show inD a b = some t from e) with ⟨i, j, e1, e2, e3⟩ | ⟨l, xs, e1, e2, e3, e4, e5⟩
    · exact .inl ⟨i, j, e1, e2, by rw [e3]; exact q⟩
    · exact .inr ⟨l, xs, e1, e2, e3, e4, by rw [e5]; exact q⟩
  | notin =>
    have e : (inD a b).map (!·) = some t := e
    cases k : inD a b with
    | none =>
      rw [k] at e
      cases e
    | some z =>
      rw [k] at e
      cases e
      rcases inD_some h1 h2 k with ⟨i, j, e1, e2, e3⟩ | ⟨l, xs, e1, e2, e3, e4, e5⟩
      · exact .inl ⟨i, j, e1, e2, by rw [e3]; exact q⟩
      · exact .inr ⟨l, xs, e1, e2, e3, e4, by rw [e5]; exact q⟩
  | isn =>
    cases b with
    | non =>
      refine ⟨h2.1, ?_⟩
      cases a <;> (cases e; first
        | (rw [h1.1]; exact q)
        | (obtain ⟨⟨_, e1, _⟩, _⟩ := h1; rw [e1]; exact q)
        | (obtain ⟨⟨_, _, e1, _⟩, _⟩ := h1; rw [e1]; exact q)
        | (obtain ⟨_, _, e1, _⟩ := h1; rw [e1]; exact q)
        | (obtain ⟨_, _, _, e1, _⟩ := h1; rw [e1]; exact q)
        | exact h1.elim)
    | _ => cases a <;> cases e
  | notn =>
    cases b with
    | non =>
      refine ⟨h2.1, ?_⟩
      cases a <;> (cases e; first
        | (rw [h1.1]; exact q)
        | (obtain ⟨⟨_, e1, _⟩, _⟩ := h1; rw [e1]; exact q)
        | (obtain ⟨⟨_, _, e1, _⟩, _⟩ := h1; rw [e1]; exact q)
        | (obtain ⟨_, _, e1, _⟩ := h1; rw [e1]; exact q)
        | (obtain ⟨_, _, _, e1, _⟩ := h1; rw [e1]; exact q)
        | exact h1.elim)
    | _ => cases a <;> cases e

/-! ### built-ins -/
theorem ints_of : ∀ {ds : List D} {vs : List V} {f : List Addr} {ns : List Int}, Reps C H F B ds vs f → intsOf ds = some ns → vs = ns.map V.int
  | [], _, _, _, h, e => by
    cases e
    exact h.1
  | d :: ds, _, _, ns, h, e => by
    obtain ⟨v, vr, f1, f2, rfl, r1, r2, _⟩ := h
    cases d with
    | int i =>
      have e : (intsOf ds).map (i :: ·) = some ns := e
      cases q : intsOf ds with
      | none =>
        rw [q] at e
        cases e
      | some ms =>
        rw [q] at e
        cases e
        rw [r1.1, ints_of r2 q] <;> rfl
    | _ => cases e
theorem bls_of : ∀ {ds : List D} {vs : List V} {f : List Addr} {ns : List Bool}, Reps C H F B ds vs f → blsOf ds = some ns → vs = ns.map V.bl
  | [], _, _, _, h, e => by
    cases e
    exact h.1
  | d :: ds, _, _, ns, h, e => by
    obtain ⟨v, vr, f1, f2, rfl, r1, r2, _⟩ := h
    cases d with
    | bl i =>
      have e : (blsOf ds).map (i :: ·) = some ns := e
      cases q : blsOf ds with
      | none =>
        rw [q] at e
        cases e
      | some ms =>
        rw [q] at e
        cases e
        rw [r1.1, bls_of r2 q] <;> rfl
    | _ => cases e
theorem strs_of : ∀ {ds : List D} {vs : List V} {f : List Addr} {ns : List Str}, Reps C H F B ds vs f → strsOf ds = some ns → vs = ns.map V.str
  | [], _, _, _, h, e => by
    cases e
    exact h.1
  | d :: ds, _, _, ns, h, e => by
    obtain ⟨v, vr, f1, f2, rfl, r1, r2, _⟩ := h
    cases d with
    | str i =>
      have e : (strsOf ds).map (i :: ·) = some ns := e
      cases q : strsOf ds with
      | none =>
        rw [q] at e
        cases e
      | some ms =>
        rw [q] at e
        cases e
        rw [r1.1, strs_of r2 q] <;> rfl
    | _ => cases e
theorem reps_strs : ∀ (ys : List Str), Reps C H F B (ys.map D.str) (ys.map V.str) []
  | [] => ⟨rfl, rfl⟩
  | y :: ys => ⟨.str y, ys.map V.str, [], [], rfl, ⟨rfl, rfl⟩, reps_strs ys, rfl⟩

/-- what a call of a built-in asks of the values -/
abbrev RR := List V → Hp → VK → Prop
def rBi (K : PySem.W.Frag) : Bi → RR
  | .len => fun xs H Q => ∃ x n, xs = [x] ∧ LenV K x H n ∧ Q (.int n) H
  | .int => fun xs H Q => ((∃ i, xs = [.int i] ∧ Q (.int i) H) ∨ ∃ k, xs = [.bl k] ∧ Q (.int (if k then 1 else 0)) H) ∨ ∃ a n, xs = [.str a] ∧ PySem.intText? a = some n ∧ a.length ≤ 640 ∧ Q (.int n) H
  | .str => fun xs H Q => ∃ i, xs = [.int i] ∧ i.natAbs.log2 < 1920 ∧ Q (.str (toString i)) H
  | .tuple => fun xs H Q => ∃ q ys, xs = [.ref q] ∧ ((SqL K H q ys ∧ ∀ l, H l = none → Q (.ref l) (upd H l (.tup ys))) ∨ (SqT K H q ys ∧ Q (.ref q) H))
  | .list => fun xs H Q => ∃ q ys, xs = [.ref q] ∧ (SqL K H q ys ∨ SqT K H q ys) ∧ ∀ l, H l = none → Q (.ref l) (upd H l (.lst ys))
  | .abs => fun xs H Q => ∃ i, xs = [.int i] ∧ Q (.int (if i < 0 then -i else i)) H
  | .sum => rSum K
  | .any => rAny K
  | .all => rAll K
theorem bi_ok {b : Bi} {a : D} {x : V} {f1 : List Addr} (g : Goal C B W (RD C B) p iv s Q H F gp (ofO (biD b a) r)) (S : Sd C B H F r s fp) (hs : ∀ a ∈ fp, a ∈ gp) (h1 : Rep C H F B a x f1) : rBi C.K b [x] H Q := by
  cases b with
  | len =>
    cases a with
    | str z =>
      have g : Goal C B W (RD C B) p iv s Q H F gp (ofO (if szl z.length then some (.int z.length) else none) r) := g
      by_cases hz : szl z.length = true
      · rw [if_pos hz] at g
        exact ⟨x, z.length, rfl, by rw [h1.1]; exact ⟨szl_ok hz, rfl⟩, goal_val g S hs ⟨rfl, rfl⟩⟩
      · rw [if_neg hz] at g
        exact False.elim g
    | tup ds =>
      obtain ⟨q, vs, rfl, tt, rr⟩ := h1
      exact ⟨.ref q, ds.length, rfl, .inr ⟨vs, tt.sq, rr.length⟩, goal_val g S hs ⟨rfl, rfl⟩⟩
    | lst m ds =>
      obtain ⟨q, vs, fq, rfl, tt, rr, _⟩ := h1
      exact ⟨.ref q, ds.length, rfl, .inl ⟨vs, tt.sq, rr.length⟩, goal_val g S hs ⟨rfl, rfl⟩⟩
    | _ => exact False.elim g
  | int =>
    cases a with
    | int i => exact .inl (.inl ⟨i, by rw [h1.1], goal_val g S hs ⟨rfl, rfl⟩⟩)
    | bl i => exact .inl (.inr ⟨i, by rw [h1.1], goal_val g S hs ⟨rfl, rfl⟩⟩)
    | str z =>
      have g : Goal C B W (RD C B) p iv s Q H F gp (ofO (if decide (z.length ≤ 640) then (PySem.intText? z).map D.int else none) r) := g
      by_cases hz : decide (z.length ≤ 640) = true
      · rw [if_pos hz] at g
        cases q : PySem.intText? z with
        | none =>
          rw [q] at g
          exact False.elim g
        | some n =>
          rw [q] at g
          exact .inr ⟨z, n, by rw [h1.1], q, of_decide_eq_true hz, goal_val g S hs ⟨rfl, rfl⟩⟩
      · rw [if_neg hz] at g
        exact False.elim g
    | _ => exact False.elim g
  | str =>
    cases a with
    | int i =>
      have g : Goal C B W (RD C B) p iv s Q H F gp (ofO (if decide (i.natAbs.log2 < 1920) then some (.str (toString i)) else none) r) := g
      by_cases hz : decide (i.natAbs.log2 < 1920) = true
      · rw [if_pos hz] at g
        exact ⟨i, by rw [h1.1], of_decide_eq_true hz, goal_val g S hs ⟨rfl, rfl⟩⟩
      · rw [if_neg hz] at g
        exact False.elim g
    | _ => exact False.elim g
  | tuple =>
    cases a with
    | tup ds =>
      have g : Goal C B W (RD C B) p iv s Q H F gp (ofO (if copyables ds then some (.tup ds) else none) r) := g
      by_cases hz : copyables ds = true
      · rw [if_pos hz] at g
        obtain ⟨q, vs, rfl, tt, rr⟩ := h1
        exact ⟨q, vs, rfl, .inr ⟨tt.sq, goal_val g S hs ⟨q, vs, rfl, tt, rr.copy0 hz⟩⟩⟩
      · rw [if_neg hz] at g
        exact False.elim g
    | lst m ds =>
      have g : Goal C B W (RD C B) p iv s Q H F gp (ofO (if copyables ds then some (.tup ds) else none) r) := g
      by_cases hz : copyables ds = true
      · rw [if_pos hz] at g
        obtain ⟨q, vs, fq, rfl, tt, rr, _⟩ := h1
        exact ⟨q, vs, rfl, .inl ⟨tt.sq, fun l hl => goal_tup0 g S hs (rr.copy0 hz) hl⟩⟩
      · rw [if_neg hz] at g
        exact False.elim g
    | _ => exact False.elim g
  | list =>
    cases a with
    | tup ds =>
      have g : Goal C B W (RD C B) p iv s Q H F gp (ofO (if copyables ds then some (.lst .own ds) else none) r) := g
      by_cases hz : copyables ds = true
      · rw [if_pos hz] at g
        obtain ⟨q, vs, rfl, tt, rr⟩ := h1
        exact ⟨q, vs, rfl, .inr tt.sq, fun l hl => goal_lst0 g S hs (rr.copy0 hz) hl⟩
      · rw [if_neg hz] at g
        exact False.elim g
    | lst m ds =>
      have g : Goal C B W (RD C B) p iv s Q H F gp (ofO (if copyables ds then some (.lst .own ds) else none) r) := g
      by_cases hz : copyables ds = true
      · rw [if_pos hz] at g
        obtain ⟨q, vs, fq, rfl, tt, rr, _⟩ := h1
        exact ⟨q, vs, rfl, .inl tt.sq, fun l hl => goal_lst0 g S hs (rr.copy0 hz) hl⟩
      · rw [if_neg hz] at g
        exact False.elim g
    | _ => exact False.elim g
  | abs =>
    cases a with
    | int i => exact ⟨i, by rw [h1.1], goal_val g S hs ⟨rfl, rfl⟩⟩
    | _ => exact False.elim g
  | sum =>
    cases a with
    | lst m ds =>
      have g : Goal C B W (RD C B) p iv s Q H F gp (ofO ((intsOf ds).map fun ns => .int ns.sum) r) := g
      cases q : intsOf ds with
      | none =>
        rw [q] at g
        exact False.elim g
      | some ns =>
        rw [q] at g
        obtain ⟨l, vs, fq, rfl, tt, rr, _⟩ := h1
        have e := ints_of rr q
        subst e
        exact ⟨l, ns, rfl, tt.sq, goal_val g S hs ⟨rfl, rfl⟩⟩
    | _ => exact False.elim g
  | any =>
    cases a with
    | lst m ds =>
      have g : Goal C B W (RD C B) p iv s Q H F gp (ofO ((blsOf ds).map fun ns => .bl (ns.any id)) r) := g
      cases q : blsOf ds with
      | none =>
        rw [q] at g
        exact False.elim g
      | some ns =>
        rw [q] at g
        obtain ⟨l, vs, fq, rfl, tt, rr, _⟩ := h1
        have e := bls_of rr q
        subst e
        exact ⟨l, ns, rfl, tt.sq, goal_val g S hs ⟨rfl, rfl⟩⟩
    | _ => exact False.elim g
  | all =>
    cases a with
    | lst m ds =>
      have g : Goal C B W (RD C B) p iv s Q H F gp (ofO ((blsOf ds).map fun ns => .bl (ns.all id)) r) := g
      cases q : blsOf ds with
      | none =>
        rw [q] at g
        exact False.elim g
      | some ns =>
        rw [q] at g
        obtain ⟨l, vs, fq, rfl, tt, rr, _⟩ := h1
        have e := bls_of rr q
        subst e
        exact ⟨l, ns, rfl, tt.sq, goal_val g S hs ⟨rfl, rfl⟩⟩
    | _ => exact False.elim g
def rBj : Bj → RR
  | .max => fun xs H Q => ∃ i j, xs = [.int i, .int j] ∧ Q (.int (if j > i then j else i)) H
  | .min => fun xs H Q => ∃ i j, xs = [.int i, .int j] ∧ Q (.int (if j < i then j else i)) H
theorem bj_ok {b : Bj} {a c : D} {x y : V} {f1 f2 : List Addr} (g : Goal C B W (RD C B) p iv s Q H F gp (ofO (bjD b a c) r)) (S : Sd C B H F r s fp) (hs : ∀ a ∈ fp, a ∈ gp) (h1 : Rep C H F B a x f1) (h2 : Rep C H F B c y f2) : rBj b [x, y] H Q := by
  cases b <;> cases a <;> cases c <;> first
    | exact False.elim g
    | exact ⟨_, _, by rw [h1.1, h2.1], goal_val g S hs ⟨rfl, rfl⟩⟩

/-! ### methods of texts -/
def rMe (K : PySem.W.Frag) : Me → V → List V → Hp → VK → Prop
  | .split => fun x xs H Q => ∃ a b, x = .str a ∧ xs = [.str b] ∧ (b.length == 0) = false ∧ a.length + 2 ≤ sizeLine ∧ rNewStrs (Txt.split a b) H Q
  | .join => fun x xs H Q => ∃ a q, ∃ ys : List Str, x = .str a ∧ xs = [.ref q] ∧ (SqL K H q (ys.map V.str) ∨ SqT K H q (ys.map V.str)) ∧ (ys.map (·.length)).sum + ys.length * a.length ≤ 16777216 ∧ Q (.str (Txt.join a ys)) H
  | .startswith => fun x xs H Q => ∃ a b, x = .str a ∧ xs = [.str b] ∧ Q (.bl (Txt.startswith a b)) H
  | .index => fun _ _ _ _ => False
theorem me_ok {m : Me} {a b : D} {x y : V} {f1 f2 : List Addr} (g : Goal C B W (RD C B) p iv s Q H F gp (ofO (meD m a b) r)) (S : Sd C B H F r s fp) (hs : ∀ a ∈ fp, a ∈ gp) (h1 : Rep C H F B a x f1) (h2 : Rep C H F B b y f2) : rMe C.K m x [y] H Q := by
  cases m with
  | split =>
    cases a with
    | str u =>
      cases b with
      | str w =>
        have g : Goal C B W (RD C B) p iv s Q H F gp (ofO (if !(w.length == 0) && szl (u.length + 2) then some (.lst .own ((Txt.split u w).map D.str)) else none) r) := g
        by_cases hz : (!(w.length == 0) && szl (u.length + 2)) = true
        · rw [if_pos hz] at g
          obtain ⟨z1, z2⟩ := Bool.and_eq_true_iff.mp hz
          exact ⟨u, w, h1.1, by rw [h2.1], by simpa using z1, szl_ok z2, fun l hl => goal_lst0 g S hs (reps_strs _) hl⟩
        · rw [if_neg hz] at g
          exact False.elim g
      | _ => exact False.elim g
    | _ => exact False.elim g
  | join =>
    cases a with
    | str u =>
      cases b with
      | lst m ds =>
        have g : Goal C B W (RD C B) p iv s Q H F gp (ofO ((strsOf ds).bind fun ys => if szl (joinLen u ys) then some (.str (Txt.join u ys)) else none) r) := g
        cases q : strsOf ds with
        | none =>
          rw [q] at g
          exact False.elim g
        | some ys =>
          rw [q] at g
          have g : Goal C B W (RD C B) p iv s Q H F gp (ofO (if szl (joinLen u ys) then some (.str (Txt.join u ys)) else none) r) := g
          by_cases hz : szl (joinLen u ys) = true
          · rw [if_pos hz] at g
            obtain ⟨l, vs, fq, rfl, tt, rr, _⟩ := h2
            have e := strs_of rr q
            subst e
            exact ⟨u, l, ys, h1.1, rfl, .inl tt.sq, szl16 hz, goal_val g S hs ⟨rfl, rfl⟩⟩
          · rw [if_neg hz] at g
            exact False.elim g
      | _ => exact False.elim g
    | _ => exact False.elim g
  | startswith =>
    cases a with
    | str u =>
      cases b with
      | str w => exact ⟨u, w, h1.1, by rw [h2.1], goal_val g S hs ⟨rfl, rfl⟩⟩
      | _ => exact False.elim g
    | _ => exact False.elim g
  | index => cases a <;> exact False.elim g

/-! ### subscripts, slices, truth -/
theorem Reps.atI {ds : List D} {vs : List V} {f : List Addr} {i : Int} {d : D} (h : Reps C H F B ds vs f) (e : L2.atI ds i = some d) : ∃ v f', L2.atI vs i = some v ∧ Rep C H F B d v f' ∧ f'.Sublist f := by
  unfold L2.atI at e ⊢
  rw [← h.length]
  cases q : ixN ds.length i with
  | none =>
    rw [q] at e
    cases e
  | some j =>
    rw [q] at e
    have e : ds[j]? = some d := e
    obtain ⟨v, f', h1, h2, h3⟩ := go h e
    exact ⟨v, f', h1, h2, h3⟩
where
  go : ∀ {ds : List D} {vs : List V} {fx : List Addr} {i : Nat} {d : D}, Reps C H F B ds vs fx → ds[i]? = some d → ∃ v f, vs[i]? = some v ∧ Rep C H F B d v f ∧ f.Sublist fx
  | [], _, _, _, _, _, e => by simp at e
  | d :: ds, _, _, 0, _, h, e => by
    obtain ⟨v, vr, f1, f2, ev, r1, r2, ef⟩ := h
    have e2 := Option.some.inj e
    subst e2 ev ef
    exact ⟨v, f1, rfl, r1, List.sublist_append_left _ _⟩
  | d :: ds, _, _, i + 1, _, h, e => by
    obtain ⟨v, vr, f1, f2, ev, r1, r2, ef⟩ := h
    subst ev ef
    obtain ⟨w, f, h1, h2, h3⟩ := go r2 (show ds[i]? = some _ from e)
    exact ⟨w, f, h1, h2, h3.trans (List.sublist_append_right _ _)⟩
def rIxA (K : PySem.W.Frag) : R2 := fun x y H Q => rIxL K x y H Q ∨ (rIxT K x y H Q ∨ rIxS x y H Q)
theorem ixA (X : Cx) : IxR X (rIxA X.K) := ix_list.or (ix_tup.or ix_str)
theorem ix_ok {a b : D} {x y : V} {f1 f2 : List Addr} (g : Goal C B W (RD C B) p iv s Q H F gp (ofO (ixD a b) r)) (S : Sd C B H F r s fp) (hs : ∀ a ∈ fp, a ∈ gp) (h1 : Rep C H F B a x f1) (h2 : Rep C H F B b y f2) (hi : iv = true → Fly F B fp f1) (hq : ∀ a ∈ f1, a ∈ gp) : rIxA C.K x y H Q := by
  cases a with
  | tup ds =>
    cases b with
    | int i =>
      have g : Goal C B W (RD C B) p iv s Q H F gp (ofO (L2.atI ds i) r) := g
      cases e : L2.atI ds i with
      | none =>
        rw [e] at g
        exact False.elim g
      | some d =>
        rw [e] at g
        obtain ⟨q, vs, rfl, tt, rr⟩ := h1
        obtain ⟨v, f', e1, e2, e3⟩ := rr.atI e
        exact .inr (.inl ⟨q, vs, i, v, rfl, h2.1, tt.sq, e1, g.fin S hs e2 (fun z => (hi z).sub e3) fun x hx => hq x (e3.subset hx)⟩)
    | _ => exact False.elim g
  | lst m ds =>
    cases b with
    | int i =>
      have g : Goal C B W (RD C B) p iv s Q H F gp (ofO (L2.atI ds i) r) := g
      cases e : L2.atI ds i with
      | none =>
        rw [e] at g
        exact False.elim g
      | some d =>
        rw [e] at g
        obtain ⟨q, vs, fq, rfl, tt, rr, ef⟩ := h1
        obtain ⟨v, f', e1, e2, e3⟩ := rr.atI e
        have e4 : f'.Sublist f1 := by
          rw [ef]
          exact e3.trans (List.sublist_append_right _ _)
        exact .inl ⟨q, vs, i, v, rfl, h2.1, tt.sq, e1, g.fin S hs e2 (fun z => (hi z).sub e4) fun x hx => hq x (e4.subset hx)⟩
    | _ => exact False.elim g
  | str z =>
    cases b with
    | int i =>
      have g : Goal C B W (RD C B) p iv s Q H F gp (ofO (if szl z.length then (L2.atI z.cps.toList i).map (fun c => D.str ⟨#[c]⟩) else none) r) := g
      by_cases hz : szl z.length = true
      · rw [if_pos hz] at g
        cases e : L2.atI z.cps.toList i with
        | none =>
          rw [e] at g
          exact False.elim g
        | some c =>
          rw [e] at g
          exact .inr (.inr ⟨z, i, c, h1.1, h2.1, szl_ok hz, e, goal_val g S hs ⟨rfl, rfl⟩⟩)
      · rw [if_neg hz] at g
        exact False.elim g
    | _ => exact False.elim g
  | _ => exact False.elim g
theorem Reps.cut {ds : List D} {vs : List V} (h : Reps C H F B ds vs []) (n m : Nat) : Reps C H F B ((ds.drop n).take m) ((vs.drop n).take m) [] := by
  have e1 : ds = ds.take n ++ ((ds.drop n).take m ++ (ds.drop n).drop m) := by rw [List.take_append_drop, List.take_append_drop]
  rw [e1] at h
  obtain ⟨v1, w1, g1, k1, e2, r1, r2, ef⟩ := Reps.split h
  obtain ⟨v2, w2, g2, k2, e3, r3, r4, ef2⟩ := Reps.split r2
  have n1 : g1 = [] ∧ k1 = [] := by simpa using ef.symm
  have n2 : g2 = [] := by
    rw [n1.2] at ef2
    exact (by simpa using ef2.symm : g2 = [] ∧ k2 = []).1
  have l1 := r1.length
  have l3 := r3.length
  subst e3
  subst e2
  rw [n2] at r3
  have hv : ((v1 ++ (v2 ++ w2)).drop n).take m = v2 := by
    by_cases hn : n ≤ ds.length
    · have e4 : v1.length = n := by
        rw [← l1, List.length_take]
        omega
      rw [← e4, List.drop_left]
      by_cases hm : m ≤ ds.length - n
      · have e5 : v2.length = m := by
          rw [← l3, List.length_take, List.length_drop]
          omega
        rw [← e5, List.take_left]
      · have e6 : (ds.drop n).drop m = [] := List.drop_eq_nil_of_le (by rw [List.length_drop]; omega)
        rw [e6] at r4
        have e7 : w2 = [] := r4.1
        rw [e7, List.append_nil]
        exact List.take_of_length_le (by rw [← l3, List.length_take]; omega)
    · have e4 : ds.drop n = [] := List.drop_eq_nil_of_le (by omega)
      have e5 : v2 = [] := by
        rw [e4, List.take_nil] at r3
        exact r3.1
      have e6 : w2 = [] := by
        rw [e4, List.drop_nil] at r4
        exact r4.1
      rw [e5, e6, List.append_nil, List.append_nil]
      have e7 : v1.length ≤ n := by
        rw [← l1, List.length_take]
        omega
      rw [List.drop_eq_nil_of_le e7, List.take_nil]
  rw [hv]
  exact r3
theorem Reps.cutL {ds : List D} {vs : List V} (h : Reps C H F B ds vs []) (lo hi : Option Int) : Reps C H F B (PI.cutL ds lo hi) (cutV vs lo hi) [] := by
  unfold PI.cutL cutV
  rw [← h.length]
  exact h.cut _ _
def rSlX2 (K : PySem.W.Frag) : V → Option Int → Option Int → Hp → VK → Prop := fun x lo hi H Q => rSlL K x lo hi H Q ∨ (rSlA K x lo hi H Q ∨ rSlS x lo hi H Q)
theorem slX2 (X : Cx) : SlR X (rSlX2 X.K) := sl_list.or (sl_tupA.or sl_str)
theorem sl_ok {a : D} {x : V} {lo hi : Option Int} {f1 : List Addr} (g : Goal C B W (RD C B) p iv s Q H F gp (ofO (slD a lo hi) r)) (S : Sd C B H F r s fp) (hs : ∀ a ∈ fp, a ∈ gp) (h1 : Rep C H F B a x f1) : rSlX2 C.K x lo hi H Q := by
  cases a with
  | tup ds =>
    have g : Goal C B W (RD C B) p iv s Q H F gp (ofO (if copyables ds then some (.tup (PI.cutL ds lo hi)) else none) r) := g
    by_cases hz : copyables ds = true
    · rw [if_pos hz] at g
      obtain ⟨q, vs, rfl, tt, rr⟩ := h1
      have rr := rr.copy0 hz
      refine .inr (.inl ⟨q, vs, rfl, tt.sq, fun e => ?_, fun _ l hl => goal_tup0 g S hs (rr.cutL lo hi) hl⟩)
      have e2 : PI.cutL ds lo hi = ds := by
        unfold PI.cutL
        rw [← rr.length] at e
        rw [e.1, e.2]
        simp
      rw [e2] at g
      exact goal_val g S hs ⟨q, vs, rfl, tt, rr⟩
    · rw [if_neg hz] at g
      exact False.elim g
  | lst m ds =>
    have g : Goal C B W (RD C B) p iv s Q H F gp (ofO (if copyables ds then some (.lst .own (PI.cutL ds lo hi)) else none) r) := g
    by_cases hz : copyables ds = true
    · rw [if_pos hz] at g
      obtain ⟨q, vs, fq, rfl, tt, rr, _⟩ := h1
      exact .inl ⟨q, vs, rfl, tt.sq, fun l hl => goal_lst0 g S hs ((rr.copy0 hz).cutL lo hi) hl⟩
    · rw [if_neg hz] at g
      exact False.elim g
  | str z =>
    have g : Goal C B W (RD C B) p iv s Q H F gp (ofO (if szl z.length then some (.str (cutS z lo hi)) else none) r) := g
    by_cases hz : szl z.length = true
    · rw [if_pos hz] at g
      exact .inr (.inr ⟨z, h1.1, szl_ok hz, goal_val g S hs ⟨rfl, rfl⟩⟩)
    · rw [if_neg hz] at g
      exact False.elim g
  | _ => exact False.elim g
theorem Reps.empty {ds : List D} {vs : List V} {f : List Addr} (h : Reps C H F B ds vs f) : vs.isEmpty = ds.isEmpty := by
  cases ds with
  | nil => rw [h.1] <;> rfl
  | cons d ds =>
    obtain ⟨v, vr, f1, f2, rfl, _⟩ := h
    rfl
theorem tru_of {d : D} {x : V} {f : List Addr} {t : Bool} (h : Rep C H F B d x f) (e : truD d = some t) : TruV C.K x H t := by
  cases d with
  | non =>
    cases e
    rw [h.1]
    exact rfl
  | bl b =>
    cases e
    rw [h.1]
    exact rfl
  | int i =>
    cases e
    rw [h.1]
    exact rfl
  | str z =>
    have e : (if szl z.length then some ((z.length : Int) != 0) else none) = some t := e
    by_cases hz : szl z.length = true
    · rw [if_pos hz] at e
      cases e
      rw [h.1]
      exact ⟨szl_ok hz, rfl⟩
    · rw [if_neg hz] at e
      cases e
  | tup ds =>
    cases e
    obtain ⟨q, vs, rfl, tt, rr⟩ := h
    exact .inr (.inl ⟨vs, tt.sq, by rw [rr.empty]⟩)
  | lst m ds =>
    cases e
    obtain ⟨q, vs, fq, rfl, tt, rr, _⟩ := h
    exact .inl ⟨vs, tt.sq, by rw [rr.empty]⟩
  | _ => cases e
end
end PI
set_option maxRecDepth 100000
set_option maxHeartbeats 4000000
/-! PI6: calls of defs. -/
namespace PI
open PySem PySem.Spec PyProof.Rows L2

/-- the values at some places -/
def pick (vs : List V) : List Nat → Option (List V)
  | [] => some []
  | i :: is => match vs[i]? with
    | some v => (pick vs is).map (v :: ·)
    | none => none
/-- wanted of a call -/
def GoalF (C : RC) (B : Addr → Prop) (E : XK) (Q : VK) (H : Hp) (F : Addr → Prop) (fp : List Addr) (ws : List V) : FR → Prop
  | .ret d fin => ∀ v H' F' fq fo, Rep C H' F' B d v fq → Reps C H' F' B fin ws fo → (fo ++ fq).Nodup → (∀ a ∈ fo ++ fq, ¬ F' a) → (∀ a ∈ fo ++ fq, ¬ B a) → (∀ a, F' a → H' a ≠ none) → Stp false H F fp H' F' (fo ++ fq) → Q v H'
  | .exc c fs fin => ∀ cls d H' F' fo, ExcAt C H' c fs cls d → Reps C H' F' B fin ws fo → fo.Nodup → (∀ a ∈ fo, ¬ F' a) → (∀ a ∈ fo, ¬ B a) → (∀ a, F' a → H' a ≠ none) → Stp false H F fp H' F' fo → E cls d H'
  | .bad => False
/-- the promise of a def whose meaning is cf f -/
def spF (C : RC) (cf : Str → List D → FR) (io : List Nat) (f : Str) : Sp := fun vs H Q E => ∃ ds F B fp ws, Reps C H F B ds vs fp ∧ fp.Nodup ∧ (∀ a ∈ fp, ¬ F a) ∧ (∀ a ∈ fp, ¬ B a) ∧ (∀ a, F a → H a ≠ none) ∧ (∀ a, B a → H a ≠ none) ∧ pick vs io = some ws ∧
  GoalF C B E Q H F fp ws (cf f ds)

/-- arguments at hand -/
def RAs (C : RC) (B : Addr → Prop) (s : L2.St) (H : Hp) (F : Addr → Prop) : List Ar → List V → List Addr → Prop
  | [], vs, fq => vs = [] ∧ fq = []
  | .val d :: as, vs, fq => ∃ v vr f1 f2, vs = v :: vr ∧ Rep C H F B d v f1 ∧ RAs C B s H F as vr f2 ∧ fq = f1 ++ f2
  | .io i :: as, vs, fq => ∃ v vr, vs = v :: vr ∧ s[i]? = some (some v) ∧ RAs C B s H F as vr fq
  | .bor i :: as, vs, fq => ∃ v vr, vs = v :: vr ∧ s[i]? = some (some v) ∧ RAs C B s H F as vr fq
def ioVals : List Ar → List V → List V
  | .io _ :: as, v :: vs => v :: ioVals as vs
  | .val _ :: as, _ :: vs => ioVals as vs
  | .bor _ :: as, _ :: vs => ioVals as vs
  | _, _ => []
/-- what the io slots hold, taken out one after the other -/
def IoR (C : RC) (H : Hp) (F B : Addr → Prop) (s : L2.St) (r0 : Rho) : List Ar → List Addr → Prop
  | [], fo => fo = []
  | .val _ :: as, fo => IoR C H F B s r0 as fo
  | .bor _ :: as, fo => IoR C H F B s r0 as fo
  | .io i :: as, fo => ∃ d v f1 f2, r0[i]? = some (some d) ∧ s[i]? = some (some v) ∧ Rep C H F B d v f1 ∧ IoR C H F B s r0 as f2 ∧ fo = f1 ++ f2

section
variable {C : RC} {H H' : Hp} {F F' B G : Addr → Prop} {s : L2.St}
theorem set_self {r : Rho} {i : Nat} {x : Option D} (h : r[i]? = some x) : r.set i x = r := by
  apply List.ext_getElem?
  intro j
  by_cases e : i = j
  · subst e
    rw [List.getElem?_set_self (by
      obtain ⟨h1, _⟩ := List.getElem?_eq_some_iff.mp h
      exact h1), h]
  · rw [List.getElem?_set_ne e]
theorem set_selfV {r : L2.St} {i : Nat} {x : Option V} (h : r[i]? = some x) : r.set i x = r := by
  apply List.ext_getElem?
  intro j
  by_cases e : i = j
  · subst e
    rw [List.getElem?_set_self (by
      obtain ⟨h1, _⟩ := List.getElem?_eq_some_iff.mp h
      exact h1), h]
  · rw [List.getElem?_set_ne e]
/-- the io places -/
def ioIx : List Ar → List Nat
  | [] => []
  | .io i :: as => i :: ioIx as
  | .val _ :: as => ioIx as
  | .bor _ :: as => ioIx as
theorem perm3 {a b c d : List Addr} (h : c.Perm (b ++ d)) : (a ++ c).Perm ((a ++ b) ++ d) := by
  rw [List.append_assoc]
  exact h.append_left a
theorem outIo_ok : ∀ {as : List Ar} {r r0 r2 : Rho} {fp : List Addr}, Slots C H F B r s fp → (∀ (j : Nat) d, r[j]? = some (some d) → r0[j]? = some (some d)) → outIo as r = some r2 →
    ∃ fr fo, Slots C H F B r2 s fr ∧ fp.Perm (fo ++ fr) ∧ IoR C H F B s r0 as fo ∧ r2.length = r.length ∧ (∀ j : Nat, r[j]? = some none → r2[j]? = some none) ∧ (ioIx as).Nodup ∧ ∀ i ∈ ioIx as, r2[i]? = some none ∧ r[i]? ≠ some none
  | [], r, r0, r2, fp, h, _, e => by
    cases e
    exact ⟨fp, [], h, List.Perm.refl _, rfl, rfl, fun _ z => z, List.nodup_nil, fun _ z => absurd z (by simp [ioIx])⟩
  | .val _ :: as, r, r0, r2, fp, h, k, e => outIo_ok (as := as) h k e
  | .bor _ :: as, r, r0, r2, fp, h, k, e => outIo_ok (as := as) h k e
  | .io i :: as, r, r0, r2, fp, h, k, e => by
    unfold outIo at e
    cases q : r[i]? with
    | none =>
      rw [q] at e
      cases e
    | some o =>
      rw [q] at e
      cases o with
      | none => cases e
      | some d =>
        have e : outIo as (r.set i none) = some r2 := e
        obtain ⟨g, h1, _, h3⟩ := h.off i
        obtain ⟨v, f, e1, e2, e3⟩ := h3 d q
        have hi : i < r.length := (List.getElem?_eq_some_iff.mp q).1
        obtain ⟨fr, fo, k1, k2, k3, k4, k5, k6, k7⟩ := outIo_ok (as := as) h1 (fun j d' hj => by
          by_cases ej : i = j
          · subst ej
            rw [List.getElem?_set_self hi] at hj
            cases hj
          · rw [List.getElem?_set_ne ej] at hj
            exact k j d' hj) e
        have hn : r2[i]? = some none := k5 i (List.getElem?_set_self hi)
        refine ⟨fr, f ++ fo, k1, e3.trans (perm3 k2), ⟨d, v, f, fo, k i d q, e1, e2, k3, rfl⟩, by rw [k4, List.length_set], fun j hj => ?_, ?_, fun j hj => ?_⟩
        · refine k5 j ?_
          by_cases ej : i = j
          · subst ej
            exact List.getElem?_set_self hi
          · rw [List.getElem?_set_ne ej]
            exact hj
        · refine List.nodup_cons.mpr ⟨fun hm => ?_, k6⟩
          exact (k7 i hm).2 (List.getElem?_set_self hi)
        · rcases List.mem_cons.mp hj with ej | hj
          · subst ej
            exact ⟨hn, fun z => by
              rw [q] at z
              cases z⟩
          · refine ⟨(k7 j hj).1, fun z => ?_⟩
            refine (k7 j hj).2 ?_
            by_cases ej : i = j
            · subst ej
              exact List.getElem?_set_self hi
            · rw [List.getElem?_set_ne ej]
              exact z
mutual
theorem Rep.more (hG : ∀ a, B a → G a) : ∀ (d : D) (v : V) (fx : List Addr), Rep C H F B d v fx → Rep C H F G d v fx
  | .non, _, _, h => h
  | .bl _, _, _, h => h
  | .int _, _, _, h => h
  | .str _, _, _, h => h
  | .fn _, _, _, h => h
  | .exc _ _, _, _, h => h
  | .tup ds, _, fx, h => by
    obtain ⟨a, vs, e, t, r⟩ := h
    exact ⟨a, vs, e, t, Reps.more hG ds vs fx r⟩
  | .lst m ds, _, _, h => by
    obtain ⟨a, vs, fq, e, t, r, ef⟩ := h
    refine ⟨a, vs, fq, e, ?_, Reps.more hG ds vs fq r, ef⟩
    cases m with
    | own => exact t
    | frz => exact t
    | bor => exact ⟨t.1, hG a t.2⟩
    | ro => exact t
  | .dct _ _ _, _, _, h => h.elim
  | .ins _ _ _ _, _, _, h => h.elim
theorem Reps.more (hG : ∀ a, B a → G a) : ∀ (ds : List D) (vs : List V) (fx : List Addr), Reps C H F B ds vs fx → Reps C H F G ds vs fx
  | [], _, _, h => h
  | d :: ds, _, _, h => by
    obtain ⟨v, vr, f1, f2, e, r1, r2, ef⟩ := h
    exact ⟨v, vr, f1, f2, e, Rep.more hG d v f1 r1, Reps.more hG ds vr f2 r2, ef⟩
end
/-- what the def is given, as the values say -/
theorem argD_ok (hG : ∀ a, B a → G a) {r0 r2 : Rho} {fr : List Addr} (h2 : Slots C H F B r2 s fr) : ∀ {as : List Ar} {vs : List V} {fq fo : List Addr} {ds : List D}, (as.any isBor = true → ∀ a ∈ fr, G a) → IoR C H F B s r0 as fo → RAs C B s H F as vs fq → argD r0 r2 as = some ds →
    ∃ fc, Reps C H F G ds vs fc ∧ fc.Perm (fq ++ fo)
  | [], _, _, _, _, _, k, h, e => by
    cases e
    obtain ⟨rfl, rfl⟩ := h
    rw [show _ = [] from k]
    exact ⟨[], ⟨rfl, rfl⟩, List.Perm.refl _⟩
  | .val d :: as, _, _, fo, ds, hb, k, h, e => by
    obtain ⟨v, vr, f1, f2, rfl, r1, r2', rfl⟩ := h
    have e : (argD r0 r2 as).map (d :: ·) = some ds := e
    cases q : argD r0 r2 as with
    | none =>
      rw [q] at e
      cases e
    | some es =>
      rw [q] at e
      cases e
      obtain ⟨fc, h3, h4⟩ := argD_ok hG h2 (fun z => hb (by
        rw [List.any_cons, z, Bool.or_true])) (show IoR C H F B s r0 as fo from k) r2' q
      exact ⟨f1 ++ fc, ⟨v, vr, f1, fc, rfl, Rep.more hG d v f1 r1, h3, rfl⟩, by rw [List.append_assoc]; exact h4.append_left f1⟩
  | .io i :: as, _, fq, _, ds, hb, k, h, e => by
    obtain ⟨v, vr, rfl, hv, r2'⟩ := h
    obtain ⟨d, v', f1, f2, e1, e2, r1, k2, rfl⟩ := k
    rw [hv] at e2
    cases e2
    unfold argD at e
    rw [e1] at e
    have e : (argD r0 r2 as).map (d :: ·) = some ds := e
    cases q : argD r0 r2 as with
    | none =>
      rw [q] at e
      cases e
    | some es =>
      rw [q] at e
      cases e
      obtain ⟨fc, h3, h4⟩ := argD_ok hG h2 (fun z => hb (by
        rw [List.any_cons, z, Bool.or_true])) k2 r2' q
      refine ⟨f1 ++ fc, ⟨v, vr, f1, fc, rfl, Rep.more hG d v f1 r1, h3, rfl⟩, (h4.append_left f1).trans ?_⟩
      rw [← List.append_assoc, ← List.append_assoc]
      exact List.perm_append_comm.append_right f2
  | .bor i :: as, _, fq, fo, ds, hb, k, h, e => by
    obtain ⟨v, vr, rfl, hv, r2'⟩ := h
    unfold argD at e
    cases q0 : r2[i]? with
    | none =>
      rw [q0] at e
      cases e
    | some o =>
      rw [q0] at e
      cases o with
      | none => cases e
      | some d =>
        have e : (argD r0 r2 as).map (br d :: ·) = some ds := e
        obtain ⟨v', f, e1, r1, hf⟩ := h2.get q0
        rw [hv] at e1
        cases e1
        cases q : argD r0 r2 as with
        | none =>
          rw [q] at e
          cases e
        | some es =>
          rw [q] at e
          cases e
          obtain ⟨fc, h3, h4⟩ := argD_ok hG h2 (fun z => hb (by
            rw [List.any_cons, z, Bool.or_true])) (show IoR C H F B s r0 as fo from k) r2' q
          exact ⟨fc, ⟨v, vr, [], fc, rfl, Rep.br d v f r1 hG fun a ha => hb rfl a (hf a ha), h3, rfl⟩, h4⟩
theorem pick_io : ∀ {as : List Ar} {vs : List V} {fq : List Addr} (pre : List V), RAs C B s H F as vs fq → pick (pre ++ vs) (ioAt as pre.length) = some (ioVals as vs)
  | [], _, _, _, h => by
    rw [h.1] <;> rfl
  | .val d :: as, _, _, pre, h => by
    obtain ⟨v, vr, f1, f2, rfl, r1, r2, _⟩ := h
    have ih := pick_io (pre ++ [v]) r2
    rw [List.append_assoc, List.length_append] at ih
    exact ih
  | .bor i :: as, _, _, pre, h => by
    obtain ⟨v, vr, rfl, _, r2⟩ := h
    have ih := pick_io (pre ++ [v]) r2
    rw [List.append_assoc, List.length_append] at ih
    exact ih
  | .io i :: as, _, _, pre, h => by
    obtain ⟨v, vr, rfl, _, r2⟩ := h
    have ih := pick_io (pre ++ [v]) r2
    rw [List.append_assoc, List.length_append] at ih
    have e : (pre ++ v :: vr)[pre.length]? = some v := by simp
    show pick (pre ++ v :: vr) (pre.length :: ioAt as (pre.length + 1)) = some (v :: ioVals as vr)
    unfold pick
    rw [e]
    have ih : pick (pre ++ v :: vr) (ioAt as (pre.length + 1)) = some (ioVals as vr) := ih
    show (pick (pre ++ v :: vr) (ioAt as (pre.length + 1))).map (v :: ·) = _
    rw [ih] <;> rfl
/-- put back behind the call -/
theorem putIo_ok : ∀ {as : List Ar} {vs : List V} {fq : List Addr} {fin : List D} {r2 r3 : Rho} {fr fo : List Addr}, RAs C B s H F as vs fq → Slots C H' F' B r2 s fr → r2.length = s.length → (ioIx as).Nodup → (∀ i ∈ ioIx as, r2[i]? = some none) → Reps C H' F' B fin (ioVals as vs) fo → putIo as fin r2 = some r3 →
    ∃ g, Slots C H' F' B r3 s g ∧ g.Perm (fo ++ fr) ∧ r3.length = s.length
  | [], _, _, fin, r2, r3, fr, fo, h, h2, hl, _, _, hr, e => by
    obtain ⟨rfl, rfl⟩ := h
    cases fin with
    | nil =>
      cases e
      rw [hr.2]
      exact ⟨fr, h2, List.Perm.refl _, hl⟩
    | cons _ _ => cases e
  | .val d :: as, _, _, fin, r2, r3, fr, fo, h, h2, hl, hn, hi, hr, e => by
    obtain ⟨v, vr, f1, f2, rfl, r1, r2', _⟩ := h
    cases fin <;> exact putIo_ok (as := as) r2' h2 hl hn hi hr e
  | .bor i :: as, _, _, fin, r2, r3, fr, fo, h, h2, hl, hn, hi, hr, e => by
    obtain ⟨v, vr, rfl, _, r2'⟩ := h
    cases fin <;> exact putIo_ok (as := as) r2' h2 hl hn hi hr e
  | .io i :: as, _, _, fin, r2, r3, fr, fo, h, h2, hl, hn, hi, hr, e => by
    obtain ⟨v, vr, rfl, hv, r2'⟩ := h
    cases fin with
    | nil => cases e
    | cons d fin =>
      have e : putIo as fin (r2.set i (some d)) = some r3 := e
      obtain ⟨w, wr, f1, f2, ew, q1, q2, ef⟩ := (show Reps C H' F' B (d :: fin) (v :: ioVals as vr) fo from hr)
      cases ew
      subst ef
      have hi0 : r2[i]? = some none := hi i (by simp [ioIx])
      have hil : i < r2.length := (List.getElem?_eq_some_iff.mp hi0).1
      obtain ⟨g, g1, g2⟩ := Slots.put (r := r2) (i := i) (by rw [set_self hi0]; exact h2) hil (by rw [← hl]; exact hil) q1
      rw [set_selfV hv] at g1
      have hn2 := List.nodup_cons.mp (show (i :: ioIx as).Nodup from hn)
      obtain ⟨g', k1, k2, k3⟩ := putIo_ok (as := as) r2' g1 (by rw [List.length_set]; exact hl) hn2.2 (fun j hj => by
        have ej : i ≠ j := fun z => hn2.1 (by rw [z]; exact hj)
        rw [List.getElem?_set_ne ej]
        exact hi j (List.mem_cons_of_mem _ hj)) q2 e
      refine ⟨g', k1, k2.trans ((g2.append_left f2).trans ?_), k3⟩
      rw [← List.append_assoc]
      exact List.perm_append_comm.append_right fr
end

section
variable {C : RC} {B : Addr → Prop} {W : WX} {p iv : Bool} {s : L2.St} {Q : VK} {H : Hp} {F : Addr → Prop} {f1 fq gp : List Addr} {r : Rho} {G : Gm} {cf : Str → List D → FR}
theorem Slots.moreB {B' : Addr → Prop} (hG : ∀ a, B a → B' a) : ∀ {r : Rho} {s : L2.St} {fp : List Addr}, Slots C H F B r s fp → Slots C H F B' r s fp
  | [], _, _, h => h
  | none :: r, s, _, h => Slots.moreB hG (r := r) h
  | some d :: r, _, _, h => by
    obtain ⟨v, sr, f1, f2, es, r1, r2, ef⟩ := h
    exact ⟨v, sr, f1, f2, es, Rep.more hG d v f1 r1, Slots.moreB hG (r := r) r2, ef⟩
/-- a call: from what is wanted behind it to the def's promise -/
theorem call_ok {f : Str} {as : List Ar} {vs : List V} (S : Sd C B H F r s f1) (hs : ∀ a ∈ f1, a ∈ gp) (hq : ∀ a ∈ fq, a ∈ gp) (hr : RAs C B s H F as vs fq) (hv : ∀ a ∈ fq, H a ≠ none) (hi : Fly F B f1 fq) (g : Goal C B W (RD C B) false iv s Q H F gp (callR G cf f as r)) :
    spF C cf (G.io f) f vs H Q (fun cls d H' => W cls d s H') := by
  unfold callR at g
  by_cases hio : ioAt as 0 = G.io f
  case neg =>
    rw [if_neg hio] at g
    exact False.elim g
  rw [if_pos hio] at g
  cases e1 : outIo as r with
  | none =>
    rw [e1] at g
    exact False.elim g
  | some r2 =>
  rw [e1] at g
  dsimp only at g
  cases e2 : argD r r2 as with
  | none =>
    rw [e2] at g
    exact False.elim g
  | some ds =>
  rw [e2] at g
  dsimp only at g
  obtain ⟨fr, fo, k1, k2, k3, k4, _, k6, k7⟩ := outIo_ok (r0 := r) S.sl (fun _ _ z => z) e1
  -- the owned addresses: io, rest, values
  have ndp : (fo ++ fr).Nodup := k2.nodup_iff.mp S.nd
  have nd2 := List.nodup_append.mp ndp
  have infp : ∀ a, a ∈ fo ∨ a ∈ fr → a ∈ f1 := fun a h => k2.mem_iff.mpr (List.mem_append.mpr h)
  have apq : ∀ a ∈ fq, a ∉ f1 := hi.apart
  have ndq := (List.nodup_append.mp hi.nd).2.1
  -- lent
  let B' : Addr → Prop := fun a => if as.any isBor = true then H a ≠ none ∧ a ∉ fq ++ fo else B a
  have hB' : ∀ a, B a → B' a := fun a ha => by
    show if as.any isBor = true then _ else _
    by_cases hb : as.any isBor = true
    · rw [if_pos hb]
      refine ⟨S.bd a ha, fun hm => ?_⟩
      rcases List.mem_append.mp hm with hm | hm
      · exact hi.nB a hm ha
      · exact S.fB a (infp a (.inl hm)) ha
    · rw [if_neg hb]
      exact ha
  have hBd : ∀ a, B' a → H a ≠ none := fun a ha => by
    have ha : if as.any isBor = true then H a ≠ none ∧ a ∉ fq ++ fo else B a := ha
    by_cases hb : as.any isBor = true
    · rw [if_pos hb] at ha
      exact ha.1
    · rw [if_neg hb] at ha
      exact S.bd a ha
  have hBn : ∀ a ∈ fq ++ fo, ¬ B' a := fun a hm ha => by
    have ha : if as.any isBor = true then H a ≠ none ∧ a ∉ fq ++ fo else B a := ha
    by_cases hb : as.any isBor = true
    · rw [if_pos hb] at ha
      exact ha.2 hm
    · rw [if_neg hb] at ha
      rcases List.mem_append.mp hm with hm | hm
      · exact hi.nB a hm ha
      · exact S.fB a (infp a (.inl hm)) ha
  have there : ∀ a ∈ f1, H a ≠ none := fun a ha e => by
    obtain ⟨o, q, _⟩ := S.sl.mt a ha
    rw [e] at q
    cases q
  obtain ⟨fc, c1, c2⟩ := argD_ok hB' k1 (fun hb a ha => by
    show if as.any isBor = true then _ else _
    rw [if_pos hb]
    refine ⟨there a (infp a (.inr ha)), fun hm => ?_⟩
    rcases List.mem_append.mp hm with hm | hm
    · exact apq a hm (infp a (.inr ha))
    · exact nd2.2.2 a hm a ha rfl) k3 hr e2
  have ndc : (fq ++ fo).Nodup := List.nodup_append.mpr ⟨ndq, nd2.1, fun x hx y hy e => by
    subst e
    exact apq x hx (infp x (.inl hy))⟩
  have memc : ∀ a, a ∈ fc ↔ a ∈ fq ++ fo := fun a => c2.mem_iff
  have hw : pick vs (G.io f) = some (ioVals as vs) := by
    rw [← hio]
    exact pick_io [] hr
  have nFc : ∀ a ∈ fq ++ fo, ¬ F a := fun a hm => by
    rcases List.mem_append.mp hm with hm | hm
    · exact hi.nF a hm
    · exact S.fF a (infp a (.inl hm))
  have subg : ∀ a ∈ fc, a ∈ gp := fun a ha => by
    rcases List.mem_append.mp ((memc a).mp ha) with hm | hm
    · exact hq a hm
    · exact hs a (infp a (.inl hm))
  -- what is not the def's stays: the rest of the slots behind the call
  have back : ∀ {H' : Hp} {F' : Addr → Prop} {fin : List D} {fo' fq' : List Addr} {r3 : Rho}, Stp false H F fc H' F' (fo' ++ fq') → Reps C H' F' B fin (ioVals as vs) fo' → (fo' ++ fq').Nodup → (∀ a ∈ fo' ++ fq', ¬ F' a) → (∀ a ∈ fo' ++ fq', ¬ B a) → (∀ a, F' a → H' a ≠ none) → putIo as fin r2 = some r3 →
      ∃ f3, Sd C B H' F' r3 s f3 ∧ Fly F' B f3 fq' ∧ Stp false H F gp H' F' (f3 ++ fq') := by
    intro H' F' fin fo' fq' r3 st rf nd nF nB hd e3
    have cg : Chg H F B fc H' F' := ⟨fun a o e n => st.ext a o e (.inr n), fun a ha => by
      rcases List.mem_append.mp ((memc a).mp ha) with hm | hm
      · cases q : H a with
        | none => exact absurd q (hv a hm)
        | some o =>
          exact c1.mt _ _ _ a ha |>.imp fun o' z => by
            rw [q] at z
            exact z
      · exact S.sl.mt a (infp a (.inl hm)), fun a ha => nFc a ((memc a).mp ha), fun a ha hb => hBn a ((memc a).mp ha) (hB' a hb), st.fm⟩
    have s2 : Slots C H' F' B r2 s fr := Slots.chg cg k1 fun a ha hm => by
      rcases List.mem_append.mp ((memc a).mp hm) with z | z
      · exact apq a z (infp a (.inr ha))
      · exact nd2.2.2 a z a ha rfl
    obtain ⟨f3, g1, g2, g3⟩ := putIo_ok hr s2 (by rw [k4]; exact S.len) k6 (fun i hm => (k7 i hm).1) rf e3
    -- apart: new owned ones against the rest
    have apart : ∀ a ∈ fr, a ∉ fo' ++ fq' := fun a ha hm => by
      rcases st.new a hm with z | z
      · rcases List.mem_append.mp ((memc a).mp z) with z | z
        · exact apq a z (infp a (.inr ha))
        · exact nd2.2.2 a z a ha rfl
      · exact there a (infp a (.inr ha)) z
    have ndo := List.nodup_append.mp nd
    have mem3 : ∀ a, a ∈ f3 ↔ a ∈ fo' ∨ a ∈ fr := fun a => by rw [g2.mem_iff, List.mem_append]
    have n3 : f3.Nodup := g2.nodup_iff.mpr (List.nodup_append.mpr ⟨ndo.1, nd2.2.1, fun x hx y hy e => by
      subst e
      exact apart x hy (List.mem_append_left _ hx)⟩)
    have F3 : ∀ a ∈ fr, ¬ F' a := fun a ha hF => by
      rcases st.fn a hF with z | z | z
      · exact S.fF a (infp a (.inr ha)) z
      · rcases List.mem_append.mp ((memc a).mp z) with z | z
        · exact apq a z (infp a (.inr ha))
        · exact nd2.2.2 a z a ha rfl
      · exact there a (infp a (.inr ha)) z
    refine ⟨f3, ⟨g1, n3, fun a ha => ?_, fun a ha => ?_, hd, fun a ha e => ?_, g3⟩, ⟨?_, fun a ha => nF a (List.mem_append_right _ ha), fun a ha => nB a (List.mem_append_right _ ha)⟩, ?_⟩
    · rcases (mem3 a).mp ha with z | z
      · exact nF a (List.mem_append_left _ z)
      · exact F3 a z
    · rcases (mem3 a).mp ha with z | z
      · exact nB a (List.mem_append_left _ z)
      · exact S.fB a (infp a (.inr z))
    · cases q : H a with
      | none => exact S.bd a ha q
      | some o =>
        rw [st.ext a o q (.inr fun hm => hBn a ((memc a).mp hm) (hB' a ha))] at e
        cases e
    · refine List.nodup_append.mpr ⟨n3, ndo.2.1, fun x hx y hy e => ?_⟩
      subst e
      rcases (mem3 x).mp hx with z | z
      · exact ndo.2.2 x z x hy rfl
      · exact apart x z (List.mem_append_right _ hy)
    · have w := st.wide subg
      refine ⟨w.ext, fun a ha => ?_, w.fm, w.fn⟩
      rcases List.mem_append.mp ha with ha | ha
      · rcases (mem3 a).mp ha with z | z
        · exact w.new a (List.mem_append_left _ z)
        · exact .inl (hs a (infp a (.inr z)))
      · exact w.new a (List.mem_append_right _ ha)
  refine ⟨ds, F, B', fc, ioVals as vs, c1, c2.nodup_iff.mpr ndc, fun a ha => nFc a ((memc a).mp ha), fun a ha => hBn a ((memc a).mp ha), S.fd, hBd, hw, ?_⟩
  cases e3 : cf f ds with
  | bad =>
    rw [e3] at g
    exact False.elim g
  | ret d fin =>
    rw [e3] at g
    dsimp only at g
    intro v H' F' fq' fo' r1 r2' nd nF nB hd st
    by_cases hb : (as.any isBor && !(clean d && cleans fin)) = true
    · rw [if_pos hb] at g
      exact False.elim g
    rw [if_neg hb] at g
    -- nothing lent comes back
    have hcl : as.any isBor = true → clean d = true ∧ cleans fin = true := fun z => by
      rw [z, Bool.true_and] at hb
      have hb : (clean d && cleans fin) = true := by simpa using hb
      exact Bool.and_eq_true_iff.mp hb
    have rd : Rep C H' F' B d v fq' := by
      by_cases z : as.any isBor = true
      · exact Rep.clean d v fq' r1 (hcl z).1
      · have e : B' = B := funext fun a => if_neg z
        rw [← e]
        exact r1
    have rf : Reps C H' F' B fin (ioVals as vs) fo' := by
      by_cases z : as.any isBor = true
      · exact Reps.clean fin _ fo' r2' (hcl z).2
      · have e : B' = B := funext fun a => if_neg z
        rw [← e]
        exact r2'
    cases e4 : putIo as fin r2 with
    | none =>
      rw [e4] at g
      exact False.elim g
    | some r3 =>
      rw [e4] at g
      obtain ⟨f3, S3, i3, st3⟩ := back st rf nd nF (fun a ha hB => nB a ha (hB' a hB)) hd e4
      exact g v H' F' f3 fq' S3 rd (fun _ => i3) st3
  | exc c fs fin =>
    rw [e3] at g
    dsimp only at g
    intro cls d H' F' fo' r1 r2' nd nF nB hd st
    by_cases hb : (as.any isBor && !cleans fin) = true
    · rw [if_pos hb] at g
      exact False.elim g
    rw [if_neg hb] at g
    have rf : Reps C H' F' B fin (ioVals as vs) fo' := by
      by_cases z : as.any isBor = true
      · rw [z, Bool.true_and] at hb
        exact Reps.clean fin _ fo' r2' (by simpa using hb)
      · have e : B' = B := funext fun a => if_neg z
        rw [← e]
        exact r2'
    cases e4 : putIo as fin r2 with
    | none =>
      rw [e4] at g
      exact False.elim g
    | some r3 =>
      rw [e4] at g
      have st' : Stp false H F fc H' F' (fo' ++ []) := by
        rw [List.append_nil]
        exact st
      obtain ⟨f3, S3, i3, st3⟩ := back (fq' := []) st' rf (by rw [List.append_nil]; exact nd) (by rw [List.append_nil]; exact nF) (by rw [List.append_nil]; exact fun a ha hB => nB a ha (hB' a hB)) hd e4
      rw [List.append_nil] at st3
      exact g cls d H' F' f3 S3 r1 st3
end
end PI
set_option maxRecDepth 100000
set_option maxHeartbeats 4000000
/-! PI7: does a code fit a piece of syntax? -/
namespace PI
open PySem PySem.Spec PyProof.Rows L2

def bumps : Expr → Bool
  | .BinOp (.Constant (.str _) _ _) _ _ _ => true
  | _ => false
/-- o.replace(y, z) with written texts; does the name stand on the call's line? -/
def rplParts : Expr → Option (Expr × Str × Str × Bool)
  | .Call (.Attribute o m apos) [.Constant (.str y) _ _, .Constant (.str z) _ _] [] pos => if m = "replace" then some (o, y, z, apos.endLine == pos.line) else none
  | _ => none
def notStar : Expr → Bool
  | .Starred _ _ => false
  | _ => true
def notSet : Expr → Bool
  | .Set _ _ _ => false
  | _ => true
def notSlice : Expr → Bool
  | .Slice _ _ _ _ => false
  | _ => true
def isUSub : UnaryOp → Bool
  | .USub => true
  | _ => false
def isNot : UnaryOp → Bool
  | .Not => true
  | _ => false
def clause1 : List Comprehension → Option (Expr × Expr × List Expr)
  | [g] => if decide (g.is_async = 0) then some (g.target, g.iter, g.ifs) else none
  | _ => none
def plainTest : Expr → Bool
  | .UnaryOp .Not _ _ => false
  | .BoolOp _ _ _ => false
  | .IfExp _ _ _ _ => false
  | .Compare _ _ _ _ => false
  | _ => true
def plainBase : Expr → Bool
  | .Call _ _ _ _ => false
  | _ => true
def isB : Bop → Operator → Bool
  | .add, .Add => true
  | .sub, .Sub => true
  | .mul, .Mult => true
  | .fdiv, .FloorDiv => true
  | .mod, .Mod => true
  | .pow, .Pow => true
  | _, _ => false
def isC : Cop → CmpOp → Bool
  | .eq, .Eq => true
  | .ne, .NotEq => true
  | .lt, .Lt => true
  | .le, .LtE => true
  | .gt, .Gt => true
  | .ge, .GtE => true
  | .isin, .In => true
  | .notin, .NotIn => true
  | .isn, .Is => true
  | .notn, .IsNot => true
  | _, _ => false
theorem isB_ok {o : Bop} {p : Operator} (h : isB o p = true) : p = asB o := by
  cases o <;> cases p <;> first | rfl | cases h
theorem isC_ok {o : Cop} {p : CmpOp} (h : isC o p = true) : p = asC o := by
  cases o <;> cases p <;> first | rfl | cases h
def visB (sc : Scope) (x : Str) : Bool := match sc.names.lookup x with
  | some .local => true
  | some .cell => true
  | some .free => true
  | _ => false
def locB (sc : Scope) (x : Str) : Bool := match sc.names.lookup x with
  | some .local => true
  | some .cell => true
  | _ => false
def glB (sc : Scope) (x : Str) : Bool := match sc.names.lookup x with
  | some .globalImplicit => true
  | _ => false
def odd (x : Str) : Bool := (x == ("__debug__" : Str)) || (x == ("__classdict__" : Str)) || (x == ("__name__" : Str))
def slotB (N : List Str) (sc : Scope) (i : Nat) (x : Str) : Bool := decide (N[i]? = some x) && (visB sc x && !odd x)
def biName : Bi → Str
  | .len => "len"
  | .int => "int"
  | .str => "str"
  | .tuple => "tuple"
  | .list => "list"
  | .abs => "abs"
  | .sum => "sum"
  | .any => "any"
  | .all => "all"
def bjName : Bj → Str
  | .max => "max"
  | .min => "min"
def meName : Me → Str
  | .split => "split"
  | .join => "join"
  | .startswith => "startswith"
  | .index => "index"
/-- asks that nothing is handled -/
def isItl : Sr → Bool
  | .itl _ => true
  | _ => false
def biHot : Bi → Bool
  | .sum => true
  | .any => true
  | .all => true
  | _ => false
def tyName : Ty → Option Str
  | .int => some "int"
  | .bool => some "bool"
  | .str => some "str"
  | .tup => some "tuple"
  | _ => none
def kD : D → Const → Bool
  | .non, .none => true
  | .bl b, .bool c => b == c
  | .int i, .int j => decide (i = j)
  | .str s, .str t => decide (s = t)
  | _, _ => false
/-- a target -/
def chkTg (N : List Str) (sc : Scope) (hot : Bool) : Tg → Expr → Bool
  | .nm i, .Name x _ => decide (N[i]? = some x) && locB sc x
  | .tu ts, .Tuple es _ _ => !hot && goes ts es
  | _, _ => false
where goes : List Tg → List Expr → Bool
  | [], [] => true
  | t :: ts, e :: es => chkTg N sc hot t e && goes ts es
  | _, _ => false

section
variable (G : Gm) (N : List Str) (hot : Bool)
def gB (sc : Scope) (x y : Str) : Bool := decide (x = y) && (glB sc y && !odd y)
mutual
def chkE (sc : Scope) : E → Expr → Bool
  | .k d, .Constant c _ _ => kD d c
  | .gl x, .Name y _ => gB sc x y && (G.glob x).isSome
  | .s i, .Name y _ => slotB N sc i y
  | .cp e, x => chkE sc e x
  | .mv i, .Name y _ => slotB N sc i y
  | .vf i, .Name y _ => slotB N sc i y
  | .fz e, x => chkE sc e x && iv e
  | .tup es, .Tuple xs _ _ => chkEs sc es xs
  | .lst es, .List xs _ => chkEs sc es xs || chkEsT sc es xs
  | .bin o a b, .BinOp x p y _ => isB o p && ((iv a || pu b) && (chkE sc a x && chkE sc b y))
  | .neg a, .UnaryOp p x _ => isUSub p && chkE sc a x
  | .cmp o a b, .Compare x ps ys _ => match ps, ys with
    | [p], [y] => isC o p && ((iv a || pu b) && (chkE sc a x && (chkE sc b y && notSet y)))
    | _, _ => false
  | .chn o u a b c, .Compare x ps ys _ => match ps, ys with
    | [p, q], [y, z] => (isC o p && isC u q) && (((iv a || pu b) && (iv b || pu c)) && ((chkE sc a x && chkE sc b y) && (chkE sc c z && notSet z)))
    | _, _ => false
  | .andv a b, .BoolOp p xs pos => match p, xs with
    | .And, x :: y :: r => (chkE sc a x && iv b) && (match r with | [] => chkE sc b y | _ => chkE sc b (.BoolOp .And (y :: r) pos))
    | _, _ => false
  | .orv a b, .BoolOp p xs pos => match p, xs with
    | .Or, x :: y :: r => (chkE sc a x && iv b) && (match r with | [] => chkE sc b y | _ => chkE sc b (.BoolOp .Or (y :: r) pos))
    | _, _ => false
  | .notv a, .UnaryOp p x _ => isNot p && chkE sc a x
  | .ife t a b, .IfExp c x y _ => (iv a && iv b) && (chkT sc t c && (chkE sc a x && chkE sc b y))
  | .cal f as, .Call fn xs ks _ => match fn, xs, ks with
    | .Name y _, x :: xs, [] => gB sc f y && ((G.isFn f && ((hot || G.isCold f) && (!hot || G.isHot f))) && (chkAs sc as (x :: xs)))
    | _, _, _ => false
  | .cav i as, .Call fn xs ks _ => match fn, xs, ks with
    | .Name y _, x :: xs, [] => !hot && (slotB N sc i y && chkAs sc as (x :: xs))
    | _, _, _ => false
  | .bi b a, .Call fn xs ks _ => match fn, xs, ks with
    | .Name y _, [x], [] => (gB sc (biName b) y && !(hot && biHot b)) && (chkE sc a x && notStar x)
    | _, _, _ => false
  | .bj b a c, .Call fn xs ks _ => match fn, xs, ks with
    | .Name y _, [x, z], [] => (gB sc (bjName b) y && !hot) && (((iv a || pu c) && (chkE sc a x && chkE sc c z)) && (notStar x && notStar z))
    | _, _, _ => false
  | .me m a b, .Call fn xs ks pos => match fn, xs, ks with
    | .Attribute o nm apos, [x], [] => (decide (nm = meName m) && (apos.endLine == pos.line)) && (((iv a || pu b) && (chkE sc a o && chkE sc b x)) && (notStar x && plainBase o))
    | _, _, _ => false
  | .rpl _ _ _, _ => false
  | .pop i, .Call fn xs ks pos => match fn, xs, ks with
    | .Attribute (.Name y _) nm apos, [], [] => (decide (nm = "pop") && (apos.endLine == pos.line)) && slotB N sc i y
    | _, _, _ => false
  | .ix a b, .Subscript x y _ => ((iv a || pu b) && (chkE sc a x && chkE sc b y)) && notSlice y
  | .sl a lo hi, .Subscript x y _ => match y with
    | .Slice l h none _ => (chkE sc a x && ((iv a || (puo lo && puo hi)) && (chkO sc lo l && chkO sc hi h)))
    | _ => false
  | .cmpr elt tg src cond own, .ListComp x gs scope _ => match clause1 gs with
    | some (t, it, ifs) => (!hot || isItl src) && ((blkC N sc scope own && (chkSr sc src t it && notSet it)) && ((chkTg N scope hot tg t && tgIn own tg) && (chkE scope elt x && chkC scope cond ifs)))
    | none => false
  | .xf i n, .Attribute (.Name y _) m _ => (hot && decide (n = m)) && ((n == "line" || n == "column") && slotB N sc i y)
  | .isx i c, .Call fn xs ks _ => match fn, xs, ks with
    | .Name y _, [.Name z _, .Name w _], [] => (hot && gB sc "isinstance" y) && (slotB N sc i z && (gB sc c w && (G.exs.contains c || c == "ValueError")))
    | _, _, _ => false
  | .isi a t, .Call fn xs ks _ => match fn, xs, ks with
    | .Name y _, [x, .Name z _], [] => (gB sc "isinstance" y && (match tyName t with | some n => gB sc n z | none => false)) && (chkE sc a x && notStar x)
    | _, _, _ => false
  | _, _ => false
def chkT (sc : Scope) : T → Expr → Bool
  | .e e, x => chkE sc e x && (plainTest x || isCmp e)
  | .an a b, .BoolOp p xs pos => match p, xs with
    | .And, x :: y :: r => chkT sc a x && (match r with | [] => chkT sc b y | _ => chkT sc b (.BoolOp .And (y :: r) pos))
    | _, _ => false
  | .oo a b, .BoolOp p xs pos => match p, xs with
    | .Or, x :: y :: r => chkT sc a x && (match r with | [] => chkT sc b y | _ => chkT sc b (.BoolOp .Or (y :: r) pos))
    | _, _ => false
  | .no a, .UnaryOp p x _ => isNot p && chkT sc a x
  | _, _ => false
def chkC (sc : Scope) : Ot → List Expr → Bool
  | .no, [] => true
  | .yes t, xs => match xs with
    | [x] => chkT sc t x
    | _ => false
  | _, _ => false
def chkEs (sc : Scope) : Es → List Expr → Bool
  | .nil, [] => true
  | .cons e es, xs => match xs with
    | x :: xs => (iv e && notStar x) && (chkE sc e x && chkEs sc es xs)
    | [] => false
  | _, _ => false
def chkEsT (sc : Scope) : Es → List Expr → Bool
  | .nil, _ => false
  | .cons e es, xs => match xs with
    | x :: xs => (bumps x && ((iv e && notStar x) && chkE sc e x)) && chkR sc es xs
    | [] => false
def chkR (sc : Scope) : Es → List Expr → Bool
  | .nil, [] => true
  | .nil, _ :: _ => false
  | .cons e es, xs => match xs with
    | x :: xs => ((iv e && notStar x) && (chkE sc e x || chkRp sc e x)) && chkR sc es xs
    | [] => false
def chkRp (sc : Scope) : E → Expr → Bool
  | .rpl a y z, x => match rplParts x with
    | some (o, y', z', h) => (h && (decide (y = y') && decide (z = z'))) && ((!(y == z) && plainBase o) && chkE sc a o)
    | none => false
  | _, _ => false
def chkAs (sc : Scope) : As → List Expr → Bool
  | .nil, [] => true
  | .val e as, xs => match xs with
    | x :: xs => (iv e && notStar x) && (chkE sc e x && chkAs sc as xs)
    | [] => false
  | .io i as, xs => match xs with
    | .Name y _ :: xs => slotB N sc i y && chkAs sc as xs
    | _ => false
  | .bor i as, xs => match xs with
    | .Name y _ :: xs => slotB N sc i y && chkAs sc as xs
    | _ => false
  | _, _ => false
def chkO (sc : Scope) : Oe → Option Expr → Bool
  | .no, none => true
  | .yes e, some x => chkE sc e x
  | _, _ => false
def chkSr (sc : Scope) : Sr → Expr → Expr → Bool
  | .it e, _, x => (iv e && chkE sc e x)
  | .itl e, _, x => (iv e && chkE sc e x)
  | .rng e, _, .Call fn xs ks _ => match fn, xs, ks with
    | .Name y _, [x], [] => gB sc "range" y && (chkE sc e x && notStar x)
    | _, _, _ => false
  | .rng2 a b, _, .Call fn xs ks _ => match fn, xs, ks with
    | .Name y _, [x, z], [] => gB sc "range" y && (((iv a || pu b) && (chkE sc a x && chkE sc b z)) && (notStar x && notStar z))
    | _, _, _ => false
  | .enum e, .Tuple _ _ _, .Call fn xs ks _ => match fn, xs, ks with
    | .Name y _, [x], [] => gB sc "enumerate" y && ((iv e && chkE sc e x) && notStar x)
    | _, _, _ => false
  | .zip a b, .Tuple _ _ _, .Call fn xs ks _ => match fn, xs, ks with
    | .Name y _, [x, z], [] => gB sc "zip" y && (((iv a && iv b) && (chkE sc a x && chkE sc b z)) && (notStar x && notStar z))
    | _, _, _ => false
  | _, _, _ => false
end
end
end PI
set_option maxRecDepth 100000
set_option maxHeartbeats 4000000
/-! PI7h: defs called in an except suite, the handled exception's class known. -/
namespace PI
open PySem PySem.Spec PyProof.Rows L2

/-- the exception that is handled -/
structure HotP (X : Cx) (a : Addr) (oe : Obj) (cls : Value) (d : Option Addr) : Prop where
  zn : L2N.Zn cls d oe
  fl : ∃ vs, oe.data = .fields vs
  pin : (a, oe) ∈ X.pn
  hd : X.A.handled = some (.ref a)
theorem HotP.hot1 {X : Cx} {a : Addr} {oe : Obj} {cls : Value} {d : Option Addr} (h : HotP X a oe cls d) : L2H.Hot1 X.A (a, oe) := by
  obtain ⟨vs, e⟩ := h.fl
  exact ⟨h.hd, vs, e, h.zn.2.2 vs e⟩
theorem HotP.hotC {X : Cx} {a : Addr} {oe : Obj} {cls : Value} {d : Option Addr} (h : HotP X a oe cls d) : L2H.HotC X := ⟨(a, oe), h.hot1, h.pin⟩
/-- exceptions among the data: the one that is handled -/
def RC.hz (C : RC) (a : Addr) (cls : Value) (d : Option Addr) : RC := { C with Z := fun b c e => b = a ∧ C.mg c = some cls ∧ e = d }
/-- what a def promises in an except suite -/
structure FnE (P : Program) (w : World) (K : PySem.W.Frag) (mg : Str → Option Value) (base : Heap) (CX : CXT) (k : Nat) (f : Addr) (fd : FuncData) (ps : List Str) (sp : Addr → Value → Option Addr → Sp) : Prop where
  len : ∀ a cls d vs H Q E, sp a cls d vs H Q E → vs.length = ps.length
  run : ∀ (A : Around) (outer : List Env) (s : Shared) (H : Hp) (args : Args) (us : List Value) (vs : List V) (Q : VK) (E : XK) (a : Addr) (oe : Obj) (cls : Value) (d : Option Addr), L2H.RoomH k A → A.handled = some (.ref a) → L2N.Zn cls d oe → (∃ vs, oe.data = .fields vs) →
    L2H.PinOk outer H s (a, oe) → Env0 P w K mg base A outer s H → BindsTo s fd args (ps.zip us) → Vals vs us → sp a cls d vs H Q E → codeAny (model P w) A (.call (.ref f) args) (CR CX outer P w H s Q E) s
section
variable {X : Cx} {CX : CXT} {k : Nat} {f : Addr} {fd : FuncData} {ps : List Str} {sp : Addr → Value → Option Addr → Sp} {E : L2.St → XK} {x : Str} {q pos : Pos} {e : Expr} {es : List Expr} {t : TA} {a : Addr} {oe : Obj} {cls : Value} {d : Option Addr}
theorem run_fnE {pins : List (Addr × Obj)} {σ : L2.St} {H : Hp} {s : Shared} {Q : VK} {us : List Value} {vs : List V} (FO : FnE X.prog X.w X.K X.mg X.base CX k f fd ps sp) (room : L2H.RoomH k X.A) (hp : HotP X a oe cls d) (bd : Binds X.K fd ps []) (pa : PassesAt CX X σ (E σ))
    (J : Inv X pins σ H s) (rv : Vals vs us) (hsp : sp a cls d vs H Q (E σ)) : wpAny (model X.prog X.w) X.A (call (.ref f) us) (EP X pins σ Q) X.xe s := by
  have hlen : us.length = ps.length := by rw [← rv.length]; exact FO.len _ _ _ _ _ _ _ hsp
  have hbn := bd s us J.kIn (by rw [List.append_nil]; exact hlen)
  rw [List.append_nil] at hbn
  obtain ⟨g1, g2, g3, g4, g5⟩ := J.pin (a, oe) (List.mem_append_left _ hp.pin)
  have po : L2H.PinOk X.stack H s (a, oe) := ⟨g1, g2, fun hm => (List.mem_cons.mp (J.stkSub a hm)).elim g3 g4, g5⟩
  refine wpAny_call (codeAny_mono (FO.run X.A X.stack s H ⟨us, []⟩ us vs Q (E σ) a oe cls d room hp.hd hp.zn hp.fl po J.env0 hbn rv hsp) fun res s' hres => ?_)
  cases res with
  | error er => exact pa pins H s er s' J hres
  | ok fl =>
    cases fl with
    | ret u => exact J.after hres
    | next => exact False.elim hres
    | brk => exact False.elim hres
    | cont => exact False.elim hres
theorem pe_callE (FO : FnE X.prog X.w X.K X.mg X.base CX k f fd ps sp) (room : L2H.RoomH k X.A) (hp : HotP X a oe cls d) (gl : Gl X x) (hmg : X.mg x = some (.ref f)) (kp : PySem.W.keepIn X.K (.ref f) = true) (bd : Binds X.K fd ps []) (pa : ∀ σ, PassesAt CX X σ (E σ))
    (args : PA X (e :: es) t) (hdbg : (x == ("__debug__" : Str)) = false) (hst : starEach (e :: es) X.env = (false, eval e X.env) :: starEach es X.env) (hplain : (backTo pos (starEach es X.env)).any (·.1) = false) :
    PE X (.Call (.Name x q) (e :: es) [] pos) (tCallS (sp a cls d) E t) := by
  refine ⟨fun pins s σ H Q J hq => ?_⟩
  refine wpAny_Call_Name_kw (ld_glob J gl hmg ?_ hdbg)
  refine PySem.W.callWith_K (h₀ := X.base) J.ok.mod.kin kp (thn (args.run pos pins s σ H _ J hq) fun us s1 hh => ?_) hst hplain
  obtain ⟨vs, H1, J1, rv, hq1⟩ := hh
  exact ⟨J1.kIn, run_fnE FO room hp bd (pa σ) J1 rv hq1⟩
end
theorem fn_ofE {CX : CXT} {P : Program} {w : World} {K : PySem.W.Frag} {mg : Str → Option Value} {base : Heap} {k : Nat} {f : Addr} {name qual : Str} {params : Arguments} {body : List Stmt} {scope : Scope} {dV kV doc pm cdv ct oc : Value} {an od : Option Addr}
    {osl : Array (Option Value)} {N ps : List Str} {sp : Addr → Value → Option Addr → Sp} (hlk : K.lookup f = some ⟨oc, od, .func (PySem.W.fnOf name qual params body scope dV kV doc pm an cdv ct), osl⟩) (hcode : PySem.W.codeIn K cdv qual = true) (sco : FnScope N ps scope)
    (hlen : ∀ a cls d vs H Q E, sp a cls d vs H Q E → vs.length = ps.length)
    (hbd : ∀ (A : Around) (outer : List Env) (s : Shared) (H : Hp) (vs : List V) (Q : VK) (E : XK) (a : Addr) (oe : Obj) (cls : Value) (d : Option Addr), A.handled = some (.ref a) → L2N.Zn cls d oe → (∃ vs, oe.data = .fields vs) → L2H.RoomH k (A.deeper (envOfC qual scope s.heap.objs.size f cdv)) → sp a cls d vs H Q E →
      ∃ t, PSs (L2H.cxH CX P w K mg base N qual scope f cdv A outer s H E (a, oe)) body t ∧ t { nx := fun _ H' => Q .non H', rt := Q } (L2.start N vs) H) :
    FnE P w K mg base CX (k + 1) f (PySem.W.fnOf name qual params body scope dV kV doc pm an cdv ct) ps sp := by
  refine ⟨hlen, fun A outer s H args us vs Q E a oe cls d room hhd hzn hfl po en bd rv hsp => ?_⟩
  have hl := hlen _ _ _ _ _ _ _ hsp
  have kx : K.In s.heap := en.mod.kin.keeps fun b o z => (en.bs b o z).1
  have nlim : s.heap.NoLimit := en.mod.nolimit.keeps fun b o z => (en.bs b o z).1
  have kinds : ∀ y ∈ ps.zip us, scope.names.lookup y.1 = some .local ∨ (scope.names.lookup y.1 = some .cell ∧ ((cellsFrom (s.heap.objs.size + 1) scope.names []).lookup y.1).isSome = true) := fun y hy =>
    (sco.par y.1 (List.of_mem_zip (a := y.1) (b := y.2) hy).1).imp id fun q => ⟨q, PySem.W.cellsFrom_some _ _ _ (.inl q)⟩
  refine codeAny_call_function room.depth (kx _ _ hlk) rfl sco.co sco.gen rfl (PySem.W.codeRec_of kx hcode) (bd _ _ _ _ ?_)
  refine wpAny_newFunctionEnv_cells sco.kind kinds fun env henv s1 ic => ?_
  subst henv
  refine ⟨nlim.keeps ic.toInCall.keep, codeAny_func ?_⟩
  obtain ⟨t, hps, ht⟩ := hbd A outer s H vs Q E a oe cls d hhd hzn hfl (room.deeper _) hsp
  have J : Inv (L2H.cxH CX P w K mg base N qual scope f cdv A outer s H E (a, oe)) [] (L2.start N vs) H s1 := L2H.inv_startH sco po en hl rv ic
  refine wpAny_mono (hps.run [] s1 (L2.start N vs) H _ J ht) (fun fl s' hs => ?_) fun er s' hs => hs
  cases fl with
  | ret u =>
    obtain ⟨v, σ', H', J', ru, hq⟩ := hs
    exact ⟨v, H', J'.os, J'.bare, J'.base, J'.hok, ru, hq⟩
  | next =>
    obtain ⟨σ', H', J', hq⟩ := hs
    exact ⟨V.non, H', J'.os, J'.bare, J'.base, J'.hok, rfl, hq⟩
  | brk =>
    obtain ⟨_, _, _, hq⟩ := hs
    exact False.elim hq
  | cont =>
    obtain ⟨_, _, _, hq⟩ := hs
    exact False.elim hq

/-! ### data without exceptions lie alike -/
section
variable {C : RC} {Z : Addr → Str → Option Addr → Prop} {H : Hp} {F B : Addr → Prop}
mutual
theorem Rep.swap : ∀ (d : D) (v : V) (f : List Addr), noexc d = true → Rep C H F B d v f → Rep { C with Z := Z } H F B d v f
  | .non, _, _, _, h => h
  | .bl _, _, _, _, h => h
  | .int _, _, _, _, h => h
  | .str _, _, _, _, h => h
  | .fn _, _, _, _, h => h
  | .exc _ _, _, _, e, _ => by cases e
  | .tup ds, _, f, e, h => by
    obtain ⟨a, vs, ev, t, r⟩ := h
    exact ⟨a, vs, ev, t, Reps.swap ds vs f e r⟩
  | .lst m ds, _, _, e, h => by
    obtain ⟨a, vs, fq, ev, t, r, ef⟩ := h
    refine ⟨a, vs, fq, ev, ?_, Reps.swap ds vs fq e r, ef⟩
    cases m <;> exact t
  | .dct _ _ _, _, _, _, h => h.elim
  | .ins _ _ _ _, _, _, _, h => h.elim
theorem Reps.swap : ∀ (ds : List D) (vs : List V) (f : List Addr), noexcs ds = true → Reps C H F B ds vs f → Reps { C with Z := Z } H F B ds vs f
  | [], _, _, _, h => h
  | d :: ds, _, _, e, h => by
    obtain ⟨v, vr, f1, f2, ev, r1, r2, ef⟩ := h
    obtain ⟨e1, e2⟩ := Bool.and_eq_true_iff.mp (show (noexc d && noexcs ds) = true from e)
    exact ⟨v, vr, f1, f2, ev, Rep.swap d v f1 e1 r1, Reps.swap ds vr f2 e2 r2, ef⟩
end
mutual
theorem Rep.noexc (hz : ∀ a c d, ¬ C.Z a c d) : ∀ (d : D) (v : V) (f : List Addr), Rep C H F B d v f → noexc d = true
  | .non, _, _, _ => rfl
  | .bl _, _, _, _ => rfl
  | .int _, _, _, _ => rfl
  | .str _, _, _, _ => rfl
  | .fn _, _, _, _ => rfl
  | .exc _ _, _, _, h => by
    obtain ⟨⟨a, d, _, z, _⟩, _⟩ := h
    exact absurd z (hz a _ d)
  | .tup ds, _, f, h => by
    obtain ⟨a, vs, ev, t, r⟩ := h
    exact Reps.noexc hz ds vs f r
  | .lst m ds, _, _, h => by
    obtain ⟨a, vs, fq, ev, t, r, ef⟩ := h
    exact Reps.noexc hz ds vs fq r
  | .dct _ _ _, _, _, h => h.elim
  | .ins _ _ _ _, _, _, h => h.elim
theorem Reps.noexc (hz : ∀ a c d, ¬ C.Z a c d) : ∀ (ds : List D) (vs : List V) (f : List Addr), Reps C H F B ds vs f → noexcs ds = true
  | [], _, _, _ => rfl
  | d :: ds, _, _, h => by
    obtain ⟨v, vr, f1, f2, ev, r1, r2, ef⟩ := h
    exact Bool.and_eq_true_iff.mpr ⟨Rep.noexc hz d v f1 r1, Reps.noexc hz ds vr f2 r2⟩
end
theorem Slots.swap : ∀ {r : Rho} {s : L2.St} {f : List Addr}, noexcR r = true → Slots C H F B r s f → Slots { C with Z := Z } H F B r s f
  | [], _, _, _, h => h
  | none :: r, s, _, e, h => Slots.swap (r := r) e h
  | some d :: r, _, _, e, h => by
    obtain ⟨v, sr, f1, f2, es, r1, r2, ef⟩ := h
    obtain ⟨e1, e2⟩ := Bool.and_eq_true_iff.mp (show (PI.noexc d && noexcR r) = true from e)
    exact ⟨v, sr, f1, f2, es, Rep.swap d v f1 e1 r1, Slots.swap e2 r2, ef⟩
theorem Slots.noexc (hz : ∀ a c d, ¬ C.Z a c d) : ∀ {r : Rho} {s : L2.St} {f : List Addr}, Slots C H F B r s f → noexcR r = true
  | [], _, _, _ => rfl
  | none :: r, s, _, h => Slots.noexc hz (r := r) h
  | some d :: r, _, _, h => by
    obtain ⟨v, sr, f1, f2, es, r1, r2, ef⟩ := h
    exact Bool.and_eq_true_iff.mpr ⟨Rep.noexc hz d v f1 r1, Slots.noexc hz r2⟩
theorem Sd.swap {r : Rho} {s : L2.St} {f : List Addr} (e : noexcR r = true) (S : Sd C B H F r s f) : Sd { C with Z := Z } B H F r s f := ⟨Slots.swap e S.sl, S.nd, S.fF, S.fB, S.fd, S.bd, S.len⟩
end
end PI
set_option maxRecDepth 100000
set_option maxHeartbeats 4000000
/-! PI8: where code stands; the small steps of the soundness of expressions. -/
namespace PI
open PySem PySem.Spec PyProof.Rows L2

/-- what is known where a code runs -/
structure Ctx (G : Gm) (C : RC) (cf : Str → List D → FR) (sc : Scope) (hot : Bool) (X : Cx) (W : WX) : Prop where
  hK : C.K = X.K
  un : X.A.units + 65 < cLine
  calm : hot = false → X.calm = true
  nd : X.N.Nodup
  vis : ∀ x, sc.names.lookup x = some .local ∨ sc.names.lookup x = some .cell ∨ sc.names.lookup x = some .free → Vis X.env.scope x
  gl : ∀ x, sc.names.lookup x = some .globalImplicit → Gl X x
  loc : ∀ x, sc.names.lookup x = some .local → X.env.scope.names.lookup x = some .local
  cel : ∀ x, sc.names.lookup x = some .cell → X.env.scope.names.lookup x = some .cell ∧ X.fn x = true
  fre : ∀ x, sc.names.lookup x = some .free → X.env.scope.names.lookup x = some .cell ∨ X.env.scope.names.lookup x = some .free
  blt : ∀ x ∈ blts, X.mg x = none
  glob : ∀ x d, G.glob x = some d → ∃ v u, X.mg x = some u ∧ RelV v u ∧ noexc d = true ∧ ∀ H F B, Rep C H F B d v []
  fns : ∀ f, G.isFn f = true → ∃ a fd ps k, X.mg f = some (.ref a) ∧ C.mg f = some (.ref a) ∧ PySem.W.keepIn X.K (.ref a) = true ∧ Binds X.K fd ps [] ∧
    (hot = false → G.isCold f = true → FnOk X.prog X.w X.K X.mg X.base (L2N.CX X.prog X.w) k a fd ps (spF C cf (G.io f) f) ∧ Room k X.A) ∧
    (G.isHot f = true → FnE X.prog X.w X.K X.mg X.base (L2N.CX X.prog X.w) k a fd ps (fun a cls d => spF (C.hz a cls d) cf (G.io f) f) ∧ L2H.RoomH k X.A)
  ht : hot = true → ∃ a oe cls d, HotP X a oe cls d ∧ C = C.hz a cls d
  exo : ∀ c ∈ G.exs, ∃ D, X.mg c = some (.ref D) ∧ C.mg c = some (.ref D) ∧ ExcC X.K D ∧ PySem.W.findIn X.K (.ref D) "line" = some none ∧ PySem.W.findIn X.K (.ref D) "column" = some none
  kit : ∀ c' ∈ G.exs, ∀ c ∈ G.exs, ∀ D' D, X.mg c' = some (.ref D') → X.mg c = some (.ref D) → PySem.W.kitOne X.K (.ref D') (.ref D) = some (G.sub c' c)
  kiv : ∀ c' ∈ G.exs, ∀ D', X.mg c' = some (.ref D') → PySem.W.kitOne X.K (.ref D') (.type "ValueError") = some (G.sub c' "ValueError")
  exm : ∀ c' ∈ G.exs, ∀ c ∈ G.exs, ∀ D' D, X.mg c' = some (.ref D') → X.mg c = some (.ref D) → PySem.W.exmOne X.K (.ref D') (.ref D) = some (G.sub c' c)
  tk : L2N.Takes X W

theorem PE.imp {X : Cx} {e : Expr} {t t' : TE} (h : PE X e t) (k : ∀ s H Q, t' s H Q → t s H Q) : PE X e t' := ⟨fun pins s σ H Q I q => h.run pins s σ H Q I (k _ _ _ q)⟩
theorem PT.imp {X : Cx} {e : Expr} {t t' : TT} (h : PT X e t) (k : ∀ s H Q, t' s H Q → t s H Q) : PT X e t' := ⟨fun pins s σ H Q I q => h.run pins s σ H Q I (k _ _ _ q)⟩
theorem PW.imp {X : Cx} {e : Expr} {t t' : TT} (h : PW X e t) (k : ∀ s H Q, t' s H Q → t s H Q) : PW X e t' := ⟨fun whole pins s σ H Q I q => h.run whole pins s σ H Q I (k _ _ _ q)⟩
theorem PA.imp {X : Cx} {e : List Expr} {t t' : TA} (h : PA X e t) (k : ∀ s H Q, t' s H Q → t s H Q) : PA X e t' := ⟨fun pos pins s σ H Q I q => h.run pos pins s σ H Q I (k _ _ _ q)⟩
theorem PS.imp {X : Cx} {e : Stmt} {t t' : TS} (h : PS X e t) (k : ∀ D s H, t' D s H → t D s H) : PS X e t' := ⟨fun pins s σ H D I q => h.run pins s σ H D I (k _ _ _ q)⟩
theorem PSs.imp {X : Cx} {e : List Stmt} {t t' : TS} (h : PSs X e t) (k : ∀ D s H, t' D s H → t D s H) : PSs X e t' := ⟨fun pins s σ H D I q => h.run pins s σ H D I (k _ _ _ q)⟩

section
variable {G : Gm} {C : RC} {cf : Str → List D → FR} {sc : Scope} {hot : Bool} {X : Cx} {W : WX} {B : Addr → Prop}

theorem odd_of {x : Str} (h : odd x = false) : (x == ("__debug__" : Str)) = false ∧ (x == ("__classdict__" : Str)) = false ∧ x ≠ ("__name__" : Str) := by
  unfold odd at h
  rw [Bool.or_eq_false_iff, Bool.or_eq_false_iff] at h
  exact ⟨h.1.1, h.1.2, by simpa using h.2⟩
theorem Ctx.pv (cx : Ctx G C cf sc hot X W) {i : Nat} {x : Str} {pos : Pos} (h : slotB X.N sc i x = true) : PE X (.Name x pos) (tVar i) := by
  obtain ⟨h1, h2⟩ := Bool.and_eq_true_iff.mp h
  obtain ⟨h3, h4⟩ := Bool.and_eq_true_iff.mp h2
  obtain ⟨o1, o2, _⟩ := odd_of (by simpa using h4)
  refine pe_var (of_decide_eq_true h1) (cx.vis x ?_) o1 o2
  unfold visB at h3
  cases e : sc.names.lookup x with
  | none =>
    rw [e] at h3
    cases h3
  | some k =>
    rw [e] at h3
    cases k <;> first
      | exact .inl rfl
      | exact .inr (.inl rfl)
      | exact .inr (.inr rfl)
      | cases h3
theorem glB_ok {x : Str} (h : glB sc x = true) : sc.names.lookup x = some .globalImplicit := by
  unfold glB at h
  cases e : sc.names.lookup x with
  | none =>
    rw [e] at h
    cases h
  | some k =>
    rw [e] at h
    cases k <;> first
      | rfl
      | cases h
theorem Ctx.gB (cx : Ctx G C cf sc hot X W) {x y : Str} (h : gB sc x y = true) : x = y ∧ Gl X x ∧ (x == ("__debug__" : Str)) = false ∧ x ≠ ("__name__" : Str) := by
  obtain ⟨h1, h2⟩ := Bool.and_eq_true_iff.mp h
  obtain ⟨h3, h4⟩ := Bool.and_eq_true_iff.mp h2
  have e := of_decide_eq_true h1
  subst e
  obtain ⟨o1, _, o3⟩ := odd_of (by simpa using h4)
  exact ⟨rfl, cx.gl x (glB_ok h3), o1, o3⟩
theorem star_cons {e : Expr} {es : List Expr} {env : Env} (h : notStar e = true) : starEach (e :: es) env = (false, eval e env) :: starEach es env := by
  cases e <;> first
    | rfl
    | cases h
theorem nomark2 {e : Expr} {op : CmpOp} (h : notSet e = true) : behindInMarks op e = false := by
  cases e <;> first
    | rfl
    | cases h
theorem plainIx {b : Expr} (h : notSlice b = true) : PlainIx b := by
  intro o i
  cases b <;> first
    | rfl
    | cases h
theorem plain_true {e : Expr} (h : plainTest e = true) : ∀ (env : Env) (whole : Sem Value), isTrue e env whole = (do let v ← whole; standAt e.pos; holding [v] (truthy v)) := by
  intro env whole
  cases e with
  | UnaryOp op x p => cases op <;> first | rfl | cases h
  | BoolOp _ _ _ => cases h
  | IfExp _ _ _ _ => cases h
  | Compare _ _ _ _ => cases h
  | _ => rfl
theorem base_ok {o : Expr} {nm : Str} {env : Env} (h : plainBase o = true) : attributeBase o nm env (eval o env) = eval o env := by
  cases o <;> first
    | rfl
    | cases h
theorem set_ok {e : Expr} (h : notSet e = true) (env : Env) : ∀ x, foldedSetIterable e env x = pure x := by
  intro x
  cases e <;> first
    | rfl
    | cases h

/-- from the rule of a piece of syntax to its meaning -/
theorem At.fq_gp {α β : Type} {P : Rp α β} {p i : Bool} {H H1 : Hp} {F F1 : Addr → Prop} {fp f1 fq gp : List Addr} {s : L2.St} {r1 : Rho} {d : α} {v : β} (_ : At C B P p i H F fp s H1 F1 r1 f1 fq d v) : ∀ a ∈ fq, a ∈ f1 ++ fq ++ gp := fun a ha => List.mem_append_left _ (List.mem_append_right _ ha)
theorem At.f1_gp {α β : Type} {P : Rp α β} {p i : Bool} {H H1 : Hp} {F F1 : Addr → Prop} {fp f1 fq gp : List Addr} {s : L2.St} {r1 : Rho} {d : α} {v : β} (_ : At C B P p i H F fp s H1 F1 r1 f1 fq d v) : ∀ a ∈ f1, a ∈ f1 ++ fq ++ gp := fun a ha => List.mem_append_left _ (List.mem_append_left _ ha)
/-- the first of two parts is carried over the second -/
theorem carry2 {p i q j : Bool} {H H1 H2 : Hp} {F F1 F2 : Addr → Prop} {fp f1 f2 q1 q2 : List Addr} {s : L2.St} {r1 r2 : Rho} {γ δ : Type} {P : Rp γ δ} {d1 : D} {v1 : V} {d2 : γ} {v2 : δ} (hpu : (i || q) = true)
    (a1 : At C B (RD C B) p i H F fp s H1 F1 r1 f1 q1 d1 v1) (a2 : At C B P q j H1 F1 f1 s H2 F2 r2 f2 q2 d2 v2) : Rep C H2 F2 B d1 v1 q1 := by
  refine a1.sd.carry a2.stp a1.rep ?_
  cases q with
  | true => exact .inl rfl
  | false =>
    cases i with
    | true => exact .inr (a1.iv rfl).apart
    | false => cases hpu

variable {p i : Bool} {s : L2.St} {Q : VK} {H : Hp} {F : Addr → Prop} {fp gp : List Addr} {r : Rho}
theorem s_slot {k : Nat} {t : VK} (h : tX C B W (RD C B) true false (evE G cf (.s k)) s H t) : tVar k s H t := by
  obtain ⟨r, F, fp, gp, S, hs, g⟩ := h
  have g : Goal C B W (RD C B) true false s t H F gp (match r[k]? with | some (some d) => .ok d r | _ => .bad) := g
  cases q : r[k]? with
  | none =>
    rw [q] at g
    exact False.elim g
  | some o =>
    rw [q] at g
    cases o with
    | none => exact False.elim g
    | some d =>
      obtain ⟨v, f, e1, e2, e3⟩ := S.sl.get q
      exact ⟨v, e1, Goal.fin (fq := f) g S hs e2 (fun z => by cases z) fun a ha => hs a (e3 a ha)⟩
/-- a slot emptied: the rest, and its value apart -/
theorem Sd.off (S : Sd C B H F r s fp) {k : Nat} {d : D} (q : r[k]? = some (some d)) : ∃ v f g, s[k]? = some (some v) ∧ Rep C H F B d v f ∧ Sd C B H F (r.set k none) s g ∧ Fly F B g f ∧ (∀ a ∈ f, a ∈ fp) ∧ ∀ a ∈ g, a ∈ fp := by
  obtain ⟨g, h1, h2, h3⟩ := S.sl.off k
  obtain ⟨v, f, e1, e2, e3⟩ := h3 d q
  have nd : (f ++ g).Nodup := e3.nodup_iff.mp S.nd
  have mf : ∀ a ∈ f, a ∈ fp := fun a ha => e3.mem_iff.mpr (List.mem_append_left _ ha)
  have mg : ∀ a ∈ g, a ∈ fp := fun a ha => e3.mem_iff.mpr (List.mem_append_right _ ha)
  exact ⟨v, f, g, e1, e2, ⟨h1, (List.nodup_append.mp nd).2.1, fun a ha => S.fF a (mg a ha), fun a ha => S.fB a (mg a ha), S.fd, S.bd, by rw [List.length_set]; exact S.len⟩,
    ⟨(List.perm_append_comm.nodup_iff).mp nd, fun a ha => S.fF a (mf a ha), fun a ha => S.fB a (mf a ha)⟩, mf, mg⟩
/-- a slot filled -/
theorem Sd.fill {k : Nat} {d : D} {v : V} {f : List Addr} (hr : Rep C H F B d v f) (hf : Fly F B fp f) (hi : k < r.length) (S' : Sd C B H F (r.set k none) s fp) : ∃ g, Sd C B H F (r.set k (some d)) (s.set k (some v)) g ∧ g.Perm (f ++ fp) := by
  have hl : r.length = s.length := by
    have := S'.len
    rw [List.length_set] at this
    exact this
  obtain ⟨g, g1, g2⟩ := Slots.put S'.sl hi (by rw [← hl]; exact hi) hr
  have nd : (f ++ fp).Nodup := (List.perm_append_comm.nodup_iff).mp hf.nd
  refine ⟨g, ⟨g1, g2.nodup_iff.mpr nd, fun a ha => ?_, fun a ha => ?_, S'.fd, S'.bd, by rw [List.length_set, List.length_set]; exact hl⟩, g2⟩
  · rcases List.mem_append.mp (g2.mem_iff.mp ha) with z | z
    · exact hf.nF a z
    · exact S'.fF a z
  · rcases List.mem_append.mp (g2.mem_iff.mp ha) with z | z
    · exact hf.nB a z
    · exact S'.fB a z
theorem s_mv {k : Nat} {t : VK} (h : tX C B W (RD C B) false true (evE G cf (.mv k)) s H t) : tVar k s H t := by
  obtain ⟨r, F, fp, gp, S, hs, g⟩ := h
  have g : Goal C B W (RD C B) false true s t H F gp (match r[k]? with | some (some d) => .ok d (r.set k none) | _ => .bad) := g
  cases q : r[k]? with
  | none =>
    rw [q] at g
    exact False.elim g
  | some o =>
    rw [q] at g
    cases o with
    | none => exact False.elim g
    | some d =>
      obtain ⟨v, f, g', e1, e2, S', fl, m1, m2⟩ := S.off q
      exact ⟨v, e1, g v H F g' f S' e2 (fun _ => fl) ((Stp.refl.weak fun z => by cases z).less fun x hx => (List.mem_append.mp hx).elim (fun z => hs x (m2 x z)) fun z => hs x (m1 x z))⟩
/-- F widened by what was owned -/
def orF (F : Addr → Prop) (f : List Addr) : Addr → Prop := fun a => F a ∨ a ∈ f
theorem chg_or {f : List Addr} : Chg H F B [] H (orF F f) := ⟨fun _ _ h _ => h, fun _ z => absurd z (by simp), fun _ z => absurd z (by simp), fun _ z => absurd z (by simp), fun _ h => .inl h⟩
theorem Sd.orF (S : Sd C B H F r s fp) {f : List Addr} (hf : Fly F B fp f) (ht : ∀ a ∈ f, H a ≠ none) : Sd C B H (orF F f) r s fp :=
  ⟨Slots.chg chg_or S.sl fun a _ => by simp, S.nd, fun a ha z => z.elim (S.fF a ha) fun w => hf.apart a w ha, S.fB, fun a z => z.elim (S.fd a) (ht a), S.bd, S.len⟩
theorem stp_or {f : List Addr} (hs : ∀ a ∈ fp, a ∈ gp) (hf : ∀ a ∈ f, a ∈ gp) : Stp true H F gp H (orF F f) (fp ++ []) :=
  ⟨fun _ _ h _ => h, fun a ha => .inl (hs a (by simpa using ha)), fun _ h => .inl h, fun a h => h.elim .inl fun z => .inr (.inl (hf a z))⟩
theorem s_vf {k : Nat} {t : VK} (h : tX C B W (RD C B) false true (evE G cf (.vf k)) s H t) : tVar k s H t := by
  obtain ⟨r, F, fp, gp, S, hs, g⟩ := h
  have g : Goal C B W (RD C B) false true s t H F gp (match r[k]? with | some (some d) => .ok (fz d) (r.set k (some (fz d))) | _ => .bad) := g
  cases q : r[k]? with
  | none =>
    rw [q] at g
    exact False.elim g
  | some o =>
    rw [q] at g
    cases o with
    | none => exact False.elim g
    | some d =>
      obtain ⟨v, f, g', e1, e2, S', fl, m1, m2⟩ := S.off q
      have hi : k < r.length := (List.getElem?_eq_some_iff.mp q).1
      have S2 := S'.orF fl e2.there
      have rz : Rep C H (PI.orF F f) B (fz d) v [] := Rep.fz d v f e2 (fun _ z => .inl z) fun _ z => .inr z
      obtain ⟨g3, S3, p3⟩ := Sd.fill (k := k) rz (Fly.nil S2.nd) hi S2
      rw [set_selfV e1] at S3
      have m3 : ∀ a ∈ g3, a ∈ gp := fun a ha => hs a (m2 a (by simpa using p3.mem_iff.mp ha))
      exact ⟨v, e1, g v H (PI.orF F f) g3 [] S3 rz (fun _ => Fly.nil S3.nd) ((stp_or m3 fun a ha => hs a (m1 a ha)).weak fun z => by cases z)⟩
theorem s_fz {d : D} {v : V} {fq : List Addr} (g : Goal C B W (RD C B) p true s Q H F gp (.ok (fz d) r)) (S : Sd C B H F r s fp) (hs : ∀ a ∈ fp, a ∈ gp) (hq : ∀ a ∈ fq, a ∈ gp) (hr : Rep C H F B d v fq) (hi : Fly F B fp fq) : Q v H := by
  have S2 := S.orF hi hr.there
  have rz : Rep C H (PI.orF F fq) B (fz d) v [] := Rep.fz d v fq hr (fun _ z => .inl z) fun _ z => .inr z
  exact g v H (PI.orF F fq) fp [] S2 rz (fun _ => Fly.nil S2.nd) ((stp_or hs hq).weak fun _ => rfl)
end
end PI
set_option maxRecDepth 100000
set_option maxHeartbeats 4000000
/-! PI9: each form of expression, given its parts. -/
namespace PI
open PySem PySem.Spec PyProof.Rows L2

section
variable {G : Gm} {C : RC} {cf : Str → List D → FR} {sc : Scope} {hot : Bool} {X : Cx} {W : WX} {B : Addr → Prop}
variable (G C cf W B) in
abbrev mE (e : E) : TE := tX C B W (RD C B) (pu e) (iv e) (evE G cf e)
variable (G C cf W B) in
abbrev mT (t : T) : TT := tX C B W RT (put t) true (evT G cf t)
variable (G C cf W B) in
abbrev mEs (es : Es) : TA := tX C B W (RDs C B) (pus es) true (evEs G cf es)
variable (G C cf W B) in
abbrev mAs (as : As) : TA := fun s H Q => tX C B W (fun H F d v fq => RAs C B s H F d v fq) false true (evAs G cf as) s H Q
/-- an optional bound -/
abbrev RO : Rp (Option Int) (Option Int) := fun _ _ a b fq => a = b ∧ fq = []
variable (G C cf W B) in
abbrev mO (o : Oe) : TO := tX C B W RO (puo o) true (evO G cf o)

theorem Fly.carry1 {γ δ : Type} {P : Rp γ δ} {p i : Bool} {H H1 : Hp} {F F1 : Addr → Prop} {fp f1 fx fq : List Addr} {s : L2.St} {r r1 : Rho} {d : γ} {v : δ} (S : Sd C B H F r s fp) (a : At C B P p i H F fp s H1 F1 r1 f1 fq d v) (h : Fly F B fp fx) (hx : ∀ x ∈ fx, H x ≠ none) : Fly F1 B f1 fx := by
  have k := Fly.carry (fq := []) S (a.stp.less fun x hx => List.mem_append_left _ (by simpa using hx)) h hx (Fly.nil a.sd.nd)
  rw [List.append_nil] at k
  exact k
variable {a b c : E} {x y z : Expr} {pos : Pos}
theorem c_k {d : D} {k : Const} {n : Nat} (h : kD d k = true) : PE X (.Constant k n pos) (mE G C cf W B (.k d)) := by
  cases d with
  | non =>
    cases k <;> first
      | exact PE.imp pe_non fun s H Q ⟨r, F, fp, gp, S, hs, g⟩ => g.fin0 S hs ⟨rfl, rfl⟩
      | cases h
  | bl u =>
    cases k with
    | bool w =>
      have e : u = w := eq_of_beq (show (u == w) = true from h)
      subst e
      exact PE.imp pe_bl fun s H Q ⟨r, F, fp, gp, S, hs, g⟩ => g.fin0 S hs ⟨rfl, rfl⟩
    | _ => cases h
  | int u =>
    cases k with
    | int w =>
      have e : u = w := of_decide_eq_true h
      subst e
      exact PE.imp pe_int fun s H Q ⟨r, F, fp, gp, S, hs, g⟩ => g.fin0 S hs ⟨rfl, rfl⟩
    | _ => cases h
  | str u =>
    cases k with
    | str w =>
      have e : u = w := of_decide_eq_true h
      subst e
      exact PE.imp pe_str fun s H Q ⟨r, F, fp, gp, S, hs, g⟩ => g.fin0 S hs ⟨rfl, rfl⟩
    | _ => cases h
  | _ => cases h
theorem c_gl (cx : Ctx G C cf sc hot X W) {n m : Str} (h : gB sc n m = true) : PE X (.Name m pos) (mE G C cf W B (.gl n)) := by
  obtain ⟨rfl, hg, hd, _⟩ := cx.gB h
  refine ⟨fun pins s σ H Q I h => ?_⟩
  obtain ⟨r, F, fp, gp, S, hs, g⟩ := h
  have g : Goal C B W (RD C B) true true σ Q H F gp (ofO (G.glob n) r) := g
  cases e : G.glob n with
  | none =>
    rw [e] at g
    exact False.elim g
  | some d =>
    rw [e] at g
    obtain ⟨v, u, hm, rv, _, hr⟩ := cx.glob n d e
    exact (pe_glob hg hm rv hd).run pins s σ H Q I (g.fin0 S hs (hr H F B))
theorem c_cp (ha : PE X x (mE G C cf W B a)) : PE X x (mE G C cf W B (.cp a)) := PE.imp ha fun s H Q ⟨r, F, fp, gp, S, hs, g⟩ => by
  refine tX_map S hs g fun d1 r1 v1 H1 F1 f1 q1 e1 a1 g1 => ?_
  by_cases hc : copyable d1 = true
  · rw [if_pos hc] at g1
    have e := Rep.copy d1 v1 q1 a1.rep hc
    have r := a1.rep
    rw [e] at r
    exact g1.fin0 a1.sd a1.f1_gp r
  · rw [if_neg hc] at g1
    exact False.elim g1
theorem fz_imp (hi : iv a = true) {s : L2.St} {H : Hp} {Q : VK} (h : mE G C cf W B (.fz a) s H Q) : mE G C cf W B a s H Q := by
  obtain ⟨r, F, fp, gp, S, hs, g⟩ := h
  refine tX_map S hs g fun d1 r1 v1 H1 F1 f1 q1 e1 a1 g1 => ?_
  exact s_fz g1 a1.sd a1.f1_gp a1.fq_gp a1.rep (a1.iv hi)
theorem c_fz (hi : iv a = true) (ha : PE X x (mE G C cf W B a)) : PE X x (mE G C cf W B (.fz a)) := PE.imp ha fun s H Q ⟨r, F, fp, gp, S, hs, g⟩ => by
  refine tX_map S hs g fun d1 r1 v1 H1 F1 f1 q1 e1 a1 g1 => ?_
  exact s_fz g1 a1.sd a1.f1_gp a1.fq_gp a1.rep (a1.iv hi)
theorem c_bin (cx : Ctx G C cf sc hot X W) {o : Bop} {p : Operator} (ho : isB o p = true) (hk : (iv a || pu b) = true) (ha : PE X x (mE G C cf W B a)) (hb : PE X y (mE G C cf W B b)) : PE X (.BinOp x p y pos) (mE G C cf W B (.bin o a b)) := by
  have e := isB_ok ho
  subst e
  refine PE.imp (pe_op (opB X o) ha hb) fun s H Q ⟨r, F, fp, gp, S, hs, g⟩ => ?_
  refine tX_bind (pv := pu b) S hs g fun d1 r1 v1 H1 F1 f1 q1 e1 a1 g1 => ?_
  refine tX_map a1.sd a1.f1_gp g1 fun d2 r2 v2 H2 F2 f2 q2 e2 a2 g2 => ?_
  rw [← cx.hK]
  exact bin_ok g2 a2.sd a2.f1_gp (carry2 hk a1 a2) a2.rep
theorem c_neg (ha : PE X x (mE G C cf W B a)) : PE X (.UnaryOp .USub x pos) (mE G C cf W B (.neg a)) := by
  refine PE.imp (pe_un un_neg ha) fun s H Q ⟨r, F, fp, gp, S, hs, g⟩ => ?_
  refine tX_map S hs g fun d1 r1 v1 H1 F1 f1 q1 e1 a1 g1 => ?_
  have R := a1.rep
  cases d1 with
  | int i => exact ⟨i, R.1, g1.fin0 a1.sd a1.f1_gp ⟨rfl, rfl⟩⟩
  | _ => exact False.elim g1
theorem c_cmp (cx : Ctx G C cf sc hot X W) {o : Cop} {p : CmpOp} (ho : isC o p = true) (hk : (iv a || pu b) = true) (hn : notSet y = true) (ha : PE X x (mE G C cf W B a)) (hb : PE X y (mE G C cf W B b)) : PE X (.Compare x [p] [y] pos) (mE G C cf W B (.cmp o a b)) := by
  have e := isC_ok ho
  subst e
  have hu : X.A.units + 64 < cLine := by have := cx.un; omega
  refine PE.imp (pe_cmpR (opC X hu o) ha hb (nomark2 hn)) fun s H Q ⟨r, F, fp, gp, S, hs, g⟩ => ?_
  refine tX_bind (pv := pu b) S hs g fun d1 r1 v1 H1 F1 f1 q1 e1 a1 g1 => ?_
  refine tX_map a1.sd a1.f1_gp g1 fun d2 r2 v2 H2 F2 f2 q2 e2 a2 g2 => ?_
  rw [← cx.hK]
  obtain ⟨t, et, g3⟩ := blR_some g2
  exact cmp_ok et (carry2 hk a1 a2) a2.rep (g3.fin0 a2.sd a2.f1_gp ⟨rfl, rfl⟩)
theorem t_cmp (cx : Ctx G C cf sc hot X W) {o : Cop} {p : CmpOp} (ho : isC o p = true) (hk : (iv a || pu b) = true) (hn : notSet y = true) (ha : PE X x (mE G C cf W B a)) (hb : PE X y (mE G C cf W B b)) : PT X (.Compare x [p] [y] pos) (mT G C cf W B (.e (.cmp o a b))) := by
  have e := isC_ok ho
  subst e
  have hu : X.A.units + 64 < cLine := by have := cx.un; omega
  refine PT.imp (pt_cmpR (opC X hu o) ha hb (nomark2 hn)) fun s H Q ⟨r, F, fp, gp, S, hs, g⟩ => ?_
  have g : Goal C B W RT (pu a && pu b) true s Q H F gp (((evE G cf a r).bind fun x r => (evE G cf b r).bind fun y r => blR (cmpD o x y) r).bind fun x r => blR (truD x) r) := g
  have assoc : ∀ {α β γ : Type} (m : R α) (k : α → Rho → R β) (l : β → Rho → R γ), (m.bind k).bind l = m.bind fun a r => (k a r).bind l := fun m k l => by cases m <;> rfl
  rw [assoc] at g
  refine tX_bind (pv := pu b) S hs g fun d1 r1 v1 H1 F1 f1 q1 e1 a1 g1 => ?_
  rw [assoc] at g1
  refine tX_map a1.sd a1.f1_gp g1 fun d2 r2 v2 H2 F2 f2 q2 e2 a2 g2 => ?_
  rw [← cx.hK]
  cases q : cmpD o d1 d2 with
  | none =>
    rw [q] at g2
    exact False.elim g2
  | some t =>
    rw [q] at g2
    exact cmp_ok q (carry2 hk a1 a2) a2.rep ⟨t, rfl, g2.fin0 a2.sd a2.f1_gp ⟨rfl, rfl⟩⟩
theorem chn_ok (cx : Ctx G C cf sc hot X W) {o u : Cop} {α : Type} {P : Rp D α} {Q1 : VK} {Q : α → Hp → Prop} {k : D → Rho → R D} {s : L2.St} {H : Hp} {r : Rho} {F : Addr → Prop} {fp gp : List Addr} (S : Sd C B H F r s fp) (hs : ∀ a ∈ fp, a ∈ gp)
    (hk : (iv a || pu b) = true) (hl : (iv b || pu c) = true) (fin : ∀ (t : Bool) H F fp gp r, Goal C B W P true true s Q H F gp (k (.bl t) r) → Sd C B H F r s fp → (∀ a ∈ fp, a ∈ gp) → Q1 (.bl t) H)
    (g : Goal C B W P (pu a && (pu b && pu c)) true s Q H F gp ((evE G cf (.chn o u a b c) r).bind k)) : tChain (rC X.K o) (rC X.K u) (mE G C cf W B a) (mE G C cf W B b) (mE G C cf W B c) s H Q1 := by
  have assoc : ∀ {α β γ : Type} (m : R α) (k : α → Rho → R β) (l : β → Rho → R γ), (m.bind k).bind l = m.bind fun a r => (k a r).bind l := fun m k l => by cases m <;> rfl
  have g : Goal C B W P (pu a && (pu b && pu c)) true s Q H F gp (((evE G cf a r).bind fun x r => (evE G cf b r).bind fun y r => (blR (cmpD o x y) r).bind fun z r => match isBl z with
    | some true => (evE G cf c r).bind fun w r => blR (cmpD u y w) r
    | _ => .ok (.bl false) r).bind k) := g
  rw [assoc] at g
  refine tX_bind (pv := (pu b && pu c)) S hs g fun d1 r1 v1 H1 F1 f1 q1 e1 a1 g1 => ?_
  rw [assoc] at g1
  refine tX_bind (pv := pu c) a1.sd a1.f1_gp g1 fun d2 r2 v2 H2 F2 f2 q2 e2 a2 g2 => ?_
  rw [← cx.hK]
  cases q : cmpD o d1 d2 with
  | none =>
    rw [q] at g2
    exact False.elim g2
  | some t =>
    rw [q] at g2
    refine cmp_ok q (carry2 hk a1 a2) a2.rep ⟨t, rfl, ?_⟩
    cases t with
    | false =>
      rw [if_neg Bool.false_ne_true]
      exact fin false _ _ _ _ _ (g2.weak (fun _ => rfl) fun z => z) a2.sd a2.f1_gp
    | true =>
      rw [if_pos rfl]
      have g2 : Goal C B W P (pu c) true s Q H2 F2 (f2 ++ q2 ++ (f1 ++ q1 ++ gp)) (((evE G cf c r2).bind fun w r => blR (cmpD u d2 w) r).bind k) := g2
      rw [assoc] at g2
      refine tX_map a2.sd a2.f1_gp g2 fun d3 r3 v3 H3 F3 f3 q3 e3 a3 g3 => ?_
      cases q' : cmpD u d2 d3 with
      | none =>
        rw [q'] at g3
        exact False.elim g3
      | some t' =>
        rw [q'] at g3
        exact cmp_ok q' (carry2 hl a2 a3) a3.rep (fin t' _ _ _ _ _ g3 a3.sd a3.f1_gp)
theorem c_chn (cx : Ctx G C cf sc hot X W) {o u : Cop} {p q : CmpOp} (ho : isC o p = true) (hu : isC u q = true) (hk : (iv a || pu b) = true) (hl : (iv b || pu c) = true) (hn : notSet z = true) (ha : PE X x (mE G C cf W B a)) (hb : PE X y (mE G C cf W B b)) (hc : PE X z (mE G C cf W B c)) :
    PE X (.Compare x [p, q] [y, z] pos) (mE G C cf W B (.chn o u a b c)) := by
  have e := isC_ok ho
  have e2 := isC_ok hu
  subst e e2
  have hun : X.A.units + 64 < cLine := by have := cx.un; omega
  refine PE.imp (pe_chain (opC X hun o) (opC X hun u) ha hb hc (by show behindInMarks (asC u) z = false; exact nomark2 hn)) fun s H Q ⟨r, F, fp, gp, S, hs, g⟩ => ?_
  refine chn_ok (k := fun d r => .ok d r) (P := RD C B) cx S hs hk hl (fun t H F fp gp r g S hs => g.fin0 S hs ⟨rfl, rfl⟩) ?_
  have e : ∀ {α : Type} (m : R α), m.bind (fun d r => .ok d r) = m := fun m => by cases m <;> rfl
  rw [e]
  exact g
theorem t_chn (cx : Ctx G C cf sc hot X W) {o u : Cop} {p q : CmpOp} (ho : isC o p = true) (hu : isC u q = true) (hk : (iv a || pu b) = true) (hl : (iv b || pu c) = true) (hn : notSet z = true) (ha : PE X x (mE G C cf W B a)) (hb : PE X y (mE G C cf W B b)) (hc : PE X z (mE G C cf W B c)) :
    PT X (.Compare x [p, q] [y, z] pos) (mT G C cf W B (.e (.chn o u a b c))) := by
  have e := isC_ok ho
  have e2 := isC_ok hu
  subst e e2
  have hun : X.A.units + 64 < cLine := by have := cx.un; omega
  refine PT.imp (pt_chain (opC X hun o) (opC X hun u) ha hb hc (by show behindInMarks (asC u) z = false; exact nomark2 hn)) fun s H Q ⟨r, F, fp, gp, S, hs, g⟩ => ?_
  exact chn_ok (k := fun x r => blR (truD x) r) (P := RT) (Q := Q) cx S hs hk hl (fun t H F fp gp r g S hs => ⟨t, rfl, g.fin0 S hs ⟨rfl, rfl⟩⟩) g
theorem c_andv {ys : List Expr} (hi : iv b = true) (ha : PE X x (mE G C cf W B a)) (hb : PE X (.BoolOp .And (y :: ys) pos) (mE G C cf W B b)) : PE X (.BoolOp .And (x :: y :: ys) pos) (mE G C cf W B (.andv a b)) := by
  refine PE.imp (pe_and ha hb) fun s H Q ⟨r, F, fp, gp, S, hs, g⟩ => ?_
  refine tX_bind (pv := pu b) S hs g fun d1 r1 v1 H1 F1 f1 q1 e1 a1 g1 => ?_
  have R1 := a1.rep
  cases d1 with
  | bl t =>
    refine ⟨t, R1.1, ?_⟩
    cases t with
    | true =>
      rw [if_pos rfl]
      exact ⟨r1, F1, f1, _, a1.sd, a1.f1_gp, Goal.weak (show Goal C B W (RD C B) (pu b) true s Q H1 F1 (f1 ++ q1 ++ gp) (evE G cf b r1) from g1) (fun z => z) fun _ => hi⟩
    | false =>
      rw [if_neg Bool.false_ne_true]
      exact Goal.fin0 (show Goal C B W (RD C B) (pu b) true s Q H1 F1 (f1 ++ q1 ++ gp) (.ok (.bl false) r1) from g1) a1.sd a1.f1_gp ⟨rfl, rfl⟩
  | _ => exact False.elim g1
theorem c_orv {ys : List Expr} (hi : iv b = true) (ha : PE X x (mE G C cf W B a)) (hb : PE X (.BoolOp .Or (y :: ys) pos) (mE G C cf W B b)) : PE X (.BoolOp .Or (x :: y :: ys) pos) (mE G C cf W B (.orv a b)) := by
  refine PE.imp (pe_or ha hb) fun s H Q ⟨r, F, fp, gp, S, hs, g⟩ => ?_
  refine tX_bind (pv := pu b) S hs g fun d1 r1 v1 H1 F1 f1 q1 e1 a1 g1 => ?_
  have R1 := a1.rep
  cases d1 with
  | bl t =>
    refine ⟨t, R1.1, ?_⟩
    cases t with
    | false =>
      rw [if_neg Bool.false_ne_true]
      exact ⟨r1, F1, f1, _, a1.sd, a1.f1_gp, Goal.weak (show Goal C B W (RD C B) (pu b) true s Q H1 F1 (f1 ++ q1 ++ gp) (evE G cf b r1) from g1) (fun z => z) fun _ => hi⟩
    | true =>
      rw [if_pos rfl]
      exact Goal.fin0 (show Goal C B W (RD C B) (pu b) true s Q H1 F1 (f1 ++ q1 ++ gp) (.ok (.bl true) r1) from g1) a1.sd a1.f1_gp ⟨rfl, rfl⟩
  | _ => exact False.elim g1
theorem c_notv (ha : PE X x (mE G C cf W B a)) : PE X (.UnaryOp .Not x pos) (mE G C cf W B (.notv a)) := by
  refine PE.imp (pe_not ha) fun s H Q ⟨r, F, fp, gp, S, hs, g⟩ => ?_
  refine tX_map S hs g fun d1 r1 v1 H1 F1 f1 q1 e1 a1 g1 => ?_
  have R1 := a1.rep
  cases d1 with
  | bl t => exact ⟨t, R1.1, Goal.fin0 (show Goal C B W (RD C B) true true s Q H1 F1 (f1 ++ q1 ++ gp) (.ok (.bl (!t)) r1) from g1) a1.sd a1.f1_gp ⟨rfl, rfl⟩⟩
  | _ => exact False.elim g1
theorem t_e (cx : Ctx G C cf sc hot X W) (hp : plainTest x = true) (ha : PE X x (mE G C cf W B a)) : PT X x (mT G C cf W B (.e a)) := by
  refine PT.imp (pt_truth ha (plain_true hp X.env)) fun s H Q ⟨r, F, fp, gp, S, hs, g⟩ => ?_
  refine tX_map S hs g fun d1 r1 v1 H1 F1 f1 q1 e1 a1 g1 => ?_
  obtain ⟨t, et, g2⟩ := blR_some g1
  rw [← cx.hK]
  exact ⟨t, tru_of a1.rep et, g2.fin0 a1.sd a1.f1_gp ⟨rfl, rfl⟩⟩
variable {t u : T}
theorem ite_p {A B : Prop} {b : Bool} (h1 : b = true → A) (h2 : b = false → B) : if b = true then A else B := by
  cases b with
  | true =>
    rw [if_pos rfl]
    exact h1 rfl
  | false =>
    rw [if_neg Bool.false_ne_true]
    exact h2 rfl
theorem an_ok {s : L2.St} {H : Hp} {Q : Bool → Hp → Prop} (h : mT G C cf W B (.an t u) s H Q) : tAnd (mT G C cf W B t) (mT G C cf W B u) s H Q := by
  obtain ⟨r, F, fp, gp, S, hs, g⟩ := h
  refine tX_bind (pv := put u) S hs g fun d1 r1 v1 H1 F1 f1 q1 e1 a1 g1 => ?_
  obtain ⟨rfl, _⟩ := a1.rep
  cases v1 with
  | true =>
    rw [if_pos rfl]
    exact ⟨r1, F1, f1, _, a1.sd, a1.f1_gp, (show Goal C B W RT (put u) true s Q H1 F1 (f1 ++ q1 ++ gp) (evT G cf u r1) from g1)⟩
  | false =>
    rw [if_neg Bool.false_ne_true]
    exact Goal.fin0 (show Goal C B W RT (put u) true s Q H1 F1 (f1 ++ q1 ++ gp) (.ok (.bl false) r1) from g1) a1.sd a1.f1_gp ⟨rfl, rfl⟩
theorem oo_ok {s : L2.St} {H : Hp} {Q : Bool → Hp → Prop} (h : mT G C cf W B (.oo t u) s H Q) : tOr (mT G C cf W B t) (mT G C cf W B u) s H Q := by
  obtain ⟨r, F, fp, gp, S, hs, g⟩ := h
  refine tX_bind (pv := put u) S hs g fun d1 r1 v1 H1 F1 f1 q1 e1 a1 g1 => ?_
  obtain ⟨rfl, _⟩ := a1.rep
  cases v1 with
  | true =>
    rw [if_pos rfl]
    exact Goal.fin0 (show Goal C B W RT (put u) true s Q H1 F1 (f1 ++ q1 ++ gp) (.ok (.bl true) r1) from g1) a1.sd a1.f1_gp ⟨rfl, rfl⟩
  | false =>
    rw [if_neg Bool.false_ne_true]
    exact ⟨r1, F1, f1, _, a1.sd, a1.f1_gp, (show Goal C B W RT (put u) true s Q H1 F1 (f1 ++ q1 ++ gp) (evT G cf u r1) from g1)⟩
theorem t_an {ys : List Expr} (ha : PT X x (mT G C cf W B t)) (hb : PW X (.BoolOp .And (y :: ys) pos) (mT G C cf W B u)) : PW X (.BoolOp .And (x :: y :: ys) pos) (mT G C cf W B (.an t u)) :=
  PW.imp (pw_and ha hb) fun _ _ _ h => an_ok h
theorem t_oo {ys : List Expr} (ha : PT X x (mT G C cf W B t)) (hb : PW X (.BoolOp .Or (y :: ys) pos) (mT G C cf W B u)) : PW X (.BoolOp .Or (x :: y :: ys) pos) (mT G C cf W B (.oo t u)) :=
  PW.imp (pw_or ha hb) fun _ _ _ h => oo_ok h
theorem t_no (ha : PT X x (mT G C cf W B t)) : PT X (.UnaryOp .Not x pos) (mT G C cf W B (.no t)) := by
  refine PT.imp (pt_not ha) fun s H Q ⟨r, F, fp, gp, S, hs, g⟩ => ?_
  refine tX_map S hs g fun d1 r1 v1 H1 F1 f1 q1 e1 a1 g1 => ?_
  obtain ⟨rfl, _⟩ := a1.rep
  exact Goal.fin0 (show Goal C B W RT true true s Q H1 F1 (f1 ++ q1 ++ gp) (.ok (.bl (!v1)) r1) from g1) a1.sd a1.f1_gp ⟨rfl, rfl⟩
theorem c_ife (h1 : iv a = true) (h2 : iv b = true) (ht : PT X z (mT G C cf W B t)) (ha : PE X x (mE G C cf W B a)) (hb : PE X y (mE G C cf W B b)) : PE X (.IfExp z x y pos) (mE G C cf W B (.ife t a b)) := by
  refine PE.imp (pe_ifExp ht ha hb) fun s H Q ⟨r, F, fp, gp, S, hs, g⟩ => ?_
  refine tX_bind (pv := (pu a && pu b)) S hs g fun d1 r1 v1 H1 F1 f1 q1 e1 a1 g1 => ?_
  obtain ⟨rfl, _⟩ := a1.rep
  cases v1 with
  | true =>
    rw [if_pos rfl]
    exact ⟨r1, F1, f1, _, a1.sd, a1.f1_gp, Goal.weak (show Goal C B W (RD C B) (pu a && pu b) true s Q H1 F1 (f1 ++ q1 ++ gp) (evE G cf a r1) from g1) (fun z => (Bool.and_eq_true_iff.mp z).1) fun _ => h1⟩
  | false =>
    rw [if_neg Bool.false_ne_true]
    exact ⟨r1, F1, f1, _, a1.sd, a1.f1_gp, Goal.weak (show Goal C B W (RD C B) (pu a && pu b) true s Q H1 F1 (f1 ++ q1 ++ gp) (evE G cf b r1) from g1) (fun z => (Bool.and_eq_true_iff.mp z).2) fun _ => h2⟩
/-! ### arguments, displays -/
theorem l_nil : PA X [] (mEs G C cf W B .nil) := PA.imp pa_nil fun s H Q ⟨r, F, fp, gp, S, hs, g⟩ => g.fin0 S hs ⟨rfl, rfl⟩
theorem l_cons {es : Es} {xs : List Expr} (hi : iv a = true) (hn : notStar x = true) (ha : PE X x (mE G C cf W B a)) (hb : PA X xs (mEs G C cf W B es)) : PA X (x :: xs) (mEs G C cf W B (.cons a es)) := by
  refine PA.imp (pa_cons ha hb (star_cons hn)) fun s H Q ⟨r, F, fp, gp, S, hs, g⟩ => ?_
  refine tX_bind (pv := pus es) S hs g fun d1 r1 v1 H1 F1 f1 q1 e1 a1 g1 => ?_
  refine tX_map a1.sd a1.f1_gp g1 fun d2 r2 v2 H2 F2 f2 q2 e2 a2 g2 => ?_
  have R1 := a1.sd.carry a2.stp a1.rep (.inr (a1.iv hi).apart)
  exact g2.fin (fq := q1 ++ q2) a2.sd a2.f1_gp ⟨v1, v2, q1, q2, rfl, R1, a2.rep, rfl⟩ (fun _ => Fly.carry a1.sd a2.stp (a1.iv hi) a1.rep.there (a2.iv rfl)) fun w hw => (List.mem_append.mp hw).elim (fun z => List.mem_append_right _ (a1.fq_gp w z)) fun z => a2.fq_gp w z
theorem c_tup {es : Es} {xs : List Expr} {n : Nat} (ha : PA X xs (mEs G C cf W B es)) : PE X (.Tuple xs n pos) (mE G C cf W B (.tup es)) := by
  refine PE.imp (pe_tup ha) fun s H Q ⟨r, F, fp, gp, S, hs, g⟩ => ?_
  refine tX_map S hs g fun d1 r1 v1 H1 F1 f1 q1 e1 a1 g1 => ?_
  by_cases hz : szl d1.length = true
  · rw [if_pos hz] at g1
    exact ⟨by rw [← a1.rep.length]; exact szl_ok hz, fun q hq => goal_tup g1 a1.sd a1.f1_gp a1.rep (fun _ => a1.iv rfl) a1.fq_gp hq⟩
  · rw [if_neg hz] at g1
    exact False.elim g1
theorem c_lst {es : Es} {xs : List Expr} (ha : PA X xs (mEs G C cf W B es)) : PE X (.List xs pos) (mE G C cf W B (.lst es)) := by
  refine PE.imp (pe_lst ha) fun s H Q ⟨r, F, fp, gp, S, hs, g⟩ => ?_
  refine tX_map S hs g fun d1 r1 v1 H1 F1 f1 q1 e1 a1 g1 => ?_
  by_cases hz : szl d1.length = true
  · rw [if_pos hz] at g1
    exact ⟨by rw [← a1.rep.length]; exact szl_ok hz, fun q hq => goal_lst g1 a1.sd a1.f1_gp a1.rep (fun _ => a1.iv rfl) a1.fq_gp hq⟩
  · rw [if_neg hz] at g1
    exact False.elim g1
/-! ### built-ins, methods, subscripts -/
theorem callBi (cx : Ctx G C cf sc hot X W) (b : Bi) (hh : (hot && biHot b) = false) : (∃ id, bootBuiltins (biName b) = some (.builtin id) ∧ CallR X (.builtin id) (rBi X.K b)) ∨ ∃ T, bootBuiltins (biName b) = some (.type T) ∧ CallR X (.type T) (rBi X.K b) := by
  have hc : biHot b = true → X.calm = true := fun z => cx.calm (by
    rw [z, Bool.and_true] at hh
    exact hh)
  cases b with
  | len => exact .inl ⟨"len", by decide +kernel, call_len⟩
  | int => exact .inr ⟨"int", by decide +kernel, call_int1.or call_int_str⟩
  | str => exact .inr ⟨"str", by decide +kernel, call_str_int⟩
  | tuple => exact .inr ⟨"tuple", by decide +kernel, call_tuple_of⟩
  | list => exact .inr ⟨"list", by decide +kernel, call_list_of⟩
  | abs => exact .inl ⟨"abs", by decide +kernel, call_abs⟩
  | sum => exact .inl ⟨"sum", by decide +kernel, cr_sum (hc rfl)⟩
  | any => exact .inl ⟨"any", by decide +kernel, cr_any (hc rfl)⟩
  | all => exact .inl ⟨"all", by decide +kernel, cr_all (hc rfl)⟩
theorem c_bi (cx : Ctx G C cf sc hot X W) {bb : Bi} {n : Str} {np : Pos} (hg : gB sc (biName bb) n = true) (hh : (hot && biHot bb) = false) (hn : notStar x = true) (ha : PE X x (mE G C cf W B a)) : PE X (.Call (.Name n np) [x] [] pos) (mE G C cf W B (.bi bb a)) := by
  obtain ⟨e, gl, hd, hnm⟩ := cx.gB hg
  have hm : X.mg n = none := by
    rw [← e]
    exact cx.blt _ (by cases bb <;> decide)
  rw [e] at gl hd hnm
  have hst : starEach (x :: []) X.env = (false, eval x X.env) :: starEach [] X.env := star_cons hn
  have fin : ∀ s H Q, mE G C cf W B (.bi bb a) s H Q → tCB (rBi X.K bb) (tCons (mE G C cf W B a) tNil) s H Q := fun s H Q ⟨r, F, fp, gp, S, hs, g⟩ => by
    refine tX_map S hs g fun d1 r1 v1 H1 F1 f1 q1 e1 a1 g1 => ?_
    rw [← cx.hK]
    exact bi_ok g1 a1.sd a1.f1_gp a1.rep
  rcases callBi cx bb hh with ⟨id, hv, hc⟩ | ⟨T, hv, hc⟩
  · rw [e] at hv
    exact PE.imp (pe_callB hc gl hm hv (pa_cons ha pa_nil hst) hnm hd hst rfl) fin
  · rw [e] at hv
    exact PE.imp (pe_callTy hc gl hm hv (pa_cons ha pa_nil hst) hnm hd hst rfl) fin
theorem backTo_plain {pos : Pos} {x : Expr} {env : Env} (hn : notStar x = true) : (backTo pos (starEach [x] env)).any (·.1) = false := by
  rw [star_cons hn] <;> rfl
theorem c_bj (cx : Ctx G C cf sc hot X W) {bb : Bj} {n : Str} {np : Pos} (hg : gB sc (bjName bb) n = true) (hh : hot = false) (hk : (iv a || pu b) = true) (hn : notStar x = true) (hn2 : notStar y = true) (ha : PE X x (mE G C cf W B a)) (hb : PE X y (mE G C cf W B b)) : PE X (.Call (.Name n np) [x, y] [] pos) (mE G C cf W B (.bj bb a b)) := by
  obtain ⟨e, gl, hd, hnm⟩ := cx.gB hg
  have hm : X.mg n = none := by
    rw [← e]
    exact cx.blt _ (by cases bb <;> decide)
  rw [e] at gl hd hnm
  have hc := cx.calm hh
  have hst : starEach (x :: [y]) X.env = (false, eval x X.env) :: starEach [y] X.env := star_cons hn
  have hst2 : starEach (y :: []) X.env = (false, eval y X.env) :: starEach [] X.env := star_cons hn2
  have fin : ∀ s H Q, mE G C cf W B (.bj bb a b) s H Q → tCB (rBj bb) (tCons (mE G C cf W B a) (tCons (mE G C cf W B b) tNil)) s H Q := fun s H Q ⟨r, F, fp, gp, S, hs, g⟩ => by
    refine tX_bind (pv := pu b) S hs g fun d1 r1 v1 H1 F1 f1 q1 e1 a1 g1 => ?_
    refine tX_map a1.sd a1.f1_gp g1 fun d2 r2 v2 H2 F2 f2 q2 e2 a2 g2 => ?_
    exact bj_ok g2 a2.sd a2.f1_gp (carry2 hk a1 a2) a2.rep
  cases bb with
  | max => exact PE.imp (pe_callB (call_max2 hc) gl hm (by rw [← e]; exact (by decide +kernel : bootBuiltins (bjName .max) = some (.builtin "max"))) (pa_cons ha (pa_cons hb pa_nil hst2) hst) hnm hd hst (backTo_plain hn2)) fin
  | min => exact PE.imp (pe_callB (call_min2 hc) gl hm (by rw [← e]; exact (by decide +kernel : bootBuiltins (bjName .min) = some (.builtin "min"))) (pa_cons ha (pa_cons hb pa_nil hst2) hst) hnm hd hst (backTo_plain hn2)) fin
theorem c_ix (cx : Ctx G C cf sc hot X W) (hk : (iv a || pu b) = true) (hn : notSlice y = true) (ha : PE X x (mE G C cf W B a)) (hb : PE X y (mE G C cf W B b)) : PE X (.Subscript x y pos) (mE G C cf W B (.ix a b)) := by
  refine PE.imp (pe_ix (ixA X) ha hb (plainIx hn)) fun s H Q ⟨r, F, fp, gp, S, hs, g⟩ => ?_
  refine tX_bind (pv := pu b) S hs g fun d1 r1 v1 H1 F1 f1 q1 e1 a1 g1 => ?_
  refine tX_map a1.sd a1.f1_gp g1 fun d2 r2 v2 H2 F2 f2 q2 e2 a2 g2 => ?_
  rw [← cx.hK]
  exact ix_ok g2 a2.sd a2.f1_gp (carry2 hk a1 a2) a2.rep (fun z => Fly.carry1 a1.sd a2 (a1.iv z) a1.rep.there) fun w hw => List.mem_append_right _ (a1.fq_gp w hw)
end
end PI
set_option maxRecDepth 100000
set_option maxHeartbeats 4000000
/-! PI10: methods, calls, targets, sources. -/
namespace PI
open PySem PySem.Spec PyProof.Rows L2

section
variable {G : Gm} {C : RC} {cf : Str → List D → FR} {sc : Scope} {hot : Bool} {X : Cx} {W : WX} {B : Addr → Prop}
variable {a b c : E} {x y z : Expr} {pos : Pos}
theorem ty_str {K : PySem.W.Frag} {z : Str} {H : Hp} : tyV K "str" (.str z) H := rfl
theorem c_me (cx : Ctx G C cf sc hot X W) {m : Me} {nm : Str} {apos : Pos} (hm : nm = meName m) (hline : (apos.endLine == pos.line) = true) (hk : (iv a || pu b) = true) (hn : notStar y = true) (hp : plainBase x = true) (ha : PE X x (mE G C cf W B a)) (hb : PE X y (mE G C cf W B b)) :
    PE X (.Call (.Attribute x nm apos) [y] [] pos) (mE G C cf W B (.me m a b)) := by
  subst hm
  have hst : starEach (y :: []) X.env = (false, eval y X.env) :: starEach [] X.env := star_cons hn
  have hfew : ((backTo pos (starEach (y :: []) X.env)).all (fun x => !x.1) && (backToKw pos (keywordEach [] X.env)).all (fun x => x.1.isSome) && decide ((y :: ([] : List Expr)).length + ([] : List Keyword).length + (if ([] : List Keyword).isEmpty then 0 else 1) < 30)) = true := by
    rw [hst]
    rfl
  have fin : ∀ s H Q, mE G C cf W B (.me m a b) s H Q → tBM X.K "str" (rMe X.K m) (mE G C cf W B a) (tCons (mE G C cf W B b) tNil) s H Q := fun s H Q ⟨r, F, fp, gp, S, hs, g⟩ => by
    refine tX_bind (pv := pu b) S hs g fun d1 r1 v1 H1 F1 f1 q1 e1 a1 g1 => ?_
    have R1 := a1.rep
    cases d1 with
    | str w =>
      refine ⟨?_, ?_⟩
      · rw [R1.1]
        exact ty_str
      · refine tX_map a1.sd a1.f1_gp (show Goal C B W (RD C B) (pu b) true s Q H1 F1 (f1 ++ q1 ++ gp) ((evE G cf b r1).bind fun y r => ofO (meD m (.str w) y) r) from g1) fun d2 r2 v2 H2 F2 f2 q2 e2 a2 g2 => ?_
        rw [← cx.hK]
        exact me_ok g2 a2.sd a2.f1_gp (carry2 hk a1 a2) a2.rep
    | _ => exact False.elim g1
  cases m with
  | split => exact PE.imp (pe_bm PySem.F.plainAttrs_str PySem.F.slot_str_split PySem.F.type_str_split mt_split ha (pa_cons hb pa_nil hst) (base_ok hp) hfew hline hst rfl) fin
  | join => exact PE.imp (pe_bm PySem.F.plainAttrs_str PySem.F.slot_str_join PySem.F.type_str_join mt_join ha (pa_cons hb pa_nil hst) (base_ok hp) hfew hline hst rfl) fin
  | startswith => exact PE.imp (pe_bm PySem.F.plainAttrs_str PySem.F.slot_str_startswith PySem.F.type_str_startswith mt_startswith ha (pa_cons hb pa_nil hst) (base_ok hp) hfew hline hst rfl) fin
  | index => exact PE.imp (pe_bm PySem.F.plainAttrs_str PySem.F.slot_str_index PySem.F.type_str_index (by intro pins s σ H x xs v us Q I rx rs h; exact h.elim) ha (pa_cons hb pa_nil hst) (base_ok hp) hfew hline hst rfl) fin
theorem c_sl (cx : Ctx G C cf sc hot X W) {lo hi : Oe} {l h : Option Expr} {p2 : Pos} (hk : (iv a || (puo lo && puo hi)) = true) (ha : PE X x (mE G C cf W B a)) (hl : PO X l (mO G C cf W B lo)) (hh : PO X h (mO G C cf W B hi)) : PE X (.Subscript x (.Slice l h none p2) pos) (mE G C cf W B (.sl a lo hi)) := by
  refine PE.imp (pe_slice (slX2 X) ha hl hh) fun s H Q ⟨r, F, fp, gp, S, hs, g⟩ => ?_
  refine tX_bind (pv := (puo lo && puo hi)) S hs g fun d1 r1 v1 H1 F1 f1 q1 e1 a1 g1 => ?_
  refine tX_bind (pv := puo hi) a1.sd a1.f1_gp g1 fun d2 r2 v2 H2 F2 f2 q2 e2 a2 g2 => ?_
  refine tX_map a2.sd a2.f1_gp g2 fun d3 r3 v3 H3 F3 f3 q3 e3 a3 g3 => ?_
  rw [← cx.hK]
  obtain ⟨rfl, _⟩ := a2.rep
  obtain ⟨rfl, _⟩ := a3.rep
  have R2 : Rep C H2 F2 B d1 v1 q1 := carry2 (by
    revert hk
    cases iv a <;> cases puo lo <;> cases puo hi <;> simp) a1 a2
  have R3 : Rep C H3 F3 B d1 v1 q1 := by
    refine a2.sd.carry a3.stp R2 ?_
    cases ei : iv a with
    | true => exact .inr (Fly.carry1 a1.sd a2 (a1.iv ei) a1.rep.there).apart
    | false =>
      rw [ei] at hk
      exact .inl (Bool.and_eq_true_iff.mp (by simpa using hk)).2
  exact sl_ok g3 a3.sd a3.f1_gp R3
theorem o_no : PO X none (mO G C cf W B .no) := by
  refine ⟨fun pins s σ H Q I h => po_none.run pins s σ H Q I ?_⟩
  obtain ⟨r, F, fp, gp, S, hs, g⟩ := h
  exact g.fin0 S hs ⟨rfl, rfl⟩
theorem o_yes (ha : PE X x (mE G C cf W B a)) : PO X (some x) (mO G C cf W B (.yes a)) := by
  refine ⟨fun pins s σ H Q I h => (po_some ha).run pins s σ H Q I ?_⟩
  obtain ⟨r, F, fp, gp, S, hs, g⟩ := h
  refine tX_map S hs g fun d1 r1 v1 H1 F1 f1 q1 e1 a1 g1 => ?_
  have R1 := a1.rep
  cases d1 with
  | int i => exact ⟨i, R1.1, Goal.fin0 (show Goal C B W RO true true σ Q H1 F1 (f1 ++ q1 ++ gp) (.ok (some i) r1) from g1) a1.sd a1.f1_gp ⟨rfl, rfl⟩⟩
  | _ => exact False.elim g1

/-! ### a list in a slot, changed -/
theorem chg_at {H : Hp} {F B : Addr → Prop} {l : Addr} {o u : HO} (h : H l = some o) (m : MtO o) (hF : ¬ F l) (hB : ¬ B l) : Chg H F B [l] (upd H l u) F :=
  ⟨fun a w e n => by
    rw [upd_ne (by simpa using n)]
    exact e, fun a ha => by
    have e : a = l := by simpa using ha
    rw [e]
    exact ⟨o, h, m⟩, fun a ha => by
    have e : a = l := by simpa using ha
    rw [e]
    exact hF, fun a ha => by
    have e : a = l := by simpa using ha
    rw [e]
    exact hB, fun _ h => h⟩
theorem Sd.mut {s : L2.St} {H : Hp} {F : Addr → Prop} {fp : List Addr} {r : Rho} (S : Sd C B H F r s fp) {i : Nat} {ds : List D} (q : r[i]? = some (some (.lst .own ds))) : ∃ l vs fq g, s[i]? = some (some (.ref l)) ∧ H l = some (.lst vs) ∧ Reps C H F B ds vs fq ∧ l ∈ fp ∧ (∀ x ∈ fq, x ∈ fp) ∧ (∀ x ∈ g, x ∈ fp) ∧
    l ∉ g ∧ l ∉ fq ∧ Fly F B g fq ∧
    ∀ (ds' : List D) (vs' : List V) (fq' : List Addr), Reps C H F B ds' vs' fq' → Fly F B g fq' → l ∉ fq' → ∃ f', Sd C B (upd H l (.lst vs')) F (r.set i (some (.lst .own ds'))) s f' ∧ f'.Perm ((l :: fq') ++ g) := by
  obtain ⟨v, f, g, e1, e2, S', fl, m1, m2⟩ := S.off q
  have hi : i < r.length := (List.getElem?_eq_some_iff.mp q).1
  obtain ⟨l, vs, fq, rfl, t, rr, ef⟩ := e2
  have ef : f = l :: fq := ef
  subst ef
  have nd := List.nodup_append.mp fl.nd
  have nc := List.nodup_cons.mp nd.2.1
  have lg : l ∉ g := fun z => nd.2.2 l z l List.mem_cons_self rfl
  have lF := fl.nF l List.mem_cons_self
  have lB := fl.nB l List.mem_cons_self
  have t : H l = some (.lst vs) := t
  refine ⟨l, vs, fq, g, e1, t, rr, m1 l List.mem_cons_self, fun x hx => m1 x (List.mem_cons_of_mem _ hx), m2, lg, nc.1, fl.sub (List.sublist_cons_self _ _), fun ds' vs' fq' r' fl' hl' => ?_⟩
  have cg : Chg H F B [l] (upd H l (.lst vs')) F := chg_at t trivial lF lB
  have S2 : Sd C B (upd H l (.lst vs')) F (r.set i none) s g := by
    refine ⟨Slots.chg cg S'.sl fun x hx z => ?_, S'.nd, S'.fF, S'.fB, fun x hx e => ?_, fun x hx e => ?_, S'.len⟩
    · have e : x = l := by simpa using z
      rw [e] at hx
      exact lg hx
    · have ne : x ≠ l := fun z => lF (by rw [← z]; exact hx)
      rw [upd_ne ne] at e
      exact S'.fd x hx e
    · have ne : x ≠ l := fun z => lB (by rw [← z]; exact hx)
      rw [upd_ne ne] at e
      exact S'.bd x hx e
  have r2 : Rep C (upd H l (.lst vs')) F B (.lst .own ds') (.ref l) (l :: fq') := ⟨l, vs', fq', rfl, upd_same, cg.reps _ _ _ r' fun x hx z => by
    have e : x = l := by simpa using z
    rw [e] at hx
    exact hl' hx, rfl⟩
  have fl2 : Fly F B g (l :: fq') := by
    have n2 := List.nodup_append.mp fl'.nd
    refine ⟨List.nodup_append.mpr ⟨n2.1, List.nodup_cons.mpr ⟨hl', n2.2.1⟩, fun x hx w hw e => ?_⟩, fun x hx => ?_, fun x hx => ?_⟩
    · subst e
      rcases List.mem_cons.mp hw with z | z
      · rw [z] at hx
        exact lg hx
      · exact n2.2.2 x hx x z rfl
    · rcases List.mem_cons.mp hx with z | z
      · rw [z]
        exact lF
      · exact fl'.nF x z
    · rcases List.mem_cons.mp hx with z | z
      · rw [z]
        exact lB
      · exact fl'.nB x z
  obtain ⟨f', k1, k2⟩ := Sd.fill (k := i) r2 fl2 hi S2
  rw [set_selfV e1] at k1
  exact ⟨f', k1, k2⟩
theorem stp_at {H : Hp} {F : Addr → Prop} {gp f' : List Addr} {l : Addr} {o : HO} (hl : l ∈ gp) (hf : ∀ x ∈ f', x ∈ gp) : Stp false H F gp (upd H l o) F f' :=
  ⟨fun a u e k => by
    rcases k with k | k
    · cases k
    · rw [upd_ne (fun z => k (by rw [z]; exact hl))]
      exact e, fun a ha => .inl (hf a ha), fun _ h => h, fun _ h => .inl h⟩
theorem ty_list {K : PySem.W.Frag} {l : Addr} {xs : List V} {H : Hp} (h : H l = some (.lst xs)) : tyV K "list" (.ref l) H := .inl ⟨rfl, _, .inl (.inl h)⟩
theorem last_split {ds : List D} {d : D} (h : ds[ds.length - 1]? = some d) : ds = ds.dropLast ++ [d] := by
  cases ds with
  | nil => simp at h
  | cons x xs =>
    have e : (x :: xs).getLast (List.cons_ne_nil _ _) = d := by
      rw [List.getLast_eq_getElem]
      have := List.getElem?_eq_some_iff.mp h
      exact this.2
    rw [← e, List.dropLast_concat_getLast]
theorem c_pop (cx : Ctx G C cf sc hot X W) {i : Nat} {n : Str} {apos np : Pos} (hs : slotB X.N sc i n = true) (hline : (apos.endLine == pos.line) = true) : PE X (.Call (.Attribute (.Name n np) "pop" apos) [] [] pos) (mE G C cf W B (.pop i)) := by
  refine PE.imp (pe_bm0 PySem.F.plainAttrs_list PySem.F.slot_list_pop PySem.F.type_list_pop mt_pop (cx.pv hs) rfl hline) fun s H Q ⟨r, F, fp, gp, S, hs, g⟩ => ?_
  have g : Goal C B W (RD C B) false true s Q H F gp (match r[i]? with | some (some (.lst .own ds)) => (match ds[ds.length - 1]? with | some d => .ok d (r.set i (some (.lst .own ds.dropLast))) | none => .bad) | _ => .bad) := g
  cases q : r[i]? with
  | none =>
    rw [q] at g
    exact False.elim g
  | some o =>
    rw [q] at g
    cases o with
    | none => exact False.elim g
    | some d0 =>
      cases d0 with
      | lst m ds =>
        cases m with
        | own =>
          cases q2 : ds[ds.length - 1]? with
          | none =>
            simp only [q2] at g
            exact False.elim g
          | some d =>
            simp only [q2] at g
            obtain ⟨l, vs, fq, g', e1, e2, rr, lm, fm, gm, lg, lq, fl, k⟩ := S.mut q
            have es := last_split q2
            have rr2 := rr
            rw [es] at rr2
            obtain ⟨v1, w1, g1, k1, ev, r1, r2, ef⟩ := Reps.split rr2
            obtain ⟨y, yr, f1, f2, e3, ry, rn, ef2⟩ := r2
            obtain ⟨rfl, rfl⟩ := rn
            rw [List.append_nil] at ef2
            subst ef2 e3
            have hv : vs.dropLast = v1 := by rw [ev, List.dropLast_concat]
            have hy : vs[vs.length - 1]? = some y := by
              rw [ev, List.length_append]
              simp
            have flg : Fly F B g' g1 := fl.sub (by rw [ef]; exact List.sublist_append_left _ _)
            obtain ⟨f', S3, p3⟩ := k ds.dropLast v1 g1 r1 flg fun z => lq (by rw [ef]; exact List.mem_append_left _ z)
            have m3 : ∀ x, x ∈ f' ↔ x = l ∨ x ∈ g1 ∨ x ∈ g' := fun x => by
              rw [p3.mem_iff, List.mem_append, List.mem_cons, or_assoc]
            have nfl := List.nodup_append.mp fl.nd
            have ngk := List.nodup_append.mp (by rw [← ef]; exact nfl.2.1 : (g1 ++ k1).Nodup)
            refine ⟨.ref l, e1, ty_list e2, l, vs, y, rfl, rfl, e2, hy, ?_⟩
            rw [hv]
            have cg : Chg H F B [l] (upd H l (.lst v1)) F := chg_at e2 trivial (S.fF l lm) (S.fB l lm)
            refine g y (upd H l (.lst v1)) F f' k1 S3 (cg.rep _ _ _ ry fun x hx z => ?_) (fun _ => ⟨List.nodup_append.mpr ⟨S3.nd, ngk.2.1, fun x hx w hw e => ?_⟩, fun x hx => fl.nF x (by rw [ef]; exact List.mem_append_right _ hx), fun x hx => fl.nB x (by rw [ef]; exact List.mem_append_right _ hx)⟩) (stp_at (hs l lm) fun x hx => ?_)
            · have e : x = l := by simpa using z
              rw [e] at hx
              exact lq (by rw [ef]; exact List.mem_append_right _ hx)
            · subst e
              rcases (m3 x).mp hx with z | z | z
              · rw [z] at hw
                exact lq (by rw [ef]; exact List.mem_append_right _ hw)
              · exact ngk.2.2 x z x hw rfl
              · exact nfl.2.2 x z x (by rw [ef]; exact List.mem_append_right _ hw) rfl
            · rcases List.mem_append.mp hx with hx | hx
              · rcases (m3 x).mp hx with z | z | z
                · rw [z]
                  exact hs l lm
                · exact hs x (fm x (by rw [ef]; exact List.mem_append_left _ z))
                · exact hs x (gm x z)
              · exact hs x (fm x (by rw [ef]; exact List.mem_append_right _ hx))
        | _ => exact False.elim g
      | _ => exact False.elim g

/-! ### calls -/
theorem RAs.there {s : L2.St} {H : Hp} {F : Addr → Prop} : ∀ {as : List Ar} {vs : List V} {fq : List Addr}, RAs C B s H F as vs fq → ∀ a ∈ fq, H a ≠ none
  | [], _, _, h, a, ha => by
    rw [h.2] at ha
    cases ha
  | .val d :: as, _, _, h, a, ha => by
    obtain ⟨v, vr, f1, f2, _, r1, r2, ef⟩ := h
    subst ef
    rcases List.mem_append.mp ha with z | z
    · exact r1.there a z
    · exact RAs.there r2 a z
  | .io i :: as, _, _, h, a, ha => by
    obtain ⟨v, vr, _, _, r2⟩ := h
    exact RAs.there r2 a ha
  | .bor i :: as, _, _, h, a, ha => by
    obtain ⟨v, vr, _, _, r2⟩ := h
    exact RAs.there r2 a ha
theorem a_nil : PA X [] (mAs G C cf W B .nil) := PA.imp pa_nil fun s H Q ⟨r, F, fp, gp, S, hs, g⟩ => g.fin0 S hs ⟨rfl, rfl⟩
theorem a_val {as : As} {xs : List Expr} (hi : iv a = true) (hn : notStar x = true) (ha : PE X x (mE G C cf W B a)) (hb : PA X xs (mAs G C cf W B as)) : PA X (x :: xs) (mAs G C cf W B (.val a as)) := by
  refine PA.imp (pa_cons ha hb (star_cons hn)) fun s H Q ⟨r, F, fp, gp, S, hs, g⟩ => ?_
  refine tX_bind (pv := false) S hs (by rw [Bool.and_false]; exact g) fun d1 r1 v1 H1 F1 f1 q1 e1 a1 g1 => ?_
  refine tX_map a1.sd a1.f1_gp g1 fun d2 r2 v2 H2 F2 f2 q2 e2 a2 g2 => ?_
  have R1 := a1.sd.carry a2.stp a1.rep (.inr (a1.iv hi).apart)
  exact g2.fin (fq := q1 ++ q2) a2.sd a2.f1_gp ⟨v1, v2, q1, q2, rfl, R1, a2.rep, rfl⟩ (fun _ => Fly.carry a1.sd a2.stp (a1.iv hi) a1.rep.there (a2.iv rfl)) fun w hw => (List.mem_append.mp hw).elim (fun z => List.mem_append_right _ (a1.fq_gp w z)) fun z => a2.fq_gp w z
theorem a_io (cx : Ctx G C cf sc hot X W) {i : Nat} {n : Str} {np : Pos} {as : As} {xs : List Expr} (hs : slotB X.N sc i n = true) (hb : PA X xs (mAs G C cf W B as)) : PA X (.Name n np :: xs) (mAs G C cf W B (.io i as)) := by
  refine PA.imp (pa_cons (cx.pv hs) hb rfl) fun s H Q ⟨r, F, fp, gp, S, hs, g⟩ => ?_
  have g : Goal C B W (fun H F d v fq => RAs C B s H F d v fq) false true s Q H F gp (match r[i]? with | some (some _) => (evAs G cf as r).bind fun p r => .ok (.io i :: p) r | _ => .bad) := g
  cases q : r[i]? with
  | none =>
    rw [q] at g
    exact False.elim g
  | some o =>
    rw [q] at g
    cases o with
    | none => exact False.elim g
    | some d =>
      obtain ⟨v, f, e1, e2, e3⟩ := S.sl.get q
      refine ⟨v, e1, ?_⟩
      refine tX_map S hs (show Goal C B W (fun H F d v fq => RAs C B s H F d v fq) false true s Q H F gp ((evAs G cf as r).bind fun p r => .ok (.io i :: p) r) from g) fun d2 r2 v2 H2 F2 f2 q2 e2 a2 g2 => ?_
      exact g2.fin a2.sd a2.f1_gp ⟨v, v2, rfl, e1, a2.rep⟩ (fun _ => a2.iv rfl) a2.fq_gp
theorem a_bor (cx : Ctx G C cf sc hot X W) {i : Nat} {n : Str} {np : Pos} {as : As} {xs : List Expr} (hs : slotB X.N sc i n = true) (hb : PA X xs (mAs G C cf W B as)) : PA X (.Name n np :: xs) (mAs G C cf W B (.bor i as)) := by
  refine PA.imp (pa_cons (cx.pv hs) hb rfl) fun s H Q ⟨r, F, fp, gp, S, hs, g⟩ => ?_
  have g : Goal C B W (fun H F d v fq => RAs C B s H F d v fq) false true s Q H F gp (match r[i]? with | some (some _) => (evAs G cf as r).bind fun p r => .ok (.bor i :: p) r | _ => .bad) := g
  cases q : r[i]? with
  | none =>
    rw [q] at g
    exact False.elim g
  | some o =>
    rw [q] at g
    cases o with
    | none => exact False.elim g
    | some d =>
      obtain ⟨v, f, e1, e2, e3⟩ := S.sl.get q
      refine ⟨v, e1, ?_⟩
      refine tX_map S hs (show Goal C B W (fun H F d v fq => RAs C B s H F d v fq) false true s Q H F gp ((evAs G cf as r).bind fun p r => .ok (.bor i :: p) r) from g) fun d2 r2 v2 H2 F2 f2 q2 e2 a2 g2 => ?_
      exact g2.fin a2.sd a2.f1_gp ⟨v, v2, rfl, e1, a2.rep⟩ (fun _ => a2.iv rfl) a2.fq_gp
theorem stars_ok {es : List Expr} {env : Env} (h : ∀ e ∈ es, notStar e = true) : (backTo pos (starEach es env)).any (·.1) = false := by
  induction es with
  | nil => rfl
  | cons e es ih =>
    rw [star_cons (h e List.mem_cons_self)]
    exact ih fun e he => h e (List.mem_cons_of_mem _ he)
/-- the promise is met: a call by name -/
theorem call_fin {f : Str} {as : As} {s : L2.St} {H : Hp} {Q : VK} (h : mE G C cf W B (.cal f as) s H Q) : tCallS (spF C cf (G.io f) f) (WE W) (mAs G C cf W B as) s H Q := by
  obtain ⟨r, F, fp, gp, S, hs, g⟩ := h
  refine tX_bind (pv := false) S hs g fun d1 r1 v1 H1 F1 f1 q1 e1 a1 g1 => ?_
  exact call_ok a1.sd a1.f1_gp a1.fq_gp a1.rep (RAs.there a1.rep) (a1.iv rfl) g1
theorem c_cal (cx : Ctx G C cf sc hot X W) {f n : Str} {np : Pos} {as : As} {xs : List Expr} (hg : gB sc f n = true) (hf : G.isFn f = true) (hh : ((hot || G.isCold f) && (!hot || G.isHot f)) = true) (hn : ∀ e ∈ x :: xs, notStar e = true) (ha : PA X (x :: xs) (mAs G C cf W B as)) : PE X (.Call (.Name n np) (x :: xs) [] pos) (mE G C cf W B (.cal f as)) := by
  obtain ⟨e, gl, hd, _⟩ := cx.gB hg
  subst e
  obtain ⟨a, fd, ps, k, hm, _, kp, bd, h1, h2⟩ := cx.fns f hf
  have hst : starEach (x :: xs) X.env = (false, eval x X.env) :: starEach xs X.env := star_cons (hn x List.mem_cons_self)
  have hpl : (backTo pos (starEach xs X.env)).any (·.1) = false := stars_ok fun e he => hn e (List.mem_cons_of_mem _ he)
  cases hot with
  | false =>
    obtain ⟨FO, hr⟩ := h1 rfl (by simpa using hh)
    exact PE.imp (pe_callS FO hr gl hm kp bd (fun σ => L2N.passAt cx.tk σ) ha hd hst hpl) fun s H Q h => call_fin h
  | true =>
    obtain ⟨FO, hr⟩ := h2 (by simpa using hh)
    obtain ⟨a0, oe, cls, d, hp, ec⟩ := cx.ht rfl
    refine PE.imp (pe_callE FO hr hp gl hm kp bd (fun σ => L2N.passAt cx.tk σ) ha hd hst hpl) fun s H Q h => ?_
    rw [← ec]
    exact call_fin h
end
end PI
set_option maxRecDepth 100000
set_option maxHeartbeats 4000000
/-! PI10t: a list whose first element begins with a written text: behind it a token is out, and e.replace(..) of written texts may stand. -/
namespace PI
open PySem PySem.Spec PyProof.Rows L2

theorem bump_ok {M : Model} {A : Around} {E : Value → Shared → Prop} {env : Env} {s : Shared} {x : Expr} {Q : Value → Shared → Prop} (hb : bumps x = true) (h : wpAny M A (eval x env) Q E s) : wpAny M A (eval x env) (fun v s' => 1 ≤ s'.toks ∧ Q v s') E s := by
  match x, hb with
  | .BinOp (.Constant (.str c) j p) op y pos, _ =>
    intro Γ p0 hΓ
    have h1 := h Γ p0 hΓ
    simp only [eval_BinOp, Sem.wp_bind', Sem.wp_holding, Sem.wp_cmd_standAt, Sem.wp_operate] at h1 ⊢
    have h2 := Sem.wp_toks M Γ (s.toks + 1) (eval y env) _ _ _ { s with toks := s.toks + 1 } (Nat.le_refl _) h1
    refine Sem.wp_mono M Γ (eval y env) (fun a p1 s1 q => ?_) (fun _ _ _ q => q.2) _ _ h2
    exact Sem.wp_mono M Γ _ (fun a p2 s2 q2 => ⟨Nat.le_trans (Nat.le_add_left 1 _) q2.1, q2.2⟩) (fun _ _ _ q => q.2) _ _ (Sem.wp_toks M Γ (s.toks + 1) _ _ _ _ _ q.1 q.2)

section
variable {G : Gm} {C : RC} {cf : Str → List D → FR} {sc : Scope} {hot : Bool} {X : Cx} {W : WX} {B : Addr → Prop}
variable {a b c : E} {x y z : Expr} {pos : Pos}
theorem patImp {X : Cx} {e : List Expr} {t t' : TA} (h : PAT X e t) (k : ∀ s H Q, t' s H Q → t s H Q) : PAT X e t' := fun pos pins s σ H Q h0 I q => h pos pins s σ H Q h0 I (k _ _ _ q)
theorem petImp {X : Cx} {e : Expr} {t t' : TE} (h : PET X e t) (k : ∀ s H Q, t' s H Q → t s H Q) : PET X e t' := fun pins s σ H Q h0 I q => h pins s σ H Q h0 I (k _ _ _ q)
theorem lt_nil : PAT X [] (mEs G C cf W B .nil) := patImp pat_nil fun s H Q ⟨r, F, fp, gp, S, hs, g⟩ => g.fin0 S hs ⟨rfl, rfl⟩
theorem l_step {es : Es} (hi : iv a = true) : ∀ s H Q, mEs G C cf W B (.cons a es) s H Q → tCons (mE G C cf W B a) (mEs G C cf W B es) s H Q := fun s H Q ⟨r, F, fp, gp, S, hs, g⟩ => by
  refine tX_bind (pv := pus es) S hs g fun d1 r1 v1 H1 F1 f1 q1 e1 a1 g1 => ?_
  refine tX_map a1.sd a1.f1_gp g1 fun d2 r2 v2 H2 F2 f2 q2 e2 a2 g2 => ?_
  have R1 := a1.sd.carry a2.stp a1.rep (.inr (a1.iv hi).apart)
  exact g2.fin (fq := q1 ++ q2) a2.sd a2.f1_gp ⟨v1, v2, q1, q2, rfl, R1, a2.rep, rfl⟩ (fun _ => Fly.carry a1.sd a2.stp (a1.iv hi) a1.rep.there (a2.iv rfl)) fun w hw => (List.mem_append.mp hw).elim (fun z => List.mem_append_right _ (a1.fq_gp w z)) fun z => a2.fq_gp w z
theorem lt_cons {es : Es} {xs : List Expr} (hi : iv a = true) (hn : notStar x = true) (ha : PET X x (mE G C cf W B a)) (hb : PAT X xs (mEs G C cf W B es)) : PAT X (x :: xs) (mEs G C cf W B (.cons a es)) := patImp (pat_cons ha hb (star_cons hn)) (l_step hi)
theorem lt_start {es : Es} {xs : List Expr} (hi : iv a = true) (hn : notStar x = true) (hbu : bumps x = true) (ha : PE X x (mE G C cf W B a)) (hb : PAT X xs (mEs G C cf W B es)) : PA X (x :: xs) (mEs G C cf W B (.cons a es)) := by
  refine ⟨fun pos pins s σ H Q I h => ?_⟩
  have h := l_step hi _ _ _ h
  rw [star_cons hn]
  show wpAny _ _ (spliced ((false, eval x X.env) :: backTo pos (starEach xs X.env))) _ _ s
  refine Calls.spliced_cons (thn (bump_ok hbu (ha.run pins s σ H _ I h)) fun v s1 q => ?_)
  obtain ⟨h0, w, H1, I1, r1, q1⟩ := q
  exact thn (hb pos pins s1 σ H1 _ h0 I1 q1) fun us s2 ⟨ws, H2, I2, r2, q2⟩ => ⟨w :: ws, H2, I2, .cons r1 r2, q2⟩
theorem c_rpl {y z : Str} {j k : Nat} {c0 c1 apos : Pos} (hp : plainBase x = true) (hyz : (y == z) = false) (hline : (apos.endLine == pos.line) = true) (ha : PE X x (mE G C cf W B a)) : PET X (.Call (.Attribute x "replace" apos) [.Constant (.str y) j c0, .Constant (.str z) k c1] [] pos) (mE G C cf W B (.rpl a y z)) := by
  refine petImp (CwR.pet_replC ha hyz rfl (base_ok hp) hline) fun s H Q ⟨r, F, fp, gp, S, hs, g⟩ => ?_
  refine tX_map S hs g fun d1 r1 v1 H1 F1 f1 q1 e1 a1 g1 => ?_
  have R1 := a1.rep
  cases d1 with
  | str w =>
    have g1 : Goal C B W (RD C B) true true s Q H1 F1 (f1 ++ q1 ++ gp) (if szl (w.length + (w.length + 1) * z.length) = true then .ok (.str (Txt.replace w y z)) r1 else .bad) := g1
    by_cases hz : szl (w.length + (w.length + 1) * z.length) = true
    · rw [if_pos hz] at g1
      exact ⟨w, R1.1, szl16 hz, g1.fin0 a1.sd a1.f1_gp ⟨rfl, rfl⟩⟩
    · rw [if_neg hz] at g1
      exact False.elim g1
  | _ => exact False.elim g1
end
end PI
set_option maxRecDepth 100000
set_option maxHeartbeats 4000000
/-! PI11: targets, sources, comprehensions. -/
namespace PI
open PySem PySem.Spec PyProof.Rows L2

section
variable {G : Gm} {C : RC} {cf : Str → List D → FR} {sc : Scope} {hot : Bool} {X : Cx} {W : WX} {B : Addr → Prop}
variable {a b c : E} {x y z : Expr} {pos : Pos}

theorem c_cav (cx : Ctx G C cf sc hot X W) (hh : hot = false) {i : Nat} {n : Str} {np : Pos} {as : As} {xs : List Expr} (hs : slotB X.N sc i n = true) (hn : ∀ e ∈ x :: xs, notStar e = true) (ha : PA X (x :: xs) (mAs G C cf W B as)) : PE X (.Call (.Name n np) (x :: xs) [] pos) (mE G C cf W B (.cav i as)) := by
  refine ⟨fun pins s σ H Q I h => ?_⟩
  obtain ⟨r, F, fp, gp, S, hsub, g⟩ := h
  have g : Goal C B W (RD C B) false true σ Q H F gp (match r[i]? with | some (some (.fn f)) => (if (G.isFn f && G.isCold f) = true then (evAs G cf as r).bind fun p r => callR G cf f p r else .bad) | _ => .bad) := g
  cases q : r[i]? with
  | none =>
    rw [q] at g
    exact False.elim g
  | some o =>
    rw [q] at g
    cases o with
    | none => exact False.elim g
    | some d =>
      cases d with
      | fn f =>
        by_cases hf : (G.isFn f && G.isCold f) = true
        · simp only [hf, if_true] at g
          obtain ⟨v, ff, e1, e2, _⟩ := S.sl.get q
          obtain ⟨⟨af, ev, hmf⟩, _⟩ := e2
          obtain ⟨aa, fd, ps, k, hm, hm2, kp, bd, h1, _⟩ := cx.fns f (Bool.and_eq_true_iff.mp hf).1
          obtain ⟨FO, hr⟩ := h1 hh (Bool.and_eq_true_iff.mp hf).2
          rw [hmf] at hm2
          cases hm2
          subst ev
          have hst : starEach (x :: xs) X.env = (false, eval x X.env) :: starEach xs X.env := star_cons (hn x List.mem_cons_self)
          have hpl : (backTo pos (starEach xs X.env)).any (·.1) = false := stars_ok fun e he => hn e (List.mem_cons_of_mem _ he)
          refine wpAny_Call_Name_kw (thn ((cx.pv (pos := np) hs).run pins s σ H (fun v H1 => v = V.ref af ∧ H1 = H) I ⟨V.ref af, e1, rfl, rfl⟩) fun u s1 ⟨v, H1, I1, r1, q1⟩ => ?_)
          obtain ⟨rfl, rfl⟩ := q1
          cases r1
          have hc : mAs G C cf W B as σ H1 (fun vs H2 => spF C cf (G.io f) f vs H2 Q (WE W σ)) := by
            refine tX_bind (pv := false) S hsub (by rw [Bool.and_false]; exact g) fun d1 r1 v1 H1 F1 f1 q1 e1 a1 g1 => ?_
            exact call_ok a1.sd a1.f1_gp a1.fq_gp a1.rep (RAs.there a1.rep) (a1.iv rfl) g1
          refine PySem.W.callWith_K (h₀ := X.base) I.ok.mod.kin kp (thn (ha.run pos pins s1 σ _ _ I1 hc) fun us s2 ⟨vs, H2, I2, rr, qq⟩ => ⟨I2.kIn, ?_⟩) hst hpl
          exact run_fnS FO hr bd (L2N.passAt cx.tk σ) I2 rr qq
        · simp only [hf] at g
          exact False.elim g
      | _ => exact False.elim g

/-! ### targets -/
def gT (K : PySem.W.Frag) : Tg → TG
  | .nm i => gName i
  | .tu ts => gTup K ts.length (gTs ts)
where gTs : List Tg → TGs
  | [] => gNil
  | t :: ts => gCons (gT K t) (gTs ts)
/-- the slots that a target stores -/
def tgs : Tg → List Nat
  | .nm i => [i]
  | .tu ts => goes ts
where goes : List Tg → List Nat
  | [] => []
  | t :: ts => tgs t ++ goes ts
theorem assign_len : ∀ (es : List Expr) (env : Env), (assignEach es env).length = es.length ∧ ((∀ e ∈ es, notStar e = true) → (assignEach es env).findIdx? (·.1) = none)
  | [], _ => ⟨rfl, fun _ => rfl⟩
  | e :: es, env => by
    obtain ⟨h1, h2⟩ := assign_len es env
    constructor
    · cases e <;> (show _ + 1 = _ + 1; rw [h1])
    · intro h
      have h3 := h2 fun x hx => h x (List.mem_cons_of_mem _ hx)
      have h4 := h e List.mem_cons_self
      cases e <;> first
        | (show List.findIdx? _ ((false, _) :: assignEach es env) = none
           rw [List.findIdx?_cons, h3] <;> rfl)
        | cases h4
theorem chkTg_star {N : List Str} {t : Tg} {e : Expr} (h : chkTg N sc hot t e = true) : notStar e = true := by
  cases t <;> cases e <;> first
    | rfl
    | cases h
mutual
theorem pg_ok (cx : Ctx G C cf sc hot X W) : ∀ (t : Tg) (e : Expr), chkTg X.N sc hot t e = true → PG X e (gT X.K t)
  | .nm i, e, h => by
    cases e with
    | Name n p =>
      obtain ⟨h1, h2⟩ := Bool.and_eq_true_iff.mp (show (decide (X.N[i]? = some n) && locB sc n) = true from h)
      have hN := of_decide_eq_true h1
      unfold locB at h2
      cases q : sc.names.lookup n with
      | none =>
        rw [q] at h2
        cases h2
      | some k =>
        rw [q] at h2
        cases k with
        | «local» => exact pg_name cx.nd hN (.inl (cx.loc n q)) (.inr (cx.loc n q))
        | cell => exact pg_name cx.nd hN (.inr (cx.cel n q).1) (.inl (cx.cel n q).2)
        | _ => cases h2
    | _ => cases h
  | .tu ts, e, h => by
    cases e with
    | Tuple es k p =>
      obtain ⟨h1, h2⟩ := Bool.and_eq_true_iff.mp (show (!hot && chkTg.goes X.N sc hot ts es) = true from h)
      have hc := cx.calm (by simpa using h1)
      obtain ⟨p1, p2, p3⟩ := pgs_ok cx ts es h2
      exact pg_tup hc p1 ((assign_len es X.env).1.trans p2.symm) ((assign_len es X.env).2 p3)
    | _ => cases h
theorem pgs_ok (cx : Ctx G C cf sc hot X W) : ∀ (ts : List Tg) (es : List Expr), chkTg.goes X.N sc hot ts es = true → PGs X es (gT.gTs X.K ts) ∧ ts.length = es.length ∧ ∀ e ∈ es, notStar e = true
  | [], [], _ => ⟨pgs_nil, rfl, fun _ z => absurd z (by simp)⟩
  | [], _ :: _, h => by cases h
  | _ :: _, [], h => by cases h
  | t :: ts, e :: es, h => by
    obtain ⟨h1, h2⟩ := Bool.and_eq_true_iff.mp (show (chkTg X.N sc hot t e && chkTg.goes X.N sc hot ts es) = true from h)
    obtain ⟨p1, p2, p3⟩ := pgs_ok cx ts es h2
    refine ⟨pgs_cons (pg_ok cx t e h1) p1 (by
      have ns := chkTg_star h1
      cases e <;> first
        | rfl
        | cases ns), by rw [List.length_cons, List.length_cons, p2], fun x hx => ?_⟩
    rcases List.mem_cons.mp hx with z | z
    · rw [z]
      exact chkTg_star h1
    · exact p3 x z
end
theorem Sd.put {H : Hp} {F : Addr → Prop} {fp fq : List Addr} {r : Rho} {s : L2.St} {d : D} {v : V} (S : Sd C B H F r s fp) (hr : Rep C H F B d v fq) (hf : Fly F B fp fq) (i : Nat) : ∃ f', Sd C B H F (r.set i (some d)) (s.set i (some v)) f' ∧ ∀ x ∈ f', x ∈ fp ∨ x ∈ fq := by
  obtain ⟨g, h1, h2, _⟩ := S.sl.off i
  have S' : Sd C B H F (r.set i none) s g := ⟨h1, S.nd.sublist h2, fun a ha => S.fF a (h2.subset ha), fun a ha => S.fB a (h2.subset ha), S.fd, S.bd, by rw [List.length_set]; exact S.len⟩
  by_cases hi : i < r.length
  · have fl : Fly F B g fq := ⟨hf.nd.sublist (List.Sublist.append h2 (List.Sublist.refl _)), hf.nF, hf.nB⟩
    obtain ⟨f', k1, k2⟩ := Sd.fill (k := i) hr fl hi S'
    exact ⟨f', k1, fun x hx => (List.mem_append.mp (k2.mem_iff.mp hx)).elim .inr fun z => .inl (h2.subset z)⟩
  · have e1 : r.set i (some d) = r := List.set_eq_of_length_le (by omega)
    have e2 : s.set i (some v) = s := List.set_eq_of_length_le (by rw [← S.len]; omega)
    rw [e1, e2]
    exact ⟨fp, S, fun x hx => .inl hx⟩
mutual
theorem setT_ok {K : PySem.W.Frag} (hK : C.K = K) : ∀ (t : Tg) {d : D} {v : V} {H : Hp} {F : Addr → Prop} {fp fq : List Addr} {r r' : Rho} {s : L2.St} {Q : L2.St → Hp → Prop}, setT t d r = some r' → Sd C B H F r s fp → Rep C H F B d v fq → Fly F B fp fq →
    (∀ s' fp', Sd C B H F r' s' fp' → (∀ x ∈ fp', x ∈ fp ∨ x ∈ fq) → (∀ j, j ∉ tgs t → s'[j]? = s[j]?) → Q s' H) → gT K t v s H Q
  | .nm i, d, v, H, F, fp, fq, r, r', s, Q, e, S, hr, hf, k => by
    cases e
    obtain ⟨f', S', m⟩ := S.put hr hf i
    refine k _ f' S' m fun j hj => ?_
    have hj : j ≠ i := by simpa [tgs] using hj
    rw [List.getElem?_set_ne (Ne.symm hj)]
  | .tu ts, d, v, H, F, fp, fq, r, r', s, Q, e, S, hr, hf, k => by
    cases d with
    | tup ds =>
      have e : (if copyables ds then setT.setTs ts ds r else none) = some r' := e
      by_cases hc : copyables ds = true
      · rw [if_pos hc] at e
        obtain ⟨l, vs, rfl, tt, rr⟩ := hr
        have rr := rr.copy0 hc
        obtain ⟨h1, h2⟩ := setTs_ok hK ts e S rr (Q := Q) fun s' fp' S' m j => k s' fp' S' (fun x hx => .inl (m x hx)) j
        exact ⟨l, vs, rfl, by rw [← hK]; exact tt.sq, h2, h1⟩
      · rw [if_neg hc] at e
        cases e
    | _ => cases e
theorem setTs_ok {K : PySem.W.Frag} (hK : C.K = K) : ∀ (ts : List Tg) {ds : List D} {vs : List V} {H : Hp} {F : Addr → Prop} {fp : List Addr} {r r' : Rho} {s : L2.St} {Q : L2.St → Hp → Prop}, setT.setTs ts ds r = some r' → Sd C B H F r s fp → Reps C H F B ds vs [] →
    (∀ s' fp', Sd C B H F r' s' fp' → (∀ x ∈ fp', x ∈ fp) → (∀ j, j ∉ tgs.goes ts → s'[j]? = s[j]?) → Q s' H) → gT.gTs K ts vs s H Q ∧ vs.length = ts.length
  | [], [], vs, H, F, fp, r, r', s, Q, e, S, hr, k => by
    cases e
    obtain ⟨rfl, _⟩ := hr
    exact ⟨⟨rfl, k s fp S (fun _ z => z) fun _ _ => rfl⟩, rfl⟩
  | [], _ :: _, _, _, _, _, _, _, _, _, e, _, _, _ => by cases e
  | _ :: _, [], _, _, _, _, _, _, _, _, e, _, _, _ => by cases e
  | t :: ts, d :: ds, _, H, F, fp, r, r', s, Q, e, S, hr, k => by
    obtain ⟨v, vr, f1, f2, rfl, q1, q2, ef⟩ := hr
    have n : f1 = [] ∧ f2 = [] := by simpa using ef.symm
    rw [n.1] at q1
    rw [n.2] at q2
    have e : (setT t d r).bind (fun r1 => setT.setTs ts ds r1) = some r' := e
    cases e1 : setT t d r with
    | none =>
      rw [e1] at e
      cases e
    | some r1 =>
      rw [e1] at e
      have e : setT.setTs ts ds r1 = some r' := e
      -- the length, by the shapes alone
      have len : ∀ (ts : List Tg) (ds : List D) (r r' : Rho), setT.setTs ts ds r = some r' → ts.length = ds.length := by
        intro ts
        induction ts with
        | nil =>
          intro ds r r' h
          cases ds with
          | nil => rfl
          | cons _ _ => cases h
        | cons t ts ih =>
          intro ds r r' h
          cases ds with
          | nil => cases h
          | cons d ds =>
            have h : (setT t d r).bind (fun r1 => setT.setTs ts ds r1) = some r' := h
            cases e1 : setT t d r with
            | none =>
              rw [e1] at h
              cases h
            | some r1 =>
              rw [e1] at h
              rw [List.length_cons, List.length_cons, ih ds r1 r' h]
      refine ⟨⟨v, vr, rfl, setT_ok hK t e1 S q1 (Fly.nil S.nd) fun s1 fp1 S1 m1 j1 => ?_⟩, by rw [List.length_cons, List.length_cons, ← q2.length, len ts ds r1 r' e]⟩
      exact (setTs_ok hK ts e S1 q2 fun s2 fp2 S2 m2 j2 => k s2 fp2 S2 (fun x hx => (m1 x (m2 x hx)).elim id fun z => absurd z (by simp)) fun j hj => by
        have hj : j ∉ tgs t ++ tgs.goes ts := hj
        rw [j2 j fun z => hj (List.mem_append_right _ z), j1 j fun z => hj (List.mem_append_left _ z)]).1
end

/-! ### sources -/
/-- J goes over the items xs while the values vs lie as dss -/
def SrcOk (C : RC) (B : Addr → Prop) (xs : List D) (J : It) (dss : List D) (vs : List V) : Prop :=
  ∀ H F fq, Reps C H F B dss vs fq → (∀ i, i < xs.length → J.go i H) ∧ (∀ i, xs.length ≤ i → J.stop i H) ∧ ∀ i d x H', xs[i]? = some d → J.yld i H x H' → (∀ a o, H a = some o → H' a = some o) ∧ Rep C H' F B d x []
abbrev RS (C : RC) (B : Addr → Prop) : Rp (List D) It := fun H F xs J fq => ∃ dss vs, Reps C H F B dss vs fq ∧ SrcOk C B xs J dss vs
variable (G C cf W B) in
abbrev mSr (src : Sr) : TI := tX C B W (RS C B) false true (evSr G cf src)
theorem get_of {H : Hp} {F : Addr → Prop} {ds : List D} {vs : List V} {fq : List Addr} (h : Reps C H F B ds vs fq) {i : Nat} (hi : i < ds.length) : ∃ v, vs[i]? = some v := ⟨vs[i]'(by rw [← h.length]; exact hi), List.getElem?_eq_getElem _⟩
theorem get_rep {H : Hp} {F : Addr → Prop} {ds : List D} {vs : List V} {fq : List Addr} (h : Reps C H F B ds vs fq) (hc : copyables ds = true) {i : Nat} {d : D} {v : V} (e : ds[i]? = some d) (ev : vs[i]? = some v) : Rep C H F B d v [] := by
  obtain ⟨w, f, h1, h2, h3⟩ := (h.copy0 hc).get e
  rw [ev] at h1
  cases h1
  have e2 : f = [] := List.eq_nil_iff_forall_not_mem.mpr fun a ha => absurd (h3 a ha) (by simp)
  rw [e2] at h2
  exact h2
theorem src_list {m : Md} {ds : List D} {l : Addr} (hc : copyables ds = true) : SrcOk C B ds (Itl C.K l) [.lst m ds] [.ref l] := by
  intro H F fq hr
  obtain ⟨v, vr, f1, f2, ev, ⟨l', vs, f3, e1, t, rr, _⟩, ⟨e2, _⟩, _⟩ := hr
  cases ev
  cases e1
  refine ⟨fun i hi => ?_, fun i hi => ⟨vs, t.sq, by rw [← rr.length]; exact hi⟩, fun i d x H' e y => ?_⟩
  · obtain ⟨v, ev⟩ := get_of rr hi
    exact ⟨vs, v, t.sq, ev⟩
  · obtain ⟨rfl, y⟩ := y
    exact ⟨fun _ _ h => h, get_rep rr hc e (y vs t.sq)⟩
theorem src_tup {ds : List D} {l : Addr} (hc : copyables ds = true) : SrcOk C B ds (Itt C.K l) [.tup ds] [.ref l] := by
  intro H F fq hr
  obtain ⟨v, vr, f1, f2, ev, ⟨l', vs, e1, t, rr⟩, ⟨e2, _⟩, _⟩ := hr
  cases ev
  cases e1
  refine ⟨fun i hi => ?_, fun i hi => ⟨vs, t.sq, by rw [← rr.length]; exact hi⟩, fun i d x H' e y => ?_⟩
  · obtain ⟨v, ev⟩ := get_of rr hi
    exact ⟨vs, v, t.sq, ev⟩
  · obtain ⟨rfl, y⟩ := y
    exact ⟨fun _ _ h => h, get_rep rr hc e (y vs t.sq)⟩
theorem src_str {z : Str} : SrcOk C B (z.cps.toList.map fun c => .str ⟨#[c]⟩) (Its z) [] [] := by
  intro H F fq hr
  have hl : (z.cps.toList.map fun c => D.str ⟨#[c]⟩).length = z.cps.size := by simp
  refine ⟨fun i hi => by rw [hl] at hi; exact hi, fun i hi => by rw [hl] at hi; exact hi, fun i d x H' e y => ?_⟩
  obtain ⟨rfl, c, ec, rfl⟩ := y
  refine ⟨fun _ _ h => h, ?_⟩
  rw [List.getElem?_map, Array.getElem?_toList, ec] at e
  cases e
  exact ⟨rfl, rfl⟩
theorem src_rng {lo : Int} {n : Nat} : SrcOk C B ((List.range n).map fun i => .int (lo + (i : Nat))) (Itr lo n) [] [] := by
  intro H F fq hr
  have hl : ((List.range n).map fun i => D.int (lo + (i : Nat))).length = n := by simp
  refine ⟨fun i hi => by rw [hl] at hi; exact hi, fun i hi => by rw [hl] at hi; exact hi, fun i d x H' e y => ?_⟩
  obtain ⟨rfl, rfl⟩ := y
  refine ⟨fun _ _ h => h, ?_⟩
  rw [List.getElem?_map] at e
  cases q : (List.range n)[i]? with
  | none =>
    rw [q] at e
    cases e
  | some k =>
    rw [q] at e
    cases e
    have e2 : k = i := by
      have := List.getElem?_eq_some_iff.mp q
      obtain ⟨h1, h2⟩ := this
      rw [List.getElem_range] at h2
      exact h2.symm
    subst e2
    exact ⟨rfl, rfl⟩
theorem up_ext {H : Hp} {T : Addr} {o : HO} (h : H T = none) : ∀ a u, H a = some u → upd H T o a = some u := fun a u e => by
  rw [upd_ne (ne_of_none e h)]
  exact e
theorem src_enum {m : Md} {ds : List D} {l : Addr} (hc : copyables ds = true) : SrcOk C B (ds.mapIdx fun i d => .tup [.int (i : Nat), d]) (Ite C.K l) [.lst m ds] [.ref l] := by
  intro H F fq hr
  obtain ⟨v, vr, f1, f2, ev, ⟨l', vs, f3, e1, t, rr, _⟩, ⟨e2, _⟩, _⟩ := hr
  cases ev
  cases e1
  refine ⟨fun i hi => ?_, fun i hi => ⟨vs, t.sq, by rw [← rr.length]; simpa using hi⟩, fun i d x H' e y => ?_⟩
  · obtain ⟨v, ev⟩ := get_of rr (by simpa using hi)
    exact ⟨vs, v, t.sq, ev⟩
  · obtain ⟨T, w, rfl, hT, rfl, yy⟩ := y
    refine ⟨up_ext hT, ?_⟩
    rw [List.getElem?_mapIdx] at e
    cases q : ds[i]? with
    | none =>
      rw [q] at e
      cases e
    | some d0 =>
      rw [q] at e
      cases e
      have r0 := get_rep rr hc q (yy vs t.sq)
      have cg : Chg H F B [] (upd H T (.tup [.int (i : Nat), w])) F := ⟨fun a o h _ => up_ext hT a o h, fun _ z => absurd z (by simp), fun _ z => absurd z (by simp), fun _ z => absurd z (by simp), fun _ h => h⟩
      exact ⟨T, _, rfl, .inl upd_same, .int (i : Nat), [w], [], [], rfl, ⟨rfl, rfl⟩, Reps.one (cg.rep _ _ _ r0 fun _ z => absurd z (by simp)), rfl⟩
theorem src_zip {m n : Md} {ds es : List D} {l k : Addr} (hc : copyables ds = true) (hd : copyables es = true) : SrcOk C B ((ds.zip es).map fun p => .tup [p.1, p.2]) (Itz C.K l k) [.lst m ds, .lst n es] [.ref l, .ref k] := by
  intro H F fq hr
  obtain ⟨v, vr, f1, f2, ev, ⟨l', vs, f3, e1, t, rr, _⟩, h2, _⟩ := hr
  cases ev
  cases e1
  obtain ⟨v, vr, f1, f2, ev, ⟨k', ws, f3, e1, t2, rr2, _⟩, ⟨e2, _⟩, _⟩ := h2
  cases ev
  cases e1
  have hl : ((ds.zip es).map fun p => D.tup [p.1, p.2]).length = min ds.length es.length := by simp
  refine ⟨fun i hi => ?_, fun i hi => ⟨vs, ws, t.sq, t2.sq, by rw [← rr.length, ← rr2.length]; omega⟩, fun i d x H' e y => ?_⟩
  · obtain ⟨v, ev⟩ := get_of rr (i := i) (by omega)
    obtain ⟨w, ew⟩ := get_of rr2 (i := i) (by omega)
    exact ⟨vs, ws, v, w, t.sq, t2.sq, ev, ew⟩
  · obtain ⟨T, v, w, rfl, hT, rfl, y1, y2⟩ := y
    refine ⟨up_ext hT, ?_⟩
    rw [List.getElem?_map] at e
    cases q : (ds.zip es)[i]? with
    | none =>
      rw [q] at e
      cases e
    | some p =>
      rw [q] at e
      cases e
      obtain ⟨q1, q2⟩ := List.getElem?_zip_eq_some.mp q
      have r1 := get_rep rr hc q1 (y1 vs t.sq)
      have r2 := get_rep rr2 hd q2 (y2 ws t2.sq)
      have cg : Chg H F B [] (upd H T (.tup [v, w])) F := ⟨fun a o h _ => up_ext hT a o h, fun _ z => absurd z (by simp), fun _ z => absurd z (by simp), fun _ z => absurd z (by simp), fun _ h => h⟩
      exact ⟨T, _, rfl, .inl upd_same, v, [w], [], [], rfl, cg.rep _ _ _ r1 fun _ z => absurd z (by simp), Reps.one (cg.rep _ _ _ r2 fun _ z => absurd z (by simp)), rfl⟩
end
end PI
set_option maxRecDepth 100000
set_option maxHeartbeats 4000000
/-! PI12: what loops go over; comprehensions. -/
namespace PI
open PySem PySem.Spec PyProof.Rows L2

section
variable {G : Gm} {C : RC} {cf : Str → List D → FR} {sc : Scope} {hot : Bool} {X : Cx} {W : WX} {B : Addr → Prop}
variable {a b c : E} {x y z tg : Expr} {pos : Pos}

theorem itl_ok (cx : Ctx G C cf sc hot X W) (hi : iv a = true) {s : L2.St} {H : Hp} {R : It → Hp → Prop} (h : mSr G C cf W B (.itl a) s H R) : iList X.K (mE G C cf W B a) s H R := by
  obtain ⟨r, F, fp, gp, S, hs, g⟩ := h
  refine tX_bind (pv := false) S hs (by rw [Bool.and_false]; exact g) fun d1 r1 v1 H1 F1 f1 q1 e1 a1 g1 => ?_
  have R1 := a1.rep
  cases d1 with
  | lst m ds =>
    by_cases hc : copyables ds = true
    · have g1 : Goal C B W (RS C B) false true s R H1 F1 (f1 ++ q1 ++ gp) (.ok ds r1) := by
        have g2 : Goal C B W (RS C B) false true s R H1 F1 (f1 ++ q1 ++ gp) (if copyables ds = true then .ok ds r1 else .bad) := g1
        rwa [if_pos hc] at g2
      obtain ⟨l, vs, fq, rfl, t, rr, ef⟩ := id R1
      refine ⟨l, rfl, ⟨vs, by rw [← cx.hK]; exact t.sq⟩, ?_⟩
      rw [← cx.hK]
      exact g1.fin a1.sd a1.f1_gp ⟨_, _, Reps.one R1, src_list hc⟩ (fun _ => a1.iv hi) a1.fq_gp
    · have g2 : Goal C B W (RS C B) false true s R H1 F1 (f1 ++ q1 ++ gp) (if copyables ds = true then .ok ds r1 else .bad) := g1
      rw [if_neg hc] at g2
      exact False.elim g2
  | _ => exact False.elim g1
theorem s_itl (cx : Ctx G C cf sc hot X W) (hi : iv a = true) (ha : PE X x (mE G C cf W B a)) : PI X tg x (mSr G C cf W B (.itl a)) :=
  ⟨fun pins s σ H R I h => (pi_list ha).run pins s σ H R I (itl_ok cx hi h)⟩
theorem s_it (cx : Ctx G C cf sc hot X W) (hi : iv a = true) (ha : PE X x (mE G C cf W B a)) : PI X tg x (mSr G C cf W B (.it a)) := by
  refine ⟨fun pins s σ H R I h => ?_⟩
  obtain ⟨r, F, fp, gp, S, hs, g⟩ := h
  have g : Goal C B W (RS C B) false true σ R H F gp ((evE G cf a r).bind fun x r => ofO (itemsD x) r) := g
  cases e : evE G cf a r with
  | bad =>
    rw [e] at g
    exact False.elim g
  | exc cc fs r1 =>
    refine (pi_list ha).run pins s σ H R I ?_
    refine tX_bind (pv := false) S hs (by rw [Bool.and_false]; exact g) fun d1 r1 v1 H1 F1 f1 q1 e1 a1 g1 => ?_
    rw [e] at e1
    cases e1
  | ok d r1 =>
    cases d with
    | lst m ds =>
      refine (pi_list ha).run pins s σ H R I ?_
      refine tX_bind (pv := false) S hs (by rw [Bool.and_false]; exact g) fun d1 r1 v1 H1 F1 f1 q1 e1 a1 g1 => ?_
      rw [e] at e1
      cases e1
      have g1 : Goal C B W (RS C B) false true σ R H1 F1 (f1 ++ q1 ++ gp) (ofO (if copyables ds then some ds else none) r1) := g1
      by_cases hc : copyables ds = true
      · rw [if_pos hc] at g1
        have R0 := a1.rep
        obtain ⟨l, vs, fq, rfl, t, rr, ef⟩ := R0
        refine ⟨l, rfl, ⟨vs, by rw [← cx.hK]; exact t.sq⟩, ?_⟩
        rw [← cx.hK]
        exact g1.fin a1.sd a1.f1_gp ⟨_, _, Reps.one a1.rep, src_list hc⟩ (fun _ => a1.iv hi) a1.fq_gp
      · rw [if_neg hc] at g1
        exact False.elim g1
    | tup ds =>
      refine (pi_tup ha).run pins s σ H R I ?_
      refine tX_bind (pv := false) S hs (by rw [Bool.and_false]; exact g) fun d1 r1 v1 H1 F1 f1 q1 e1 a1 g1 => ?_
      rw [e] at e1
      cases e1
      have g1 : Goal C B W (RS C B) false true σ R H1 F1 (f1 ++ q1 ++ gp) (ofO (if copyables ds then some ds else none) r1) := g1
      by_cases hc : copyables ds = true
      · rw [if_pos hc] at g1
        have R0 := a1.rep
        obtain ⟨l, vs, rfl, t, rr⟩ := R0
        refine ⟨l, rfl, ⟨vs, by rw [← cx.hK]; exact t.sq⟩, ?_⟩
        rw [← cx.hK]
        exact g1.fin a1.sd a1.f1_gp ⟨_, _, Reps.one a1.rep, src_tup hc⟩ (fun _ => a1.iv hi) a1.fq_gp
      · rw [if_neg hc] at g1
        exact False.elim g1
    | str w =>
      refine (pi_str ha).run pins s σ H R I ?_
      refine tX_bind (pv := false) S hs (by rw [Bool.and_false]; exact g) fun d1 r1 v1 H1 F1 f1 q1 e1 a1 g1 => ?_
      rw [e] at e1
      cases e1
      exact ⟨w, a1.rep.1, g1.fin0 a1.sd a1.f1_gp ⟨[], [], ⟨rfl, rfl⟩, src_str⟩⟩
    | _ =>
      rw [e] at g
      exact False.elim g
theorem s_rng (cx : Ctx G C cf sc hot X W) {n : Str} {np : Pos} (hg : gB sc "range" n = true) (hn : notStar x = true) (ha : PE X x (mE G C cf W B a)) : PI X tg (.Call (.Name n np) [x] [] pos) (mSr G C cf W B (.rng a)) := by
  obtain ⟨e, gl, hd, _⟩ := cx.gB hg
  subst e
  have hst : starEach (x :: []) X.env = (false, eval x X.env) :: starEach [] X.env := star_cons hn
  refine ⟨fun pins s σ H R I h => (pi_range1 gl (cx.blt _ (by decide)) (pa_cons ha pa_nil hst) hst).run pins s σ H R I ?_⟩
  obtain ⟨r, F, fp, gp, S, hs, g⟩ := h
  refine tX_bind (pv := false) S hs (by rw [Bool.and_false]; exact g) fun d1 r1 v1 H1 F1 f1 q1 e1 a1 g1 => ?_
  have R1 := a1.rep
  cases d1 with
  | int j =>
    have g1 : Goal C B W (RS C B) false true σ R H1 F1 (f1 ++ q1 ++ gp) (if decide (-(2 ^ 62) ≤ j ∧ j < 2 ^ 62) then .ok ((List.range j.toNat).map fun i => .int (i : Nat)) r1 else .bad) := g1
    by_cases hz : decide (-(2 ^ 62) ≤ j ∧ j < 2 ^ 62) = true
    · rw [if_pos hz] at g1
      have hz := of_decide_eq_true hz
      refine ⟨j, by rw [R1.1], hz.1, hz.2, g1.fin0 a1.sd a1.f1_gp ⟨[], [], ⟨rfl, rfl⟩, ?_⟩⟩
      have k := src_rng (C := C) (B := B) (lo := 0) (n := j.toNat)
      simp only [Int.zero_add] at k
      exact k
    · rw [if_neg hz] at g1
      exact False.elim g1
  | _ => exact False.elim g1
theorem s_rng2 (cx : Ctx G C cf sc hot X W) {n : Str} {np : Pos} (hg : gB sc "range" n = true) (hk : (iv a || pu b) = true) (hn : notStar x = true) (hn2 : notStar y = true) (ha : PE X x (mE G C cf W B a)) (hb : PE X y (mE G C cf W B b)) : PI X tg (.Call (.Name n np) [x, y] [] pos) (mSr G C cf W B (.rng2 a b)) := by
  obtain ⟨e, gl, hd, _⟩ := cx.gB hg
  subst e
  have hst : starEach (x :: [y]) X.env = (false, eval x X.env) :: starEach [y] X.env := star_cons hn
  have hst2 : starEach (y :: []) X.env = (false, eval y X.env) :: starEach [] X.env := star_cons hn2
  refine ⟨fun pins s σ H R I h => (pi_range2 gl (cx.blt _ (by decide)) (pa_cons ha (pa_cons hb pa_nil hst2) hst) (by rw [hst, hst2] <;> rfl) hst2).run pins s σ H R I ?_⟩
  obtain ⟨r, F, fp, gp, S, hs, g⟩ := h
  refine tX_bind (pv := false) S hs (by rw [Bool.and_false]; exact g) fun d1 r1 v1 H1 F1 f1 q1 e1 a1 g1 => ?_
  refine tX_bind (pv := false) a1.sd a1.f1_gp (by rw [Bool.and_false]; exact g1) fun d2 r2 v2 H2 F2 f2 q2 e2 a2 g2 => ?_
  have R1 := carry2 hk a1 a2
  have R2 := a2.rep
  cases d1 with
  | int i =>
    cases d2 with
    | int j =>
      have g2 : Goal C B W (RS C B) false true σ R H2 F2 (f2 ++ q2 ++ (f1 ++ q1 ++ gp)) (if decide (-(2 ^ 62) ≤ i ∧ i < 2 ^ 62 ∧ -(2 ^ 62) ≤ j ∧ j < 2 ^ 62) then .ok ((List.range (j - i).toNat).map fun k => .int (i + (k : Nat))) r2 else .bad) := g2
      by_cases hz : decide (-(2 ^ 62) ≤ i ∧ i < 2 ^ 62 ∧ -(2 ^ 62) ≤ j ∧ j < 2 ^ 62) = true
      · rw [if_pos hz] at g2
        exact ⟨i, j, by rw [R1.1, R2.1], of_decide_eq_true hz, g2.fin0 a2.sd a2.f1_gp ⟨[], [], ⟨rfl, rfl⟩, src_rng⟩⟩
      · rw [if_neg hz] at g2
        exact False.elim g2
    | _ => exact False.elim g2
  | _ => exact False.elim g2
theorem s_enum (cx : Ctx G C cf sc hot X W) {n : Str} {np tp : Pos} {elts : List Expr} {kk : Nat} (hg : gB sc "enumerate" n = true) (hi : iv a = true) (hn : notStar x = true) (ha : PE X x (mE G C cf W B a)) : PI X (.Tuple elts kk tp) (.Call (.Name n np) [x] [] pos) (mSr G C cf W B (.enum a)) := by
  obtain ⟨e, gl, hd, _⟩ := cx.gB hg
  subst e
  have hst : starEach (x :: []) X.env = (false, eval x X.env) :: starEach [] X.env := star_cons hn
  refine ⟨fun pins s σ H R I h => (pi_enum gl (cx.blt _ (by decide)) (pa_cons ha pa_nil hst) hst).run pins s σ H R I ?_⟩
  obtain ⟨r, F, fp, gp, S, hs, g⟩ := h
  refine tX_bind (pv := false) S hs (by rw [Bool.and_false]; exact g) fun d1 r1 v1 H1 F1 f1 q1 e1 a1 g1 => ?_
  have R1 := a1.rep
  cases d1 with
  | lst m ds =>
    have g1 : Goal C B W (RS C B) false true σ R H1 F1 (f1 ++ q1 ++ gp) (if copyables ds then .ok (ds.mapIdx fun i d => .tup [.int (i : Nat), d]) r1 else .bad) := g1
    by_cases hc : copyables ds = true
    · rw [if_pos hc] at g1
      obtain ⟨l, vs, fq, rfl, t, rr, ef⟩ := R1
      refine ⟨l, vs, rfl, by rw [← cx.hK]; exact t.sq, ?_⟩
      rw [← cx.hK]
      exact g1.fin a1.sd a1.f1_gp ⟨_, _, Reps.one a1.rep, src_enum hc⟩ (fun _ => a1.iv hi) a1.fq_gp
    · rw [if_neg hc] at g1
      exact False.elim g1
  | _ => exact False.elim g1
theorem s_zip (cx : Ctx G C cf sc hot X W) {n : Str} {np tp : Pos} {elts : List Expr} {kk : Nat} (hg : gB sc "zip" n = true) (hi : iv a = true) (hj : iv b = true) (hn : notStar x = true) (hn2 : notStar y = true) (ha : PE X x (mE G C cf W B a)) (hb : PE X y (mE G C cf W B b)) : PI X (.Tuple elts kk tp) (.Call (.Name n np) [x, y] [] pos) (mSr G C cf W B (.zip a b)) := by
  obtain ⟨e, gl, hd, _⟩ := cx.gB hg
  subst e
  have hst : starEach (x :: [y]) X.env = (false, eval x X.env) :: starEach [y] X.env := star_cons hn
  have hst2 : starEach (y :: []) X.env = (false, eval y X.env) :: starEach [] X.env := star_cons hn2
  refine ⟨fun pins s σ H R I h => (pi_zip gl (cx.blt _ (by decide)) (pa_cons ha (pa_cons hb pa_nil hst2) hst) hst (backTo_plain hn2)).run pins s σ H R I ?_⟩
  obtain ⟨r, F, fp, gp, S, hs, g⟩ := h
  refine tX_bind (pv := false) S hs (by rw [Bool.and_false]; exact g) fun d1 r1 v1 H1 F1 f1 q1 e1 a1 g1 => ?_
  refine tX_bind (pv := false) a1.sd a1.f1_gp (by rw [Bool.and_false]; exact g1) fun d2 r2 v2 H2 F2 f2 q2 e2 a2 g2 => ?_
  have R1 := carry2 (by rw [hi] <;> rfl) a1 a2
  have R2 := a2.rep
  cases d1 with
  | lst m ds =>
    cases d2 with
    | lst n es =>
      have g2 : Goal C B W (RS C B) false true σ R H2 F2 (f2 ++ q2 ++ (f1 ++ q1 ++ gp)) (if copyables ds && copyables es then .ok ((ds.zip es).map fun p => .tup [p.1, p.2]) r2 else .bad) := g2
      by_cases hc : (copyables ds && copyables es) = true
      · rw [if_pos hc] at g2
        obtain ⟨hc1, hc2⟩ := Bool.and_eq_true_iff.mp hc
        have R1' := R1
        have R2' := R2
        obtain ⟨l, vs, fq, rfl, t, rr, ef⟩ := R1
        obtain ⟨k, ws, fq2, rfl, t2, rr2, ef2⟩ := R2
        refine ⟨l, k, vs, ws, rfl, by rw [← cx.hK]; exact t.sq, by rw [← cx.hK]; exact t2.sq, ?_⟩
        rw [← cx.hK]
        have fl := Fly.carry a1.sd a2.stp (a1.iv hi) a1.rep.there (a2.iv hj)
        exact g2.fin (fq := q1 ++ q2) a2.sd a2.f1_gp ⟨[.lst m ds, .lst n es], [.ref l, .ref k], ⟨_, _, q1, q2, rfl, R1', Reps.one R2', rfl⟩, src_zip hc1 hc2⟩ (fun _ => fl) fun w hw => (List.mem_append.mp hw).elim (fun z => List.mem_append_right _ (a1.fq_gp w z)) fun z => a2.fq_gp w z
      · rw [if_neg hc] at g2
        exact False.elim g2
    | _ => exact False.elim g2
  | _ => exact False.elim g2

/-! ### comprehensions -/
theorem Slots.agree {H : Hp} {F : Addr → Prop} : ∀ {r : Rho} {s s' : L2.St} {fp : List Addr}, Slots C H F B r s fp → (∀ (i : Nat) d, r[i]? = some (some d) → s'[i]? = s[i]?) → Slots C H F B r s' fp
  | [], _, _, _, h, _ => h
  | none :: r, s, s', _, h, k => Slots.agree (r := r) (s := s.tail) (s' := s'.tail) h fun i d e => by
    have q := k (i + 1) d (by simpa using e)
    simpa using q
  | some d :: r, _, s', _, h, k => by
    obtain ⟨v, sr, f1, f2, es, r1, r2, ef⟩ := h
    subst es
    have k0 := k 0 d rfl
    cases s' with
    | nil => simp at k0
    | cons w sr' =>
      have e : w = some v := by simpa using k0
      subst e
      exact ⟨v, sr', f1, f2, rfl, r1, Slots.agree (r := r) (s := sr) (s' := sr') r2 fun i d e => by
        have q := k (i + 1) d (by simpa using e)
        simpa using q, ef⟩
theorem wipeR_length (r : Rho) : ∀ vs : List Nat, (wipeR r vs).length = r.length
  | [] => rfl
  | v :: vs => by
    show ((wipeR r vs).set v none).length = r.length
    rw [List.length_set, wipeR_length r vs]
theorem wipeR_in {r : Rho} {i : Nat} : ∀ {vs : List Nat}, i ∈ vs → ∀ d, (wipeR r vs)[i]? ≠ some (some d)
  | v :: vs, h, d, e => by
    have e : ((wipeR r vs).set v none)[i]? = some (some d) := e
    by_cases ev : v = i
    · subst ev
      rw [List.getElem?_set] at e
      simp at e
    · rw [List.getElem?_set_ne ev] at e
      rcases List.mem_cons.mp h with z | z
      · exact ev z.symm
      · exact wipeR_in z d e
theorem wipe_in {s : L2.St} {i : Nat} : ∀ {vs : List Nat}, i ∈ vs → (wipe s vs)[i]? = if i < s.length then some none else none
  | v :: vs, h => by
    show ((wipe s vs).set v none)[i]? = _
    by_cases ev : v = i
    · subst ev
      rw [List.getElem?_set, wipe_length]
      simp
    · rw [List.getElem?_set_ne ev]
      rcases List.mem_cons.mp h with z | z
      · exact absurd z.symm ev
      · exact wipe_in z
theorem wipe_same {s s' : L2.St} {vs : List Nat} (hl : s'.length = s.length) (h : ∀ j, j ∉ vs → s'[j]? = s[j]?) : wipe s' vs = wipe s vs := by
  apply List.ext_getElem?
  intro i
  by_cases hi : i ∈ vs
  · rw [wipe_in hi, wipe_in hi, hl]
  · rw [wipe_out hi, wipe_out hi, h i hi]
theorem Sd.wipe {H : Hp} {F : Addr → Prop} {r : Rho} {s : L2.St} {fp : List Addr} (S : Sd C B H F r s fp) : ∀ vs : List Nat, ∃ f', Sd C B H F (wipeR r vs) s f' ∧ ∀ x ∈ f', x ∈ fp
  | [] => ⟨fp, S, fun _ z => z⟩
  | v :: vs => by
    obtain ⟨f', S', m⟩ := Sd.wipe S vs
    obtain ⟨g, h1, h2, _⟩ := S'.sl.off v
    exact ⟨g, ⟨h1, S'.nd.sublist h2, fun a ha => S'.fF a (h2.subset ha), fun a ha => S'.fB a (h2.subset ha), S'.fd, S'.bd, by
      show ((wipeR r vs).set v none).length = _
      rw [List.length_set]
      exact S'.len⟩, fun x hx => m x (h2.subset hx)⟩
theorem Sd.slots {H : Hp} {F : Addr → Prop} {r : Rho} {s s' : L2.St} {fp : List Addr} (S : Sd C B H F r s fp) (hl : s'.length = s.length) (h : ∀ (i : Nat) d, r[i]? = some (some d) → s'[i]? = s[i]?) : Sd C B H F r s' fp :=
  ⟨Slots.agree S.sl h, S.nd, S.fF, S.fB, S.fd, S.bd, by rw [hl]; exact S.len⟩
abbrev W0 : WX := fun _ _ _ _ => False
abbrev RB : Rp Bool Bool := fun _ _ a b fq => a = b ∧ fq = []
variable (G C cf W B) in
abbrev mC (o : Ot) : TT := tX C B W RB false true (evC G cf o)
theorem tgs_in {own : List (Str × Nat)} : ∀ (t : Tg), tgIn own t = true → ∀ j ∈ tgs t, j ∈ own.map (·.2)
  | .nm i, h, j, hj => by
    have e : j = i := by simpa [tgs] using hj
    rw [e]
    have h : ((own.map (·.2)).contains i) = true := h
    simpa using h
  | .tu ts, h, j, hj => go ts h j hj
where go : ∀ (ts : List Tg), tgIn.goes own ts = true → ∀ j ∈ tgs.goes ts, j ∈ own.map (·.2)
  | [], _, j, hj => by
    have hj : j ∈ ([] : List Nat) := hj
    cases hj
  | t :: ts, h, j, hj => by
    obtain ⟨h1, h2⟩ := Bool.and_eq_true_iff.mp (show (tgIn own t && tgIn.goes own ts) = true from h)
    rcases List.mem_append.mp (show j ∈ tgs t ++ tgs.goes ts from hj) with z | z
    · exact tgs_in t h1 j z
    · exact go ts h2 j z
theorem Sd.ext {H H' : Hp} {F : Addr → Prop} {r : Rho} {s : L2.St} {f : List Addr} (S : Sd C B H F r s f) (h : ∀ a o, H a = some o → H' a = some o) : Sd C B H' F r s f :=
  S.pure (f1 := []) ⟨fun a o e _ => h a o e, fun _ z => absurd z (by simp), fun _ z => z, fun _ z => .inl z⟩ S.fF fun x hx e => by
    cases q : H x with
    | none => exact S.fd x hx q
    | some o =>
      rw [h x o q] at e
      cases e
/-- what stands apart from the slots: the list at L that is made, the source -/
structure Kp (C : RC) (B : Addr → Prop) (L : Addr) (dss : List D) (svs : List V) (q1 : List Addr) (acc : List D) (vacc : List V) (H : Hp) (F : Addr → Prop) (f : List Addr) : Prop where
  src : Reps C H F B dss svs q1
  fl : Fly F B f q1
  hL : H L = some (.lst vacc)
  rc : Reps C H F B acc vacc []
  Lf : L ∉ f
  LF : ¬ F L
  LB : ¬ B L
  Lq : L ∉ q1
section
variable {L : Addr} {dss acc : List D} {svs vacc : List V} {q1 : List Addr} {H H1 : Hp} {F F1 : Addr → Prop} {f f1 : List Addr} {p : Bool} {r : Rho} {s : L2.St}
theorem Kp.step (k : Kp C B L dss svs q1 acc vacc H F f) (S : Sd C B H F r s f) (st : Stp p H F f H1 F1 f1) (nd : f1.Nodup) : Kp C B L dss svs q1 acc vacc H1 F1 f1 := by
  have th : H L ≠ none := fun e => by
    rw [k.hL] at e
    cases e
  refine ⟨S.carrys st k.src (.inr k.fl.apart), ?_, st.ext L _ k.hL (.inr k.Lf), S.carrys st k.rc (.inr fun _ z => absurd z (by simp)), fun z => (st.new L z).elim k.Lf th, fun z => (st.fn L z).elim k.LF fun z => z.elim k.Lf th, k.LB, k.Lq⟩
  have q := Fly.carry (fq := []) (f1 := f1) S (st.less fun x hx => by simpa using hx) k.fl k.src.there (Fly.nil nd)
  rw [List.append_nil] at q
  exact q
theorem Kp.less (k : Kp C B L dss svs q1 acc vacc H F f) (h : ∀ x ∈ f1, x ∈ f) (nd : f1.Nodup) : Kp C B L dss svs q1 acc vacc H F f1 := by
  have n := List.nodup_append.mp k.fl.nd
  exact ⟨k.src, ⟨List.nodup_append.mpr ⟨nd, n.2.1, fun x hx y hy e => n.2.2 x (h x hx) y hy e⟩, k.fl.nF, k.fl.nB⟩, k.hL, k.rc, fun z => k.Lf (h L z), k.LF, k.LB, k.Lq⟩
theorem Kp.put (k : Kp C B L dss svs q1 acc vacc H F f) {d : D} {v : V} (hr : Rep C H F B d v []) : Kp C B L dss svs q1 (acc ++ [d]) (vacc ++ [v]) (upd H L (.lst (vacc ++ [v]))) F f := by
  have cg : Chg H F B [L] (upd H L (.lst (vacc ++ [v]))) F := chg_at k.hL trivial k.LF k.LB
  refine ⟨cg.reps _ _ _ k.src fun x hx z => ?_, k.fl, upd_same, cg.reps _ _ _ (Reps.append (f := []) (g := []) k.rc (Reps.one hr)) fun _ z => absurd z (by simp), k.Lf, k.LF, k.LB, k.Lq⟩
  have e : x = L := by simpa using z
  rw [e] at hx
  exact k.Lq hx
theorem Kp.sd (k : Kp C B L dss svs q1 acc vacc H F f) (S : Sd C B H F r s f) {ws : List V} : Sd C B (upd H L (.lst ws)) F r s f := by
  have cg : Chg H F B [L] (upd H L (.lst ws)) F := chg_at k.hL trivial k.LF k.LB
  refine ⟨Slots.chg cg S.sl fun x hx z => ?_, S.nd, S.fF, S.fB, fun x hx e => ?_, fun x hx e => ?_, S.len⟩
  · have e : x = L := by simpa using z
    rw [e] at hx
    exact k.Lf hx
  · have ne : x ≠ L := fun z => k.LF (by rw [← z]; exact hx)
    rw [upd_ne ne] at e
    exact S.fd x hx e
  · have ne : x ≠ L := fun z => k.LB (by rw [← z]; exact hx)
    rw [upd_ne ne] at e
    exact S.bd x hx e
end
mutual
theorem setT_len : ∀ (t : Tg) {d : D} {r r' : Rho}, setT t d r = some r' → r'.length = r.length
  | .nm i, d, r, r', e => by
    cases e
    exact List.length_set
  | .tu ts, d, r, r', e => by
    cases d with
    | tup ds =>
      have e : (if copyables ds then setT.setTs ts ds r else none) = some r' := e
      by_cases hc : copyables ds = true
      · rw [if_pos hc] at e
        exact setTs_len ts e
      · rw [if_neg hc] at e
        cases e
    | _ => cases e
theorem setTs_len : ∀ (ts : List Tg) {ds : List D} {r r' : Rho}, setT.setTs ts ds r = some r' → r'.length = r.length
  | [], [], _, _, e => by
    cases e
    rfl
  | [], _ :: _, _, _, e => by cases e
  | _ :: _, [], _, _, e => by cases e
  | t :: ts, d :: ds, r, r', e => by
    have e : (setT t d r).bind (fun r1 => setT.setTs ts ds r1) = some r' := e
    cases e1 : setT t d r with
    | none =>
      rw [e1] at e
      cases e
    | some r1 =>
      rw [e1] at e
      rw [setTs_len ts (show setT.setTs ts ds r1 = some r' from e), setT_len t e1]
end
/-- all that a turn knows -/
structure Tn (C : RC) (B : Addr → Prop) (W : WX) (s : L2.St) (Q : VK) (L : Addr) (dss : List D) (svs : List V) (q1 : List Addr) (H : Hp) (F : Addr → Prop) (r : Rho) (f gp : List Addr) (acc : List D) (vacc : List V) (x : R (List D)) : Prop where
  sd : Sd C B H F r s f
  kp : Kp C B L dss svs q1 acc vacc H F f
  sub : ∀ a ∈ f, a ∈ gp
  subL : L ∈ gp
  g : Goal C B W (RD C B) false true s Q H F gp (x.calm.bind fun ys r => .ok (.lst .own ys) r)
theorem lc_ok (cx : Ctx G C cf sc hot X W) {tt : Tg} {src : Sr} {cond : Ot} {own : List (Str × Nat)} (htg : tgIn own tt = true) {s : L2.St} {H : Hp} {Q : VK} (h : mE G C cf W B (.cmpr a tt src cond own) s H Q) :
    tLc (mSr G C cf W B src) (gT X.K tt) (mC G C cf W0 B cond) (mE G C cf W0 B a) (own.map (·.2)) s H Q := by
  obtain ⟨r, F, fp, gp, S, hs, g⟩ := h
  refine tX_bind (pv := false) S hs g fun xs r1 J H1 F1 f1 q1 e1 a1 g1 L hL => ?_
  obtain ⟨dss, svs, srep, sok⟩ := a1.rep
  let one := oneC tt (own.map (·.2)) (fun r => evC G cf cond r) (fun r => evE G cf a r)
  refine ⟨fun i m H' => ∃ F' r' f' gp' acc vacc, m = xs.length - i ∧ i ≤ xs.length ∧ Tn C B W s Q L dss svs q1 H' F' r' f' gp' acc vacc (turns one (xs.drop i) acc r'), ⟨xs.length - 0, ?_⟩, fun i m H' hW => ?_⟩
  · obtain ⟨f', S', m'⟩ := a1.sd.wipe (own.map (·.2))
    have fr := a1.sd.fresh hL
    have nq : L ∉ q1 := fun z => srep.there L z hL
    have cg : Chg H1 F1 B [] (upd H1 L (.lst [])) F1 := ⟨fun x o h _ => up_ext hL x o h, fun _ z => absurd z (by simp), fun _ z => absurd z (by simp), fun _ z => absurd z (by simp), fun _ h => h⟩
    have fl := a1.iv rfl
    have nd := List.nodup_append.mp fl.nd
    refine ⟨F1, _, f', L :: (f1 ++ q1 ++ gp), [], [], rfl, Nat.zero_le _, S'.laid hL, ⟨cg.reps _ _ _ srep fun _ _ => by simp, ⟨List.nodup_append.mpr ⟨S'.nd, nd.2.1, fun x hx y hy e => nd.2.2 x (m' x hx) y hy e⟩, fl.nF, fl.nB⟩, upd_same, ⟨rfl, rfl⟩, fun z => fr.1 (m' L z), fr.2.1, fr.2.2, nq⟩, fun x hx => List.mem_cons_of_mem _ (a1.f1_gp x (m' x hx)), List.mem_cons_self, ?_⟩
    exact Goal.base (pu := false) (pv := false) g1 ((Stp.new1 (fp := f1 ++ q1 ++ gp) hL).weak fun z => by cases z) fun _ z => z
  · obtain ⟨F', r', f', gp', acc, vacc, rfl, hi, T⟩ := hW
    obtain ⟨k1, k2, k3⟩ := sok H' F' q1 T.kp.src
    by_cases hlt : i < xs.length
    · refine .inr ⟨k1 i hlt, fun H'' => ∃ F'' r'' f'' gp'' acc'' vacc'', Tn C B W s Q L dss svs q1 H'' F'' r'' f'' gp'' acc'' vacc'' (turns one (xs.drop (i + 1)) acc'' r''), fun H'' ⟨F'', r'', f'', gp'', acc'', vacc'', T''⟩ => ⟨xs.length - (i + 1), by omega, F'', r'', f'', gp'', acc'', vacc'', rfl, hlt, T''⟩, fun w H2 hy => ?_⟩
      have ed : xs.drop i = xs[i] :: xs.drop (i + 1) := List.drop_eq_getElem_cons hlt
      obtain ⟨x1, x2⟩ := k3 i xs[i] w H2 (List.getElem?_eq_getElem hlt) hy
      have g := T.g
      rw [ed] at g
      -- over to H2
      have st2 : Stp false H' F' gp' H2 F' gp' := ⟨fun b o e _ => x1 b o e, fun _ z => .inl z, fun _ z => z, fun _ z => .inl z⟩
      have K2 : Kp C B L dss svs q1 acc vacc H2 F' f' := T.kp.step (p := true) T.sd ⟨fun b o e _ => x1 b o e, fun _ z => .inl z, fun _ z => z, fun _ z => .inl z⟩ T.sd.nd
      obtain ⟨f2, S2, m2⟩ := (T.sd.ext x1).wipe (own.map (·.2))
      have ag : ∀ (j : Nat) d, (wipeR r' (own.map (·.2)))[j]? = some (some d) → (wipe s (own.map (·.2)))[j]? = s[j]? := fun j d e => wipe_out fun hm => wipeR_in hm d e
      have S2w := S2.slots (wipe_length s _) ag
      have g2 := Goal.base (pu := false) (pv := false) g st2 fun _ z => z
      cases es : setT tt xs[i] (wipeR r' (own.map (·.2))) with
      | none =>
        have e : one xs[i] r' = .bad := by
          show oneC _ _ _ _ _ _ = _
          unfold oneC
          rw [es]
        have e2 : turns one (xs[i] :: xs.drop (i + 1)) acc r' = .bad := by
          show (one xs[i] r').bind _ = _
          rw [e]
          rfl
        rw [e2] at g
        exact False.elim g
      | some r2 =>
        have eo : one xs[i] r' = ((evC G cf cond r2).bind fun b r2 => if b = true then (evE G cf a r2).bind fun y r3 => if copyable y = true then .ok (some y) (wipeR r3 (own.map (·.2))) else .bad else .ok none (wipeR r2 (own.map (·.2)))) := by
          show oneC _ _ _ _ _ _ = _
          unfold oneC
          rw [es]
        have et : turns one (xs[i] :: xs.drop (i + 1)) acc r' = (one xs[i] r').bind fun o r1 => match o with
            | some y => if szlt acc.length = true then turns one (xs.drop (i + 1)) (acc ++ [y]) r1 else .bad
            | none => turns one (xs.drop (i + 1)) acc r1 := rfl
        refine setT_ok cx.hK tt es S2w x2 (Fly.nil S2w.nd) fun s2 fp2 S3 m3 j3 => ?_
        have hl2 : s2.length = s.length := by
          rw [← S3.len, setT_len tt es, wipeR_length]
          exact T.sd.len
        have sout : ∀ j, j ∉ own.map (·.2) → s2[j]? = s[j]? := fun j hj => by
          rw [j3 j fun z => hj (tgs_in tt htg j z), wipe_out hj]
        refine ⟨wipe_same hl2 sout, ?_⟩
        have sub2 : ∀ x ∈ fp2, x ∈ f' := fun x hx => (m3 x hx).elim (fun z => m2 x z) fun z => absurd z (by simp)
        have K3 := K2.less sub2 S3.nd
        -- a turn's end
        have done : ∀ {H4 : Hp} {F4 : Addr → Prop} {r4 : Rho} {f4 gp4 : List Addr} {acc' : List D} {vacc' : List V}, Sd C B H4 F4 r4 s2 f4 → Kp C B L dss svs q1 acc' vacc' H4 F4 f4 → (∀ x ∈ f4, x ∈ gp4) → L ∈ gp4 →
            Goal C B W (RD C B) false true s Q H4 F4 gp4 ((turns one (xs.drop (i + 1)) acc' (wipeR r4 (own.map (·.2)))).calm.bind fun ys r => .ok (.lst .own ys) r) →
            ∃ F'' r'' f'' gp'' acc'' vacc'', Tn C B W s Q L dss svs q1 H4 F'' r'' f'' gp'' acc'' vacc'' (turns one (xs.drop (i + 1)) acc'' r'') := by
          intro H4 F4 r4 f4 gp4 acc' vacc' S4 K4 sub4 L4 g4
          obtain ⟨f5, S5, m5⟩ := S4.wipe (own.map (·.2))
          have S5s := S5.slots (s' := s) hl2.symm fun j d e => (sout j fun hm => wipeR_in hm d e).symm
          exact ⟨F4, _, f5, gp4, acc', vacc', S5s, K4.less m5 S5.nd, fun x hx => sub4 x (m5 x hx), L4, g4⟩
        refine ⟨r2, F', fp2, fp2, S3, fun _ z => z, ?_⟩
        cases ec : evC G cf cond r2 with
        | bad =>
          rw [et, eo, ec] at g
          exact False.elim g
        | exc _ _ _ =>
          rw [et, eo, ec] at g
          exact False.elim g
        | ok b r3 =>
          intro bv H3 F3 f3 fq3 S4 hb _ st3
          obtain ⟨rfl, rfl⟩ := hb
          rw [List.append_nil] at st3
          have K4 := K3.step S3 st3 S4.nd
          have g3 := Goal.base (pu := false) (pv := false) g2 (st3.more fun x hx => T.sub x (sub2 x hx)) fun _ z => z
          cases b with
          | false =>
            rw [if_neg Bool.false_ne_true]
            rw [et, eo, ec] at g3
            exact done S4 K4 (fun x hx => List.mem_append_left _ hx) (List.mem_append_right _ T.subL) g3
          | true =>
            rw [if_pos rfl]
            refine ⟨r3, F3, f3, f3, S4, fun _ z => z, ?_⟩
            cases ee : evE G cf a r3 with
            | bad =>
              rw [et, eo, ec] at g
              simp only [R.bind, if_true, ee] at g
              exact False.elim g
            | exc _ _ _ =>
              rw [et, eo, ec] at g
              simp only [R.bind, if_true, ee] at g
              exact False.elim g
            | ok yd r4 =>
              intro yv H4 F4 f4 fq4 S5 Ry _ st4
              rw [et, eo, ec] at g3
              simp only [R.bind, if_true, ee] at g3
              by_cases hc : copyable yd = true
              · rw [if_pos hc] at g3
                dsimp only at g3
                by_cases hz : szlt acc.length = true
                · rw [if_pos hz] at g3
                  have e0 := Rep.copy yd yv fq4 Ry hc
                  subst e0
                  rw [List.append_nil] at st4
                  have K5 := K4.step S4 st4 S5.nd
                  have g4 := Goal.base (pu := false) (pv := false) g3 ((st4.weak (pv := false) fun z => by cases z).more fun x hx => List.mem_append_left _ hx) fun _ z => z
                  have g5 := Goal.base (pu := false) (pv := false) g4 (stp_at (F := F4) (l := L) (o := .lst (vacc ++ [yv])) (gp := f4 ++ (f3 ++ gp')) (f' := f4 ++ (f3 ++ gp')) (H := H4) (List.mem_append_right _ (List.mem_append_right _ T.subL)) fun _ z => z) fun _ z => z
                  refine ⟨vacc, K5.hL, ?_, done (K5.sd S5) (K5.put Ry) (fun x hx => List.mem_append_left _ hx) (List.mem_append_right _ (List.mem_append_right _ T.subL)) g5⟩
                  rw [← K5.rc.length]
                  exact szlt_ok hz
                · rw [if_neg hz] at g3
                  exact False.elim g3
              · rw [if_neg hc] at g3
                exact False.elim g3
    · refine .inl ⟨k2 i (by omega), ?_⟩
      have e : xs.drop i = [] := List.drop_eq_nil_of_le (by omega)
      have g := T.g
      rw [e] at g
      have g : Goal C B W (RD C B) false true s Q H' F' gp' (.ok (.lst .own acc) r') := g
      refine Goal.fin (fq := [L]) g T.sd T.sub ⟨L, vacc, [], rfl, T.kp.hL, T.kp.rc, rfl⟩ (fun _ => ⟨List.nodup_append.mpr ⟨T.sd.nd, by simp, fun x hx y hy e => ?_⟩, fun x hx => ?_, fun x hx => ?_⟩) fun x hx => ?_
      · have ey : y = L := by simpa using hy
        rw [e, ey] at hx
        exact T.kp.Lf hx
      · have ey : x = L := by simpa using hx
        rw [ey]
        exact T.kp.LF
      · have ey : x = L := by simpa using hx
        rw [ey]
        exact T.kp.LB
      · have ey : x = L := by simpa using hx
        rw [ey]
        exact T.subL
end
end PI
set_option maxRecDepth 100000
set_option maxHeartbeats 4000000
/-! PI13: the soundness of expressions. -/
namespace PI
open PySem PySem.Spec PyProof.Rows L2

section
variable {G : Gm} {C : RC} {cf : Str → List D → FR} {sc : Scope} {hot : Bool} {X : Cx} {W : WX} {B : Addr → Prop}
theorem lookup_free {sc : Scope} : ∀ {names : List (Str × NameKind)} {x : Str}, names.lookup x = some .free →
    (names.map fun (n, k) => if (k == NameKind.free && sc.kind == .function && sc.names.lookup n == some .cell) then (n, NameKind.cell) else (n, k)).lookup x = some .cell ∨
      (names.map fun (n, k) => if (k == NameKind.free && sc.kind == .function && sc.names.lookup n == some .cell) then (n, NameKind.cell) else (n, k)).lookup x = some .free
  | [], x, h => by simp at h
  | (n, k) :: r, x, h => by
    have ih := @lookup_free sc r x
    rw [List.map_cons, List.lookup_cons]
    cases hx : x == n with
    | true =>
      simp only [List.lookup_cons, hx] at h
      have e : k = .free := Option.some.inj h
      subst e
      by_cases hc : (NameKind.free == NameKind.free && sc.kind == .function && sc.names.lookup n == some .cell) = true
      · refine .inl ?_
        simp only [hc, if_true, hx]
      · refine .inr ?_
        simp only [hc, hx, Bool.false_eq_true, if_false]
    | false =>
      simp only [List.lookup_cons, hx] at h
      have ih := ih h
      by_cases hc : (k == NameKind.free && sc.kind == .function && sc.names.lookup n == some .cell) = true
      · simp only [hc, if_true, hx]
        exact ih
      · simp only [hc, hx, Bool.false_eq_true, if_false]
        exact ih
theorem takesW0 {X : Cx} : L2N.Takes X W0 := fun _ _ ⟨_, _, _, _, _, _, _, _, _, _, _, _, _, _, _, _, z⟩ => z.elim
theorem Ctx.blk (cx : Ctx G C cf sc false X W) {scope : Scope} (s : Shared) (H : Hp) (Ca : Addr) (cl : List (Str × Addr)) (fp : List Addr) : Ctx G C cf scope false (X.blk s H scope (compEnvC scope cl Ca X.env) fp) W0 where
  hK := cx.hK
  un := cx.un
  calm := cx.calm
  nd := cx.nd
  vis := fun x h => by
    rcases h with h | h | h
    · exact .inl (lookup_relS_keep (sc := X.env.scope) (by decide) h)
    · exact .inr (.inl (lookup_relS_keep (sc := X.env.scope) (by decide) h))
    · rcases lookup_free (sc := X.env.scope) h with z | z
      · exact .inr (.inl z)
      · exact .inr (.inr z)
  gl := fun x h => lookup_relS_keep (sc := X.env.scope) (by decide) h
  loc := fun x h => lookup_relS_keep (sc := X.env.scope) (by decide) h
  cel := fun x h => ⟨lookup_relS_keep (sc := X.env.scope) (by decide) h, by
    show (scope.names.lookup x == some .cell) = true
    rw [h]
    rfl⟩
  fre := fun x h => lookup_free (sc := X.env.scope) h
  blt := cx.blt
  glob := cx.glob
  fns := fun f hf => by
    exact cx.fns f hf
  ht := fun z => by cases z
  exo := cx.exo
  kit := cx.kit
  kiv := cx.kiv
  exm := cx.exm
  tk := takesW0
theorem Ctx.blkOk (cx : Ctx G C cf sc hot X W) {scope : Scope} {own : List (Str × Nat)} (h : blkC X.N sc scope own = true) : BlkOk X.N X.env.scope scope own := by
  have k := blkOk_by h
  refine ⟨k.kind, k.uniq, k.ix, fun y hy e => ?_, k.own⟩
  rcases k.free y hy e with z | z
  · exact .inl (cx.cel y.1 z).1
  · exact cx.fre y.1 z

theorem and2 {a b : Bool} (h : (a && b) = true) : a = true ∧ b = true := Bool.and_eq_true_iff.mp h
theorem chkAs_star {N : List Str} : ∀ (as : As) (xs : List Expr), chkAs G N hot sc as xs = true → ∀ e ∈ xs, notStar e = true
  | .nil, [], _, e, he => absurd he (by simp)
  | .nil, _ :: _, h, _, _ => by cases h
  | .val a as, xs, h, e, he => by
    cases xs with
    | nil => cases he
    | cons x xs =>
      obtain ⟨h1, h2⟩ := and2 (show ((iv a && notStar x) && (chkE G N hot sc a x && chkAs G N hot sc as xs)) = true from h)
      rcases List.mem_cons.mp he with z | z
      · rw [z]
        exact (and2 h1).2
      · exact chkAs_star as xs (and2 h2).2 e z
  | .io i as, xs, h, e, he => by
    cases xs with
    | nil => cases he
    | cons x xs =>
      cases x with
      | Name y p =>
        obtain ⟨h1, h2⟩ := and2 (show (slotB N sc i y && chkAs G N hot sc as xs) = true from h)
        rcases List.mem_cons.mp he with z | z
        · rw [z]
          rfl
        · exact chkAs_star as xs h2 e z
      | _ => cases h
  | .bor i as, xs, h, e, he => by
    cases xs with
    | nil => cases he
    | cons x xs =>
      cases x with
      | Name y p =>
        obtain ⟨h1, h2⟩ := and2 (show (slotB N sc i y && chkAs G N hot sc as xs) = true from h)
        rcases List.mem_cons.mp he with z | z
        · rw [z]
          rfl
        · exact chkAs_star as xs h2 e z
      | _ => cases h
/-- what isinstance tells of pure data -/
theorem isi_ok {t : Ty} {n : Str} {d : D} {v : V} {f : List Addr} {H : Hp} {F : Addr → Prop} {b : Bool} (hn : tyName t = some n) (hr : Rep C H F B d v f) (e : isTy t d = some b) : ∃ (T : String) (u : Value), TyX C.K H v u ∧ bootBuiltins n = some (.type T) ∧ PySem.W.kitOne C.K u (.type T) = some b := by
  have fin : ∀ (S : String), TyX C.K H v (.type S) → (∀ (T : String), (∃ m, tyName t = some m ∧ bootBuiltins m = some (.type T)) → kitB S T = some b) → ∃ (T : String) (u : Value), TyX C.K H v u ∧ bootBuiltins n = some (.type T) ∧ PySem.W.kitOne C.K u (.type T) = some b := by
    intro S ty k
    cases t with
    | int =>
      cases hn
      exact ⟨"int", _, ty, by decide +kernel, kit_ty (k "int" ⟨_, rfl, by decide +kernel⟩)⟩
    | bool =>
      cases hn
      exact ⟨"bool", _, ty, by decide +kernel, kit_ty (k "bool" ⟨_, rfl, by decide +kernel⟩)⟩
    | str =>
      cases hn
      exact ⟨"str", _, ty, by decide +kernel, kit_ty (k "str" ⟨_, rfl, by decide +kernel⟩)⟩
    | tup =>
      cases hn
      exact ⟨"tuple", _, ty, by decide +kernel, kit_ty (k "tuple" ⟨_, rfl, by decide +kernel⟩)⟩
    | _ => cases hn
  have names : ∀ (T : String), (∃ m, tyName t = some m ∧ bootBuiltins m = some (.type T)) → (t = .int ∧ T = "int") ∨ (t = .bool ∧ T = "bool") ∨ (t = .str ∧ T = "str") ∨ (t = .tup ∧ T = "tuple") := by
    rintro T ⟨m, h1, h2⟩
    cases t with
    | int =>
      cases h1
      have h3 : bootBuiltins ("int" : Str) = some (.type "int") := by decide +kernel
      rw [h3] at h2
      cases h2
      exact .inl ⟨rfl, rfl⟩
    | bool =>
      cases h1
      have h3 : bootBuiltins ("bool" : Str) = some (.type "bool") := by decide +kernel
      rw [h3] at h2
      cases h2
      exact .inr (.inl ⟨rfl, rfl⟩)
    | str =>
      cases h1
      have h3 : bootBuiltins ("str" : Str) = some (.type "str") := by decide +kernel
      rw [h3] at h2
      cases h2
      exact .inr (.inr (.inl ⟨rfl, rfl⟩))
    | tup =>
      cases h1
      have h3 : bootBuiltins ("tuple" : Str) = some (.type "tuple") := by decide +kernel
      rw [h3] at h2
      cases h2
      exact .inr (.inr (.inr ⟨rfl, rfl⟩))
    | _ => cases h1
  cases d with
  | non =>
    rw [hr.1] at fin ⊢
    refine fin "NoneType" (.base .non) fun T hT => ?_
    rcases names T hT with ⟨rfl, rfl⟩ | ⟨rfl, rfl⟩ | ⟨rfl, rfl⟩ | ⟨rfl, rfl⟩ <;> (cases e; decide +kernel)
  | bl k =>
    rw [hr.1] at fin ⊢
    refine fin "bool" (.base (.bl k)) fun T hT => ?_
    rcases names T hT with ⟨rfl, rfl⟩ | ⟨rfl, rfl⟩ | ⟨rfl, rfl⟩ | ⟨rfl, rfl⟩ <;> (cases e; decide +kernel)
  | int k =>
    rw [hr.1] at fin ⊢
    refine fin "int" (.base (.int k)) fun T hT => ?_
    rcases names T hT with ⟨rfl, rfl⟩ | ⟨rfl, rfl⟩ | ⟨rfl, rfl⟩ | ⟨rfl, rfl⟩ <;> (cases e; decide +kernel)
  | str k =>
    rw [hr.1] at fin ⊢
    refine fin "str" (.base (.str k)) fun T hT => ?_
    rcases names T hT with ⟨rfl, rfl⟩ | ⟨rfl, rfl⟩ | ⟨rfl, rfl⟩ | ⟨rfl, rfl⟩ <;> (cases e; decide +kernel)
  | tup ds =>
    obtain ⟨l, vs, rfl, tt, rr⟩ := hr
    have ty : TyX C.K H (.ref l) (.type "tuple") := by
      rcases tt with h | h
      · exact .base (.tup h)
      · rcases h (fun _ => none) with (h1 | ⟨_, h1⟩) | ⟨o, its, n, h1, h2, _⟩
        · cases h1
        · cases h1
        · exact .kTuple h1 h2
    refine fin "tuple" ty fun T hT => ?_
    rcases names T hT with ⟨rfl, rfl⟩ | ⟨rfl, rfl⟩ | ⟨rfl, rfl⟩ | ⟨rfl, rfl⟩ <;> (cases e; decide +kernel)
  | lst m ds =>
    obtain ⟨l, vs, fq, rfl, tt, rr, _⟩ := hr
    have ty : TyX C.K H (.ref l) (.type "list") := by
      cases m with
      | own => exact .base (.lst tt)
      | frz => exact .base (.lst tt.1)
      | bor => exact .base (.lst tt.1)
      | ro =>
        rcases tt with ⟨o, h⟩ | h
        · exact .base (.frz h)
        · rcases h (fun _ => none) with (h1 | ⟨_, h1⟩) | ⟨o, its, n, h1, h2, _⟩
          · cases h1
          · cases h1
          · exact .kList h1 h2
    refine fin "list" ty fun T hT => ?_
    rcases names T hT with ⟨rfl, rfl⟩ | ⟨rfl, rfl⟩ | ⟨rfl, rfl⟩ | ⟨rfl, rfl⟩ <;> (cases e; decide +kernel)
  | fn _ => cases t <;> cases e
  | exc _ _ => cases t <;> cases e
  | dct _ _ _ => exact hr.elim
  | ins _ _ _ _ => exact hr.elim
theorem boot_ty {t : Ty} {n : Str} (hn : tyName t = some n) : ∃ T : String, bootBuiltins n = some (.type T) := by
  cases t with
  | int =>
    cases hn
    exact ⟨"int", by decide +kernel⟩
  | bool =>
    cases hn
    exact ⟨"bool", by decide +kernel⟩
  | str =>
    cases hn
    exact ⟨"str", by decide +kernel⟩
  | tup =>
    cases hn
    exact ⟨"tuple", by decide +kernel⟩
  | _ => cases hn
theorem c_isi {a : E} {x : Expr} {pos np zp : Pos} (cx : Ctx G C cf sc hot X W) {t : Ty} {n m k : Str} (hg : gB sc "isinstance" n = true) (ht : tyName t = some m) (hg2 : gB sc m k = true) (hn : notStar x = true) (ha : PE X x (mE G C cf W B a)) : PE X (.Call (.Name n np) [x, .Name k zp] [] pos) (mE G C cf W B (.isi a t)) := by
  obtain ⟨e, gl, hd, hnm⟩ := cx.gB hg
  obtain ⟨e2, gl2, hd2, hnm2⟩ := cx.gB hg2
  subst e
  subst e2
  obtain ⟨T, hT⟩ := boot_ty ht
  have hst : starEach (x :: [.Name m zp]) X.env = (false, eval x X.env) :: starEach [.Name m zp] X.env := star_cons hn
  have hm : X.mg m = none := cx.blt m (by
    cases t <;> first
      | (cases ht; decide)
      | cases ht)
  have hb : PE X (.Name m zp) (tC (.ty T)) := pe_bltn gl2 hm hT rfl hnm2 hd2
  refine PE.imp (pe_callB call_isi gl (cx.blt _ (by decide)) (by decide +kernel) (pa_cons ha (pa_cons hb pa_nil rfl) hst) hnm hd hst rfl) fun s H Q ⟨r, F, fp, gp, S, hs, g⟩ => ?_
  refine tX_map S hs g fun d1 r1 v1 H1 F1 f1 q1 e1 a1 g1 => ?_
  obtain ⟨b, eb, g2⟩ := blR_some g1
  obtain ⟨T', u, ty, hT', kk⟩ := isi_ok ht a1.rep eb
  rw [hT] at hT'
  cases hT'
  rw [cx.hK] at ty kk
  exact ⟨v1, .ty T, u, .type T, b, rfl, .ty T, ty, kk, g2.fin0 a1.sd a1.f1_gp ⟨rfl, rfl⟩⟩
end
end PI
set_option maxRecDepth 100000
set_option maxHeartbeats 4000000
/-! PI13h: in an except suite: isinstance of the caught exception, its fields, a comprehension over a list. -/
namespace PI
open PySem PySem.Spec PyProof.Rows L2 PySem.Calls

section
variable {prog : Program} {w : World} {A : Around} {E : Value → Shared → Prop} {s : Shared} {K : PySem.W.Frag} {x D : Addr} {ox : Obj} {od : Option Obj}
theorem find_data {T : Addr} {name : Str} {a g : Value} (h1 : (PySem.W.clsIn K T).isSome = true) (h2 : PySem.W.findIn K (.ref T) name = some (some a)) (h3 : PySem.W.specialIn K a "__get__" = some (some g)) (h4 : PySem.W.takesIn K a = some true) : PySem.W.findObj K T od name = some (.bind g a) := by
  obtain ⟨cd, hcd⟩ := Option.isSome_iff_exists.mp h1
  unfold PySem.W.findObj
  rw [hcd, Option.bind_some, h2, Option.bind_some]
  simp [h3, h4]
theorem cls_of_exc {Q : Option Value → Shared → Prop} (ec : ExcC K D) (kin : K.In s.heap) (inst : PySem.W.InstAt s.heap x ox D od) (fin : Q (some (.ref D)) { s with toks := s.toks + 1 }) : wpAny (model prog w) A (getAttr? (.ref x) "__class__") Q E s := by
  have fo : PySem.W.findObj K D od "__class__" = some (.bind (.builtin "getset_descriptor.__get__") (.builtin "object.__class__")) := find_data (by obtain ⟨cd, hcd, _⟩ := PySem.W.any_some ec.hd; rw [hcd]; rfl) ec.ha ec.hn ec.ht
  obtain ⟨hp, gs, dr, tk, os⟩ := s
  have lt := inst.type (M := model prog w)
  have lga := PySem.W.looks_findIn (M := model prog w) kin ec.hg
  have lgt := PySem.W.looks_findIn (M := model prog w) kin ec.hk
  have lfo := PySem.W.looks_find (M := model prog w) kin inst fo
  have lsub : PySem.W.Looks (model prog w) hp (isInstance (.ref x) (.type "BaseException")) true := lt.andThen (PySem.W.looks_subIn kin ec.hs)
  have z0 : (false && onTheHeap (Value.builtin "BaseException.__getattribute__")) = false := rfl
  have z2 : (Value.builtin "BaseException.__getattribute__" == Value.builtin "object.__getattribute__") = false := by decide +kernel
  have z1 : (onTheHeap (Value.ref D) && Value.builtin "BaseException.__getattribute__" == Value.builtin "object.__getattribute__") = false := by rw [z2]; rfl
  unfold getAttr? getAttrBy? getAttrBy
  refine wpAny_bind (wpAny_mkText (wpAny_bind (wpAny_attempt (wpAny_holding (wpAny_bind (lt.at (wpAny_bind (lga.at ?_))))))))
  show wpAny _ _ (if (onTheHeap (Value.ref D) && Value.builtin "BaseException.__getattribute__" == Value.builtin "object.__getattribute__") = true then _ else _) _ _ _
  rw [z1, if_neg Bool.false_ne_true]
  unfold getAttrByItsOwn hookBefore
  refine wpAny_bind ?_
  rw [if_pos (show onTheHeap (Value.ref D) = true from rfl)]
  refine lgt.at ?_
  refine wpAny_bind (wpAny_attempt (wpAny_holding ?_))
  unfold callGetattribute
  rw [z0, if_neg Bool.false_ne_true]
  unfold boundAndCalled
  rw [PySem.F.excAttr_ValueError.ga.bind (.ref x)]
  refine wpAny_bind (wpAny_pure ?_)
  show wpAny _ _ (call (.builtin "BaseException.__getattribute__") [.ref x, .str "__class__" tk]) _ _ _
  refine wpAny_call (codeAny_call_builtin PySem.F.excAttr_ValueError.ga.plain PySem.F.entry_bexc_ga ?_)
  refine @PySem.W.check_slot (model prog w) _ _ ⟨hp, gs, dr, tk + 1, os⟩ "BaseException.__getattribute__" "BaseException" "__getattribute__" (.ref x) [.str "__class__" tk] [] _ (by decide +kernel) (by decide +kernel) lsub (PySem.F.args_bexc_ga (.ref x) (.str "__class__" tk)) ?_
  unfold Builtin.«object.__getattribute__»
  refine wpAny_bind (wpAny_of_eq (a := ((Value.ref x : Value), [Value.str "__class__" tk])) (by first | rfl | (simp only [slotArgs]; rfl)) ?_)
  refine wpAny_bind (wpAny_pure (wpAny_bind (lt.at (wpAny_bind (lfo.at ?_)))))
  show wpAny _ _ (holding [Value.builtin "object.__class__"] (call (.builtin "getset_descriptor.__get__") [.builtin "object.__class__", .ref x, .ref D]) >>= ret) _ _ _
  refine wpAny_bind (wpAny_holding (wpAny_call (PySem.W.class_get (s := ⟨hp, gs, dr, tk + 1, os⟩) (ox := ox) (od := od) kin inst ec.hm ?_)))
  refine wpAny_pure ?_
  show wpAny _ _ (handedOut (.ref D)) _ _ _
  rw [PySem.W.handedOut_of (v := .ref D) rfl]
  first
    | exact wpAny_pure (wpAny_pure fin)
    | exact wpAny_pure fin
    | exact wpAny_pure (wpAny_bind (wpAny_pure (wpAny_pure fin)))
theorem kit_exc (ec : ExcC K D) : PySem.W.KitX K (.ref x) (.ref D) (fun h => PySem.W.InstAt h x ox D od) where
  ty := fun _ _ _ inst => inst.type
  it := fun _ _ kin _ => by
    obtain ⟨cd, hcd, _⟩ := PySem.W.any_some ec.hd
    unfold PySem.W.clsIn at hcd
    split at hcd
    · rename_i hlk
      intro A' Q' E' s' kp q
      unfold isType loadHead
      exact wpAny_bind (wpAny_loadPart (kp _ _ (kin _ _ hlk)) (wpAny_pure q))
    · cases hcd
  ne := fun h tp dd its n sl kin htp => by
    obtain ⟨cd, hcd, _⟩ := PySem.W.any_some ec.hd
    refine Bool.eq_false_iff.mpr fun q => ?_
    have e : D = tp := Value.ref.inj (beq_iff_eq.mp q)
    subst e
    unfold PySem.W.clsIn at hcd
    split at hcd
    · rename_i hlk
      have z := (kin _ _ hlk).symm.trans htp
      cases z
    · cases hcd
  ca := fun kin inst k => cls_of_exc ec kin inst k
end
/-- isinstance(e, c), e the exception that is handled -/
theorem call_isX {X : Cx} {a D : Addr} {oe : Obj} {d : Option Addr} {fs : List (Str × Int)} (ec : ExcC X.K D) (hp : HotP X a oe (.ref D) d) : CallR X (.builtin "isinstance") (fun xs H Q => ∃ (c : V) (cv : Value) (b : Bool), xs = [.ref a, c] ∧ (∀ u, RelV c u → u = cv) ∧ PySem.W.kitOne X.K (.ref D) cv = some b ∧ ((fs = [] ∧ d = none) ∨ ∃ dd, d = some dd ∧ H dd = some (xdOf fs)) ∧ Q (.bl b) H) := by
  intro pins s σ H xs us Q I r h
  obtain ⟨c, cv, b, rfl, hcv, e, hdd, q⟩ := h
  cases r with
  | cons rx rr =>
    cases rr with
    | cons rt rr =>
      cases rr
      cases rx
      have ecv := hcv _ rt
      subst ecv
      obtain ⟨hget, _⟩ := I.pin (a, oe) (List.mem_append_left _ hp.pin)
      obtain ⟨vs, hv⟩ := hp.fl
      have nc : PySem.W.notCls oe = true := by
        unfold PySem.W.notCls
        rw [hv] <;> rfl
      have J : ∃ od, PySem.W.InstAt s.heap a oe D od := by
        obtain ⟨z1, z2, _⟩ := hp.zn
        rcases hdd with ⟨_, e1⟩ | ⟨dd, e1, e2⟩
        · rw [e1] at z2
          exact ⟨none, hget, z1, nc, by rw [z2] <;> trivial⟩
        · rw [e1] at z2
          have hx : ObjOk X.prog X.w H s.heap dd (xdOf fs) := I.hok dd _ e2
          obtain ⟨mA, hns, _⟩ := hx
          obtain ⟨o, ho, _⟩ := lookIn_ns hns
          exact ⟨some o, hget, z1, nc, by rw [z2]; exact ho⟩
      obtain ⟨od, J⟩ := J
      exact PySem.W.kia_one (kit_exc ec) I.kIn J e (fun z => nomatch z) fun tk => ⟨.bl b, H, I.kept (t' := tk) fun _ _ z => z, rfl, q⟩

/-! ### a comprehension over a list -/
section
variable {prog : Program} {w : World} {A : Around} {E : Value → Shared → Prop} {s : Shared}
theorem list_end_hot {it l ex : Addr} {i : Nat} {items : Array Value} {Q : Option Value → Shared → Prop} (hot : HotX.HotAt A ex s.heap) (iter : s.heap.IsListIter it l i) (lst : s.heap.IsList l items) (out : items[i]? = none)
    (fin : ∀ h', Heap.ExtBut it s.heap h' → Q none { s with heap := h' }) : wpAny (model prog w) A (pyNext (.ref it)) Q E s := by
  obtain ⟨o, hob, hcl, hdt⟩ := id iter
  obtain ⟨ol, hlo, _, nl, hld⟩ := lst
  obtain ⟨hh, o1, vs1, g1, d1, c1⟩ := hot
  have ne : ex ≠ it := fun z => by
    subst z
    rw [g1] at hob
    cases hob
    rw [d1] at hdt
    have := Data.fields.inj hdt
    subst this
    cases c1
  unfold pyNext
  refine wpAny_bind (wpAny_attempt (wpAny_callSpecial?_slot (name := Str.ofString "__next__") iter.typeIs slot_listiter_next (wpAny_call_entry slot_listiter_next iter.typeIs entry_listiter_next ?_ (args_listiter_next _))))
  show wpAny _ _ (field (Value.ref it) 0 >>= _) _ _ s
  refine wpAny_bind (wpAny_field hob hdt (x := Value.ref l) rfl ?_)
  show wpAny _ _ (if (Value.ref l == Value.none) = true then _ else _) _ _ s
  rw [if_neg (show ¬ (Value.ref l == Value.none) = true from Bool.false_ne_true)]
  show wpAny _ _ (field (Value.ref it) 1 >>= _) _ _ s
  refine wpAny_bind (wpAny_field hob hdt (x := Value.int i 0) rfl ?_)
  show wpAny _ _ (seqItems? (Value.ref l) >>= _) _ _ s
  refine wpAny_bind (wpAny_seqItems hlo hld ?_)
  simp only [Int.toNat_natCast, out]
  refine wpAny_bind (wpAny_rule (wpAny_bind (wpAny_setField hob hdt (by simp) ?_)))
  show wpAny _ _ (newExc (Value.type "StopIteration") [] >>= _) _ _ _
  refine wpAny_bind ?_
  simp only [newExc, newTuple]
  refine wpAny_bind (wpAny_newObj_type ?_ (by size_fits))
  refine wpAny_bind (m := firstArgMember _ _) (wpAny_of_eq (a := (Value.none)) (by first | rfl | (simp only [firstArgMember]; rfl)) ?_)
  refine wpAny_newObj_type ?_ (by size_fits)
  have gx := Heap.get?_push_of_some { cls := Value.type "tuple", data := Data.seq (#[] : Array Value) } ((Heap.get?_update_other s.heap (Obj.mapFields (·.setIfInBounds 0 Value.none)) (Ne.symm ne)).trans g1)
  refine HotX.raiseNew_hot ⟨hh, o1, vs1, Heap.get?_push_of_some _ gx, d1, c1⟩ (Nat.ne_of_lt (Heap.lt_size gx)) (Heap.get?_push_size _ rfl) rfl (by first | (simp; done) | (simp; omega)) ?_
  refine wpAny_bind (wpAny_isInstance (T := "StopIteration") (b := true) ⟨_, Heap.get?_update_self _ (Heap.get?_push_size _ rfl) rfl, rfl⟩ isSubtype_stop (wpAny_pure (fin _ ?_)))
  have base := ((Heap.SameBut.update (h := s.heap) (a := it) (f := Obj.mapFields (·.setIfInBounds 0 Value.none))).extBut.push { cls := Value.type "tuple", data := Data.seq (#[] : Array Value) })
  intro b o hb hbo
  have z := base b o hb hbo
  rw [Heap.get?_update_other _ _ (Nat.ne_of_gt (Heap.lt_size z))]
  exact Heap.get?_push_of_some _ z
end

section
variable {X : Cx}
/-- the block's context, the handled exception pinned -/
abbrev blkE (X : Cx) (p : Addr × Obj) (s : Shared) (H : Hp) (scope : Scope) (cenv : Env) (fp : List Addr) : Cx := (X.blk s H scope cenv fp).tr [p] fun _ _ => False
theorem pe_lcE {a0 : Addr} {oe : Obj} {cls : Value} {de : Option Addr} {elt tg iter : Expr} {ifs : List Expr} {scope : Scope} {own : List (Str × Nat)} {pos : Pos} {tl : TE} {g : TG} {tt : TT} {te : TE} (hp : HotP X a0 oe cls de) (ndN : X.N.Nodup) (hl : PE X iter tl) (bk : BlkOk X.N X.env.scope scope own)
    (hg : ∀ (s : Shared) (H : Hp) (C : Addr) (cl : List (Str × Addr)) (fp : List Addr), PG (blkE X (a0, oe) s H scope (compEnvC scope cl C X.env) fp) tg g) (ht : ∀ (s : Shared) (H : Hp) (C : Addr) (cl : List (Str × Addr)) (fp : List Addr), PTs (blkE X (a0, oe) s H scope (compEnvC scope cl C X.env) fp) ifs tt)
    (he : ∀ (s : Shared) (H : Hp) (C : Addr) (cl : List (Str × Addr)) (fp : List Addr), PE (blkE X (a0, oe) s H scope (compEnvC scope cl C X.env) fp) elt te) (hset : ∀ x, foldedSetIterable iter X.env x = pure x) :
    PE X (.ListComp elt [⟨tg, iter, ifs, 0⟩] scope pos) (tLc (iList X.K tl) g tt te (own.map (·.2))) := by
  refine ⟨fun pins s σ H Q I h => ?_⟩
  rw [eval_ListComp]
  have cellsOk : ∀ y ∈ scope.names, y.2 = .free → ∃ c, X.env.cells.lookup y.1 = some c := fun y hy e => (bk.free y hy e).elim (fun k => I.ok.has _ (.inl k)) fun k => I.ok.has _ (.inr k)
  refine wpAny_comprehension_free (use := none) rfl hset (closure_ok cellsOk) bk.kind (fun y hy e => by rw [bk.uniq y hy, e])
    (thn (hl.run pins s σ H _ I h) fun xv s1 hx => ?_)
  obtain ⟨x, H2, I1, rx, l, ex, ⟨xs0, hq0⟩, q⟩ := hx
  subst ex
  cases rx
  obtain ⟨its0, _, isl0, _⟩ := I1.list hq0
  refine wpAny_pyIter_list isl0.isList ?_
  obtain ⟨s2, hs2⟩ : ∃ s2 : Shared, s2 = { s1 with heap := s1.heap.push { cls := .type "list_iterator", data := .fields #[.ref l, .int 0 0] } } := ⟨_, rfl⟩
  have I2 : Inv X pins σ H2 s2 := by
    rw [hs2]
    exact I1.kept (t' := s1.toks) fun b o e => Heap.get?_push_of_some _ e
  have st2 : s2.heap.IsListIter s1.heap.objs.size l 0 := by
    rw [hs2]
    exact ⟨_, Heap.get?_push_size _ rfl, rfl, rfl⟩
  have f2 : FpOk X pins H2 s1.heap.objs.size := I1.fpOk (Nat.le_refl _) (I1.hok.fresh (Nat.le_refl _))
  rw [← hs2]
  clear hs2
  generalize s1.heap.objs.size = it at st2 f2 ⊢
  have szi : it < s2.heap.objs.size := by
    obtain ⟨o, e, _⟩ := st2
    exact Heap.lt_size e
  refine wpAny_newObj_type (newEnv_comp ?_) (by show 0 ≤ sizeLine; decide)
  obtain ⟨L, hL⟩ : ∃ L, L = s2.heap.objs.size := ⟨_, rfl⟩
  have hLn : H2 L = none := I2.hok.fresh (Nat.le_of_eq hL.symm)
  obtain ⟨Wi, ⟨m0, w0⟩, turn⟩ := q L hLn
  rw [← hL]
  obtain ⟨s3, hs3⟩ : ∃ s3 : Shared, s3 = { s2 with heap := s2.heap.push { cls := .type "list", data := .seq ([] : List Value).toArray } } := ⟨_, rfl⟩
  have e3 : s3.heap = s2.heap.push { cls := .type "list", data := .seq ([] : List Value).toArray } := by rw [hs3]
  have I3 : Inv X pins σ (upd H2 L (.lst [])) s3 := by
    rw [hs3]
    refine I2.laid (t' := s2.toks) (fun b o e => Heap.get?_push_of_some _ e) (Nat.le_of_eq hL.symm) ⟨Nat.zero_le _, [], 0, .nil, ?_⟩
    rw [hL]
    exact Heap.get?_push_size _ rfl
  have itL : it ≠ L := by
    rw [hL]
    exact Nat.ne_of_lt szi
  have f3 : FpOk X pins (upd H2 L (.lst [])) it := ⟨by rw [upd_ne itL]; exact f2.1, f2.2⟩
  have sz3 : it < s3.heap.objs.size := by
    rw [e3, Heap.size_push]
    exact Nat.lt_succ_of_lt szi
  have st3 : s3.heap.IsListIter it l 0 := st2.at fun o e => by
    rw [e3]
    exact Heap.get?_push_of_some _ e
  rw [← hs3]
  have I4 := block_start I3 bk ndN (fp := [it]) fun b hb => by
    have e : b = it := by simpa using hb
    subst e
    exact ⟨f3, sz3⟩
  have pg := hg s3 (upd H2 L (.lst [])) s3.heap.objs.size (cellsFrom (s3.heap.objs.size + 1) scope.names (cloFrom X.env.cells scope.names [])) [it]
  have pt := ht s3 (upd H2 L (.lst [])) s3.heap.objs.size (cellsFrom (s3.heap.objs.size + 1) scope.names (cloFrom X.env.cells scope.names [])) [it]
  have pe := he s3 (upd H2 L (.lst [])) s3.heap.objs.size (cellsFrom (s3.heap.objs.size + 1) scope.names (cloFrom X.env.cells scope.names [])) [it]
  obtain ⟨P1, P2, P3, P4, P5⟩ := I3.pin (a0, oe) (List.mem_append_left _ hp.pin)
  have P6 : a0 ∉ frs X.stack := fun hm => (List.mem_cons.mp (I3.stkSub a0 hm)).elim P3 P4
  have lt0 : a0 < s3.heap.objs.size := Heap.lt_size P1
  obtain ⟨ce, hce⟩ : ∃ ce, ce = compEnvC scope (cellsFrom (s3.heap.objs.size + 1) scope.names (cloFrom X.env.cells scope.names [])) s3.heap.objs.size X.env := ⟨_, rfl⟩
  rw [← hce] at I4 pg pt pe
  have cL : ce.locals = s3.heap.objs.size := by rw [hce]; rfl
  obtain ⟨s4, hs4⟩ : ∃ s4 : Shared, s4 = { s3 with heap := pushCells (s3.heap.push { cls := .type "dict", data := .dict #[] }) scope.names } := ⟨_, rfl⟩
  have up4 : ∀ b o, s3.heap.get? b = some o → s4.heap.get? b = some o := fun b o e => by
    rw [hs4]
    exact pushCells_keeps _ _ _ _ (Heap.get?_push_of_some _ e)
  rw [← hs4] at I4
  show codeAny _ _ (.compStart (.ListComp elt [⟨tg, iter, ifs, 0⟩] scope pos) 0 (.ref it) (.ref L) (compEnvC scope (cellsFrom (s3.heap.objs.size + 1) scope.names (cloFrom X.env.cells scope.names [])) s3.heap.objs.size X.env)) (compPost (model X.prog X.w) X.A X.xe none (EP X pins σ Q) (.ref L) s3.heap.objs.size) { s3 with heap := pushCells (s3.heap.push { cls := .type "dict", data := .dict #[] }) scope.names }
  rw [← hce, ← hs4]
  have I4p : Inv (X.blk s3 (upd H2 L (.lst [])) scope ce [it]) [(a0, oe)] (wipe σ (own.map (·.2))) (upd H2 L (.lst [])) s4 := I4.pins_of fun p hm => by
    have e : p = (a0, oe) := by simpa using hm
    subst e
    refine ⟨up4 _ _ P1, P2, ?_, P6, P5⟩
    show a0 ≠ ce.locals
    rw [cL]
    exact Nat.ne_of_lt lt0
  have J4 : Inv (blkE X (a0, oe) s3 (upd H2 L (.lst [])) scope ce [it]) [] (wipe σ (own.map (·.2))) (upd H2 L (.lst [])) s4 := I4p.toTry _
  have st4 : s4.heap.IsListIter it l 0 := st3.at fun o e => up4 _ _ e
  generalize hH3 : upd H2 L (.lst []) = H3 at I3 I4 J4 pg pt pe w0 f3
  have stat : ∀ {σ' : L2.St} {H' : Hp} {s' : Shared}, Inv (blkE X (a0, oe) s3 H3 scope ce [it]) [] σ' H' s' → H' it = none → FpOk (blkE X (a0, oe) s3 H3 scope ce [it]) [] H' it := fun {σ' H' s'} J' n => by
    have m : it ∈ [it] := List.mem_cons_self
    refine ⟨n, (J'.ok.exf it m).1, J'.ok.exfs it m, .inl m, fun x c e => (J'.ok.exf it m).2 x c e, fun p hm => ?_⟩
    have e : p = (a0, oe) := by simpa using hm
    subst e
    exact f3.2.2.2.2.2 (a0, oe) (List.mem_append_left _ hp.pin)
  have loop : codeAny (model X.prog X.w) X.A (.compLoop (.ListComp elt [⟨tg, iter, ifs, 0⟩] scope pos) 0 (.ref it) (.ref L) ce) (compPost (model X.prog X.w) X.A X.xe none (EP X pins σ Q) (.ref L) s3.heap.objs.size) s4 := by
    refine compLoop_any (fun n s' => ∃ i H', Inv (blkE X (a0, oe) s3 H3 scope ce [it]) [] (wipe σ (own.map (·.2))) H' s' ∧ s'.heap.IsListIter it l i ∧ H' it = none ∧ Wi i n H') ?_ m0 ⟨0, H3, J4, st4, f3.1, w0⟩
    rintro n s5 ⟨i, H5, J5, st5, n5, w5⟩
    obtain ⟨_, t1, t2, t3, t4, t5⟩ := stat J5 n5
    rcases turn i n H5 w5 with ⟨⟨ys, hq, hx⟩, qq⟩ | ⟨⟨ys, y, hq, hx⟩, Nx, hNx, step⟩
    · obtain ⟨its, rv, isl, _⟩ := J5.list hq
      have hlen := rv.length
      obtain ⟨vx, evx⟩ := hp.fl
      have hot : HotX.HotAt X.A a0 s5.heap := ⟨hp.hd, oe, vx, (J5.pin (a0, oe) (List.mem_append_left _ List.mem_cons_self)).1, evx, hp.zn.2.2 vx evx⟩
      refine list_end_hot hot st5 isl.isList (by simp; omega) fun h' eb => ?_
      have J6 : Inv (blkE X (a0, oe) s3 H3 scope ce [it]) [] (wipe σ (own.map (·.2))) H5 { s5 with heap := h' } := J5.turned (t' := s5.toks) (fun b o hb e => eb b o hb e) n5 t1 t3 t4 t5
      have I7 : Inv X pins σ H5 { s5 with heap := h' } := I3.call' (ch := [it]) J6.os J6.base J6.hok J6.bare fun b hb => by
        have e : b = it := by simpa using hb
        subst e
        exact ⟨f3.2.2.2.1, f3.2.1, f3.2.2.2.2.1, f3.2.2.2.2.2⟩
      have nC : H5 s3.heap.objs.size = none := by
        have z : H5 ce.locals = none := J6.free
        rwa [cL] at z
      obtain ⟨m, hn, _⟩ := J6.loc
      have hn : h'.Ns ce.locals m := hn
      rw [cL] at hn
      refine ⟨m, hn, fun h'' sb => ?_⟩
      obtain ⟨g0, g1, _, g3, g4, g5⟩ := I3.fpOk (Nat.le_refl _) nC
      exact ⟨.ref L, H5, I7.turned (t' := s5.toks) (fun b o hb e => (sb.2 b hb).trans e) g0 g1 g3 g4 g5, rfl, qq⟩
    · obtain ⟨its, rv, isl, _⟩ := J5.list hq
      obtain ⟨u, hu, ru⟩ := rv.get hx
      refine wpAny_pyNext_list_item st5 isl.isList (x := u) (by simpa using hu) fun h' st6 sb => ?_
      have J6 : Inv (blkE X (a0, oe) s3 H3 scope ce [it]) [] (wipe σ (own.map (·.2))) H5 { s5 with heap := h' } := J5.turned (t' := s5.toks) (fun b o hb e => (sb.2 b hb).trans e) n5 t1 t3 t4 t5
      obtain ⟨oi, ei, ci, di⟩ := id st6
      refine go_of (s := { s5 with heap := h' }) ei ci di (by decide) ?_
      have pinI : ∀ p ∈ pinsAt [it] h', h'.get? p.1 = some p.2 ∧ H5 p.1 = none ∧ p.1 ≠ ce.locals ∧ p.1 ∉ frs X.stack ∧ ∀ v, p.2.data ≠ .cell v := fun p hm => by
        obtain ⟨hb, e⟩ := of_pinsAt hm
        have eb : p.1 = it := by simpa using hb
        rw [eb] at e ⊢
        rw [ei] at e
        cases e
        refine ⟨ei, n5, t1, t2, fun v z => ?_⟩
        rw [di] at z
        cases z
      have J7 : Inv (blkE X (a0, oe) s3 H3 scope ce [it]) (pinsAt [it] h') (wipe σ (own.map (·.2))) H5 { s5 with heap := h' } := J6.pins_of pinI
      have hy : (Itl X.K l).yld i H5 y H5 := ⟨rfl, fun zs hz => by rw [J5.list_inj hz hq]; exact hx⟩
      refine thnF (pg.run _ _ _ H5 y u _ J7 ru (step y H5 hy)) fun _ s8 ⟨σ8, H8, J8, hw8, q8⟩ => ?_
      refine thnF (pt.run _ s8 σ8 H8 _ J8 q8) fun b s9 ⟨H9, J9, q9⟩ => ?_
      have again : ∀ {s' : Shared} {H' : Hp}, Inv (blkE X (a0, oe) s3 H3 scope ce [it]) (pinsAt [it] h') σ8 H' s' → Nx H' → ∃ m, m < n ∧ ∃ i H', Inv (blkE X (a0, oe) s3 H3 scope ce [it]) [] (wipe σ (own.map (·.2))) H' s' ∧ s'.heap.IsListIter it l i ∧ H' it = none ∧ Wi i m H' := fun {s' H'} J' nx => by
        obtain ⟨m', hm, w'⟩ := hNx H' nx
        obtain ⟨z1, z2, _⟩ := J'.pin (it, oi) (List.mem_append_right _ (mem_pinsAt List.mem_cons_self ei))
        have hlen : (wipe σ (own.map (·.2))).length = σ8.length := by rw [← hw8, wipe_length]
        refine ⟨m', hm, i + 1, H', (Inv.unpinned (pins := []) J').weak hlen (fun j v e => ?_), st6.at fun o e => ?_, z2, w'⟩
        · rw [← hw8] at e
          exact (wipe_some e).1
        · rw [ei] at e
          cases e
          exact z1
      cases b with
      | false =>
        simp only [Bool.false_eq_true, if_false] at q9 ⊢
        exact again J9 q9
      | true =>
        simp only [if_true] at q9 ⊢
        refine thnF (pe.run _ s9 σ8 H9 _ J9 q9) fun z s10 ⟨yv, H10, J10, r10, acc, hD10, hz10, nx⟩ => ?_
        exact app_ok (X := blkE X (a0, oe) s3 H3 scope ce [it]) J10 hD10 hz10 r10 fun s11 J11 => again J11 nx
  exact codeAny_compStart_list loop (wpAny_pyIter_listiter st4 loop)
end

section
variable {G : Gm} {C : RC} {cf : Str → List D → FR} {sc : Scope} {hot : Bool} {X : Cx} {W : WX} {B : Addr → Prop}
theorem Ctx.blkH (cx : Ctx G C cf sc true X W) {a0 : Addr} {oe : Obj} {cls : Value} {d0 : Option Addr} (hp : HotP X a0 oe cls d0) (ec : C = C.hz a0 cls d0) {scope : Scope} (s : Shared) (H : Hp) (Ca : Addr) (cl : List (Str × Addr)) (fp : List Addr) : Ctx G C cf scope true (blkE X (a0, oe) s H scope (compEnvC scope cl Ca X.env) fp) W0 where
  hK := cx.hK
  un := cx.un
  calm := fun z => by cases z
  nd := cx.nd
  vis := fun x h => by
    rcases h with h | h | h
    · exact .inl (lookup_relS_keep (sc := X.env.scope) (by decide) h)
    · exact .inr (.inl (lookup_relS_keep (sc := X.env.scope) (by decide) h))
    · rcases lookup_free (sc := X.env.scope) h with z | z
      · exact .inr (.inl z)
      · exact .inr (.inr z)
  gl := fun x h => lookup_relS_keep (sc := X.env.scope) (by decide) h
  loc := fun x h => lookup_relS_keep (sc := X.env.scope) (by decide) h
  cel := fun x h => ⟨lookup_relS_keep (sc := X.env.scope) (by decide) h, by
    show (scope.names.lookup x == some .cell) = true
    rw [h]
    rfl⟩
  fre := fun x h => lookup_free (sc := X.env.scope) h
  blt := cx.blt
  glob := cx.glob
  fns := fun f hf => by
    obtain ⟨a, fd, ps, k, h1, h2, h3, h4, _, h6⟩ := cx.fns f hf
    exact ⟨a, fd, ps, k, h1, h2, h3, h4, (fun z => by cases z), h6⟩
  ht := fun _ => ⟨a0, oe, cls, d0, ⟨hp.zn, hp.fl, List.mem_cons_self, hp.hd⟩, ec⟩
  exo := cx.exo
  kit := cx.kit
  kiv := cx.kiv
  exm := cx.exm
  tk := takesW0
/-- the exception in a slot -/
theorem exc_slot {a0 : Addr} {cls : Value} {d0 : Option Addr} {H : Hp} {F : Addr → Prop} {r : Rho} {s : L2.St} {fp : List Addr} {i : Nat} {c : Str} {fs : List (Str × Int)} (ec : C = C.hz a0 cls d0) (S : Sd C B H F r s fp) (q : r[i]? = some (some (.exc c fs))) :
    s[i]? = some (some (.ref a0)) ∧ C.mg c = some cls ∧ ((fs = [] ∧ d0 = none) ∨ ∃ dd, d0 = some dd ∧ H dd = some (xdOf fs)) := by
  obtain ⟨v, f, e1, e2, _⟩ := S.sl.get q
  obtain ⟨⟨a, d, ev, hz, hd⟩, _⟩ := e2
  rw [ec] at hz
  obtain ⟨rfl, h2, rfl⟩ := hz
  exact ⟨by rw [e1, ev], h2, hd⟩
theorem slot_exc {α : Type} {r : Rho} {i : Nat} {k : Str → List (Str × Int) → R α} {P : R α → Prop} (hb : ¬ P .bad) (h : P (match r[i]? with | some (some (.exc c fs)) => k c fs | _ => .bad)) : ∃ c fs, r[i]? = some (some (.exc c fs)) ∧ P (k c fs) := by
  split at h
  · rename_i c fs q
    exact ⟨c, fs, q, h⟩
  · exact absurd h hb
theorem c_isx (cx : Ctx G C cf sc hot X W) (hh : hot = true) {i : Nat} {c n z w : Str} {pos np zp wp : Pos} (hg : gB sc "isinstance" n = true) (hs : slotB X.N sc i z = true) (hgc : gB sc c w = true) (hc : (G.exs.contains c || c == "ValueError") = true) :
    PE X (.Call (.Name n np) [.Name z zp, .Name w wp] [] pos) (mE G C cf W B (.isx i c)) := by
  obtain ⟨a0, oe, cls, d0, hp, ec⟩ := cx.ht hh
  obtain ⟨e, gl, hd, hnm⟩ := cx.gB hg
  obtain ⟨e2, gl2, hd2, hnm2⟩ := cx.gB hgc
  subst e
  subst e2
  refine ⟨fun pins s σ H Q I h => ?_⟩
  obtain ⟨r, F, fp, gp, S, hsub, g⟩ := h
  obtain ⟨c', fs, q, g⟩ := slot_exc (P := Goal C B W (RD C B) true true σ Q H F gp) (fun z => z) (show Goal C B W (RD C B) true true σ Q H F gp (match r[i]? with
    | some (some (.exc c' _)) => if G.exs.contains c' = true then .ok (.bl (G.sub c' c)) r else .bad
    | _ => .bad) from g)
  by_cases hin : G.exs.contains c' = true
  · rw [if_pos hin] at g
    have hin : c' ∈ G.exs := List.contains_iff_mem.mp hin
    obtain ⟨e1, em, hdd⟩ := exc_slot ec S q
    obtain ⟨D', m1, m2, x1, _⟩ := cx.exo c' hin
    rw [m2] at em
    cases em
    have fin : Q (.bl (G.sub c' c)) H := g.fin0 S hsub ⟨rfl, rfl⟩
    have go : ∀ (tc : V) (cv : Value), (∀ u, RelV tc u → u = cv) → PE X (.Name c wp) (tC tc) → PySem.W.kitOne X.K (.ref D') cv = some (G.sub c' c) → wpAny (model X.prog X.w) X.A (eval (.Call (.Name "isinstance" np) [.Name z zp, .Name c wp] [] pos) X.env) (EP X pins σ Q) X.xe s := fun tc cv hu pc kk =>
      (pe_callB (call_isX (fs := fs) x1 hp) gl (cx.blt _ (by decide)) (by decide +kernel) (pa_cons (cx.pv hs) (pa_cons pc pa_nil rfl) rfl) hnm hd rfl rfl).run pins s σ H Q I ⟨.ref a0, e1, tc, cv, _, rfl, hu, kk, hdd, fin⟩
    rw [Bool.or_eq_true] at hc
    rcases hc with hc | hc
    · obtain ⟨Dc, n1, _⟩ := cx.exo c (List.contains_iff_mem.mp hc)
      exact go (.ref Dc) (.ref Dc) (fun u hu => hu) (pe_glob gl2 n1 rfl hd2) (cx.kit c' hin c (List.contains_iff_mem.mp hc) D' Dc m1 n1)
    · have e : c = "ValueError" := by simpa using hc
      subst e
      exact go (.ty "ValueError") (.type "ValueError") (fun u hu => hu) (pe_bltn gl2 (cx.blt _ (by decide)) (by decide +kernel) rfl hnm2 hd2) (cx.kiv c' hin D' m1)
  · rw [if_neg hin] at g
    exact False.elim g
theorem c_xf (cx : Ctx G C cf sc hot X W) (hh : hot = true) {i : Nat} {n z : Str} {zp pos : Pos} (hn : (n == "line" || n == "column") = true) (hs : slotB X.N sc i z = true) : PE X (.Attribute (.Name z zp) n pos) (mE G C cf W B (.xf i n)) := by
  obtain ⟨a0, oe, cls, d0, hp, ec⟩ := cx.ht hh
  refine ⟨fun pins s σ H Q I h => ?_⟩
  obtain ⟨r, F, fp, gp, S, hsub, g⟩ := h
  obtain ⟨c', fs, q, g⟩ := slot_exc (P := Goal C B W (RD C B) true true σ Q H F gp) (fun z => z) (show Goal C B W (RD C B) true true σ Q H F gp (match r[i]? with
    | some (some (.exc c fs)) => if G.exs.contains c = true then (match fs.lookup n with
      | some v => .ok (.int v) r
      | none => .bad)
      else .bad
    | _ => .bad) from g)
  by_cases hin : G.exs.contains c' = true
  · rw [if_pos hin] at g
    have hin : c' ∈ G.exs := List.contains_iff_mem.mp hin
    cases ef : fs.lookup n with
    | none =>
      rw [ef] at g
      exact False.elim g
    | some v =>
      rw [ef] at g
      obtain ⟨e1, em, hdd⟩ := exc_slot ec S q
      obtain ⟨D', m1, m2, x1, y1, y2⟩ := cx.exo c' hin
      rw [m2] at em
      cases em
      have hno : PySem.W.findIn X.K (.ref D') n = some none := by
        rw [Bool.or_eq_true] at hn
        rcases hn with hn | hn
        · rw [show n = "line" by simpa using hn]
          exact y1
        · rw [show n = "column" by simpa using hn]
          exact y2
      refine attr_of rfl (thn ((cx.pv (pos := zp) hs).run pins s σ H (fun x H1 => x = .ref a0 ∧ H1 = H) I ⟨.ref a0, e1, rfl, rfl⟩) fun u s1 hh => ?_)
      obtain ⟨x, H1, I1, rx, ex, eH⟩ := hh
      subst ex
      subst eH
      obtain rfl : u = Value.ref a0 := rx
      rcases hdd with ⟨e0, _⟩ | ⟨dd, ed, ea⟩
      · rw [e0] at ef
        cases ef
      · obtain ⟨ha, _⟩ := I1.pin (a0, oe) (List.mem_append_left _ hp.pin)
        obtain ⟨vs, hv⟩ := hp.fl
        have hx : ObjOk X.prog X.w H1 s1.heap dd (xdOf fs) := I1.hok dd _ ea
        obtain ⟨mA, hns, hr⟩ := hx
        obtain ⟨od, ho, hl⟩ := lookIn_ns hns
        have hlk : ((fs.map fun p => (p.1, V.int p.2)).lookup n) = some (.int v) := by
          have : ∀ l : List (Str × Int), l.lookup n = some v → ((l.map fun p => (p.1, V.int p.2)).lookup n) = some (.int v) := by
            intro l
            induction l with
            | nil => intro h; cases h
            | cons p l ih =>
              intro h
              rw [List.map_cons, List.lookup_cons]
              rw [List.lookup_cons] at h
              cases ep : n == p.1 with
              | true =>
                rw [ep] at h
                have h : some p.2 = some v := h
                cases h
                simp only [ep]
              | false =>
                rw [ep] at h
                simp only [ep]
                exact ih h
          exact this fs ef
        have hr := hr n
        rw [hlk] at hr
        obtain ⟨w, hu, ru⟩ := RelO.some_of (v := V.int v) (o := mA n) hr
        have J : PySem.W.InstAt s1.heap a0 oe D' (some od) := ⟨ha, hp.zn.1, by unfold PySem.W.notCls; rw [hv] <;> rfl, by rw [hp.zn.2.1, ed]; exact ho⟩
        exact HandSPX.exc_get I1.kIn J x1.hg x1.hk x1.hs (PySem.W.findObj_own x1.hd hno rfl (by rw [hl, hu])) (handed_of ru) ⟨.int v, H1, I1.tok _, ru, g.fin0 S hsub ⟨rfl, rfl⟩⟩
  · rw [if_neg hin] at g
    exact False.elim g
end
end PI
set_option maxRecDepth 100000
set_option maxHeartbeats 8000000
/-! PI14: the soundness of expressions, all together. -/
namespace PI
open PySem PySem.Spec PyProof.Rows L2

theorem clause1_ok {gs : List Comprehension} {t it : Expr} {ifs : List Expr} (h : clause1 gs = some (t, it, ifs)) : gs = [⟨t, it, ifs, 0⟩] := by
  match gs, h with
  | [⟨a, b, c, i⟩], h =>
    by_cases e : i = 0
    · subst e
      cases h
      rfl
    · have h : (if decide (i = 0) then some (a, b, c) else none) = some (t, it, ifs) := h
      simp [e] at h
  | [], h => cases h
  | _ :: _ :: _, h => cases h

theorem rplParts_ok {x o : Expr} {y z : Str} {h : Bool} (e : rplParts x = some (o, y, z, h)) : ∃ m apos j k c0 c1 pos, x = .Call (.Attribute o m apos) [.Constant (.str y) j c0, .Constant (.str z) k c1] [] pos ∧ m = "replace" ∧ (apos.endLine == pos.line) = h := by
  unfold rplParts at e
  split at e
  · split at e
    · rename_i em
      cases e
      exact ⟨_, _, _, _, _, _, _, rfl, em, rfl⟩
    · cases e
  · cases e
section
variable {G : Gm} {C : RC} {cf : Str → List D → FR} {B : Addr → Prop}
mutual
theorem sE : ∀ (e : E) {sc : Scope} {hot : Bool} {X : Cx} {W : WX} (cx : Ctx G C cf sc hot X W) (x : Expr), chkE G X.N hot sc e x = true → PE X x (mE G C cf W B e)
  | .k d, sc, hot, X, W, cx, x, h => by
    cases x <;> first
      | exact c_k h
      | cases h
  | .gl n, sc, hot, X, W, cx, x, h => by
    cases x <;> first
      | exact c_gl cx (and2 h).1
      | cases h
  | .s i, sc, hot, X, W, cx, x, h => by
    cases x <;> first
      | exact PE.imp (cx.pv h) fun s H Q q => s_slot q
      | cases h
  | .cp e, sc, hot, X, W, cx, x, h => c_cp (sE e cx x (by cases x <;> exact h))
  | .mv i, sc, hot, X, W, cx, x, h => by
    cases x <;> first
      | exact PE.imp (cx.pv h) fun s H Q q => s_mv q
      | cases h
  | .vf i, sc, hot, X, W, cx, x, h => by
    cases x <;> first
      | exact PE.imp (cx.pv h) fun s H Q q => s_vf q
      | cases h
  | .fz e, sc, hot, X, W, cx, x, h => by
    have h : (chkE G X.N hot sc e x && iv e) = true := by cases x <;> exact h
    exact c_fz (and2 h).2 (sE e cx x (and2 h).1)
  | .tup es, sc, hot, X, W, cx, x, h => by
    cases x <;> first
      | exact c_tup (sEs es cx _ h)
      | cases h
  | .lst es, sc, hot, X, W, cx, x, h => by
    cases x <;> first
      | (rcases Bool.or_eq_true_iff.mp (show (chkEs G X.N hot sc es _ || chkEsT G X.N hot sc es _) = true from h) with h | h
         · exact c_lst (sEs es cx _ h)
         · exact c_lst (sEsT es cx _ h))
      | cases h
  | .bin o a b, sc, hot, X, W, cx, x, h => by
    cases x with
    | BinOp u p w pos =>
      obtain ⟨h1, h2⟩ := and2 (show (isB o p && ((iv a || pu b) && (chkE G X.N hot sc a u && chkE G X.N hot sc b w))) = true from h)
      obtain ⟨h3, h4⟩ := and2 h2
      obtain ⟨h5, h6⟩ := and2 h4
      exact c_bin cx h1 h3 (sE a cx u h5) (sE b cx w h6)
    | _ => cases h
  | .neg a, sc, hot, X, W, cx, x, h => by
    cases x with
    | UnaryOp p u pos =>
      obtain ⟨h1, h2⟩ := and2 (show (isUSub p && chkE G X.N hot sc a u) = true from h)
      cases p <;> first
        | exact c_neg (sE a cx u h2)
        | cases h1
    | _ => cases h
  | .cmp o a b, sc, hot, X, W, cx, x, h => by
    cases x with
    | Compare u ps ws pos =>
      match ps, ws, h with
      | [p], [w], h =>
        obtain ⟨h1, h2⟩ := and2 (show (isC o p && ((iv a || pu b) && (chkE G X.N hot sc a u && (chkE G X.N hot sc b w && notSet w)))) = true from h)
        obtain ⟨h3, h4⟩ := and2 h2
        obtain ⟨h5, h6⟩ := and2 h4
        obtain ⟨h7, h8⟩ := and2 h6
        exact c_cmp cx h1 h3 h8 (sE a cx u h5) (sE b cx w h7)
      | [], _, h => cases h
      | [_], [], h => cases h
      | [_], _ :: _ :: _, h => cases h
      | _ :: _ :: _, _, h => cases h
    | _ => cases h
  | .chn o q a b c, sc, hot, X, W, cx, x, h => by
    cases x with
    | Compare u ps ws pos =>
      match ps, ws, h with
      | [p, p'], [w, z], h =>
        obtain ⟨h1, h2⟩ := and2 (show ((isC o p && isC q p') && (((iv a || pu b) && (iv b || pu c)) && ((chkE G X.N hot sc a u && chkE G X.N hot sc b w) && (chkE G X.N hot sc c z && notSet z)))) = true from h)
        obtain ⟨h3, h4⟩ := and2 h2
        obtain ⟨h5, h6⟩ := and2 h4
        exact c_chn cx (and2 h1).1 (and2 h1).2 (and2 h3).1 (and2 h3).2 (and2 h6).2 (sE a cx u (and2 h5).1) (sE b cx w (and2 h5).2) (sE c cx z (and2 h6).1)
      | [], _, h => cases h
      | [_], _, h => cases h
      | [_, _], [], h => cases h
      | [_, _], [_], h => cases h
      | [_, _], _ :: _ :: _ :: _, h => cases h
      | _ :: _ :: _ :: _, _, h => cases h
    | _ => cases h
  | .andv a b, sc, hot, X, W, cx, x, h => by
    cases x with
    | BoolOp p xs pos =>
      match p, xs, h with
      | .And, [u, w], h =>
        obtain ⟨h1, h2⟩ := and2 (show ((chkE G X.N hot sc a u && iv b) && chkE G X.N hot sc b w) = true from h)
        exact c_andv (and2 h1).2 (sE a cx u (and2 h1).1) (pe_one (sE b cx w h2))
      | .And, u :: w :: z :: r, h =>
        obtain ⟨h1, h2⟩ := and2 (show ((chkE G X.N hot sc a u && iv b) && chkE G X.N hot sc b (.BoolOp .And (w :: z :: r) pos)) = true from h)
        exact c_andv (and2 h1).2 (sE a cx u (and2 h1).1) (sE b cx _ h2)
      | .And, [], h => cases h
      | .And, [_], h => cases h
      | .Or, _, h => cases h
    | _ => cases h
  | .orv a b, sc, hot, X, W, cx, x, h => by
    cases x with
    | BoolOp p xs pos =>
      match p, xs, h with
      | .Or, [u, w], h =>
        obtain ⟨h1, h2⟩ := and2 (show ((chkE G X.N hot sc a u && iv b) && chkE G X.N hot sc b w) = true from h)
        exact c_orv (and2 h1).2 (sE a cx u (and2 h1).1) (pe_one (sE b cx w h2))
      | .Or, u :: w :: z :: r, h =>
        obtain ⟨h1, h2⟩ := and2 (show ((chkE G X.N hot sc a u && iv b) && chkE G X.N hot sc b (.BoolOp .Or (w :: z :: r) pos)) = true from h)
        exact c_orv (and2 h1).2 (sE a cx u (and2 h1).1) (sE b cx _ h2)
      | .Or, [], h => cases h
      | .Or, [_], h => cases h
      | .And, _, h => cases h
    | _ => cases h
  | .notv a, sc, hot, X, W, cx, x, h => by
    cases x with
    | UnaryOp p u pos =>
      obtain ⟨h1, h2⟩ := and2 (show (isNot p && chkE G X.N hot sc a u) = true from h)
      cases p <;> first
        | exact c_notv (sE a cx u h2)
        | cases h1
    | _ => cases h
  | .ife t a b, sc, hot, X, W, cx, x, h => by
    cases x with
    | IfExp z u w pos =>
      obtain ⟨h1, h2⟩ := and2 (show ((iv a && iv b) && (chkT G X.N hot sc t z && (chkE G X.N hot sc a u && chkE G X.N hot sc b w))) = true from h)
      obtain ⟨h3, h4⟩ := and2 h2
      exact c_ife (and2 h1).1 (and2 h1).2 (sT t cx z h3).1 (sE a cx u (and2 h4).1) (sE b cx w (and2 h4).2)
    | _ => cases h
  | .cal f as, sc, hot, X, W, cx, x, h => by
    cases x with
    | Call fn xs ks pos =>
      match fn, xs, ks, h with
      | .Name n np, u :: us, [], h =>
        obtain ⟨h1, h2⟩ := and2 (show (gB sc f n && ((G.isFn f && ((hot || G.isCold f) && (!hot || G.isHot f))) && chkAs G X.N hot sc as (u :: us))) = true from h)
        obtain ⟨h3, h4⟩ := and2 h2
        exact c_cal cx h1 (and2 h3).1 (and2 h3).2 (chkAs_star as _ h4) (sAs as cx _ h4)
      | .Name _ _, [], _, h => cases h
      | .Name _ _, _ :: _, _ :: _, h => cases h
    | _ => cases h
  | .cav i as, sc, hot, X, W, cx, x, h => by
    cases x with
    | Call fn xs ks pos =>
      match fn, xs, ks, h with
      | .Name n np, u :: us, [], h =>
        obtain ⟨h1, h2⟩ := and2 (show (!hot && (slotB X.N sc i n && chkAs G X.N hot sc as (u :: us))) = true from h)
        obtain ⟨h3, h4⟩ := and2 h2
        exact c_cav cx (by simpa using h1) h3 (chkAs_star as _ h4) (sAs as cx _ h4)
      | .Name _ _, [], _, h => cases h
      | .Name _ _, _ :: _, _ :: _, h => cases h
    | _ => cases h
  | .bi b a, sc, hot, X, W, cx, x, h => by
    cases x with
    | Call fn xs ks pos =>
      match fn, xs, ks, h with
      | .Name n np, [u], [], h =>
        obtain ⟨h1, h2⟩ := and2 (show ((gB sc (biName b) n && !(hot && biHot b)) && (chkE G X.N hot sc a u && notStar u)) = true from h)
        exact c_bi cx (and2 h1).1 (by have k := (and2 h1).2; rwa [Bool.not_eq_true'] at k) (and2 h2).2 (sE a cx u (and2 h2).1)
      | .Name _ _, [], _, h => cases h
      | .Name _ _, [_], _ :: _, h => cases h
      | .Name _ _, _ :: _ :: _, _, h => cases h
    | _ => cases h
  | .bj b a c, sc, hot, X, W, cx, x, h => by
    cases x with
    | Call fn xs ks pos =>
      match fn, xs, ks, h with
      | .Name n np, [u, w], [], h =>
        obtain ⟨h1, h2⟩ := and2 (show ((gB sc (bjName b) n && !hot) && (((iv a || pu c) && (chkE G X.N hot sc a u && chkE G X.N hot sc c w)) && (notStar u && notStar w))) = true from h)
        obtain ⟨h3, h4⟩ := and2 h2
        obtain ⟨h5, h6⟩ := and2 h3
        exact c_bj cx (and2 h1).1 (by simpa using (and2 h1).2) h5 (and2 h4).1 (and2 h4).2 (sE a cx u (and2 h6).1) (sE c cx w (and2 h6).2)
      | .Name _ _, [], _, h => cases h
      | .Name _ _, [_], _, h => cases h
      | .Name _ _, [_, _], _ :: _, h => cases h
      | .Name _ _, _ :: _ :: _ :: _, _, h => cases h
    | _ => cases h
  | .me m a b, sc, hot, X, W, cx, x, h => by
    cases x with
    | Call fn xs ks pos =>
      match fn, xs, ks, h with
      | .Attribute o nm apos, [u], [], h =>
        obtain ⟨h1, h2⟩ := and2 (show ((decide (nm = meName m) && (apos.endLine == pos.line)) && (((iv a || pu b) && (chkE G X.N hot sc a o && chkE G X.N hot sc b u)) && (notStar u && plainBase o))) = true from h)
        obtain ⟨h3, h4⟩ := and2 h2
        obtain ⟨h5, h6⟩ := and2 h3
        exact c_me cx (of_decide_eq_true (and2 h1).1) (and2 h1).2 h5 (and2 h4).1 (and2 h4).2 (sE a cx o (and2 h6).1) (sE b cx u (and2 h6).2)
      | .Attribute _ _ _, [], _, h => cases h
      | .Attribute _ _ _, [_], _ :: _, h => cases h
      | .Attribute _ _ _, _ :: _ :: _, _, h => cases h
    | _ => cases h
  | .rpl _ _ _, sc, hot, X, W, cx, x, h => by cases x <;> cases h
  | .pop i, sc, hot, X, W, cx, x, h => by
    cases x with
    | Call fn xs ks pos =>
      match fn, xs, ks, h with
      | .Attribute (.Name n np) nm apos, [], [], h =>
        obtain ⟨h1, h2⟩ := and2 (show ((decide (nm = "pop") && (apos.endLine == pos.line)) && slotB X.N sc i n) = true from h)
        have e := of_decide_eq_true (and2 h1).1
        subst e
        exact c_pop cx h2 (and2 h1).2
      | .Attribute (.Name _ _) _ _, _ :: _, _, h => cases h
      | .Attribute (.Name _ _) _ _, [], _ :: _, h => cases h
    | _ => cases h
  | .ix a b, sc, hot, X, W, cx, x, h => by
    cases x with
    | Subscript u w pos =>
      obtain ⟨h1, h2⟩ := and2 (show (((iv a || pu b) && (chkE G X.N hot sc a u && chkE G X.N hot sc b w)) && notSlice w) = true from h)
      obtain ⟨h3, h4⟩ := and2 h1
      exact c_ix cx h3 h2 (sE a cx u (and2 h4).1) (sE b cx w (and2 h4).2)
    | _ => cases h
  | .sl a lo hi, sc, hot, X, W, cx, x, h => by
    cases x with
    | Subscript u w pos =>
      match w, h with
      | .Slice l k none p2, h =>
        obtain ⟨h1, h2⟩ := and2 (show (chkE G X.N hot sc a u && ((iv a || (puo lo && puo hi)) && (chkO G X.N hot sc lo l && chkO G X.N hot sc hi k))) = true from h)
        obtain ⟨h3, h4⟩ := and2 h2
        exact c_sl cx h3 (sE a cx u h1) (sO lo cx l (and2 h4).1) (sO hi cx k (and2 h4).2)
      | .Slice _ _ (some _) _, h => cases h
    | _ => cases h
  | .cmpr elt tt src cond own, sc, hot, X, W, cx, x, h => by
    cases x with
    | ListComp u gs scope pos =>
      cases ec : clause1 gs with
      | none =>
        have h : (match clause1 gs with
          | some (t, it, ifs) => (!hot || isItl src) && ((blkC X.N sc scope own && (chkSr G X.N hot sc src t it && notSet it)) && ((chkTg X.N scope hot tt t && tgIn own tt) && (chkE G X.N hot scope elt u && chkC G X.N hot scope cond ifs)))
          | none => false) = true := h
        rw [ec] at h
        cases h
      | some tif =>
        obtain ⟨tg, it, ifs⟩ := tif
        have h : (match clause1 gs with
          | some (t, it, ifs) => (!hot || isItl src) && ((blkC X.N sc scope own && (chkSr G X.N hot sc src t it && notSet it)) && ((chkTg X.N scope hot tt t && tgIn own tt) && (chkE G X.N hot scope elt u && chkC G X.N hot scope cond ifs)))
          | none => false) = true := h
        rw [ec] at h
        have eg := clause1_ok ec
        subst eg
        obtain ⟨h0, h⟩ := and2 (show ((!hot || isItl src) && ((blkC X.N sc scope own && (chkSr G X.N hot sc src tg it && notSet it)) && ((chkTg X.N scope hot tt tg && tgIn own tt) && (chkE G X.N hot scope elt u && chkC G X.N hot scope cond ifs)))) = true from h)
        obtain ⟨h1, h2⟩ := and2 h
        obtain ⟨h3, h4⟩ := and2 h1
        obtain ⟨h5, h6⟩ := and2 h2
        cases hot with
        | false => exact PE.imp (pe_lc (cx.calm rfl) cx.nd (sSr src cx tg it (and2 h4).1) (cx.blkOk h3) (fun s H Ca cl fp => pg_ok (cx.blk s H Ca cl fp) tt tg (and2 h5).1) (fun s H Ca cl fp => sC cond (cx.blk s H Ca cl fp) ifs (and2 h6).2) (fun s H Ca cl fp => sE elt (cx.blk s H Ca cl fp) u (and2 h6).1) (set_ok (and2 h4).2 X.env)) fun s H Q q => lc_ok cx (and2 h5).2 q
        | true =>
          cases src with
          | itl e0 =>
            obtain ⟨a0, oe, cls, d0, hp, ec⟩ := cx.ht rfl
            obtain ⟨h7, h8⟩ := and2 (show (iv e0 && chkE G X.N true sc e0 it) = true from (and2 h4).1)
            exact PE.imp (pe_lcE hp cx.nd (sE e0 cx it h8) (cx.blkOk h3) (fun s H Ca cl fp => pg_ok (cx.blkH hp ec s H Ca cl fp) tt tg (and2 h5).1) (fun s H Ca cl fp => sC cond (cx.blkH hp ec s H Ca cl fp) ifs (and2 h6).2) (fun s H Ca cl fp => sE elt (cx.blkH hp ec s H Ca cl fp) u (and2 h6).1) (set_ok (and2 h4).2 X.env)) fun s H Q q => itl_ok cx h7 (lc_ok cx (and2 h5).2 q)
          | _ => cases h0
    | _ => cases h
  | .xf i n, sc, hot, X, W, cx, x, h => by
    cases x with
    | Attribute o m pos =>
      cases o with
      | Name z zp =>
        obtain ⟨h1, h2⟩ := and2 (show ((hot && decide (n = m)) && ((n == "line" || n == "column") && slotB X.N sc i z)) = true from h)
        have e := of_decide_eq_true (and2 h1).2
        subst e
        exact c_xf cx (and2 h1).1 (and2 h2).1 (and2 h2).2
      | _ => cases h
    | _ => cases h
  | .isx i c, sc, hot, X, W, cx, x, h => by
    cases x with
    | Call fn xs ks pos =>
      match fn, xs, ks, h with
      | .Name n np, [.Name z zp, .Name w wp], [], h =>
        obtain ⟨h1, h2⟩ := and2 (show ((hot && gB sc "isinstance" n) && (slotB X.N sc i z && (gB sc c w && (G.exs.contains c || c == "ValueError")))) = true from h)
        obtain ⟨h3, h4⟩ := and2 h2
        exact c_isx cx (and2 h1).1 (and2 h1).2 h3 (and2 h4).1 (and2 h4).2
    | _ => cases h
  | .isi a t, sc, hot, X, W, cx, x, h => by
    cases x with
    | Call fn xs ks pos =>
      match fn, xs, ks, h with
      | .Name n np, [u, .Name z zp], [], h =>
        obtain ⟨h1, h2⟩ := and2 (show ((gB sc "isinstance" n && (match tyName t with | some n => gB sc n z | none => false)) && (chkE G X.N hot sc a u && notStar u)) = true from h)
        cases e : tyName t with
        | none =>
          rw [e] at h1
          cases (and2 h1).2
        | some m =>
          rw [e] at h1
          exact c_isi cx (and2 h1).1 e (and2 h1).2 (and2 h2).2 (sE a cx u (and2 h2).1)
    | _ => cases h
theorem sT : ∀ (t : T) {sc : Scope} {hot : Bool} {X : Cx} {W : WX} (cx : Ctx G C cf sc hot X W) (x : Expr), chkT G X.N hot sc t x = true → PT X x (mT G C cf W B t) ∧ ∀ p xs pos, x = .BoolOp p xs pos → PW X x (mT G C cf W B t)
  | .e e, sc, hot, X, W, cx, x, h => by
    obtain ⟨h1, h2⟩ := and2 (show (chkE G X.N hot sc e x && (plainTest x || isCmp e)) = true from (by cases x <;> exact h))
    by_cases hp : plainTest x = true
    · exact ⟨t_e cx hp (sE e cx x h1), fun p xs pos e => by
        rw [e] at hp
        cases hp⟩
    · have hc : isCmp e = true := by
        rw [Bool.or_eq_true] at h2
        exact h2.resolve_left hp
      cases e with
      | cmp o a b =>
        cases x with
        | Compare u ps ws pos =>
          match ps, ws, h1 with
          | [p], [w], h =>
            obtain ⟨h1, h2⟩ := and2 (show (isC o p && ((iv a || pu b) && (chkE G X.N hot sc a u && (chkE G X.N hot sc b w && notSet w)))) = true from h)
            obtain ⟨h3, h4⟩ := and2 h2
            obtain ⟨h5, h6⟩ := and2 h4
            obtain ⟨h7, h8⟩ := and2 h6
            exact ⟨t_cmp cx h1 h3 h8 (sE a cx u h5) (sE b cx w h7), fun p xs pos e => by cases e⟩
          | [], _, h => cases h
          | [_], [], h => cases h
          | [_], _ :: _ :: _, h => cases h
          | _ :: _ :: _, _, h => cases h
        | _ => cases h1
      | chn o q a b c =>
        cases x with
        | Compare u ps ws pos =>
          match ps, ws, h1 with
          | [p, p'], [w, z], h =>
            obtain ⟨h1, h2⟩ := and2 (show ((isC o p && isC q p') && (((iv a || pu b) && (iv b || pu c)) && ((chkE G X.N hot sc a u && chkE G X.N hot sc b w) && (chkE G X.N hot sc c z && notSet z)))) = true from h)
            obtain ⟨h3, h4⟩ := and2 h2
            obtain ⟨h5, h6⟩ := and2 h4
            exact ⟨t_chn cx (and2 h1).1 (and2 h1).2 (and2 h3).1 (and2 h3).2 (and2 h6).2 (sE a cx u (and2 h5).1) (sE b cx w (and2 h5).2) (sE c cx z (and2 h6).1), fun p xs pos e => by cases e⟩
          | [], _, h => cases h
          | [_], _, h => cases h
          | [_, _], [], h => cases h
          | [_, _], [_], h => cases h
          | [_, _], _ :: _ :: _ :: _, h => cases h
          | _ :: _ :: _ :: _, _, h => cases h
        | _ => cases h1
      | _ => cases hc
  | .an a b, sc, hot, X, W, cx, x, h => by
    cases x with
    | BoolOp p xs pos =>
      match p, xs, h with
      | .And, [u, w], h =>
        obtain ⟨h1, h2⟩ := and2 (show (chkT G X.N hot sc a u && chkT G X.N hot sc b w) = true from h)
        have k := t_an (pos := pos) (sT a cx u h1).1 (pw_and1 (sT b cx w h2).1)
        exact ⟨k.pt, fun _ _ _ _ => k⟩
      | .And, u :: w :: z :: r, h =>
        obtain ⟨h1, h2⟩ := and2 (show (chkT G X.N hot sc a u && chkT G X.N hot sc b (.BoolOp .And (w :: z :: r) pos)) = true from h)
        have k := t_an (pos := pos) (sT a cx u h1).1 ((sT b cx _ h2).2 _ _ _ rfl)
        exact ⟨k.pt, fun _ _ _ _ => k⟩
      | .And, [], h => cases h
      | .And, [_], h => cases h
      | .Or, _, h => cases h
    | _ => cases h
  | .oo a b, sc, hot, X, W, cx, x, h => by
    cases x with
    | BoolOp p xs pos =>
      match p, xs, h with
      | .Or, [u, w], h =>
        obtain ⟨h1, h2⟩ := and2 (show (chkT G X.N hot sc a u && chkT G X.N hot sc b w) = true from h)
        have k := t_oo (pos := pos) (sT a cx u h1).1 (pw_or1 (sT b cx w h2).1)
        exact ⟨k.pt, fun _ _ _ _ => k⟩
      | .Or, u :: w :: z :: r, h =>
        obtain ⟨h1, h2⟩ := and2 (show (chkT G X.N hot sc a u && chkT G X.N hot sc b (.BoolOp .Or (w :: z :: r) pos)) = true from h)
        have k := t_oo (pos := pos) (sT a cx u h1).1 ((sT b cx _ h2).2 _ _ _ rfl)
        exact ⟨k.pt, fun _ _ _ _ => k⟩
      | .Or, [], h => cases h
      | .Or, [_], h => cases h
      | .And, _, h => cases h
    | _ => cases h
  | .no a, sc, hot, X, W, cx, x, h => by
    cases x with
    | UnaryOp p u pos =>
      obtain ⟨h1, h2⟩ := and2 (show (isNot p && chkT G X.N hot sc a u) = true from h)
      cases p <;> first
        | exact ⟨t_no (sT a cx u h2).1, fun p xs pos e => by cases e⟩
        | cases h1
    | _ => cases h
theorem sC : ∀ (o : Ot) {sc : Scope} {hot : Bool} {X : Cx} {W : WX} (cx : Ctx G C cf sc hot X W) (xs : List Expr), chkC G X.N hot sc o xs = true → PTs X xs (mC G C cf W B o)
  | .no, sc, hot, X, W, cx, xs, h => by
    cases xs with
    | nil =>
      refine ⟨fun pins s σ H Q I q => pts_nil.run pins s σ H Q I ?_⟩
      obtain ⟨r, F, fp, gp, S, hs, g⟩ := q
      exact g.fin0 S hs ⟨rfl, rfl⟩
    | cons _ _ => cases h
  | .yes t, sc, hot, X, W, cx, xs, h => by
    match xs, h with
    | [x], h =>
      refine ⟨fun pins s σ H Q I q => (pts_one (sT t cx x h).1).run pins s σ H Q I ?_⟩
      obtain ⟨r, F, fp, gp, S, hs, g⟩ := q
      refine tX_bind (pv := false) S hs (by rw [Bool.and_false]; exact g) fun d1 r1 v1 H1 F1 f1 q1 e1 a1 g1 => ?_
      obtain ⟨rfl, _⟩ := a1.rep
      exact Goal.fin0 (show Goal C B W RB false true σ Q H1 F1 (f1 ++ q1 ++ gp) (.ok v1 r1) from g1) a1.sd a1.f1_gp ⟨rfl, rfl⟩
    | [], h => cases h
    | _ :: _ :: _, h => cases h
theorem sEs : ∀ (es : Es) {sc : Scope} {hot : Bool} {X : Cx} {W : WX} (cx : Ctx G C cf sc hot X W) (xs : List Expr), chkEs G X.N hot sc es xs = true → PA X xs (mEs G C cf W B es)
  | .nil, sc, hot, X, W, cx, xs, h => by
    cases xs with
    | nil => exact l_nil
    | cons _ _ => cases h
  | .cons e es, sc, hot, X, W, cx, xs, h => by
    cases xs with
    | nil => cases h
    | cons x xs =>
      obtain ⟨h1, h2⟩ := and2 (show ((iv e && notStar x) && (chkE G X.N hot sc e x && chkEs G X.N hot sc es xs)) = true from h)
      exact l_cons (and2 h1).1 (and2 h1).2 (sE e cx x (and2 h2).1) (sEs es cx xs (and2 h2).2)
theorem sEsT : ∀ (es : Es) {sc : Scope} {hot : Bool} {X : Cx} {W : WX} (cx : Ctx G C cf sc hot X W) (xs : List Expr), chkEsT G X.N hot sc es xs = true → PA X xs (mEs G C cf W B es)
  | .nil, sc, hot, X, W, cx, xs, h => by cases h
  | .cons e es, sc, hot, X, W, cx, xs, h => by
    cases xs with
    | nil => cases h
    | cons x xs =>
      obtain ⟨h1, h2⟩ := and2 (show ((bumps x && ((iv e && notStar x) && chkE G X.N hot sc e x)) && chkR G X.N hot sc es xs) = true from h)
      obtain ⟨h3, h4⟩ := and2 h1
      obtain ⟨h5, h6⟩ := and2 h4
      exact lt_start (and2 h5).1 (and2 h5).2 h3 (sE e cx x h6) (sR es cx xs h2)
theorem sR : ∀ (es : Es) {sc : Scope} {hot : Bool} {X : Cx} {W : WX} (cx : Ctx G C cf sc hot X W) (xs : List Expr), chkR G X.N hot sc es xs = true → PAT X xs (mEs G C cf W B es)
  | .nil, sc, hot, X, W, cx, xs, h => by
    cases xs with
    | nil => exact lt_nil
    | cons _ _ => cases h
  | .cons e es, sc, hot, X, W, cx, xs, h => by
    cases xs with
    | nil => cases h
    | cons x xs =>
      obtain ⟨h1, h2⟩ := and2 (show (((iv e && notStar x) && (chkE G X.N hot sc e x || chkRp G X.N hot sc e x)) && chkR G X.N hot sc es xs) = true from h)
      obtain ⟨h3, h4⟩ := and2 h1
      rcases Bool.or_eq_true_iff.mp h4 with h5 | h5
      · exact lt_cons (and2 h3).1 (and2 h3).2 (CwR.PET.of (sE e cx x h5)) (sR es cx xs h2)
      · exact lt_cons (and2 h3).1 (and2 h3).2 (sRp e cx x h5) (sR es cx xs h2)
theorem sRp : ∀ (e : E) {sc : Scope} {hot : Bool} {X : Cx} {W : WX} (cx : Ctx G C cf sc hot X W) (x : Expr), chkRp G X.N hot sc e x = true → PET X x (mE G C cf W B e)
  | .rpl a y z, sc, hot, X, W, cx, x, h => by
    have h : (match rplParts x with
      | some (o, y', z', h) => (h && (decide (y = y') && decide (z = z'))) && ((!(y == z) && plainBase o) && chkE G X.N hot sc a o)
      | none => false) = true := h
    cases e : rplParts x with
    | none =>
      rw [e] at h
      cases h
    | some q =>
      obtain ⟨o, y', z', l⟩ := q
      rw [e] at h
      obtain ⟨h1, h2⟩ := and2 h
      obtain ⟨h3, h4⟩ := and2 h1
      obtain ⟨h5, h6⟩ := and2 h2
      have e1 := of_decide_eq_true (and2 h4).1
      have e2 := of_decide_eq_true (and2 h4).2
      subst e1
      subst e2
      obtain ⟨m, apos, j, k, c0, c1, pos, rfl, rfl, hl⟩ := rplParts_ok e
      exact c_rpl (and2 h5).2 (by have k := (and2 h5).1; rwa [Bool.not_eq_true'] at k) (by rw [hl]; exact h3) (sE a cx o h6)
  | .k _, _, _, _, _, _, _, h => by cases h
  | .gl _, _, _, _, _, _, _, h => by cases h
  | .s _, _, _, _, _, _, _, h => by cases h
  | .cp _, _, _, _, _, _, _, h => by cases h
  | .mv _, _, _, _, _, _, _, h => by cases h
  | .vf _, _, _, _, _, _, _, h => by cases h
  | .fz _, _, _, _, _, _, _, h => by cases h
  | .tup _, _, _, _, _, _, _, h => by cases h
  | .lst _, _, _, _, _, _, _, h => by cases h
  | .bin _ _ _, _, _, _, _, _, _, h => by cases h
  | .neg _, _, _, _, _, _, _, h => by cases h
  | .cmp _ _ _, _, _, _, _, _, _, h => by cases h
  | .chn _ _ _ _ _, _, _, _, _, _, _, h => by cases h
  | .andv _ _, _, _, _, _, _, _, h => by cases h
  | .orv _ _, _, _, _, _, _, _, h => by cases h
  | .notv _, _, _, _, _, _, _, h => by cases h
  | .ife _ _ _, _, _, _, _, _, _, h => by cases h
  | .cal _ _, _, _, _, _, _, _, h => by cases h
  | .cav _ _, _, _, _, _, _, _, h => by cases h
  | .bi _ _, _, _, _, _, _, _, h => by cases h
  | .bj _ _ _, _, _, _, _, _, _, h => by cases h
  | .me _ _ _, _, _, _, _, _, _, h => by cases h
  | .pop _, _, _, _, _, _, _, h => by cases h
  | .ix _ _, _, _, _, _, _, _, h => by cases h
  | .sl _ _ _, _, _, _, _, _, _, h => by cases h
  | .cmpr _ _ _ _ _, _, _, _, _, _, _, h => by cases h
  | .xf _ _, _, _, _, _, _, _, h => by cases h
  | .isi _ _, _, _, _, _, _, _, h => by cases h
  | .isx _ _, _, _, _, _, _, _, h => by cases h
theorem sAs : ∀ (as : As) {sc : Scope} {hot : Bool} {X : Cx} {W : WX} (cx : Ctx G C cf sc hot X W) (xs : List Expr), chkAs G X.N hot sc as xs = true → PA X xs (mAs G C cf W B as)
  | .nil, sc, hot, X, W, cx, xs, h => by
    cases xs with
    | nil => exact a_nil
    | cons _ _ => cases h
  | .val e as, sc, hot, X, W, cx, xs, h => by
    cases xs with
    | nil => cases h
    | cons x xs =>
      obtain ⟨h1, h2⟩ := and2 (show ((iv e && notStar x) && (chkE G X.N hot sc e x && chkAs G X.N hot sc as xs)) = true from h)
      exact a_val (and2 h1).1 (and2 h1).2 (sE e cx x (and2 h2).1) (sAs as cx xs (and2 h2).2)
  | .io i as, sc, hot, X, W, cx, xs, h => by
    cases xs with
    | nil => cases h
    | cons x xs =>
      cases x with
      | Name y p =>
        obtain ⟨h1, h2⟩ := and2 (show (slotB X.N sc i y && chkAs G X.N hot sc as xs) = true from h)
        exact a_io cx h1 (sAs as cx xs h2)
      | _ => cases h
  | .bor i as, sc, hot, X, W, cx, xs, h => by
    cases xs with
    | nil => cases h
    | cons x xs =>
      cases x with
      | Name y p =>
        obtain ⟨h1, h2⟩ := and2 (show (slotB X.N sc i y && chkAs G X.N hot sc as xs) = true from h)
        exact a_bor cx h1 (sAs as cx xs h2)
      | _ => cases h
theorem sO : ∀ (o : Oe) {sc : Scope} {hot : Bool} {X : Cx} {W : WX} (cx : Ctx G C cf sc hot X W) (x : Option Expr), chkO G X.N hot sc o x = true → PO X x (mO G C cf W B o)
  | .no, sc, hot, X, W, cx, x, h => by
    cases x with
    | none => exact o_no
    | some _ => cases h
  | .yes e, sc, hot, X, W, cx, x, h => by
    cases x with
    | none => cases h
    | some x => exact o_yes (sE e cx x h)
theorem sSr : ∀ (s : Sr) {sc : Scope} {hot : Bool} {X : Cx} {W : WX} (cx : Ctx G C cf sc hot X W) (tg x : Expr), chkSr G X.N hot sc s tg x = true → PI X tg x (mSr G C cf W B s)
  | .it e, sc, hot, X, W, cx, tg, x, h => by
    have h : (iv e && chkE G X.N hot sc e x) = true := h
    exact s_it cx (and2 h).1 (sE e cx x (and2 h).2)
  | .itl e, sc, hot, X, W, cx, tg, x, h => by
    have h : (iv e && chkE G X.N hot sc e x) = true := h
    exact s_itl cx (and2 h).1 (sE e cx x (and2 h).2)
  | .rng e, sc, hot, X, W, cx, tg, x, h => by
    cases x with
    | Call fn xs ks pos =>
      match fn, xs, ks, h with
      | .Name n np, [u], [], h =>
        obtain ⟨h1, h2⟩ := and2 (show (gB sc "range" n && (chkE G X.N hot sc e u && notStar u)) = true from h)
        exact s_rng cx h1 (and2 h2).2 (sE e cx u (and2 h2).1)
      | .Name _ _, [], _, h => cases h
      | .Name _ _, [_], _ :: _, h => cases h
      | .Name _ _, _ :: _ :: _, _, h => cases h
    | _ => cases h
  | .rng2 a b, sc, hot, X, W, cx, tg, x, h => by
    cases x with
    | Call fn xs ks pos =>
      match fn, xs, ks, h with
      | .Name n np, [u, w], [], h =>
        obtain ⟨h1, h2⟩ := and2 (show (gB sc "range" n && (((iv a || pu b) && (chkE G X.N hot sc a u && chkE G X.N hot sc b w)) && (notStar u && notStar w))) = true from h)
        obtain ⟨h3, h4⟩ := and2 h2
        obtain ⟨h5, h6⟩ := and2 h3
        exact s_rng2 cx h1 h5 (and2 h4).1 (and2 h4).2 (sE a cx u (and2 h6).1) (sE b cx w (and2 h6).2)
      | .Name _ _, [], _, h => cases h
      | .Name _ _, [_], _, h => cases h
      | .Name _ _, [_, _], _ :: _, h => cases h
      | .Name _ _, _ :: _ :: _ :: _, _, h => cases h
    | _ => cases h
  | .enum e, sc, hot, X, W, cx, tg, x, h => by
    cases tg with
    | Tuple elts kk tp =>
      cases x with
      | Call fn xs ks pos =>
        match fn, xs, ks, h with
        | .Name n np, [u], [], h =>
          obtain ⟨h1, h2⟩ := and2 (show (gB sc "enumerate" n && ((iv e && chkE G X.N hot sc e u) && notStar u)) = true from h)
          exact s_enum cx h1 (and2 (and2 h2).1).1 (and2 h2).2 (sE e cx u (and2 (and2 h2).1).2)
        | .Name _ _, [], _, h => cases h
        | .Name _ _, [_], _ :: _, h => cases h
        | .Name _ _, _ :: _ :: _, _, h => cases h
      | _ => cases h
    | _ => cases h
  | .zip a b, sc, hot, X, W, cx, tg, x, h => by
    cases tg with
    | Tuple elts kk tp =>
      cases x with
      | Call fn xs ks pos =>
        match fn, xs, ks, h with
        | .Name n np, [u, w], [], h =>
          obtain ⟨h1, h2⟩ := and2 (show (gB sc "zip" n && (((iv a && iv b) && (chkE G X.N hot sc a u && chkE G X.N hot sc b w)) && (notStar u && notStar w))) = true from h)
          obtain ⟨h3, h4⟩ := and2 h2
          obtain ⟨h5, h6⟩ := and2 h3
          exact s_zip cx h1 (and2 h5).1 (and2 h5).2 (and2 h4).1 (and2 h4).2 (sE a cx u (and2 h6).1) (sE b cx w (and2 h6).2)
        | .Name _ _, [], _, h => cases h
        | .Name _ _, [_], _, h => cases h
        | .Name _ _, [_, _], _ :: _, h => cases h
        | .Name _ _, _ :: _ :: _ :: _, _, h => cases h
      | _ => cases h
    | _ => cases h
end
end
end PI
set_option maxRecDepth 100000
set_option maxHeartbeats 4000000
/-! PI15: statements: what is wanted of them; loops. -/
namespace PI
open PySem PySem.Spec PyProof.Rows L2

/-- the fixed slots keep their values -/
def Keeps (fx : List Nat) (s s' : L2.St) : Prop := ∀ i ∈ fx, s'[i]? = s[i]?
theorem Keeps.refl {fx : List Nat} {s : L2.St} : Keeps fx s s := fun _ _ => rfl
theorem Keeps.trans {fx : List Nat} {s t u : L2.St} (h : Keeps fx s t) (k : Keeps fx t u) : Keeps fx s u := fun i hi => (k i hi).trans (h i hi)
theorem Keeps.set {fx : List Nat} {s : L2.St} {i : Nat} {x : Option V} (h : i ∉ fx) : Keeps fx s (s.set i x) := fun j hj => List.getElem?_set_ne fun e => h (by rw [e]; exact hj)

/-- wanted of the rest of a block -/
def GoalS (C : RC) (B : Addr → Prop) (W : WX) (fx : List Nat) (s : L2.St) (D : Ends) (H : Hp) (F : Addr → Prop) (gp : List Addr) : R Fl → Prop
  | .ok .nx r => ∀ s' H' F' fp', Keeps fx s s' → Sd C B H' F' r s' fp' → Stp false H F gp H' F' fp' → D.nx s' H'
  | .ok .bk r => ∀ s' H' F' fp', Keeps fx s s' → Sd C B H' F' r s' fp' → Stp false H F gp H' F' fp' → D.bk s' H'
  | .ok .ct r => ∀ s' H' F' fp', Keeps fx s s' → Sd C B H' F' r s' fp' → Stp false H F gp H' F' fp' → D.ct s' H'
  | .ok (.rt d) r => ∀ v s' H' F' fp' fq, Keeps fx s s' → Sd C B H' F' r s' fp' → Rep C H' F' B d v fq → Fly F' B fp' fq → Stp false H F gp H' F' (fp' ++ fq) → D.rt v H'
  | .exc c fs r => ∀ cls d s' H' F' fp', Keeps fx s s' → Sd C B H' F' r s' fp' → ExcAt C H' c fs cls d → Stp false H F gp H' F' fp' → W cls d s' H'
  | .bad => False
/-- the reading of a block -/
def tS (C : RC) (B : Addr → Prop) (W : WX) (fx : List Nat) (ev : Rho → R Fl) : TS := fun D s H => ∃ r F fp gp, Sd C B H F r s fp ∧ (∀ a ∈ fp, a ∈ gp) ∧ GoalS C B W fx s D H F gp (ev r)

section
variable {C : RC} {B : Addr → Prop} {W : WX} {fx : List Nat} {s s1 : L2.St} {D D' : Ends} {H H1 : Hp} {F F1 : Addr → Prop} {fp f1 gp g : List Addr} {x : R Fl} {r r1 : Rho}

theorem GoalS.base {pu : Bool} (h : GoalS C B W fx s D H F gp x) (k : Keeps fx s s1) (a : Stp pu H F gp H1 F1 f1) (hg : ∀ y ∈ g, y ∈ f1) : GoalS C B W fx s1 D H1 F1 g x := by
  have t : ∀ {H' F' f'}, Stp false H1 F1 g H' F' f' → Stp false H F gp H' F' f' := fun b => (a.trans hg b).weak fun z => by cases z
  cases x with
  | ok f r =>
    cases f with
    | nx => exact fun s' H' F' fp' k' S b => h s' H' F' fp' (k.trans k') S (t b)
    | bk => exact fun s' H' F' fp' k' S b => h s' H' F' fp' (k.trans k') S (t b)
    | ct => exact fun s' H' F' fp' k' S b => h s' H' F' fp' (k.trans k') S (t b)
    | rt d => exact fun v s' H' F' fp' fq k' S R I b => h v s' H' F' fp' fq (k.trans k') S R I (t b)
  | exc c fs r => exact fun cls d s' H' F' fp' k' S e b => h cls d s' H' F' fp' (k.trans k') S e (t b)
  | bad => exact h
/-- over the same heap, fewer slots -/
theorem GoalS.less (h : GoalS C B W fx s D H F gp x) (k : Keeps fx s s1) (hg : ∀ y ∈ g, y ∈ gp) : GoalS C B W fx s1 D H F g x := h.base (pu := true) k Stp.refl hg
theorem GoalS.nx (h : GoalS C B W fx s D H F gp (.ok .nx r)) (S : Sd C B H F r s1 fp) (k : Keeps fx s s1) (hs : ∀ a ∈ fp, a ∈ gp) : D.nx s1 H := h s1 H F fp k S ((Stp.refl.weak fun z => by cases z).less hs)
/-- an expression ahead of the rest -/
theorem GoalS.ofE {α β : Type} {P : Rp α β} {pu iv : Bool} {Q : β → Hp → Prop} {y : R α} {k : α → Rho → R Fl} (hs : ∀ a ∈ fp, a ∈ gp) (h : GoalS C B W fx s D H F gp (y.bind k))
    (hk : ∀ d r1 v H1 F1 f1 fq, y = .ok d r1 → At C B P pu iv H F fp s H1 F1 r1 f1 fq d v → GoalS C B W fx s D H1 F1 (f1 ++ fq ++ gp) (k d r1) → Q v H1) : Goal C B W P pu iv s Q H F fp y := by
  cases e : y with
  | ok d r1 =>
    rw [e] at h
    intro v H1 F1 f1 fq S1 R1 I1 b
    exact hk d r1 v H1 F1 f1 fq e ⟨S1, R1, I1, b⟩ (GoalS.base (show GoalS C B W fx s D H F gp (k d r1) from h) Keeps.refl (b.more hs) fun _ z => z)
  | exc c fs r1 =>
    rw [e] at h
    intro cls d H1 F1 f1 S1 e1 b
    exact h cls d s H1 F1 f1 Keeps.refl S1 e1 ((b.wide hs).weak fun z => by cases z)
  | bad =>
    rw [e] at h
    exact h
theorem tS_ex {α β : Type} {P : Rp α β} {pu iv : Bool} {Q : β → Hp → Prop} {ev : Rho → R α} {k : α → Rho → R Fl} (S : Sd C B H F r s fp) (hs : ∀ a ∈ fp, a ∈ gp) (h : GoalS C B W fx s D H F gp ((ev r).bind k))
    (hk : ∀ d r1 v H1 F1 f1 fq, ev r = .ok d r1 → At C B P pu iv H F fp s H1 F1 r1 f1 fq d v → GoalS C B W fx s D H1 F1 (f1 ++ fq ++ gp) (k d r1) → Q v H1) : tX C B W P pu iv ev s H Q :=
  ⟨r, F, fp, fp, S, fun _ z => z, GoalS.ofE hs h hk⟩
/-- a statement ahead of the rest -/
theorem GoalS.seq {y : R Fl} {k : Fl → Rho → R Fl} {ev : Rho → R Fl} (hk : k = fun f r => match f with | .nx => ev r | f => .ok f r) (hD : D' = { D with nx := tS C B W fx ev D }) (h : GoalS C B W fx s D H F gp (y.bind k)) : GoalS C B W fx s D' H F gp y := by
  subst hk hD
  cases y with
  | ok f r =>
    cases f with
    | nx => exact fun s' H' F' fp' k' S b => ⟨r, F', fp', fp', S, fun _ z => z, GoalS.base (show GoalS C B W fx s D H F gp (ev r) from h) k' b fun _ z => z⟩
    | bk => exact h
    | ct => exact h
    | rt d => exact h
  | exc c fs r => exact h
  | bad => exact h
end

section
variable {G : Gm} {C : RC} {cf : Str → List D → FR} {wf : Nat} {sc : Scope} {hot : Bool} {X : Cx} {W : WX} {B : Addr → Prop} {fx : List Nat}
variable (G C cf wf W B fx) in
abbrev mS (st : S) : TS := tS C B W fx (evS G cf wf st)
variable (G C cf wf W B fx) in
abbrev mSs (st : Ss) : TS := tS C B W fx (evSs G cf wf st)

/-- a while -/
theorem while_ok {tc : TT} {tb : TS} {t : T} {b : Ss} {D : Ends} {s : L2.St} {H : Hp} (hc : ∀ s H Q, mT G C cf W B t s H Q → tc s H Q) (hb : ∀ D s H, mSs G C cf wf W B fx b D s H → tb D s H)
    (h : tS C B W fx (whileN (evT G cf t) (evSs G cf wf b) wf) D s H) : tWhile tc tb D s H := by
  obtain ⟨r, F, fp, gp, S, hs, g⟩ := h
  refine ⟨fun m σ H => ∃ r F fp, Sd C B H F r σ fp ∧ GoalS C B W fx σ D H F fp (whileN (evT G cf t) (evSs G cf wf b) m r), ⟨wf, r, F, fp, S, g.less Keeps.refl hs⟩, ?_⟩
  rintro m σ H ⟨r, F, fp, S, g⟩
  cases m with
  | zero => exact False.elim g
  | succ n =>
    refine hc _ _ _ (tS_ex (k := fun x r => match isBl x with
      | some true => (evSs G cf wf b r).bind fun f r => match f with
        | .nx => whileN (evT G cf t) (evSs G cf wf b) n r
        | .ct => whileN (evT G cf t) (evSs G cf wf b) n r
        | .bk => .ok .nx r
        | .rt d => .ok (.rt d) r
      | some false => .ok .nx r
      | none => .bad) S (fun _ z => z) g fun d1 r1 v1 H1 F1 f1 q1 e1 a1 g1 => ?_)
    obtain ⟨rfl, _⟩ := a1.rep
    cases v1 with
    | false =>
      rw [if_neg Bool.false_ne_true]
      exact GoalS.nx g1 a1.sd Keeps.refl a1.f1_gp
    | true =>
      rw [if_pos rfl]
      refine ⟨fun σ' H' => ∃ r F fp, Sd C B H' F r σ' fp ∧ GoalS C B W fx σ' D H' F fp (whileN (evT G cf t) (evSs G cf wf b) n r), fun σ' H' h => ⟨n, Nat.lt_succ_self n, h⟩, hb _ _ _ ⟨r1, F1, f1, f1, a1.sd, fun _ z => z, ?_⟩⟩
      have g1 : GoalS C B W fx σ D H1 F1 f1 ((evSs G cf wf b r1).bind fun f r => match f with
        | .nx => whileN (evT G cf t) (evSs G cf wf b) n r
        | .ct => whileN (evT G cf t) (evSs G cf wf b) n r
        | .bk => .ok .nx r
        | .rt d => .ok (.rt d) r) := GoalS.less g1 Keeps.refl a1.f1_gp
      cases eb : evSs G cf wf b r1 with
      | bad =>
        rw [eb] at g1
        exact g1
      | exc c fs r2 =>
        rw [eb] at g1
        exact g1
      | ok f r2 =>
        rw [eb] at g1
        cases f with
        | nx => exact fun s' H' F' fp' k S b => ⟨r2, F', fp', S, GoalS.base g1 k b fun _ z => z⟩
        | ct => exact fun s' H' F' fp' k S b => ⟨r2, F', fp', S, GoalS.base g1 k b fun _ z => z⟩
        | bk => exact g1
        | rt d => exact g1
/-- a for -/
theorem for_ok {wi : TI} {tb : TS} {t : Tg} {src : Sr} {b : Ss} {D : Ends} {s : L2.St} {H : Hp} (cx : Ctx G C cf sc hot X W) (hfx : ∀ i ∈ tgs t, i ∉ fx) (hi : ∀ s H Q, mSr G C cf W B src s H Q → wi s H Q) (hb : ∀ D s H, mSs G C cf wf W B fx b D s H → tb D s H)
    (h : mS G C cf wf W B fx (.fors t src b) D s H) : tFor wi (gT X.K t) tb D s H := by
  obtain ⟨r, F, fp, gp, S, hs, g⟩ := h
  refine hi _ _ _ (tS_ex (k := fun xs r => forN t (evSs G cf wf b) xs r) S hs g fun xs r1 J H1 F1 f1 fq e1 a1 g1 => ?_)
  obtain ⟨dss, vs, rr, so⟩ := a1.rep
  refine ⟨fun i m σ H => ∃ r F fp, Sd C B H F r σ fp ∧ Reps C H F B dss vs fq ∧ Fly F B fp fq ∧ i ≤ xs.length ∧ m = xs.length - i ∧ GoalS C B W fx σ D H F (fp ++ fq) (forN t (evSs G cf wf b) (xs.drop i) r),
    ⟨xs.length, r1, F1, f1, a1.sd, rr, a1.iv rfl, Nat.zero_le _, by simp, g1.less Keeps.refl fun y hy => List.mem_append_left _ hy⟩, ?_⟩
  rintro i m σ H ⟨r, F, fp, S, rr, fl, hle, rfl, g⟩
  obtain ⟨s1, s2, s3⟩ := so H F fq rr
  by_cases hlt : i < xs.length
  · refine .inr ⟨s1 i hlt, fun σ' H' => ∃ r F fp, Sd C B H' F r σ' fp ∧ Reps C H' F B dss vs fq ∧ Fly F B fp fq ∧ GoalS C B W fx σ' D H' F (fp ++ fq) (forN t (evSs G cf wf b) (xs.drop (i + 1)) r), fun σ' H' ⟨r, F, fp, S, rr, fl, g⟩ => ⟨xs.length - (i + 1), by omega, r, F, fp, S, rr, fl, hlt, rfl, g⟩, fun x H' y => ?_⟩
    have ei : xs[i]? = some xs[i] := List.getElem?_eq_getElem hlt
    obtain ⟨ext, rx⟩ := s3 i _ x H' ei y
    have st : Stp true H F (fp ++ fq) H' F (fp ++ fq) := ⟨fun a o e _ => ext a o e, fun a ha => .inl ha, fun _ z => z, fun _ z => .inl z⟩
    have fd' : ∀ x, F x → H' x ≠ none := fun x hx e => by
      cases q : H x with
      | none => exact S.fd x hx q
      | some o =>
        rw [ext x o q] at e
        cases e
    have st0 : Stp true H F fp H' F fp := ⟨fun a o e _ => ext a o e, fun a ha => .inl ha, fun _ z => z, fun _ z => .inl z⟩
    have S' := S.pure st0 S.fF fd'
    have rr' : Reps C H' F B dss vs fq := S.carrys st0 rr (.inl rfl)
    have g' := g.base (g := fp ++ fq) Keeps.refl st fun _ z => z
    rw [List.drop_eq_getElem_cons hlt] at g'
    have g' : GoalS C B W fx σ D H' F (fp ++ fq) (match setT t xs[i] r with
      | some r1 => (evSs G cf wf b r1).bind fun f r => match f with
        | .nx => forN t (evSs G cf wf b) (xs.drop (i + 1)) r
        | .ct => forN t (evSs G cf wf b) (xs.drop (i + 1)) r
        | .bk => .ok .nx r
        | .rt d => .ok (.rt d) r
      | none => .bad) := g'
    cases es : setT t xs[i] r with
    | none =>
      rw [es] at g'
      exact False.elim g'
    | some r2 =>
      rw [es] at g'
      refine setT_ok cx.hK t es S' rx (Fly.nil S'.nd) fun σ2 fp2 S2 m2 k2 => ?_
      have m2 : ∀ x ∈ fp2, x ∈ fp := fun x hx => (m2 x hx).elim id fun z => absurd z (by simp)
      have kp : Keeps fx σ σ2 := fun j hj => k2 j fun z => hfx j z hj
      have fl2 : Fly F B fp2 fq := ⟨List.nodup_append.mpr ⟨S2.nd, (List.nodup_append.mp fl.nd).2.1, fun x hx w hw e => (List.nodup_append.mp fl.nd).2.2 x (m2 x hx) w hw e⟩, fl.nF, fl.nB⟩
      refine hb _ _ _ ⟨r2, F, fp2, fp2, S2, fun _ z => z, ?_⟩
      have g2 : GoalS C B W fx σ2 D H' F (fp2 ++ fq) ((evSs G cf wf b r2).bind fun f r => match f with
        | .nx => forN t (evSs G cf wf b) (xs.drop (i + 1)) r
        | .ct => forN t (evSs G cf wf b) (xs.drop (i + 1)) r
        | .bk => .ok .nx r
        | .rt d => .ok (.rt d) r) := GoalS.less g' kp fun y hy => (List.mem_append.mp hy).elim (fun z => List.mem_append_left _ (m2 y z)) fun z => List.mem_append_right _ z
      have g3 : GoalS C B W fx σ2 D H' F fp2 ((evSs G cf wf b r2).bind fun f r => match f with
        | .nx => forN t (evSs G cf wf b) (xs.drop (i + 1)) r
        | .ct => forN t (evSs G cf wf b) (xs.drop (i + 1)) r
        | .bk => .ok .nx r
        | .rt d => .ok (.rt d) r) := GoalS.less g2 Keeps.refl fun y hy => List.mem_append_left _ hy
      have again : ∀ {k : R Fl} {s' : L2.St} {H2 : Hp} {F2 : Addr → Prop} {f2 : List Addr} {r3 : Rho}, GoalS C B W fx σ2 D H' F (fp2 ++ fq) k → Keeps fx σ2 s' → Sd C B H2 F2 r3 s' f2 → Stp false H' F fp2 H2 F2 f2 →
          Reps C H2 F2 B dss vs fq ∧ Fly F2 B f2 fq ∧ GoalS C B W fx s' D H2 F2 (f2 ++ fq) k := fun {k s' H2 F2 f2 r3} gk kk S3 a => by
        have fl3 : Fly F2 B f2 fq := by
          have := Fly.carry (fq := []) S2 (by rw [List.append_nil]; exact a) fl2 rr'.there (Fly.nil S3.nd)
          rwa [List.append_nil] at this
        refine ⟨S2.carrys a rr' (.inr fl2.apart), fl3, gk.base kk (a.more (gp := fp2 ++ fq) fun y hy => List.mem_append_left _ hy) fun y hy => ?_⟩
        rcases List.mem_append.mp hy with z | z
        · exact List.mem_append_left _ z
        · exact List.mem_append_right _ (List.mem_append_right _ z)
      cases eb : evSs G cf wf b r2 with
      | bad =>
        rw [eb] at g3
        exact g3
      | exc c fs r3 =>
        rw [eb] at g3
        exact g3
      | ok f r3 =>
        rw [eb] at g2 g3
        cases f with
        | nx =>
          refine fun s' H2 F2 f2 k S3 a => ?_
          obtain ⟨x1, x2, x3⟩ := again g2 k S3 a
          exact ⟨r3, F2, f2, S3, x1, x2, x3⟩
        | ct =>
          refine fun s' H2 F2 f2 k S3 a => ?_
          obtain ⟨x1, x2, x3⟩ := again g2 k S3 a
          exact ⟨r3, F2, f2, S3, x1, x2, x3⟩
        | bk => exact g3
        | rt d => exact g3
  · have e : i = xs.length := by omega
    subst e
    rw [List.drop_length] at g
    exact .inl ⟨s2 _ (Nat.le_refl _), GoalS.nx (show GoalS C B W fx σ D H F (fp ++ fq) (.ok .nx r) from g) S Keeps.refl fun y hy => List.mem_append_left _ hy⟩
end
end PI
set_option maxRecDepth 100000
set_option maxHeartbeats 4000000
/-! PI16: statements, one by one. -/
namespace PI
open PySem PySem.Spec PyProof.Rows L2

def isComp : Expr → Bool
  | .ListComp _ _ _ _ => true
  | .SetComp _ _ _ _ => true
  | .DictComp _ _ _ _ _ => true
  | _ => false
def isTupE : Expr → Bool
  | .Tuple _ _ _ => true
  | .List _ _ => true
  | _ => false
/-- the value is stored behind its making, by one store -/
def plainSet (tg x : Expr) : Bool := !isComp x && (!isTupE tg || !isTupE x)
/-- a comprehension stored under a name that a block sees -/
def cellComp (sc : Scope) : Expr → Expr → Bool
  | .Name n _, .ListComp _ _ _ _ => decide (sc.names.lookup n = some .cell)
  | _, _ => false
theorem sw_plain {x : Expr} {t : Option Expr} {l : Nat} {env : Env} (h : isComp x = false) : swapsWith x t l env = pure false := by
  cases x <;> first
    | rfl
    | cases h
theorem ss_plain {tg x : Expr} {env : Env} (h : (!isTupE tg || !isTupE x) = true) : swappedStores [tg] x env = pure none := by
  cases tg <;> first
    | rfl
    | (cases x <;> first
        | rfl
        | cases h)
theorem int_add {a b : D} {z : Int} (h : binD .add a b = some (.int z)) : ∃ j k, a = .int j ∧ b = .int k ∧ z = j + k := by
  cases a <;> cases b <;> first
    | (cases h; exact ⟨_, _, rfl, rfl, rfl⟩)
    | cases h
    | (simp only [binD] at h
       split at h <;> cases h)
theorem int_sub {a b : D} {z : Int} (h : binD .sub a b = some (.int z)) : ∃ j k, a = .int j ∧ b = .int k ∧ z = j - k := by
  cases a <;> cases b <;> first
    | (cases h; exact ⟨_, _, rfl, rfl, rfl⟩)
    | cases h
/-- where statements stand -/
structure SCx (G : Gm) (C : RC) (cf : Str → List D → FR) (sc : Scope) (hot : Bool) (X : Cx) (W : WX) : Prop extends Ctx G C cf sc hot X W where
  own : hot = false → PassesOwn (model X.prog X.w) X.A X.env X.xe
  stk : X.stack = X.env :: X.outer
  frm : X.env.frame = some X.env.locals
  kind : X.env.scope.kind = .function

section
variable {G : Gm} {C : RC} {cf : Str → List D → FR} {wf : Nat} {sc : Scope} {hot : Bool} {X : Cx} {W : WX} {B : Addr → Prop} {fx : List Nat}
variable {e : E} {x y : Expr} {pos : Pos}

def fixTg (fx : List Nat) (t : Tg) : Bool := (tgs t).all fun i => !fx.contains i
theorem fixTg_ok {t : Tg} (h : fixTg fx t = true) : ∀ i ∈ tgs t, i ∉ fx := fun i hi hm => by
  have h1 := List.all_eq_true.mp h i hi
  rw [Bool.not_eq_true'] at h1
  have h2 : fx.contains i = true := List.contains_iff_mem.mpr hm
  rw [h2] at h1
  cases h1
theorem nofix {i : Nat} (h : (!fx.contains i) = true) : i ∉ fx := fun hm => by
  rw [Bool.not_eq_true', List.contains_iff_mem.mpr hm] at h
  cases h
theorem set_go {t : Tg} {D : Ends} {s : L2.St} {H : Hp} (hK : C.K = X.K) (hi : iv e = true) (hf : fixTg fx t = true) (h : mS G C cf wf W B fx (.set t e) D s H) : mE G C cf W B e s H fun v H1 => gT X.K t v s H1 D.nx := by
  obtain ⟨r, F, fp, gp, S, hs, g⟩ := h
  refine tS_ex (k := fun d r => match setT t d r with
    | some r1 => .ok .nx r1
    | none => .bad) S hs g fun d r1 v H1 F1 f1 fq e1 a1 g1 => ?_
  cases es : setT t d r1 with
  | none =>
    rw [es] at g1
    exact False.elim g1
  | some r2 =>
    rw [es] at g1
    refine setT_ok hK t es a1.sd a1.rep (a1.iv hi) fun s' fp' S' m k => ?_
    exact GoalS.nx g1 S' (fun j hj => k j fun z => fixTg_ok hf j z hj) fun a ha => (m a ha).elim (a1.f1_gp a) (a1.fq_gp a)
theorem sw_of (cx : SCx G C cf sc hot X W) {tg : Expr} {l : Nat} (hp : (plainSet tg x || cellComp sc tg x) = true) : swapsWith x (some tg) l X.env = pure false ∧ swappedStores [tg] x X.env = pure none := by
  rcases Bool.or_eq_true_iff.mp hp with h | h
  · obtain ⟨h1, h2⟩ := and2 h
    rw [Bool.not_eq_true'] at h1
    exact ⟨sw_plain h1, ss_plain h2⟩
  · cases tg with
    | Name n p =>
      cases x with
      | ListComp u gs scope lp =>
        have hc := (cx.cel n (of_decide_eq_true h)).1
        have hk : X.env.kindOf n = some .cell := hc
        refine ⟨?_, rfl⟩
        unfold swapsWith
        simp only [hk]
        have e : ((some NameKind.cell : Option NameKind) == some NameKind.local) = false := by decide
        rw [e, Bool.and_false, Bool.false_and, Bool.false_and]
      | _ => cases h
    | _ => cases h
theorem c_set (cx : SCx G C cf sc hot X W) {t : Tg} {tg : Expr} (hp : (plainSet tg x || cellComp sc tg x) = true) (hi : iv e = true) (hf : fixTg fx t = true) (ht : chkTg X.N sc hot t tg = true) (he : PE X x (mE G C cf W B e)) : PS X (.Assign [tg] x pos) (mS G C cf wf W B fx (.set t e)) := by
  obtain ⟨h1, h2⟩ := sw_of (l := pos.line) cx hp
  refine PS.imp (ps_asg he (pg_ok cx.toCtx t tg ht) h1 h2 ?_) fun D s H h => set_go cx.hK hi hf h
  have ns := chkTg_star ht
  cases tg <;> first
    | rfl
    | cases ns
theorem c_asgc (cx : SCx G C cf sc false X W) {i : Nat} {z : Bool} {n : Str} {np lp : Pos} {elt : E} {tt : Tg} {src : Sr} {cond : Ot} {own : List (Str × Nat)} {u : Expr} {scope : Scope} {tg it : Expr} {ifs : List Expr}
    (hN : X.N[i]? = some n) (hl : sc.names.lookup n = some .local) (hf : fixTg fx (.nm i) = true) (hline : (np.line == lp.line) = true) (ha : (scope.names.any fun (m, k) => m == n && (k == .local || k == .cell)) = false)
    (hb : blkC X.N sc scope own = true) (hti : tgIn own tt = true) (hset : notSet it = true) (h1 : PI X tg it (mSr G C cf W B src)) (h2 : ∀ s H Ca cl fp, PG (X.blk s H scope (compEnvC scope cl Ca X.env) fp) tg (gT X.K tt))
    (h3 : ∀ s H Ca cl fp, PTs (X.blk s H scope (compEnvC scope cl Ca X.env) fp) ifs (mC G C cf W0 B cond)) (h4 : ∀ s H Ca cl fp, PE (X.blk s H scope (compEnvC scope cl Ca X.env) fp) u (mE G C cf W0 B elt)) :
    PS X (.Assign [.Name n np] (.ListComp u [⟨tg, it, ifs, 0⟩] scope lp) pos) (mS G C cf wf W B fx (.asgc i z (.cmpr elt tt src cond own))) := by
  refine PS.imp (ps_setLc (cx.calm rfl) cx.nd hN (cx.loc n hl) (sw_true cx.kind (cx.loc n hl) hline ha) h1 (cx.toCtx.blkOk hb) h2 h3 h4 (set_ok hset X.env)) fun D s H h => ?_
  cases z with
  | false =>
    have h' : mS G C cf wf W B fx (.set (.nm i) (.cmpr elt tt src cond own)) D s H := h
    exact lc_ok cx.toCtx hti (set_go (X := X) cx.hK rfl hf h')
  | true =>
    have h' : mS G C cf wf W B fx (.set (.nm i) (.fz (.cmpr elt tt src cond own))) D s H := h
    exact lc_ok cx.toCtx hti (fz_imp rfl (set_go (X := X) cx.hK rfl hf h'))
theorem c_dro (hp : isComp x = false) (he : PE X x (mE G C cf W B e)) : PS X (.Expr x pos) (mS G C cf wf W B fx (.dro e)) :=
  PS.imp (ps_expr he (sw_plain hp)) fun D s H ⟨r, F, fp, gp, S, hs, g⟩ => tS_ex (k := fun _ r => .ok .nx r) S hs g fun d r1 v H1 F1 f1 fq e1 a1 g1 => GoalS.nx g1 a1.sd Keeps.refl a1.f1_gp
theorem c_ret (hi : iv e = true) (he : PE X x (mE G C cf W B e)) : PS X (.Return (some x) pos) (mS G C cf wf W B fx (.ret e)) :=
  PS.imp (ps_ret he) fun D s H ⟨r, F, fp, gp, S, hs, g⟩ => tS_ex (k := fun d r => .ok (.rt d) r) S hs g fun d r1 v H1 F1 f1 fq e1 a1 g1 =>
    (show GoalS C B W fx s D H1 F1 (f1 ++ fq ++ gp) (.ok (.rt d) r1) from g1) v s H1 F1 f1 fq Keeps.refl a1.sd a1.rep (a1.iv hi) ((Stp.refl.weak fun z => by cases z).less fun a ha => List.mem_append_left _ ha)
theorem c_retn : PS X (.Return none pos) (mS G C cf wf W B fx .retn) :=
  PS.imp ps_retN fun D s H ⟨r, F, fp, gp, S, hs, g⟩ => (show GoalS C B W fx s D H F gp (.ok (.rt .non) r) from g) .non s H F fp [] Keeps.refl S ⟨rfl, rfl⟩ (Fly.nil S.nd) ((Stp.refl.weak fun z => by cases z).less fun a ha => hs a (by simpa using ha))
theorem end_stp {H : Hp} {F : Addr → Prop} {fp gp : List Addr} (hs : ∀ a ∈ fp, a ∈ gp) : Stp false H F gp H F fp := (Stp.refl.weak fun z => by cases z).less hs
theorem c_brk : PS X (.Break pos) (mS G C cf wf W B fx .brk) := PS.imp ps_break fun D s H ⟨r, F, fp, gp, S, hs, g⟩ => (show GoalS C B W fx s D H F gp (.ok .bk r) from g) s H F fp Keeps.refl S (end_stp hs)
theorem c_cnt : PS X (.Continue pos) (mS G C cf wf W B fx .cnt) := PS.imp ps_continue fun D s H ⟨r, F, fp, gp, S, hs, g⟩ => (show GoalS C B W fx s D H F gp (.ok .ct r) from g) s H F fp Keeps.refl S (end_stp hs)
theorem c_pas : PS X (.Pass pos) (mS G C cf wf W B fx .pas) := PS.imp ps_pass fun D s H ⟨r, F, fp, gp, S, hs, g⟩ => GoalS.nx g S Keeps.refl hs
theorem c_aug (cx : SCx G C cf sc hot X W) {i : Nat} {n : Str} {o : Bop} {p : Operator} {np : Pos} (hN : X.N[i]? = some n) (hl : locB sc n = true) (hf : i ∉ fx) (ho : o = .add ∨ o = .sub) (hp : isB o p = true) (he : PE X x (mE G C cf W B e)) :
    PS X (.AugAssign (.Name n np) p x pos) (mS G C cf wf W B fx (.aug i o e)) := by
  have hloc : Loc X.env.scope n ∧ (X.fn n = true ∨ X.env.scope.names.lookup n = some .local) := by
    unfold locB at hl
    cases q : sc.names.lookup n with
    | none =>
      rw [q] at hl
      cases hl
    | some k =>
      rw [q] at hl
      cases k with
      | «local» => exact ⟨.inl (cx.loc n q), .inr (cx.loc n q)⟩
      | cell => exact ⟨.inr (cx.cel n q).1, .inl (cx.cel n q).2⟩
      | _ => cases hl
  have fin : ∀ (f : Int → Int → Int), (∀ a b z, binD o a b = some (.int z) → ∃ j k, a = .int j ∧ b = .int k ∧ z = f j k) → ∀ D s H, mS G C cf wf W B fx (.aug i o e) D s H → tAug i (mE G C cf W B e) (ipI f) D s H := by
    intro f hf2 D s H ⟨r, F, fp, gp, S, hs, g⟩
    have g : GoalS C B W fx s D H F gp (match r[i]? with
      | some (some x) => (evE G cf e r).bind fun y r => match binD o x y with
        | some (.int z) => .ok .nx (r.set i (some (.int z)))
        | _ => .bad
      | _ => .bad) := g
    cases q : r[i]? with
    | none =>
      rw [q] at g
      exact False.elim g
    | some w =>
      rw [q] at g
      cases w with
      | none => exact False.elim g
      | some d =>
        obtain ⟨v, ff, e1, e2, _⟩ := S.sl.get q
        refine ⟨v, e1, tS_ex (k := fun y r => match binD o d y with
          | some (.int z) => .ok .nx (r.set i (some (.int z)))
          | _ => .bad) S hs g fun d1 r1 v1 H1 F1 f1 fq ee a1 g1 => ?_⟩
        cases eb : binD o d d1 with
        | none =>
          rw [eb] at g1
          exact False.elim g1
        | some z =>
          rw [eb] at g1
          cases z with
          | int z =>
            obtain ⟨j, k, rfl, rfl, rfl⟩ := hf2 _ _ _ eb
            obtain ⟨rv, _⟩ := e2
            have rw1 : v1 = .int k := a1.rep.1
            obtain ⟨f', S', m⟩ := a1.sd.put (d := .int (f j k)) (v := .int (f j k)) (fq := []) ⟨rfl, rfl⟩ (Fly.nil a1.sd.nd) i
            exact ⟨j, k, rv, rw1, GoalS.nx g1 S' (Keeps.set hf) fun a ha => (m a ha).elim (a1.f1_gp a) fun z => absurd z (by simp)⟩
          | _ => exact False.elim g1
  rcases ho with rfl | rfl
  · rw [isB_ok hp]
    exact PS.imp (ps_aug cx.nd hN hloc.1 he ip_add hloc.2) (fin (fun a b => a + b) fun a b z h => int_add h)
  · rw [isB_ok hp]
    exact PS.imp (ps_aug cx.nd hN hloc.1 he ip_sub hloc.2) (fin (fun a b => a - b) fun a b z h => int_sub h)
end
end PI
set_option maxRecDepth 100000
set_option maxHeartbeats 4000000
/-! PI17: statements that change a list in a slot. -/
namespace PI
open PySem PySem.Spec PyProof.Rows L2

section
variable {C : RC} {H : Hp} {F B : Addr → Prop}
theorem Reps.rev : ∀ {ds : List D} {vs : List V} {f : List Addr}, Reps C H F B ds vs f → ∃ g, Reps C H F B ds.reverse vs.reverse g ∧ g.Perm f
  | [], _, _, h => by
    obtain ⟨rfl, rfl⟩ := h
    exact ⟨[], ⟨rfl, rfl⟩, List.Perm.refl _⟩
  | d :: ds, _, _, h => by
    obtain ⟨v, vr, f1, f2, rfl, r1, r2, rfl⟩ := h
    obtain ⟨g, h1, h2⟩ := Reps.rev r2
    refine ⟨g ++ f1, ?_, (h2.append_right f1).trans List.perm_append_comm⟩
    rw [List.reverse_cons, List.reverse_cons]
    exact Reps.append h1 (Reps.one r1)
/-- one part changed -/
theorem Reps.put : ∀ {ds : List D} {vs : List V} {f fq : List Addr} {n : Nat} {d : D} {v : V}, Reps C H F B ds vs f → n < ds.length → Rep C H F B d v fq → ∃ g k, Reps C H F B (ds.set n d) (vs.set n v) g ∧ g.Perm (fq ++ k) ∧ k.Sublist f
  | [], _, _, _, _, _, _, _, hn, _ => absurd hn (by simp)
  | d0 :: ds, _, _, fq, 0, d, v, h, _, hr => by
    obtain ⟨v0, vr, f1, f2, rfl, r1, r2, rfl⟩ := h
    exact ⟨fq ++ f2, f2, ⟨v, vr, fq, f2, rfl, hr, r2, rfl⟩, List.Perm.refl _, List.sublist_append_right _ _⟩
  | d0 :: ds, _, _, fq, n + 1, d, v, h, hn, hr => by
    obtain ⟨v0, vr, f1, f2, rfl, r1, r2, rfl⟩ := h
    obtain ⟨g, k, h1, h2, h3⟩ := Reps.put (n := n) r2 (by simpa using hn) hr
    refine ⟨f1 ++ g, f1 ++ k, ⟨v0, vr.set n v, f1, g, rfl, r1, h1, rfl⟩, ?_, List.Sublist.append (List.Sublist.refl _) h3⟩
    refine (h2.append_left f1).trans ?_
    rw [← List.append_assoc, ← List.append_assoc]
    exact List.perm_append_comm.append_right k
end

section
variable {G : Gm} {C : RC} {cf : Str → List D → FR} {wf : Nat} {sc : Scope} {hot : Bool} {X : Cx} {W : WX} {B : Addr → Prop} {fx : List Nat}
variable {e ei : E} {x y : Expr} {pos : Pos}

theorem slot_lst {r : Rho} {i : Nat} {α : Type} {k : List D → R α} {P : R α → Prop} (hb : ¬ P .bad) (h : P (match r[i]? with | some (some (.lst .own ds)) => k ds | _ => .bad)) : ∃ ds, r[i]? = some (some (.lst .own ds)) ∧ P (k ds) := by
  split at h
  · rename_i ds q
    exact ⟨ds, q, h⟩
  · exact absurd h hb
theorem c_app (cx : SCx G C cf sc hot X W) {i : Nat} {n : Str} {np apos cp : Pos} (hs : slotB X.N sc i n = true) (hline : (apos.endLine == cp.line) = true) (hi : iv e = true) (hn : notStar x = true) (he : PE X x (mE G C cf W B e)) :
    PS X (.Expr (.Call (.Attribute (.Name n np) "append" apos) [x] [] cp) pos) (mS G C cf wf W B fx (.app i e)) := by
  have hst : starEach (x :: []) X.env = (false, eval x X.env) :: starEach [] X.env := star_cons hn
  have hfew : ((backTo cp (starEach (x :: []) X.env)).all (fun x => !x.1) && (backToKw cp (keywordEach [] X.env)).all (fun x => x.1.isSome) && decide ((x :: ([] : List Expr)).length + ([] : List Keyword).length + (if ([] : List Keyword).isEmpty then 0 else 1) < 30)) = true := by
    rw [hst]
    rfl
  refine PS.imp (ps_expr (pe_bm PySem.F.plainAttrs_list PySem.F.slot_list_append PySem.F.type_list_append mt_append (cx.toCtx.pv hs) (pa_cons he pa_nil hst) rfl hfew hline hst rfl) rfl) fun D s H ⟨r, F, fp, gp, S, hs, g⟩ => ?_
  obtain ⟨ds0, q0, g⟩ := slot_lst (P := GoalS C B W fx s D H F gp) (fun z => z) (show GoalS C B W fx s D H F gp (match r[i]? with
    | some (some (.lst .own _)) => (evE G cf e r).bind fun d r => match r[i]? with
      | some (some (.lst .own ds)) => if szlt ds.length then .ok .nx (r.set i (some (.lst .own (ds ++ [d])))) else .bad
      | _ => .bad
    | _ => .bad) from g)
  obtain ⟨l, vs0, fq0, g0, e1, t0, _⟩ := S.mut q0
  refine ⟨.ref l, e1, ty_list t0, tS_ex (k := fun d r => match r[i]? with
      | some (some (.lst .own ds)) => if szlt ds.length then .ok .nx (r.set i (some (.lst .own (ds ++ [d])))) else .bad
      | _ => .bad) S hs g fun d r1 v H1 F1 f1 q1 ee a1 g1 => ?_⟩
  obtain ⟨ds, q, g1⟩ := slot_lst (P := GoalS C B W fx s D H1 F1 (f1 ++ q1 ++ gp)) (fun z => z) g1
  obtain ⟨l', vs, fq, g', e2, t, rr, lm, fm, gm, lg, lq, fl, k⟩ := a1.sd.mut q
  rw [e1] at e2
  cases e2
  by_cases hz : szlt ds.length = true
  · rw [if_pos hz] at g1
    have fy := a1.iv hi
    have nx := List.nodup_append.mp fy.nd
    have nl := List.nodup_append.mp fl.nd
    have out : ∀ a ∈ q1, a ∉ f1 := fun a ha hm => nx.2.2 a hm a ha rfl
    obtain ⟨f', S3, p3⟩ := k (ds ++ [d]) (vs ++ [v]) (fq ++ q1) (Reps.append rr (Reps.one a1.rep)) ⟨List.nodup_append.mpr ⟨nl.1, List.nodup_append.mpr ⟨nl.2.1, nx.2.1, fun a ha b hb e => out b hb (by rw [← e]; exact fm a ha)⟩, fun a ha b hb e => by
      subst e
      rcases List.mem_append.mp hb with z | z
      · exact nl.2.2 a ha a z rfl
      · exact out a z (gm a ha)⟩, fun a ha => (List.mem_append.mp ha).elim (fl.nF a) (fy.nF a), fun a ha => (List.mem_append.mp ha).elim (fl.nB a) (fy.nB a)⟩ (fun z => (List.mem_append.mp z).elim lq fun w => out l w lm)
    refine ⟨l, vs, v, rfl, rfl, t, ?_, ?_⟩
    · rw [← rr.length]
      exact of_decide_eq_true hz
    · exact (show GoalS C B W fx s D H1 F1 (f1 ++ q1 ++ gp) (.ok .nx (r1.set i (some (.lst .own (ds ++ [d]))))) from g1) s _ F1 f' Keeps.refl S3 (stp_at (a1.f1_gp l lm) fun a ha => by
        rcases List.mem_append.mp (p3.mem_iff.mp ha) with z | z
        · rcases List.mem_cons.mp z with z | z
          · rw [z]
            exact a1.f1_gp l lm
          · rcases List.mem_append.mp z with z | z
            · exact a1.f1_gp a (fm a z)
            · exact a1.fq_gp a z
        · exact a1.f1_gp a (gm a z))
  · rw [if_neg hz] at g1
    exact False.elim g1
theorem c_ext (cx : SCx G C cf sc hot X W) {i : Nat} {n : Str} {np apos cp : Pos} (hs : slotB X.N sc i n = true) (hline : (apos.endLine == cp.line) = true) (hn : notStar x = true) (he : PE X x (mE G C cf W B e)) :
    PS X (.Expr (.Call (.Attribute (.Name n np) "extend" apos) [x] [] cp) pos) (mS G C cf wf W B fx (.ext i e)) := by
  have hst : starEach (x :: []) X.env = (false, eval x X.env) :: starEach [] X.env := star_cons hn
  have hfew : ((backTo cp (starEach (x :: []) X.env)).all (fun x => !x.1) && (backToKw cp (keywordEach [] X.env)).all (fun x => x.1.isSome) && decide ((x :: ([] : List Expr)).length + ([] : List Keyword).length + (if ([] : List Keyword).isEmpty then 0 else 1) < 30)) = true := by
    rw [hst]
    rfl
  refine PS.imp (ps_expr (pe_bm PySem.F.plainAttrs_list PySem.F.slot_list_extend PySem.F.type_list_extend mt_extend (cx.toCtx.pv hs) (pa_cons he pa_nil hst) rfl hfew hline hst rfl) rfl) fun D s H ⟨r, F, fp, gp, S, hs, g⟩ => ?_
  obtain ⟨ds0, q0, g⟩ := slot_lst (P := GoalS C B W fx s D H F gp) (fun z => z) (show GoalS C B W fx s D H F gp (match r[i]? with
    | some (some (.lst .own _)) => (evE G cf e r).bind fun d r => match r[i]?, d with
      | some (some (.lst .own ds)), .lst m es => if (m != .ro && copyables es) && szl (ds.length + es.length) then .ok .nx (r.set i (some (.lst .own (ds ++ es)))) else .bad
      | _, _ => .bad
    | _ => .bad) from g)
  obtain ⟨l, vs0, fq0, g0, e1, t0, _⟩ := S.mut q0
  refine ⟨.ref l, e1, ty_list t0, tS_ex (k := fun d r => match r[i]?, d with
      | some (some (.lst .own ds)), .lst m es => if (m != .ro && copyables es) && szl (ds.length + es.length) then .ok .nx (r.set i (some (.lst .own (ds ++ es)))) else .bad
      | _, _ => .bad) S hs g fun d r1 v H1 F1 f1 q1 ee a1 g1 => ?_⟩
  split at g1
  · rename_i ds m es q
    by_cases hz : ((m != .ro && copyables es) && szl (ds.length + es.length)) = true
    · rw [if_pos hz] at g1
      obtain ⟨hz1, hz2⟩ := and2 hz
      obtain ⟨hm, hc⟩ := and2 hz1
      obtain ⟨l', vs, fq, g', e2, t, rr, lm, fm, gm, lg, lq, fl, k⟩ := a1.sd.mut q
      rw [e1] at e2
      cases e2
      obtain ⟨b, ws, fw, rfl, tb, rb, _⟩ := a1.rep
      have rb := rb.copy0 hc
      have hb : H1 b = some (.lst ws) := by
        cases m with
        | own => exact tb
        | frz => exact tb.1
        | bor => exact tb.1
        | ro => cases hm
      obtain ⟨f', S3, p3⟩ := k (ds ++ es) (vs ++ ws) (fq ++ []) (Reps.append rr rb) (by rw [List.append_nil]; exact fl) (by rw [List.append_nil]; exact lq)
      refine ⟨l, b, vs, ws, rfl, rfl, t, hb, ?_, ?_⟩
      · rw [← rr.length, ← rb.length]
        exact of_decide_eq_true hz2
      · exact (show GoalS C B W fx s D H1 F1 (f1 ++ q1 ++ gp) (.ok .nx (r1.set i (some (.lst .own (ds ++ es))))) from g1) s _ F1 f' Keeps.refl S3 (stp_at (a1.f1_gp l lm) fun a ha => by
          rw [List.append_nil] at p3
          rcases List.mem_append.mp (p3.mem_iff.mp ha) with z | z
          · rcases List.mem_cons.mp z with z | z
            · rw [z]
              exact a1.f1_gp l lm
            · exact a1.f1_gp a (fm a z)
          · exact a1.f1_gp a (gm a z))
    · rw [if_neg hz] at g1
      exact False.elim g1
  · exact False.elim g1
theorem c_rev (cx : SCx G C cf sc hot X W) {i : Nat} {n : Str} {np apos cp : Pos} (hs : slotB X.N sc i n = true) (hline : (apos.endLine == cp.line) = true) :
    PS X (.Expr (.Call (.Attribute (.Name n np) "reverse" apos) [] [] cp) pos) (mS G C cf wf W B fx (.rev i)) := by
  refine PS.imp (ps_expr (pe_bm0 PySem.F.plainAttrs_list PySem.F.slot_list_reverse PySem.F.type_list_reverse mt_reverse (cx.toCtx.pv hs) rfl hline) rfl) fun D s H ⟨r, F, fp, gp, S, hs, g⟩ => ?_
  obtain ⟨ds, q, g⟩ := slot_lst (P := GoalS C B W fx s D H F gp) (fun z => z) (show GoalS C B W fx s D H F gp (match r[i]? with
    | some (some (.lst .own ds)) => .ok .nx (r.set i (some (.lst .own ds.reverse)))
    | _ => .bad) from g)
  obtain ⟨l, vs, fq, g', e1, t, rr, lm, fm, gm, lg, lq, fl, k⟩ := S.mut q
  obtain ⟨fr, r1, p1⟩ := rr.rev
  have nl := List.nodup_append.mp fl.nd
  obtain ⟨f', S3, p3⟩ := k ds.reverse vs.reverse fr r1 ⟨List.nodup_append.mpr ⟨nl.1, p1.nodup_iff.mpr nl.2.1, fun a ha b hb e => nl.2.2 a ha b (p1.mem_iff.mp hb) e⟩, fun a ha => fl.nF a (p1.mem_iff.mp ha), fun a ha => fl.nB a (p1.mem_iff.mp ha)⟩ fun z => lq (p1.mem_iff.mp z)
  refine ⟨.ref l, e1, ty_list t, l, vs, rfl, rfl, t, g s _ F f' Keeps.refl S3 (stp_at (hs l lm) fun a ha => ?_)⟩
  rcases List.mem_append.mp (p3.mem_iff.mp ha) with z | z
  · rcases List.mem_cons.mp z with z | z
    · rw [z]
      exact hs l lm
    · exact hs a (fm a (p1.mem_iff.mp z))
  · exact hs a (gm a z)
theorem ixN_lt {n : Nat} {k : Int} {j : Nat} (h : ixN n k = some j) : j < n := by
  unfold ixN at h
  split at h
  · split at h
    · cases h
      omega
    · cases h
  · split at h
    · cases h
      omega
    · cases h
theorem c_sti (cx : SCx G C cf sc hot X W) {i : Nat} {n : Str} {np sp : Pos} (hs : slotB X.N sc i n = true) (hp : isComp x = false) (hi : iv e = true) (hns : notSlice y = true) (he : PE X x (mE G C cf W B e)) (hk : PE X y (mE G C cf W B ei)) :
    PS X (.Assign [.Subscript (.Name n np) y sp] x pos) (mS G C cf wf W B fx (.sti i ei e)) := by
  have hg : PG X (.Subscript (.Name n np) y sp) (gSub (tVar i) (mE G C cf W B ei) rSetL) := pg_sub (cx.toCtx.pv hs) hk set_list (by
    intro v
    cases y <;> first
      | rfl
      | cases hns)
  refine PS.imp (ps_asg he hg (show swapsWith x (some (.Subscript (.Name n np) y sp)) pos.line X.env = pure false from sw_plain hp) rfl rfl) fun D s H ⟨r, F, fp, gp, S, hs, g⟩ => ?_
  refine tS_ex (k := fun d r => match r[i]? with
    | some (some (.lst .own _)) => (evE G cf ei r).bind fun x r => match r[i]?, x with
      | some (some (.lst .own ds)), .int j => match ixN ds.length j with
        | some n => .ok .nx (r.set i (some (.lst .own (ds.set n d))))
        | none => .bad
      | _, _ => .bad
    | _ => .bad) S hs g fun d r1 v H1 F1 f1 q1 ee a1 g1 => ?_
  obtain ⟨ds0, q0, g1⟩ := slot_lst (P := GoalS C B W fx s D H1 F1 (f1 ++ q1 ++ gp)) (fun z => z) g1
  obtain ⟨l, vs0, fq0, g0, e1, t0, _⟩ := a1.sd.mut q0
  refine ⟨.ref l, e1, tS_ex (k := fun x r => match r[i]?, x with
    | some (some (.lst .own ds)), .int j => match ixN ds.length j with
      | some n => .ok .nx (r.set i (some (.lst .own (ds.set n d))))
      | none => .bad
    | _, _ => .bad) a1.sd a1.f1_gp g1 fun d2 r2 v2 H2 F2 f2 q2 ee2 a2 g2 => ?_⟩
  split at g2
  · rename_i ds j q
    obtain ⟨rv2, _⟩ := a2.rep
    cases en : ixN ds.length j with
    | none =>
      rw [en] at g2
      exact False.elim g2
    | some n =>
      rw [en] at g2
      obtain ⟨l', vs, fq, g', e2, t, rr, lm, fm, gm, lg, lq, fl, k⟩ := a2.sd.mut q
      rw [e1] at e2
      cases e2
      have fy1 := a1.iv hi
      have rd : Rep C H2 F2 B d v q1 := a1.sd.carry a2.stp a1.rep (.inr fy1.apart)
      have fy : Fly F2 B f2 q1 := by
        have st2 : Stp false H1 F1 f1 H2 F2 (f2 ++ []) := (a2.stp.weak fun z => by cases z).less fun z hz => List.mem_append_left _ (by simpa using hz)
        have := Fly.carry a1.sd st2 fy1 a1.rep.there (Fly.nil a2.sd.nd)
        rwa [List.append_nil] at this
      obtain ⟨gn, kn, p1, p2, p3⟩ := rr.put (ixN_lt en) rd
      have nx := List.nodup_append.mp fy.nd
      have nl := List.nodup_append.mp fl.nd
      have out : ∀ a ∈ q1, a ∉ f2 := fun a ha hm => nx.2.2 a hm a ha rfl
      have nkn := nl.2.1.sublist p3
      have mgn : ∀ a, a ∈ gn ↔ a ∈ q1 ∨ a ∈ kn := fun a => by rw [p2.mem_iff, List.mem_append]
      obtain ⟨f', S3, p4⟩ := k (ds.set n d) (vs.set n v) gn p1 ⟨List.nodup_append.mpr ⟨nl.1, p2.nodup_iff.mpr (List.nodup_append.mpr ⟨nx.2.1, nkn, fun a ha b hb e => out a ha (by rw [e]; exact fm b (p3.subset hb))⟩), fun a ha b hb e => by
        subst e
        rcases (mgn a).mp hb with z | z
        · exact out a z (gm a ha)
        · exact nl.2.2 a ha a (p3.subset z) rfl⟩, fun a ha => ((mgn a).mp ha).elim (fy.nF a) fun z => fl.nF a (p3.subset z), fun a ha => ((mgn a).mp ha).elim (fy.nB a) fun z => fl.nB a (p3.subset z)⟩ (fun z => ((mgn l).mp z).elim (fun w => out l w lm) fun w => lq (p3.subset w))
      refine ⟨l, vs, j, n, rfl, rv2, t, by rw [← rr.length]; exact en, ?_⟩
      exact (show GoalS C B W fx s D H2 F2 (f2 ++ q2 ++ (f1 ++ q1 ++ gp)) (.ok .nx (r2.set i (some (.lst .own (ds.set n d))))) from g2) s _ F2 f' Keeps.refl S3 (stp_at (a2.f1_gp l lm) fun a ha => by
        rcases List.mem_append.mp (p4.mem_iff.mp ha) with z | z
        · rcases List.mem_cons.mp z with z | z
          · rw [z]
            exact a2.f1_gp l lm
          · rcases (mgn a).mp z with z | z
            · exact List.mem_append_right _ (List.mem_append_left _ (List.mem_append_right _ z))
            · exact a2.f1_gp a (fm a (p3.subset z))
        · exact a2.f1_gp a (gm a z))
  · exact False.elim g2
end
end PI
set_option maxRecDepth 100000
set_option maxHeartbeats 4000000
/-! PI18: raise, try. -/
namespace PI
open PySem PySem.Spec PyProof.Rows L2

section
variable {X : Cx} {p pos : Pos} {e : Expr} {es : List Expr}
/-- C(e, ..), C an own class over ValueError with an __init__ that is walked (nothing is handled) -/
theorem pmk_oexN {CX : CXT} {x : Str} {C fI : Addr} {k : Nat} {fd : FuncData} {ps : List Str} {sp : Sp} {ta : TA} (T : OexC X.K C) (iC : PySem.W.findIn X.K (.ref C) "__init__" = some (some (.ref fI))) (tI : PySem.W.typeIn X.K (.ref fI) = some (.type "function"))
    (FO : FnOk X.prog X.w X.K X.mg X.base CX k fI fd ps sp) (room : Room (k + 1) X.A) (bd : Binds X.K fd ps []) (pa : Passes CX X (fun _ _ _ => False)) (gl : Gl X x) (hmg : X.mg x = some (.ref C)) (args : PA X (e :: es) ta)
    (hdbg : (x == ("__debug__" : Str)) = false) (hst : starEach (e :: es) X.env = (false, eval e X.env) :: starEach es X.env) (hplain : (backTo pos (starEach es X.env)).any (·.1) = false) : L2N.PMk X (.Call (.Name x p) (e :: es) [] pos) (tMkO C sp [] ta) := by
  intro pins s σ H Q I h
  obtain ⟨nm, qn, N, bs, bm, sn, sub, ab, col, dd, k0, k1, k2, k3, k5, hC, hbm⟩ := T.cls
  refine wpAny_Call_Name_kw (ld_glob I gl hmg ?_ hdbg)
  refine PySem.W.callWith_K (h₀ := X.base) I.ok.mod.kin T.kC (thn (args.run pos pins s σ H _ I h) fun us s1 hh => ?_) hst hplain
  obtain ⟨vs, H1, I1, rv, hz, q1⟩ := hh
  refine ⟨I1.kIn, ?_⟩
  show wpAny _ _ (call (Value.ref C) us) _ _ _
  obtain ⟨hp, gs, dr, tk, os⟩ := s1
  have hsz : hp.objs.size ≤ hp.objs.size + 1 := by omega
  have hq := q1 (hp.objs.size + 1) (I1.hok.fresh hsz)
  rw [List.append_nil] at hq
  have up2 : ∀ b o, hp.get? b = some o → ((hp.push (PySem.W.kdv_tup us)).push (PySem.HandSPX.excO C hp.objs.size)).get? b = some o := fun b o z => Heap.get?_push_of_some _ (Heap.get?_push_of_some _ z)
  have there : ((hp.push (PySem.W.kdv_tup us)).push (PySem.HandSPX.excO C hp.objs.size)).get? (hp.objs.size + 1) = some (PySem.HandSPX.excO C hp.objs.size) := by heap_get
  have I2 := I1.laid (t' := tk) (a := hp.objs.size + 1) (o := exo (hp.objs.size + 1) C none) (h' := (hp.push (PySem.W.kdv_tup us)).push (PySem.HandSPX.excO C hp.objs.size)) up2 hsz (exo_ok there)
  have r2 : Vals (V.ref (hp.objs.size + 1) :: vs) (Value.ref (hp.objs.size + 1) :: us) := .cons rfl rv
  have hlen : (Value.ref (hp.objs.size + 1) :: us ++ []).length = ps.length := by
    have z := r2.length
    rw [FO.len _ _ _ _ hq] at z
    rw [List.append_nil]
    exact z.symm
  have hus : us.length ≤ sizeLine := by
    rw [← Paired.length rv, sizeLine_eq]
    omega
  have b2 := bd _ (Value.ref (hp.objs.size + 1) :: us) I2.kIn hlen
  rw [List.append_nil] at b2
  refine wpAny_call (PySem.HandSPX.call_own F.excBase_ValueError (fun Y => PySem.HandSPX.refsVE_contains Y bm hbm) (I1.kIn _ _ hC) (PySem.W.looks_findIn I1.kIn iC) (fun self => PySem.W.bind_fn I1.kIn self tI) hus
    (codeAny_mono (FO.run _ X.stack _ _ ⟨Value.ref (hp.objs.size + 1) :: us, []⟩ (Value.ref (hp.objs.size + 1) :: us) _ _ (fun _ _ _ => False) (room.make C us []) (I2.env0.make C us []) b2 r2 hq) fun res s' hres => ?_))
  cases res with
  | error er => exact pa pins σ _ _ er s' I2 hres
  | ok fl =>
    cases fl with
    | ret u =>
      obtain ⟨v, H2, os2, bare2, un2, hok2, ru, ev, d, fs, ea, ed, hd1, q2⟩ := hres
      subst ev
      obtain ⟨h2, g2, d2, t2, os'⟩ := s'
      obtain ⟨t0, G, J, kG, ge, hoe, na⟩ := mk_end0 (d2 := d2) (t2 := t2) I1 hsz up2 un2 hok2 os2 bare2 ea ed hd1
      exact ⟨ru, ⟨hp.objs.size + 1, _, _, ⟨G, g2, d2, t2, os'⟩, _, .ref C, some d, rfl, J, kG, ge, hoe, ⟨rfl, rfl, fun vs hv => by cases hv; rfl⟩, rfl, rfl, na, rfl, bare2, raises_own T.exC T.tyC, q2⟩⟩
    | next => exact False.elim hres
    | brk => exact False.elim hres
    | cont => exact False.elim hres
end

/-- what BadText's __init__ does -/
def spI (Cb : Addr) : Sp := fun vs H Q _ => ∃ a l k, vs = [.ref a, .int l, .int k] ∧ H a = some (exo a Cb none) ∧
  ∀ dx, H dx = none → dx ≠ a → Q .non (upd (upd (upd H dx (exd dx [("line", .int l)])) a (exo a Cb (some dx))) dx (exd dx [("column", .int k), ("line", .int l)]))

/-- what the written part says of raising the own classes -/
structure RaiF (G : Gm) (C : RC) (X : Cx) : Prop where
  bt : ("BadText" : Str) ∈ G.exs → ∃ Cb fI k fd ps, OexC X.K Cb ∧ PySem.W.findIn X.K (.ref Cb) "__init__" = some (some (.ref fI)) ∧ PySem.W.typeIn X.K (.ref fI) = some (.type "function") ∧
    FnOk X.prog X.w X.K X.mg X.base (L2N.CX X.prog X.w) k fI fd ps (spI Cb) ∧ Room (k + 1) X.A ∧ Binds X.K fd ps [] ∧ X.mg "BadText" = some (.ref Cb) ∧ C.mg "BadText" = some (.ref Cb)
  ot : ∀ c ∈ G.exs, c ≠ "BadText" → ∃ D bmB newId initId, ExcBaseFacts "ValueError" newId initId bmB ∧ PySem.W.excIn X.K D bmB newId = true ∧ X.mg c = some (.ref D) ∧ C.mg c = some (.ref D) ∧ PySem.W.keepIn X.K (.ref D) = true ∧ Raises X (.ref D)

section
variable {G : Gm} {C : RC} {cf : Str → List D → FR} {wf : Nat} {sc : Scope} {hot : Bool} {X : Cx} {W : WX} {B : Addr → Prop} {fx : List Nat}
variable {x y : Expr} {pos : Pos}
theorem two_int {ds : List PI.D} {r : Rho} {c : Str} {P : R Fl → Prop} (hb : ¬ P .bad) (h : P (match ("BadText" : Str) == "BadText", ds with
    | true, [.int l, .int k] => .exc c [("column", k), ("line", l)] r
    | true, _ => .bad
    | false, _ => .exc c [] r)) : ∃ l k, ds = [.int l, .int k] ∧ P (.exc c [("column", k), ("line", l)] r) := by
  have eb : (("BadText" : Str) == "BadText") = true := by decide
  rw [eb] at h
  split at h
  · rename_i l k _
    exact ⟨l, k, rfl, h⟩
  · exact absurd h hb
  · rename_i z
    cases z
theorem c_raib (cx : SCx G C cf sc false X W) (rf : RaiF G C X) {e1 e2 : E} {n : Str} {np pos' : Pos} (hg : gB sc "BadText" n = true) (hin : ("BadText" : Str) ∈ G.exs) (hx : notStar x = true) (hy : notStar y = true)
    (ha : PA X [x, y] (mEs G C cf W B (.cons e1 (.cons e2 .nil)))) : PS X (.Raise (some (.Call (.Name n np) [x, y] [] pos)) none pos') (mS G C cf wf W B fx (.rai "BadText" (.cons e1 (.cons e2 .nil)))) := by
  obtain ⟨e, gl, hd, _⟩ := cx.toCtx.gB hg
  subst e
  obtain ⟨Cb, fI, k, fd, ps, T, iC, tI, FO, room, bd, hm, hm2⟩ := rf.bt hin
  have hst : starEach (x :: [y]) X.env = (false, eval x X.env) :: starEach [y] X.env := star_cons hx
  have hpl : (backTo pos (starEach [y] X.env)).any (·.1) = false := stars_ok fun e he => by
    have e : e = y := by simpa using he
    rw [e]
    exact hy
  refine PS.imp (L2N.ps_raise (cx.calm rfl) cx.tk (pmk_oexN T iC tI FO room bd (fun pins σ H s er s' I z => cx.tk _ _ (L2N.XE.of_call I (W := W) (E := fun _ _ _ => False) (fun _ _ _ z => z.elim) z)) gl hm ha hd hst hpl)) fun D s H ⟨r, F, fp, gp, S, hs, g⟩ => ?_
  refine tS_ex (k := fun ds r => match ("BadText" : Str) == "BadText", ds with
    | true, [.int l, .int k] => .exc "BadText" [("column", k), ("line", l)] r
    | true, _ => .bad
    | false, _ => .exc "BadText" [] r) S hs g fun ds r1 vs H1 F1 f1 fq ee a1 g1 => ?_
  obtain ⟨l, k, rfl, g1⟩ := two_int (P := GoalS C B W fx s D H1 F1 (f1 ++ fq ++ gp)) (fun z => z) g1
  · skip
    obtain ⟨v1, vr, q1, q2, rfl, rv1, ⟨v2, vr2, q3, q4, rfl, rv2, ⟨rfl, _⟩, _⟩, _⟩ := a1.rep
    obtain ⟨rfl, _⟩ := rv1
    obtain ⟨rfl, _⟩ := rv2
    refine ⟨by show 2 ≤ 1000; omega, fun a hna => ?_⟩
    show spI Cb [.ref a, .int l, .int k] _ _ _
    refine ⟨a, l, k, rfl, upd_same, fun dx hdx ne => ?_⟩
    have hdx1 : H1 dx = none := by
      rw [upd_ne ne] at hdx
      exact hdx
    refine ⟨rfl, dx, [("column", .int k), ("line", .int l)], ?_, upd_same, hdx1, ?_⟩
    · rw [upd_ne (Ne.symm ne), upd_same]
    · have eH : upd (del (upd (upd (upd (upd H1 a (exo a Cb none)) dx (exd dx [("line", .int l)])) a (exo a Cb (some dx))) dx (exd dx [("column", .int k), ("line", .int l)])) a) dx (.xd [("column", .int k), ("line", .int l)]) = upd H1 dx (.xd [("column", .int k), ("line", .int l)]) := by
        funext b
        by_cases h1 : b = dx
        · subst h1
          rw [upd_same, upd_same]
        · rw [upd_ne h1, upd_ne h1]
          by_cases h2 : b = a
          · subst h2
            rw [del_same]
            exact hna.symm
          · rw [del_ne h2, upd_ne h1, upd_ne h2, upd_ne h1, upd_ne h2]
      rw [eH]
      have g2 : GoalS C B W fx s D H1 F1 (f1 ++ fq ++ gp) (.exc "BadText" [("column", k), ("line", l)] r1) := g1
      refine g2 (.ref Cb) (some dx) s (upd H1 dx (.xd [("column", .int k), ("line", .int l)])) F1 f1 Keeps.refl (a1.sd.laid hdx1) ⟨⟨Cb, hm2, rfl⟩, .inr ⟨dx, rfl, upd_same⟩⟩ ?_
      exact ((Stp.new1 (fp := f1 ++ fq ++ gp) hdx1).weak fun z => by cases z).less fun b hb => List.mem_cons_of_mem _ (a1.f1_gp b hb)
theorem c_raio (cx : SCx G C cf sc false X W) (rf : RaiF G C X) {c n m : Str} {j : Nat} {np p2 pos' : Pos} (hg : gB sc c n = true) (hin : c ∈ G.exs) (hc : c ≠ "BadText") :
    PS X (.Raise (some (.Call (.Name n np) [.Constant (.str m) j p2] [] pos)) none pos') (mS G C cf wf W B fx (.rai c .nil)) := by
  obtain ⟨e, gl, hd, _⟩ := cx.toCtx.gB hg
  subst e
  obtain ⟨Da, bmB, newId, initId, EF, q, hm, hm2, kp, ra⟩ := rf.ot c hin hc
  refine PS.imp (L2N.ps_raise (cx.calm rfl) cx.tk (L2N.pmk_own EF q hm kp ra gl hd)) fun D s H ⟨r, F, fp, gp, S, hs, g⟩ => ?_
  have g1 : GoalS C B W fx s D H F gp (.exc c [] r) := by
    have eb : (c == ("BadText" : Str)) = false := by simpa using hc
    have g2 : GoalS C B W fx s D H F gp (match c == ("BadText" : Str), ([] : List PI.D) with
      | true, [.int l, .int k] => .exc c [("column", k), ("line", l)] r
      | true, _ => .bad
      | false, _ => .exc c [] r) := g
    rw [eb] at g2
    exact g2
  exact g1 (.ref Da) none s H F fp Keeps.refl S ⟨⟨Da, hm2, rfl⟩, .inl ⟨rfl, rfl⟩⟩ (end_stp hs)
end
end PI
set_option maxRecDepth 100000
set_option maxHeartbeats 4000000
/-! PI19: try, all statements together. -/
namespace PI
open PySem PySem.Spec PyProof.Rows L2

section
variable {G : Gm} {C : RC} {cf : Str → List D → FR} {wf : Nat} {sc : Scope} {hot : Bool} {X : Cx} {W W' : WX} {B : Addr → Prop} {fx : List Nat}

theorem Ctx.tr (cx : Ctx G C cf sc false X W) {pn : List (Addr × Obj)} {xe : Value → Shared → Prop} (tk : L2N.Takes (X.tr pn xe) W') : Ctx G C cf sc false (X.tr pn xe) W' where
  hK := cx.hK
  un := cx.un
  calm := cx.calm
  nd := cx.nd
  vis := cx.vis
  gl := cx.gl
  loc := cx.loc
  cel := cx.cel
  fre := cx.fre
  blt := cx.blt
  glob := cx.glob
  fns := cx.fns
  ht := fun z => by cases z
  exo := cx.exo
  kit := cx.kit
  kiv := cx.kiv
  exm := cx.exm
  tk := tk
theorem Ctx.suite (cx : Ctx G C cf sc false X W) {a : Addr} {oe : Obj} {cls : Value} {d : Option Addr} {pn : List (Addr × Obj)} (zn : L2N.Zn cls d oe) (fl : ∃ vs, oe.data = .fields vs) : Ctx G (C.hz a cls d) cf sc true (X.suite a ((a, oe) :: pn)) W0 where
  hK := cx.hK
  un := cx.un
  calm := fun z => by cases z
  nd := cx.nd
  vis := cx.vis
  gl := cx.gl
  loc := cx.loc
  cel := cx.cel
  fre := cx.fre
  blt := cx.blt
  glob := fun x d e => by
    obtain ⟨v, u, h1, h2, h3, h4⟩ := cx.glob x d e
    exact ⟨v, u, h1, h2, h3, fun H F B => Rep.swap d v [] h3 (h4 H F B)⟩
  fns := fun f hf => by
    obtain ⟨a, fd, ps, k, h1, h2, h3, h4, _, h6⟩ := cx.fns f hf
    exact ⟨a, fd, ps, k, h1, h2, h3, h4, (fun z => by cases z), fun z => ⟨(h6 z).1, ⟨(h6 z).2.dp, (h6 z).2.un⟩⟩⟩
  ht := fun _ => ⟨a, oe, cls, d, ⟨zn, fl, List.mem_cons_self, rfl⟩, rfl⟩
  exo := cx.exo
  kit := cx.kit
  kiv := cx.kiv
  exm := cx.exm
  tk := takesW0
theorem SCx.suite (cx : SCx G C cf sc false X W) {a : Addr} {oe : Obj} {cls : Value} {d : Option Addr} {pn : List (Addr × Obj)} (zn : L2N.Zn cls d oe) (fl : ∃ vs, oe.data = .fields vs) : SCx G (C.hz a cls d) cf sc true (X.suite a ((a, oe) :: pn)) W0 where
  toCtx := cx.toCtx.suite zn fl
  own := fun z => by cases z
  stk := cx.stk
  frm := cx.frm
  kind := cx.kind
theorem SCx.tr (cx : SCx G C cf sc false X W) {pn : List (Addr × Obj)} {xe : Value → Shared → Prop} (tk : L2N.Takes (X.tr pn xe) W') (po : PassesOwn (model X.prog X.w) X.A X.env xe) : SCx G C cf sc false (X.tr pn xe) W' where
  toCtx := cx.toCtx.tr tk
  own := fun _ => po
  stk := cx.stk
  frm := cx.frm
  kind := cx.kind
theorem RaiF.tr (rf : RaiF G C X) {pn : List (Addr × Obj)} {xe : Value → Shared → Prop} : RaiF G C (X.tr pn xe) := ⟨rf.bt, rf.ot⟩
/-- behind the suite -/
theorem suite_end {H : Hp} {F : Addr → Prop} {r : Rho} {s : L2.St} {f : List Addr} {i : Nat} {a : Addr} {cls : Value} {d : Option Addr} (S : Sd (C.hz a cls d) B H F r s f) (hn : noexcR (r.set i none) = true) : ∃ g, Sd C B H F (r.set i none) (s.set i none) g ∧ ∀ x ∈ g, x ∈ f := by
  obtain ⟨g, h1, h2, _⟩ := S.sl.off i
  have h3 : Slots (C.hz a cls d) H F B (r.set i none) (s.set i none) g := by
    by_cases hi : i < r.length
    · exact h1.any (.inl (List.getElem?_set_self hi))
    · exact h1.any (.inr (by rw [List.length_set]; omega))
  have S2 : Sd (C.hz a cls d) B H F (r.set i none) (s.set i none) g := ⟨h3, S.nd.sublist h2, fun x hx => S.fF x (h2.subset hx), fun x hx => S.fB x (h2.subset hx), S.fd, S.bd, by rw [List.length_set, List.length_set]; exact S.len⟩
  exact ⟨g, Sd.swap (C := C.hz a cls d) (Z := C.Z) hn S2, fun x hx => h2.subset hx⟩
theorem suite_ok {h : Ss} {D : Ends} {s : L2.St} {H : Hp} {F : Addr → Prop} {gp fp : List Addr} {r : Rho} {i : Nat} {c' : Str} {fs : List (Str × Int)} {cls : Value} {d : Option Addr} {a : Addr} (hz : ∀ a c d, ¬ C.Z a c d) (hi : i ∉ fx) (S : Sd C B H F r s fp) (hs : ∀ x ∈ fp, x ∈ gp) (ea : ExcAt C H c' fs cls d)
    (g : GoalS C B W fx s D H F gp (match evSs G cf wf h (r.set i (some (.exc c' fs))) with
      | .ok f r2 => if noexcR (r2.set i none) = true ∧ noexcF f = true then .ok f (r2.set i none) else .bad
      | _ => .bad)) :
    mSs G (C.hz a cls d) cf wf W0 B fx h { nx := fun σ' H' => D.nx (σ'.set i none) H', rt := D.rt, bk := fun σ' H' => D.bk (σ'.set i none) H', ct := fun σ' H' => D.ct (σ'.set i none) H' } (s.set i (some (.ref a))) H := by
  have S1 : Sd (C.hz a cls d) B H F r s fp := Sd.swap (Slots.noexc hz S.sl) S
  obtain ⟨⟨ca, e1, e2⟩, e3⟩ := ea
  obtain ⟨f1, S2, m2⟩ := S1.put (d := .exc c' fs) (v := .ref a) (fq := []) ⟨⟨a, d, rfl, ⟨rfl, by rw [e2]; exact e1, rfl⟩, e3⟩, rfl⟩ (Fly.nil S.nd) i
  have m2 : ∀ x ∈ f1, x ∈ gp := fun x hx => (m2 x hx).elim (hs x) fun z => absurd z (by simp)
  refine ⟨r.set i (some (.exc c' fs)), F, f1, gp, S2, m2, ?_⟩
  have kk : ∀ {s'' : L2.St}, Keeps fx (s.set i (some (.ref a))) s'' → Keeps fx s (s''.set i none) := fun {s''} k => (Keeps.set hi).trans (k.trans (Keeps.set hi))
  cases e : evSs G cf wf h (r.set i (some (.exc c' fs))) with
  | bad =>
    rw [e] at g
    exact False.elim g
  | exc _ _ _ =>
    rw [e] at g
    exact False.elim g
  | ok f r2 =>
    rw [e] at g
    have g : GoalS C B W fx s D H F gp (if noexcR (r2.set i none) = true ∧ noexcF f = true then .ok f (r2.set i none) else .bad) := g
    by_cases hn : noexcR (r2.set i none) = true ∧ noexcF f = true
    · rw [if_pos hn] at g
      cases f with
      | nx =>
        intro s'' H' F' fp' k S3 b
        obtain ⟨g3, S4, m4⟩ := suite_end S3 hn.1
        exact g (s''.set i none) H' F' g3 (kk k) S4 (b.less m4)
      | bk =>
        intro s'' H' F' fp' k S3 b
        obtain ⟨g3, S4, m4⟩ := suite_end S3 hn.1
        exact g (s''.set i none) H' F' g3 (kk k) S4 (b.less m4)
      | ct =>
        intro s'' H' F' fp' k S3 b
        obtain ⟨g3, S4, m4⟩ := suite_end S3 hn.1
        exact g (s''.set i none) H' F' g3 (kk k) S4 (b.less m4)
      | rt dd =>
        intro v s'' H' F' fp' fq k S3 R I b
        obtain ⟨g3, S4, m4⟩ := suite_end S3 hn.1
        refine g v (s''.set i none) H' F' g3 fq (kk k) S4 (Rep.swap (C := C.hz a cls d) (Z := C.Z) dd v fq hn.2 R) ⟨List.nodup_append.mpr ⟨S4.nd, (List.nodup_append.mp I.nd).2.1, fun x hx y hy e => (List.nodup_append.mp I.nd).2.2 x (m4 x hx) y hy e⟩, I.nF, I.nB⟩ (b.less fun x hx => ?_)
        rcases List.mem_append.mp hx with z | z
        · exact List.mem_append_left _ (m4 x z)
        · exact List.mem_append_right _ z
    · rw [if_neg hn] at g
      exact False.elim g
theorem c_tra (cx : SCx G C cf sc false X W) (hz : ∀ a c d, ¬ C.Z a c d) {b h : Ss} {c n m : Str} {i : Nat} {body suite : List Stmt} {b₀ : Stmt} {np hp' pos : Pos} (hi : i ∉ fx) (hN : X.N[i]? = some n) (hl : sc.names.lookup n = some .local) (hg : gB sc c m = true) (hc : c ∈ G.exs)
    (hb : ∀ (W' : WX) (pn : List (Addr × Obj)) (xe : Value → Shared → Prop), L2N.Takes (X.tr pn xe) W' → PassesOwn (model X.prog X.w) X.A X.env xe → PSs (X.tr pn xe) body (mSs G C cf wf W' B fx b))
    (hsu : ∀ (a : Addr) (oe : Obj) (cls : Value) (d : Option Addr) (pn : List (Addr × Obj)), L2N.Zn cls d oe → (∃ vs, oe.data = .fields vs) → PSs (X.suite a ((a, oe) :: pn)) (b₀ :: suite) (mSs G (C.hz a cls d) cf wf W0 B fx h)) :
    PS X (.Try body [.ExceptHandler (some (.Name m np)) (some n) (b₀ :: suite) hp'] [] [] pos) (mS G C cf wf W B fx (.tra b c i h)) := by
  obtain ⟨e, gl, hd, _⟩ := cx.toCtx.gB hg
  subst e
  obtain ⟨Dc, n1, _⟩ := cx.exo c hc
  refine PS.imp (L2N.ps_try_as cx.stk cx.frm cx.nd hN (cx.loc n hl) ⟨gl, hd, .inl n1⟩ cx.tk hb hsu) fun D s H ⟨r, F, fp, gp, S, hs, g⟩ => ?_
  refine ⟨r, F, fp, gp, S, hs, ?_⟩
  have g : GoalS C B W fx s D H F gp (match evSs G cf wf b r with
    | .exc c' fs r1 => if G.exs.contains c' = true then
        if G.sub c' c = true then (match evSs G cf wf h (r1.set i (some (.exc c' fs))) with
          | .ok f r2 => if noexcR (r2.set i none) = true ∧ noexcF f = true then .ok f (r2.set i none) else .bad
          | _ => .bad)
        else .exc c' fs r1
      else .bad
    | x => x) := g
  cases e : evSs G cf wf b r with
  | bad =>
    rw [e] at g
    exact g
  | ok f r1 =>
    rw [e] at g
    cases f <;> exact g
  | exc c' fs r1 =>
    rw [e] at g
    have g : GoalS C B W fx s D H F gp (if G.exs.contains c' = true then
        if G.sub c' c = true then (match evSs G cf wf h (r1.set i (some (.exc c' fs))) with
          | .ok f r2 => if noexcR (r2.set i none) = true ∧ noexcF f = true then .ok f (r2.set i none) else .bad
          | _ => .bad)
        else .exc c' fs r1
      else .bad) := g
    by_cases hin : G.exs.contains c' = true
    · rw [if_pos hin] at g
      have hin : c' ∈ G.exs := List.contains_iff_mem.mp hin
      obtain ⟨Dd, m1, m2, _⟩ := cx.exo c' hin
      intro cls d s' H' F' fp' k S' ea st
      have ecls : cls = .ref Dd := by
        obtain ⟨⟨ca, e1, e2⟩, _⟩ := ea
        rw [m2] at e1
        cases e1
        exact e2
      refine ⟨G.sub c' c, by rw [ecls]; exact cx.exm c' hin c hc Dd Dc m1 n1, fun hb a hna => ?_, fun hb => ?_⟩
      · rw [if_pos hb] at g
        exact suite_ok hz hi S' (fun _ z => z) ea (g.base k st fun _ z => z)
      · rw [hb, if_neg Bool.false_ne_true] at g
        exact g cls d s' H' F' fp' k S' ea st
    · rw [if_neg hin] at g
      exact False.elim g
end
/-! ### does a code fit a statement? -/
def isEsStr : Es → Bool
  | .nil => true
  | _ => false
section
def trParts : List ExceptHandler → List Stmt → List Stmt → Option (Str × Str × Stmt × List Stmt)
  | [.ExceptHandler (some (.Name m _)) (some n) (b₀ :: suite) _], [], [] => some (m, n, b₀, suite)
  | _, _, _ => none
variable (G : Gm) (N : List Str) (fx : List Nat) (sc : Scope)
mutual
def chkS (hot : Bool) : S → Stmt → Bool
  | .set t e, .Assign tgs x _ => match tgs with
    | [tg] => ((plainSet tg x || cellComp sc tg x) && iv e) && ((fixTg fx t && chkTg N sc hot t tg) && chkE G N hot sc e x)
    | _ => false
  | .asgc i z (.cmpr elt tt src cond own), .Assign tgs x _ => match tgs, x with
    | [.Name n np], .ListComp u gs scope lp => match clause1 gs with
      | some (tg, it, ifs) => (((!hot && decide (N[i]? = some n)) && (decide (sc.names.lookup n = some .local) && fixTg fx (.nm i))) && ((np.line == lp.line) && !(scope.names.any fun (m, k) => m == n && (k == .local || k == .cell)))) &&
          ((blkC N sc scope own && (chkSr G N hot sc src tg it && notSet it)) && ((chkTg N scope hot tt tg && tgIn own tt) && (chkE G N hot scope elt u && chkC G N hot scope cond ifs)))
      | none => false
    | _, _ => false
  | .aug i o e, .AugAssign tg p x _ => match tg with
    | .Name n _ => ((decide (N[i]? = some n) && locB sc n) && (!fx.contains i && (decide (o = .add) || decide (o = .sub)))) && (isB o p && chkE G N hot sc e x)
    | _ => false
  | .dro e, .Expr x _ => !isComp x && chkE G N hot sc e x
  | .app i e, .Expr x _ => match x with
    | .Call (.Attribute (.Name n _) m apos) [y] [] cp => ((decide (m = "append") && slotB N sc i n) && ((apos.endLine == cp.line) && iv e)) && (notStar y && chkE G N hot sc e y)
    | _ => false
  | .ext i e, .Expr x _ => match x with
    | .Call (.Attribute (.Name n _) m apos) [y] [] cp => ((decide (m = "extend") && slotB N sc i n) && (apos.endLine == cp.line)) && (notStar y && chkE G N hot sc e y)
    | _ => false
  | .rev i, .Expr x _ => match x with
    | .Call (.Attribute (.Name n _) m apos) [] [] cp => (decide (m = "reverse") && slotB N sc i n) && (apos.endLine == cp.line)
    | _ => false
  | .sti i k e, .Assign tgs x _ => match tgs with
    | [.Subscript (.Name n _) y _] => ((slotB N sc i n && !isComp x) && (iv e && notSlice y)) && (chkE G N hot sc e x && chkE G N hot sc k y)
    | _ => false
  | .ifs t a b, .If c p q _ => chkT G N hot sc t c && (chkSs hot a p && chkSs hot b q)
  | .fors t src b, .For tg it body els _ => match els with
    | [] => (!hot && fixTg fx t) && (((chkSr G N hot sc src tg it && notSet it) && chkTg N sc hot t tg) && chkSs hot b body)
    | _ => false
  | .whl t b, .While c body els _ => match els with
    | [] => !hot && (chkT G N hot sc t c && chkSs hot b body)
    | _ => false
  | .ret e, .Return (some x) _ => iv e && chkE G N hot sc e x
  | .retn, .Return none _ => true
  | .brk, .Break _ => true
  | .cnt, .Continue _ => true
  | .pas, .Pass _ => true
  | .rai c es, .Raise (some (.Call (.Name n _) xs [] _)) none _ => match es, xs with
    | .nil, [.Constant (.str _) _ _] => (!hot && gB sc c n) && (G.exs.contains c && !(c == "BadText"))
    | .cons e1 (.cons e2 .nil), [x, y] => ((!hot && decide (c = "BadText")) && (gB sc "BadText" n && G.exs.contains "BadText")) && ((notStar x && notStar y) && chkEs G N hot sc (.cons e1 (.cons e2 .nil)) [x, y])
    | _, _ => false
  | .tra b c i h, .Try body hds els fin _ => match trParts hds els fin with
    | some (m, n, b₀, suite) => ((!hot && (!fx.contains i && (decide (N[i]? = some n) && decide (sc.names.lookup n = some .local)))) && (gB sc c m && G.exs.contains c)) && (chkSs hot b body && chkSs true h (b₀ :: suite))
    | none => false
  | _, _ => false
def chkSs (hot : Bool) : Ss → List Stmt → Bool
  | .nil, [] => true
  | .cons s ss, st => match st with
    | x :: xs => chkS hot s x && chkSs hot ss xs
    | [] => false
  | _, _ => false
end
end
end PI
set_option maxRecDepth 100000
set_option maxHeartbeats 8000000
/-! PI20: the soundness of statements, all together. -/
namespace PI
open PySem PySem.Spec PyProof.Rows L2

theorem trParts_ok {hds : List ExceptHandler} {els fin : List Stmt} {m n : Str} {b₀ : Stmt} {suite : List Stmt} (h : trParts hds els fin = some (m, n, b₀, suite)) : ∃ np hp, hds = [.ExceptHandler (some (.Name m np)) (some n) (b₀ :: suite) hp] ∧ els = [] ∧ fin = [] := by
  unfold trParts at h
  split at h
  · cases h
    exact ⟨_, _, rfl, rfl, rfl⟩
  · cases h
section
variable {G : Gm} {cf : Str → List D → FR} {wf : Nat} {sc : Scope} {B : Addr → Prop} {fx : List Nat}
def isLeaf : S → Bool
  | .ifs _ _ _ => false
  | .fors _ _ _ => false
  | .whl _ _ => false
  | .tra _ _ _ _ => false
  | _ => true
theorem k_set (t : Tg) (e : E) {C : RC} {hot : Bool} {X : Cx} {W : WX} (cx : SCx G C cf sc hot X W) (hc : hot = false → RaiF G C X ∧ ∀ a c d, ¬ C.Z a c d) (x : Stmt) (h : chkS G X.N fx sc hot (.set t e) x = true) : PS X x (mS G C cf wf W B fx (.set t e)) := by
    cases x with
    | Assign tgs x pos =>
      match tgs, h with
      | [tg], h =>
        obtain ⟨h1, h2⟩ := and2 (show (((plainSet tg x || cellComp sc tg x) && iv e) && ((fixTg fx t && chkTg X.N sc hot t tg) && chkE G X.N hot sc e x)) = true from h)
        obtain ⟨h3, h4⟩ := and2 h2
        exact c_set cx (and2 h1).1 (and2 h1).2 (and2 h3).1 (and2 h3).2 (sE e cx.toCtx x h4)
      | [], h => cases h
      | _ :: _ :: _, h => cases h
    | _ => cases h
theorem k_asgc (i : Nat) (z : Bool) (e : E) {C : RC} {hot : Bool} {X : Cx} {W : WX} (cx : SCx G C cf sc hot X W) (hc : hot = false → RaiF G C X ∧ ∀ a c d, ¬ C.Z a c d) (x : Stmt) (h : chkS G X.N fx sc hot (.asgc i z e) x = true) : PS X x (mS G C cf wf W B fx (.asgc i z e)) := by
    cases e with
    | cmpr elt tt src cond own =>
      cases x with
      | Assign tgs x pos =>
        match tgs, x, h with
        | [.Name n np], .ListComp u gs scope lp, h =>
          have h : (match clause1 gs with
            | some (tg, it, ifs) => (((!hot && decide (X.N[i]? = some n)) && (decide (sc.names.lookup n = some .local) && fixTg fx (.nm i))) && ((np.line == lp.line) && !(scope.names.any fun (m, k) => m == n && (k == .local || k == .cell)))) &&
              ((blkC X.N sc scope own && (chkSr G X.N hot sc src tg it && notSet it)) && ((chkTg X.N scope hot tt tg && tgIn own tt) && (chkE G X.N hot scope elt u && chkC G X.N hot scope cond ifs)))
            | none => false) = true := h
          cases ec : clause1 gs with
          | none =>
            rw [ec] at h
            cases h
          | some tif =>
            obtain ⟨tg, it, ifs⟩ := tif
            rw [ec] at h
            have eg := clause1_ok ec
            subst eg
            obtain ⟨h0, h⟩ := and2 h
            obtain ⟨h1, h2⟩ := and2 h0
            obtain ⟨h3, h4⟩ := and2 h1
            obtain ⟨h5, h6⟩ := and2 h
            obtain ⟨h7, h8⟩ := and2 h5
            obtain ⟨h9, h10⟩ := and2 h6
            have eh : hot = false := by simpa using (and2 h3).1
            subst eh
            have cc := cx.toCtx
            exact c_asgc cx (of_decide_eq_true (and2 h3).2) (of_decide_eq_true (and2 h4).1) (and2 h4).2 (and2 h2).1 (by have k := (and2 h2).2; rwa [Bool.not_eq_true'] at k) h7 (and2 h9).2 (and2 h8).2 (sSr src cc tg it (and2 h8).1)
              (fun s H Ca cl fp => pg_ok (cc.blk s H Ca cl fp) tt tg (and2 h9).1) (fun s H Ca cl fp => sC cond (cc.blk s H Ca cl fp) ifs (and2 h10).2) (fun s H Ca cl fp => sE elt (cc.blk s H Ca cl fp) u (and2 h10).1)
        | [], _, h => cases h
      | _ => cases h
    | _ => cases x <;> cases h
theorem k_aug (i : Nat) (o : Bop) (e : E) {C : RC} {hot : Bool} {X : Cx} {W : WX} (cx : SCx G C cf sc hot X W) (hc : hot = false → RaiF G C X ∧ ∀ a c d, ¬ C.Z a c d) (x : Stmt) (h : chkS G X.N fx sc hot (.aug i o e) x = true) : PS X x (mS G C cf wf W B fx (.aug i o e)) := by
    cases x with
    | AugAssign tg p x pos =>
      cases tg with
      | Name n np =>
        obtain ⟨h1, h2⟩ := and2 (show (((decide (X.N[i]? = some n) && locB sc n) && (!fx.contains i && (decide (o = .add) || decide (o = .sub)))) && (isB o p && chkE G X.N hot sc e x)) = true from h)
        obtain ⟨h3, h4⟩ := and2 h1
        refine c_aug cx (of_decide_eq_true (and2 h3).1) (and2 h3).2 (nofix (and2 h4).1) ?_ (and2 h2).1 (sE e cx.toCtx x (and2 h2).2)
        have k := (and2 h4).2
        rw [Bool.or_eq_true] at k
        exact k.imp of_decide_eq_true of_decide_eq_true
      | _ => cases h
    | _ => cases h
theorem k_dro (e : E) {C : RC} {hot : Bool} {X : Cx} {W : WX} (cx : SCx G C cf sc hot X W) (hc : hot = false → RaiF G C X ∧ ∀ a c d, ¬ C.Z a c d) (x : Stmt) (h : chkS G X.N fx sc hot (.dro e) x = true) : PS X x (mS G C cf wf W B fx (.dro e)) := by
    cases x with
    | Expr x pos =>
      obtain ⟨h1, h2⟩ := and2 (show (!isComp x && chkE G X.N hot sc e x) = true from h)
      exact c_dro (by rwa [Bool.not_eq_true'] at h1) (sE e cx.toCtx x h2)
    | _ => cases h
theorem k_app (i : Nat) (e : E) {C : RC} {hot : Bool} {X : Cx} {W : WX} (cx : SCx G C cf sc hot X W) (hc : hot = false → RaiF G C X ∧ ∀ a c d, ¬ C.Z a c d) (x : Stmt) (h : chkS G X.N fx sc hot (.app i e) x = true) : PS X x (mS G C cf wf W B fx (.app i e)) := by
    cases x with
    | Expr x pos =>
      match x, h with
      | .Call (.Attribute (.Name n np) m apos) [y] [] cp, h =>
        obtain ⟨h1, h2⟩ := and2 (show (((decide (m = "append") && slotB X.N sc i n) && ((apos.endLine == cp.line) && iv e)) && (notStar y && chkE G X.N hot sc e y)) = true from h)
        obtain ⟨h3, h4⟩ := and2 h1
        have em := of_decide_eq_true (and2 h3).1
        subst em
        exact c_app cx (and2 h3).2 (and2 h4).1 (and2 h4).2 (and2 h2).1 (sE e cx.toCtx y (and2 h2).2)
    | _ => cases h
theorem k_ext (i : Nat) (e : E) {C : RC} {hot : Bool} {X : Cx} {W : WX} (cx : SCx G C cf sc hot X W) (hc : hot = false → RaiF G C X ∧ ∀ a c d, ¬ C.Z a c d) (x : Stmt) (h : chkS G X.N fx sc hot (.ext i e) x = true) : PS X x (mS G C cf wf W B fx (.ext i e)) := by
    cases x with
    | Expr x pos =>
      match x, h with
      | .Call (.Attribute (.Name n np) m apos) [y] [] cp, h =>
        obtain ⟨h1, h2⟩ := and2 (show (((decide (m = "extend") && slotB X.N sc i n) && (apos.endLine == cp.line)) && (notStar y && chkE G X.N hot sc e y)) = true from h)
        obtain ⟨h3, h4⟩ := and2 h1
        have em := of_decide_eq_true (and2 h3).1
        subst em
        exact c_ext cx (and2 h3).2 h4 (and2 h2).1 (sE e cx.toCtx y (and2 h2).2)
    | _ => cases h
theorem k_rev (i : Nat) {C : RC} {hot : Bool} {X : Cx} {W : WX} (cx : SCx G C cf sc hot X W) (hc : hot = false → RaiF G C X ∧ ∀ a c d, ¬ C.Z a c d) (x : Stmt) (h : chkS G X.N fx sc hot (.rev i) x = true) : PS X x (mS G C cf wf W B fx (.rev i)) := by
    cases x with
    | Expr x pos =>
      match x, h with
      | .Call (.Attribute (.Name n np) m apos) [] [] cp, h =>
        obtain ⟨h1, h2⟩ := and2 (show ((decide (m = "reverse") && slotB X.N sc i n) && (apos.endLine == cp.line)) = true from h)
        have em := of_decide_eq_true (and2 h1).1
        subst em
        exact c_rev cx (and2 h1).2 h2
    | _ => cases h
theorem k_sti (i : Nat) (k : E) (e : E) {C : RC} {hot : Bool} {X : Cx} {W : WX} (cx : SCx G C cf sc hot X W) (hc : hot = false → RaiF G C X ∧ ∀ a c d, ¬ C.Z a c d) (x : Stmt) (h : chkS G X.N fx sc hot (.sti i k e) x = true) : PS X x (mS G C cf wf W B fx (.sti i k e)) := by
    cases x with
    | Assign tgs x pos =>
      match tgs, h with
      | [.Subscript (.Name n np) y sp], h =>
        obtain ⟨h1, h2⟩ := and2 (show (((slotB X.N sc i n && !isComp x) && (iv e && notSlice y)) && (chkE G X.N hot sc e x && chkE G X.N hot sc k y)) = true from h)
        obtain ⟨h3, h4⟩ := and2 h1
        exact c_sti cx (and2 h3).1 (by have k := (and2 h3).2; rwa [Bool.not_eq_true'] at k) (and2 h4).1 (and2 h4).2 (sE e cx.toCtx x (and2 h2).1) (sE k cx.toCtx y (and2 h2).2)
      | [], h => cases h
    | _ => cases h
theorem k_ret (e : E) {C : RC} {hot : Bool} {X : Cx} {W : WX} (cx : SCx G C cf sc hot X W) (hc : hot = false → RaiF G C X ∧ ∀ a c d, ¬ C.Z a c d) (x : Stmt) (h : chkS G X.N fx sc hot (.ret e) x = true) : PS X x (mS G C cf wf W B fx (.ret e)) := by
    cases x with
    | Return x pos =>
      cases x with
      | none => cases h
      | some x =>
        obtain ⟨h1, h2⟩ := and2 (show (iv e && chkE G X.N hot sc e x) = true from h)
        exact c_ret h1 (sE e cx.toCtx x h2)
    | _ => cases h
theorem k_retn {C : RC} {hot : Bool} {X : Cx} {W : WX} (cx : SCx G C cf sc hot X W) (hc : hot = false → RaiF G C X ∧ ∀ a c d, ¬ C.Z a c d) (x : Stmt) (h : chkS G X.N fx sc hot (.retn) x = true) : PS X x (mS G C cf wf W B fx (.retn)) := by
    cases x with
    | Return x pos =>
      cases x with
      | none => exact c_retn
      | some x => cases h
    | _ => cases h
theorem k_brk {C : RC} {hot : Bool} {X : Cx} {W : WX} (cx : SCx G C cf sc hot X W) (hc : hot = false → RaiF G C X ∧ ∀ a c d, ¬ C.Z a c d) (x : Stmt) (h : chkS G X.N fx sc hot (.brk) x = true) : PS X x (mS G C cf wf W B fx (.brk)) := by
    cases x <;> first
      | exact c_brk
      | cases h
theorem k_cnt {C : RC} {hot : Bool} {X : Cx} {W : WX} (cx : SCx G C cf sc hot X W) (hc : hot = false → RaiF G C X ∧ ∀ a c d, ¬ C.Z a c d) (x : Stmt) (h : chkS G X.N fx sc hot (.cnt) x = true) : PS X x (mS G C cf wf W B fx (.cnt)) := by
    cases x <;> first
      | exact c_cnt
      | cases h
theorem k_pas {C : RC} {hot : Bool} {X : Cx} {W : WX} (cx : SCx G C cf sc hot X W) (hc : hot = false → RaiF G C X ∧ ∀ a c d, ¬ C.Z a c d) (x : Stmt) (h : chkS G X.N fx sc hot (.pas) x = true) : PS X x (mS G C cf wf W B fx (.pas)) := by
    cases x <;> first
      | exact c_pas
      | cases h
theorem k_rai (c : Str) (es : Es) {C : RC} {hot : Bool} {X : Cx} {W : WX} (cx : SCx G C cf sc hot X W) (hc : hot = false → RaiF G C X ∧ ∀ a c d, ¬ C.Z a c d) (x : Stmt) (h : chkS G X.N fx sc hot (.rai c es) x = true) : PS X x (mS G C cf wf W B fx (.rai c es)) := by
    match x, h with
    | .Raise (some (.Call (.Name n np) xs [] pos)) none pos', h =>
      match es, xs, h with
      | .nil, [.Constant (.str m) j p2], h =>
        obtain ⟨h1, h2⟩ := and2 (show ((!hot && gB sc c n) && (G.exs.contains c && !(c == "BadText"))) = true from h)
        have eh : hot = false := by simpa using (and2 h1).1
        subst eh
        exact c_raio cx (hc rfl).1 (and2 h1).2 (List.contains_iff_mem.mp (and2 h2).1) (by have k := (and2 h2).2; rw [Bool.not_eq_true'] at k; simpa using k)
      | .cons e1 (.cons e2 .nil), [x, y], h =>
        obtain ⟨h1, h2⟩ := and2 (show (((!hot && decide (c = "BadText")) && (gB sc "BadText" n && G.exs.contains "BadText")) && ((notStar x && notStar y) && chkEs G X.N hot sc (.cons e1 (.cons e2 .nil)) [x, y])) = true from h)
        obtain ⟨h3, h4⟩ := and2 h1
        obtain ⟨h5, h6⟩ := and2 h2
        have eh : hot = false := by simpa using (and2 h3).1
        subst eh
        have ec := of_decide_eq_true (and2 h3).2
        subst ec
        exact c_raib cx (hc rfl).1 (and2 h4).1 (List.contains_iff_mem.mp (and2 h4).2) (and2 h5).1 (and2 h5).2 (sEs _ cx.toCtx [x, y] h6)
mutual
theorem sS : ∀ (st : S) {C : RC} {hot : Bool} {X : Cx} {W : WX} (cx : SCx G C cf sc hot X W) (hc : hot = false → RaiF G C X ∧ ∀ a c d, ¬ C.Z a c d) (x : Stmt), chkS G X.N fx sc hot st x = true → PS X x (mS G C cf wf W B fx st)
  | .set t e, C, hot, X, W, cx, hc, x, h => k_set t e cx hc x h
  | .asgc i z e, C, hot, X, W, cx, hc, x, h => k_asgc i z e cx hc x h
  | .aug i o e, C, hot, X, W, cx, hc, x, h => k_aug i o e cx hc x h
  | .dro e, C, hot, X, W, cx, hc, x, h => k_dro e cx hc x h
  | .app i e, C, hot, X, W, cx, hc, x, h => k_app i e cx hc x h
  | .ext i e, C, hot, X, W, cx, hc, x, h => k_ext i e cx hc x h
  | .rev i, C, hot, X, W, cx, hc, x, h => k_rev i cx hc x h
  | .sti i k e, C, hot, X, W, cx, hc, x, h => k_sti i k e cx hc x h
  | .ifs t a b, C, hot, X, W, cx, hc, x, h => by
    cases x with
    | If c p q pos =>
      obtain ⟨h1, h2⟩ := and2 (show (chkT G X.N hot sc t c && (chkSs G X.N fx sc hot a p && chkSs G X.N fx sc hot b q)) = true from h)
      have pc : PT X c (mT G C cf W B t) := (sT t cx.toCtx c h1).1
      have pa : PSs X p (mSs G C cf wf W B fx a) := sSs a cx hc p (and2 h2).1
      have pb : PSs X q (mSs G C cf wf W B fx b) := sSs b cx hc q (and2 h2).2
      refine PS.imp (ps_if pc pa pb) fun D s H ⟨r, F, fp, gp, S, hs, g⟩ => ?_
      refine tS_ex (k := fun x r => match isBl x with
        | some true => evSs G cf wf a r
        | some false => evSs G cf wf b r
        | none => .bad) S hs g fun d r1 v H1 F1 f1 fq e1 a1 g1 => ?_
      obtain ⟨rfl, _⟩ := a1.rep
      cases v with
      | true =>
        rw [if_pos rfl]
        exact ⟨r1, F1, f1, _, a1.sd, a1.f1_gp, g1⟩
      | false =>
        rw [if_neg Bool.false_ne_true]
        exact ⟨r1, F1, f1, _, a1.sd, a1.f1_gp, g1⟩
    | _ => cases h
  | .fors t src b, C, hot, X, W, cx, hc, x, h => by
    cases x with
    | For tg it body els pos =>
      match els, h with
      | [], h =>
        obtain ⟨h1, h2⟩ := and2 (show ((!hot && fixTg fx t) && (((chkSr G X.N hot sc src tg it && notSet it) && chkTg X.N sc hot t tg) && chkSs G X.N fx sc hot b body)) = true from h)
        obtain ⟨h3, h4⟩ := and2 h2
        obtain ⟨h5, h6⟩ := and2 h3
        have eh : hot = false := by simpa using (and2 h1).1
        subst eh
        exact PS.imp (ps_for (cx.own rfl) (cx.calm rfl) (sSr src cx.toCtx tg it (and2 h5).1) (pg_ok cx.toCtx t tg h6) (sSs b cx hc body h4) (set_ok (and2 h5).2 X.env)) fun D s H h => for_ok cx.toCtx (fixTg_ok (and2 h1).2) (fun _ _ _ z => z) (fun _ _ _ z => z) h
      | _ :: _, h => cases h
    | _ => cases h
  | .whl t b, C, hot, X, W, cx, hc, x, h => by
    cases x with
    | While c body els pos =>
      match els, h with
      | [], h =>
        obtain ⟨h1, h2⟩ := and2 (show (!hot && (chkT G X.N hot sc t c && chkSs G X.N fx sc hot b body)) = true from h)
        have eh : hot = false := by simpa using h1
        subst eh
        exact PS.imp (ps_while (cx.own rfl) (sT t cx.toCtx c (and2 h2).1).1 (sSs b cx hc body (and2 h2).2)) fun D s H h => while_ok (fun _ _ _ z => z) (fun _ _ _ z => z) h
      | _ :: _, h => cases h
    | _ => cases h
  | .ret e, C, hot, X, W, cx, hc, x, h => k_ret e cx hc x h
  | .retn, C, hot, X, W, cx, hc, x, h => k_retn  cx hc x h
  | .brk, C, hot, X, W, cx, hc, x, h => k_brk  cx hc x h
  | .cnt, C, hot, X, W, cx, hc, x, h => k_cnt  cx hc x h
  | .pas, C, hot, X, W, cx, hc, x, h => k_pas  cx hc x h
  | .rai c es, C, hot, X, W, cx, hc, x, h => k_rai c es cx hc x h
  | .tra b c i hh, C, hot, X, W, cx, hc, x, h => by
    cases x with
    | Try body hds els fin pos =>
      have h : (match trParts hds els fin with
        | some (m, n, b₀, suite) => ((!hot && (!fx.contains i && (decide (X.N[i]? = some n) && decide (sc.names.lookup n = some .local)))) && (gB sc c m && G.exs.contains c)) && (chkSs G X.N fx sc hot b body && chkSs G X.N fx sc true hh (b₀ :: suite))
        | none => false) = true := h
      cases et : trParts hds els fin with
      | none =>
        rw [et] at h
        cases h
      | some q =>
        obtain ⟨m, n, b₀, suite⟩ := q
        rw [et] at h
        obtain ⟨np, hp, rfl, rfl, rfl⟩ := trParts_ok et
        obtain ⟨h1, h2⟩ := and2 h
        obtain ⟨h3, h4⟩ := and2 h1
        obtain ⟨h5, h6⟩ := and2 h3
        obtain ⟨h7, h8⟩ := and2 h6
        have eh : hot = false := by simpa using h5
        subst eh
        exact c_tra cx (hc rfl).2 (nofix h7) (of_decide_eq_true (and2 h8).1) (of_decide_eq_true (and2 h8).2) (and2 h4).1 (List.contains_iff_mem.mp (and2 h4).2) (fun W' pn xe tk po => sSs b (cx.tr tk po) (fun _ => ⟨(hc rfl).1.tr, (hc rfl).2⟩) body (and2 h2).1)
          (fun a oe cls d pn zn fl => sSs hh (cx.suite zn fl) (fun z => by cases z) (b₀ :: suite) (and2 h2).2)
    | _ => cases h
theorem sSs : ∀ (ss : Ss) {C : RC} {hot : Bool} {X : Cx} {W : WX} (cx : SCx G C cf sc hot X W) (hc : hot = false → RaiF G C X ∧ ∀ a c d, ¬ C.Z a c d) (xs : List Stmt), chkSs G X.N fx sc hot ss xs = true → PSs X xs (mSs G C cf wf W B fx ss)
  | .nil, C, hot, X, W, cx, hc, xs, h => by
    cases xs with
    | nil => exact PSs.imp pss_nil fun D s H ⟨r, F, fp, gp, S, hs, g⟩ => GoalS.nx g S Keeps.refl hs
    | cons _ _ => cases h
  | .cons st ss, C, hot, X, W, cx, hc, xs, h => by
    cases xs with
    | nil => cases h
    | cons x xs =>
      obtain ⟨h1, h2⟩ := and2 (show (chkS G X.N fx sc hot st x && chkSs G X.N fx sc hot ss xs) = true from h)
      refine PSs.imp (pss_cons (sS st cx hc x h1) (sSs ss cx hc xs h2)) fun D s H ⟨r, F, fp, gp, S, hs, g⟩ => ?_
      exact ⟨r, F, fp, gp, S, hs, GoalS.seq (ev := evSs G cf wf ss) rfl rfl g⟩
end
end
end PI
set_option maxRecDepth 100000
set_option maxHeartbeats 4000000
/-! PI21: defs keep their promises. -/
namespace PI
open PySem PySem.Spec PyProof.Rows L2

section
variable {C : RC} {H : Hp} {F B : Addr → Prop}
theorem Slots.start : ∀ {ds : List D} {vs : List V} {fp : List Addr} {n : Nat}, Reps C H F B ds vs fp → Slots C H F B (ds.map some ++ List.replicate n none) (vs.map some ++ List.replicate n none) fp
  | [], _, _, n, h => by
    obtain ⟨rfl, rfl⟩ := h
    have : ∀ n, ∀ s : L2.St, Slots C H F B (List.replicate n none) s [] := by
      intro n
      induction n with
      | zero => intro s; exact rfl
      | succ n ih => intro s; exact ih s.tail
    exact this n _
  | d :: ds, _, _, n, h => by
    obtain ⟨v, vr, f1, f2, rfl, r1, r2, rfl⟩ := h
    exact ⟨v, _, f1, f2, rfl, r1, Slots.start r2, rfl⟩
/-- the io slots at the end -/
theorem fin_ok : ∀ {io : List Nat} {r : Rho} {s : L2.St} {fp : List Addr} {fin : List D} {ws : List V}, Slots C H F B r s fp → io.Nodup → finOf io r = some fin → (∀ (n : Nat) (i : Nat), io[n]? = some i → ∃ w, ws[n]? = some w ∧ s[i]? = some (some w)) → ws.length = io.length →
    ∃ fo g, Reps C H F B fin ws fo ∧ fp.Perm (fo ++ g)
  | [], r, s, fp, fin, ws, h, _, e, _, hl => by
    cases e
    have : ws = [] := List.length_eq_zero_iff.mp hl
    subst this
    exact ⟨[], fp, ⟨rfl, rfl⟩, List.Perm.refl _⟩
  | i :: io, r, s, fp, fin, ws, h, hn, e, hw, hl => by
    obtain ⟨h1, h2⟩ := List.nodup_cons.mp hn
    unfold finOf at e
    cases q : r[i]? with
    | none =>
      rw [q] at e
      cases e
    | some o =>
      rw [q] at e
      cases o with
      | none => cases e
      | some d =>
        have e : (finOf io r).map (d :: ·) = some fin := e
        cases q2 : finOf io r with
        | none =>
          rw [q2] at e
          cases e
        | some fr =>
          rw [q2] at e
          cases e
          obtain ⟨w, ew, es⟩ := hw 0 i rfl
          cases ws with
          | nil => cases ew
          | cons w' ws =>
            cases ew
            obtain ⟨g0, k1, k2, k3⟩ := h.off i
            obtain ⟨v, f, e1, e2, e3⟩ := k3 d q
            rw [es] at e1
            cases e1
            have hsame : ∀ (js : List Nat), i ∉ js → finOf js (r.set i none) = finOf js r := by
              intro js
              induction js with
              | nil => intro _; rfl
              | cons j js ih =>
                intro hm
                have hj : i ≠ j := fun z => hm (by rw [z]; exact List.mem_cons_self)
                unfold finOf
                rw [List.getElem?_set_ne hj, ih fun z => hm (List.mem_cons_of_mem _ z)]
            obtain ⟨fo, g, r1, p1⟩ := fin_ok (io := io) k1 h2 (by rw [hsame io h1]; exact q2) (fun n j hj => hw (n + 1) j hj) (by simpa using hl)
            exact ⟨f ++ fo, g, ⟨w, ws, f, fo, rfl, e2, r1, rfl⟩, e3.trans (by rw [List.append_assoc]; exact p1.append_left f)⟩
theorem pick_ok : ∀ {io : List Nat} {vs ws : List V}, pick vs io = some ws → ws.length = io.length ∧ ∀ (n : Nat) (i : Nat), io[n]? = some i → ∃ w, ws[n]? = some w ∧ vs[i]? = some w
  | [], vs, ws, e => by
    cases e
    exact ⟨rfl, fun n i h => by simp at h⟩
  | i :: io, vs, ws, e => by
    unfold pick at e
    cases q : vs[i]? with
    | none =>
      rw [q] at e
      cases e
    | some v =>
      rw [q] at e
      have e : (pick vs io).map (v :: ·) = some ws := e
      cases q2 : pick vs io with
      | none =>
        rw [q2] at e
        cases e
      | some wr =>
        rw [q2] at e
        cases e
        obtain ⟨h1, h2⟩ := pick_ok q2
        refine ⟨by simp [h1], fun n j hj => ?_⟩
        cases n with
        | zero =>
          have : i = j := by simpa using hj
          subst this
          exact ⟨v, rfl, q⟩
        | succ n => exact h2 n j (by simpa using hj)
end

/-- the code fits the text -/
def fits (G : Gm) (hot : Bool) (io : List Nat) (df : Df) (sy : Syn) : Bool := decide (df.np = sy.ps.length) && (decide (df.ns = sy.N.length) && (decide (df.io = io) && (decide io.Nodup && chkSs G sy.N io sy.scope hot df.body sy.body)))
section
variable {G : Gm} {C : RC} {defs : Str → Option Df} {wf : Nat} {P : Program} {w : World} {K : PySem.W.Frag} {mg : Str → Option Value} {base : Heap} {hot : Bool}
/-- a def's body, walked -/
theorem body_ok {n : Nat} {f : Str} {df : Df} {sy : Syn} {io : List Nat} {X : Cx} {E : XK} {vs : List V} {H : Hp} {Q : VK} (hd : defs f = some df) (hfit : fits G hot io df sy = true) (hXN : X.N = sy.N) (hpre : sy.ps.length ≤ sy.N.length)
    (cx : SCx G C (callF G defs wf n) sy.scope hot X (fun cls d _ H => E cls d H)) (hc : hot = false → RaiF G C X ∧ ∀ a c d, ¬ C.Z a c d) (h : spF C (callF G defs wf (n + 1)) io f vs H Q E) :
    ∃ t, PSs X sy.body t ∧ t { nx := fun _ H' => Q .non H', rt := Q } (L2.start X.N vs) H := by
  obtain ⟨h1, h2⟩ := and2 hfit
  obtain ⟨h3, h4⟩ := and2 h2
  obtain ⟨h5, h6⟩ := and2 h4
  obtain ⟨h7, h8⟩ := and2 h6
  have h1 := of_decide_eq_true h1
  have h3 := of_decide_eq_true h3
  have h5 := of_decide_eq_true h5
  have h7 := of_decide_eq_true h7
  obtain ⟨ds, F, B, fp, ws, rr, nd, nF, nB, fd, bd, pk, g⟩ := h
  have hln := rr.length
  refine ⟨mSs G C (callF G defs wf n) wf (fun cls d _ H => E cls d H) B io df.body, sSs df.body cx hc sy.body (by rw [hXN]; exact h8), ?_⟩
  have g : GoalF C B E Q H F fp ws (match defs f with
    | some df => if ds.length = df.np then
        match evSs G (callF G defs wf n) wf df.body (ds.map some ++ List.replicate (df.ns - df.np) none) with
        | .ok fl r => match finOf df.io r with
          | some fin => match fl with
            | .rt d => .ret d fin
            | .nx => .ret .non fin
            | _ => .bad
          | none => .bad
        | .exc c fs r => match finOf df.io r with
          | some fin => .exc c fs fin
          | none => .bad
        | .bad => .bad
      else .bad
    | none => .bad) := g
  rw [hd] at g
  have g : GoalF C B E Q H F fp ws (if ds.length = df.np then
        match evSs G (callF G defs wf n) wf df.body (ds.map some ++ List.replicate (df.ns - df.np) none) with
        | .ok fl r => match finOf df.io r with
          | some fin => match fl with
            | .rt d => .ret d fin
            | .nx => .ret .non fin
            | _ => .bad
          | none => .bad
        | .exc c fs r => match finOf df.io r with
          | some fin => .exc c fs fin
          | none => .bad
        | .bad => .bad
      else .bad) := g
  by_cases hl : ds.length = df.np
  · rw [if_pos hl] at g
    obtain ⟨pl, pp⟩ := pick_ok pk
    have hst : L2.start X.N vs = vs.map some ++ List.replicate (df.ns - df.np) none := by
      unfold L2.start
      rw [hXN, ← hln, hl, ← h3]
    have S0 : Sd C B H F (ds.map some ++ List.replicate (df.ns - df.np) none) (L2.start X.N vs) fp := by
      rw [hst]
      exact ⟨Slots.start rr, nd, nF, nB, fd, bd, by simp [hln]⟩
    refine ⟨_, F, fp, fp, S0, fun _ z => z, ?_⟩
    -- the io slots at any end
    have io_ok : ∀ {r : Rho} {s' : L2.St} {H' : Hp} {F' : Addr → Prop} {fp' : List Addr} {fin : List D}, Keeps io (L2.start X.N vs) s' → Sd C B H' F' r s' fp' → finOf io r = some fin → ∃ fo g, Reps C H' F' B fin ws fo ∧ fp'.Perm (fo ++ g) := fun {r s' H' F' fp' fin} k S e =>
      fin_ok S.sl h7 e (fun m i hi => by
        obtain ⟨w, e1, e2⟩ := pp m i hi
        refine ⟨w, e1, ?_⟩
        rw [k i (List.mem_of_getElem? hi), hst, List.getElem?_append_left (by
          rw [List.length_map]
          exact (List.getElem?_eq_some_iff.mp e2).1), List.getElem?_map, e2]
        rfl) pl
    cases e : evSs G (callF G defs wf n) wf df.body (ds.map some ++ List.replicate (df.ns - df.np) none) with
    | bad =>
      rw [e] at g
      exact g
    | exc c fs r =>
      rw [e] at g
      have g : GoalF C B E Q H F fp ws (match finOf df.io r with
        | some fin => .exc c fs fin
        | none => .bad) := g
      rw [h5] at g
      cases ef : finOf io r with
      | none =>
        rw [ef] at g
        exact False.elim g
      | some fin =>
        rw [ef] at g
        intro cls d s' H' F' fp' k S ea st
        obtain ⟨fo, gg, r1, p1⟩ := io_ok k S ef
        have sub : ∀ a ∈ fo, a ∈ fp' := fun a ha => p1.mem_iff.mpr (List.mem_append_left _ ha)
        exact g cls d H' F' fo ea r1 (List.nodup_append.mp (p1.nodup_iff.mp S.nd)).1 (fun a ha => S.fF a (sub a ha)) (fun a ha => S.fB a (sub a ha)) S.fd (st.less sub)
    | ok fl r =>
      rw [e] at g
      cases ef : finOf io r with
      | none =>
        have ef2 : finOf df.io r = none := by rw [h5]; exact ef
        simp only [ef2] at g
        exact False.elim g
      | some fin =>
        have ef2 : finOf df.io r = some fin := by rw [h5]; exact ef
        simp only [ef2] at g
        cases fl with
        | nx =>
          intro s' H' F' fp' k S st
          obtain ⟨fo, gg, r1, p1⟩ := io_ok k S ef
          have sub : ∀ a ∈ fo, a ∈ fp' := fun a ha => p1.mem_iff.mpr (List.mem_append_left _ ha)
          have nd1 := (List.nodup_append.mp (p1.nodup_iff.mp S.nd)).1
          exact g .non H' F' [] fo ⟨rfl, rfl⟩ r1 (by rw [List.append_nil]; exact nd1) (fun a ha => S.fF a (sub a (by simpa using ha))) (fun a ha => S.fB a (sub a (by simpa using ha))) S.fd (st.less fun a ha => sub a (by simpa using ha))
        | rt d =>
          intro v s' H' F' fp' fq k S R I st
          obtain ⟨fo, gg, r1, p1⟩ := io_ok k S ef
          have sub : ∀ a ∈ fo, a ∈ fp' := fun a ha => p1.mem_iff.mpr (List.mem_append_left _ ha)
          have nd1 := (List.nodup_append.mp (p1.nodup_iff.mp S.nd)).1
          have nI := List.nodup_append.mp I.nd
          refine g v H' F' fq fo R r1 (List.nodup_append.mpr ⟨nd1, nI.2.1, fun a ha b hb e => nI.2.2 a (sub a ha) b hb e⟩) (fun a ha => (List.mem_append.mp ha).elim (fun z => S.fF a (sub a z)) (I.nF a)) (fun a ha => (List.mem_append.mp ha).elim (fun z => S.fB a (sub a z)) (I.nB a)) S.fd (st.less fun a ha => ?_)
          rcases List.mem_append.mp ha with z | z
          · exact List.mem_append_left _ (sub a z)
          · exact List.mem_append_right _ z
        | bk => exact False.elim g
        | ct => exact False.elim g
  · rw [if_neg hl] at g
    exact False.elim g
end
end PI
set_option maxRecDepth 100000
set_option maxHeartbeats 4000000
/-! PI22: all defs of a row keep their promises. -/
namespace PI
open PySem PySem.Spec PyProof.Rows L2

/-- what a row's written part says -/
structure RowF (G : Gm) (C : RC) (defs : Str → Option Df) (syn : Str → Option Syn) (K : PySem.W.Frag) (mg : Str → Option Value) : Prop where
  hK : C.K = K
  hZ : ∀ a c d, ¬ C.Z a c d
  fns : ∀ f, G.isFn f = true → ∃ (df : Df) (sy : Syn) (a : Addr) (fd : FuncData), defs f = some df ∧ syn f = some sy ∧ FunD K f sy.qual sy.params sy.body sy.scope [] [] a fd ∧ mg f = some (.ref a) ∧ C.mg f = some (.ref a) ∧ Binds K fd sy.ps [] ∧ FnScope sy.N sy.ps sy.scope ∧
    df.np = sy.ps.length ∧ (G.isCold f = true → fits G false (G.io f) df sy = true) ∧ (G.isHot f = true → fits G true (G.io f) df sy = true)
  blt : ∀ x ∈ blts, mg x = none
  glob : ∀ x d, G.glob x = some d → ∃ v u, mg x = some u ∧ RelV v u ∧ noexc d = true ∧ ∀ H F B, Rep C H F B d v []
  exo : ∀ c ∈ G.exs, ∃ D, mg c = some (.ref D) ∧ C.mg c = some (.ref D) ∧ ExcC K D ∧ PySem.W.findIn K (.ref D) "line" = some none ∧ PySem.W.findIn K (.ref D) "column" = some none
  kit : ∀ c' ∈ G.exs, ∀ c ∈ G.exs, ∀ D' D, mg c' = some (.ref D') → mg c = some (.ref D) → PySem.W.kitOne K (.ref D') (.ref D) = some (G.sub c' c)
  kiv : ∀ c' ∈ G.exs, ∀ D', mg c' = some (.ref D') → PySem.W.kitOne K (.ref D') (.type "ValueError") = some (G.sub c' "ValueError")
  exm : ∀ c' ∈ G.exs, ∀ c ∈ G.exs, ∀ D' D, mg c' = some (.ref D') → mg c = some (.ref D) → PySem.W.exmOne K (.ref D') (.ref D) = some (G.sub c' c)
  bt : ("BadText" : Str) ∈ G.exs → ∃ (Cb fI : Addr) (fd : FuncData) (sy : Syn), OexC K Cb ∧ PySem.W.findIn K (.ref Cb) "__init__" = some (some (.ref fI)) ∧ PySem.W.typeIn K (.ref fI) = some (.type "function") ∧ mg "BadText" = some (.ref Cb) ∧ C.mg "BadText" = some (.ref Cb) ∧ Binds K fd ["self", "line", "column"] [] ∧
    FnScope ["self", "line", "column"] ["self", "line", "column"] sy.scope ∧ FunD K "__init__" sy.qual sy.params sy.body sy.scope [] [] fI fd ∧
    ∃ p1 p2 p3 p4 p5 p6 p7 p8, sy.body = [.Assign [.Attribute (.Name "self" p1) "line" p2] (.Name "line" p3) p4, .Assign [.Attribute (.Name "self" p5) "column" p6] (.Name "column" p7) p8]
  ot : ∀ c ∈ G.exs, c ≠ "BadText" → ∃ D bmB newId initId, ExcBaseFacts "ValueError" newId initId bmB ∧ PySem.W.excIn K D bmB newId = true ∧ mg c = some (.ref D) ∧ C.mg c = some (.ref D) ∧ PySem.W.keepIn K (.ref D) = true ∧
    PySem.W.subIn K (.ref D) (.type "BaseException") = some true ∧ PySem.W.typeIn K (.ref D) = some (.type "type")

section
variable {G : Gm} {C : RC} {defs : Str → Option Df} {syn : Str → Option Syn} {wf : Nat} {P : Program} {w : World} {K : PySem.W.Frag} {mg : Str → Option Value} {base : Heap}
theorem len_ok {C : RC} {n : Nat} {f : Str} {df : Df} {io : List Nat} {vs : List V} {H : Hp} {Q : VK} {E : XK} (hd : defs f = some df) (h : spF C (callF G defs wf n) io f vs H Q E) : vs.length = df.np := by
  obtain ⟨ds, F, B, fp, ws, rr, _, _, _, _, _, _, g⟩ := h
  rw [← rr.length]
  cases n with
  | zero => exact False.elim g
  | succ n =>
    by_cases hl : ds.length = df.np
    · exact hl
    · exfalso
      have e : callF G defs wf (n + 1) f ds = .bad := by
        unfold callF
        rw [hd]
        simp only [hl, if_false]
      rw [e] at g
      exact g
/-- BadText's __init__ -/
theorem init_ok {Cb fI : Addr} {fd : FuncData} {sy : Syn} (T : OexC K Cb) (n1 : PySem.W.findIn K (.ref Cb) "line" = some none) (n2 : PySem.W.findIn K (.ref Cb) "column" = some none) (sc : FnScope ["self", "line", "column"] ["self", "line", "column"] sy.scope)
    (FD : FunD K "__init__" sy.qual sy.params sy.body sy.scope [] [] fI fd) (hb : ∃ p1 p2 p3 p4 p5 p6 p7 p8, sy.body = [.Assign [.Attribute (.Name "self" p1) "line" p2] (.Name "line" p3) p4, .Assign [.Attribute (.Name "self" p5) "column" p6] (.Name "column" p7) p8]) :
    FnOk P w K mg base (L2N.CX P w) 1 fI fd ["self", "line", "column"] (spI Cb) := by
  obtain ⟨p1, p2, p3, p4, p5, p6, p7, p8, eb⟩ := hb
  refine FD.ok sc (fun vs H Q E h => ?_) fun cdv A outer s H vs Q E hr h => ?_
  · obtain ⟨a, l, k, rfl, _⟩ := h
    rfl
  · have vis : ∀ x ∈ [("self" : Str), "line", "column"], Vis (envOfC sy.qual sy.scope s.heap.objs.size fI cdv).scope x := fun x hx => (sc.par x hx).elim .inl fun z => .inr (.inl z)
    have pv : ∀ (i : Nat) (x : Str) (pos : Pos), [("self" : Str), "line", "column"][i]? = some x → (x == ("__debug__" : Str)) = false → (x == ("__classdict__" : Str)) = false → PE (cxOf (L2N.CX P w) P w K mg base ["self", "line", "column"] sy.qual sy.scope fI cdv A outer s H E) (.Name x pos) (tVar i) := fun i x pos hi d1 d2 =>
      pe_var hi (vis x (List.mem_of_getElem? hi)) d1 d2
    rw [eb]
    refine ⟨_, pss_cons (ps_ost (pv 0 "self" p1 rfl (by decide) (by decide)) (pv 1 "line" p3 rfl (by decide) (by decide))) (pss_one (ps_ost (pv 0 "self" p5 rfl (by decide) (by decide)) (pv 2 "column" p7 rfl (by decide) (by decide)))), ?_⟩
    obtain ⟨a, l, k, rfl, ha, q⟩ := h
    refine ⟨.int l, rfl, .ref a, rfl, a, Cb, rfl, T, n1, .inl ⟨ha, fun dx hdx ne => ?_⟩⟩
    refine ⟨.int k, rfl, .ref a, rfl, a, Cb, rfl, T, n2, .inr ⟨dx, [("line", .int l)], upd_same, ?_, by simp, q dx hdx ne⟩⟩
    rw [upd_ne ne, upd_same]
/-- a context of a def's body -/
theorem row_cx (R : RowF G C defs syn K mg) {sy : Syn} {a : Addr} {cdv : Value} {A : Around} {outer : List Env} {s : Shared} {H : Hp} {E : XK} {n : Nat} (S : FnScope sy.N sy.ps sy.scope) (room : Room (n + 3) (A.deeper (envOfC sy.qual sy.scope s.heap.objs.size a cdv)))
    (ih : ∀ f, G.isFn f = true → ∃ a fd ps, mg f = some (.ref a) ∧ C.mg f = some (.ref a) ∧ PySem.W.keepIn K (.ref a) = true ∧ Binds K fd ps [] ∧ (G.isCold f = true → FnOk P w K mg base (L2N.CX P w) (n + 3) a fd ps (spF C (callF G defs wf n) (G.io f) f)) ∧
      (G.isHot f = true → FnE P w K mg base (L2N.CX P w) (n + 3) a fd ps (fun a cls d => spF (C.hz a cls d) (callF G defs wf n) (G.io f) f))) :
    SCx G C (callF G defs wf n) sy.scope false (cxOf (L2N.CX P w) P w K mg base sy.N sy.qual sy.scope a cdv A outer s H E) (fun cls d _ H => E cls d H) ∧ RaiF G C (cxOf (L2N.CX P w) P w K mg base sy.N sy.qual sy.scope a cdv A outer s H E) := by
  have tk : L2N.Takes (cxOf (L2N.CX P w) P w K mg base sy.N sy.qual sy.scope a cdv A outer s H E) (fun cls d _ H => E cls d H) := L2N.takes_of rfl rfl rfl rfl
  refine ⟨{
    hK := R.hK
    un := ?_
    calm := fun _ => rfl
    nd := S.nd
    vis := fun x h => h
    gl := fun x h => h
    loc := fun x h => h
    cel := fun x h => ⟨h, rfl⟩
    fre := fun x h => .inr h
    blt := R.blt
    glob := R.glob
    fns := ?_
    ht := fun z => by cases z
    exo := R.exo
    kit := R.kit
    kiv := R.kiv
    exm := R.exm
    tk := tk
    own := fun _ => passes_of rfl
    stk := rfl
    frm := rfl
    kind := S.kind
  }, ?_, ?_⟩
  · have := room.un
    show (A.deeper _).units + 65 < cLine
    omega
  · intro f hf
    obtain ⟨a, fd, ps, h1, h2, h3, h4, h5, h6⟩ := ih f hf
    exact ⟨a, fd, ps, n + 3, h1, h2, h3, h4, fun _ hq => ⟨h5 hq, room⟩, fun z => ⟨h6 z, L2H.roomH_of room⟩⟩
  · intro hb
    obtain ⟨Cb, fI, fd, sy, T, iC, tI, m1, m2, bd, sc, FD, body⟩ := R.bt hb
    obtain ⟨D, n1, _, _, n2, n3⟩ := R.exo "BadText" hb
    rw [m1] at n1
    cases n1
    exact ⟨Cb, fI, 1, fd, _, T, iC, tI, init_ok T n2 n3 sc FD body, room.mono (by omega), bd, m1, m2⟩
  · intro c hc ne
    obtain ⟨D, bmB, newId, initId, x1, x2, x3, x4, x5, x6, x7⟩ := R.ot c hc ne
    exact ⟨D, bmB, newId, initId, x1, x2, x3, x4, x5, raises_own x6 x7⟩
theorem row_cxH (R : RowF G C defs syn K mg) {sy : Syn} {a : Addr} {cdv : Value} {A : Around} {outer : List Env} {s : Shared} {H : Hp} {E : XK} {n : Nat} {x : Addr} {oe : Obj} {cls : Value} {d : Option Addr} (S : FnScope sy.N sy.ps sy.scope) (room : L2H.RoomH (n + 3) (A.deeper (envOfC sy.qual sy.scope s.heap.objs.size a cdv)))
    (hd : A.handled = some (.ref x)) (zn : L2N.Zn cls d oe) (fl : ∃ vs, oe.data = .fields vs)
    (ih : ∀ f, G.isFn f = true → ∃ a fd ps, mg f = some (.ref a) ∧ C.mg f = some (.ref a) ∧ PySem.W.keepIn K (.ref a) = true ∧ Binds K fd ps [] ∧ (G.isCold f = true → FnOk P w K mg base (L2N.CX P w) (n + 3) a fd ps (spF C (callF G defs wf n) (G.io f) f)) ∧
      (G.isHot f = true → FnE P w K mg base (L2N.CX P w) (n + 3) a fd ps (fun a cls d => spF (C.hz a cls d) (callF G defs wf n) (G.io f) f))) :
    SCx G (C.hz x cls d) (callF G defs wf n) sy.scope true (L2H.cxH (L2N.CX P w) P w K mg base sy.N sy.qual sy.scope a cdv A outer s H E (x, oe)) (fun cls d _ H => E cls d H) := by
  have tk : L2N.Takes (L2H.cxH (L2N.CX P w) P w K mg base sy.N sy.qual sy.scope a cdv A outer s H E (x, oe)) (fun cls d _ H => E cls d H) := L2N.takes_of rfl rfl rfl rfl
  refine {
    hK := R.hK
    un := ?_
    calm := fun z => by cases z
    nd := S.nd
    vis := fun x h => h
    gl := fun x h => h
    loc := fun x h => h
    cel := fun x h => ⟨h, rfl⟩
    fre := fun x h => .inr h
    blt := R.blt
    glob := ?_
    fns := ?_
    ht := fun _ => ⟨x, oe, cls, d, ⟨zn, fl, List.mem_cons_self, hd⟩, rfl⟩
    exo := R.exo
    kit := R.kit
    kiv := R.kiv
    exm := R.exm
    tk := tk
    own := fun z => by cases z
    stk := rfl
    frm := rfl
    kind := S.kind
  }
  · have := room.un
    show (A.deeper _).units + 65 < cLine
    omega
  · intro y dd e
    obtain ⟨v, u, h1, h2, h3, h4⟩ := R.glob y dd e
    exact ⟨v, u, h1, h2, h3, fun H F B => Rep.swap dd v [] h3 (h4 H F B)⟩
  · intro f hf
    obtain ⟨a, fd, ps, h1, h2, h3, h4, h5, h6⟩ := ih f hf
    exact ⟨a, fd, ps, n + 3, h1, h2, h3, h4, (fun z => by cases z), fun z => ⟨h6 z, room⟩⟩
theorem fits_np {hot : Bool} {io : List Nat} {df : Df} {sy : Syn} (h : fits G hot io df sy = true) : df.np = sy.ps.length := of_decide_eq_true (and2 h).1
theorem all_ok (R : RowF G C defs syn K mg) : ∀ (n : Nat) (f : Str), G.isFn f = true → ∃ a fd ps, mg f = some (.ref a) ∧ C.mg f = some (.ref a) ∧ PySem.W.keepIn K (.ref a) = true ∧ Binds K fd ps [] ∧ (G.isCold f = true → FnOk P w K mg base (L2N.CX P w) (n + 3) a fd ps (spF C (callF G defs wf n) (G.io f) f)) ∧
      (G.isHot f = true → FnE P w K mg base (L2N.CX P w) (n + 3) a fd ps (fun a cls d => spF (C.hz a cls d) (callF G defs wf n) (G.io f) f))
  | 0, f, hf => by
    obtain ⟨df, sy, a, fd, h1, h2, FD, h4, h5, h6, h7, hnp, h8, h9⟩ := R.fns f hf
    refine ⟨a, fd, sy.ps, h4, h5, FD.kp, h6, fun _ => ⟨fun vs H Q E h => ?_, fun A outer s H args us vs Q E _ _ _ _ h => ?_⟩, fun _ => ⟨fun a cls d vs H Q E h => ?_, fun A outer s H args us vs Q E a oe cls d _ _ _ _ _ _ _ _ h => ?_⟩⟩
    · rw [len_ok h1 h, hnp]
    · obtain ⟨ds, F, B, fp, ws, _, _, _, _, _, _, _, g⟩ := h
      exact False.elim g
    · rw [len_ok h1 h, hnp]
    · obtain ⟨ds, F, B, fp, ws, _, _, _, _, _, _, _, g⟩ := h
      exact False.elim g
  | n + 1, f, hf => by
    have ih := all_ok R n
    obtain ⟨df, sy, a, fd, h1, h2, FD, h4, h5, h6, S, hnp, h8, h9⟩ := R.fns f hf
    have hpre : sy.ps.length ≤ sy.N.length := by
      have := congrArg List.length S.pre
      rw [List.length_take] at this
      omega
    refine ⟨a, fd, sy.ps, h4, h5, FD.kp, h6, fun hcold => ?_, fun hh => ?_⟩
    · refine FD.ok S (fun vs H Q E h => ?_) fun cdv A outer s H vs Q E room h => ?_
      · rw [len_ok h1 h, hnp]
      · obtain ⟨cx, rf⟩ := row_cx (P := P) (w := w) (base := base) (outer := outer) (H := H) (E := E) R S room ih
        exact body_ok h1 (h8 hcold) rfl hpre cx (fun _ => ⟨rf, R.hZ⟩) h
    · obtain ⟨oc, od, dV, kV, doc, pm, an, cdv, ct, osl, rfl, lk, hcd, _, _⟩ := FD.ex
      refine fn_ofE lk hcd S (fun x cls d vs H Q E h => ?_) fun A outer s H vs Q E x oe cls d hd zn fl room h => ?_
      · rw [len_ok h1 h, hnp]
      · have cx := row_cxH (P := P) (w := w) (base := base) (outer := outer) (H := H) (E := E) R S room hd zn fl ih
        exact body_ok h1 (h9 hh) rfl hpre cx (fun z => by cases z) h
end
end PI
set_option maxRecDepth 100000
set_option maxHeartbeats 4000000
/-! PI23: what a row's written part says, read by a Hook. -/
namespace PI
open PySem PySem.Spec PyProof.Rows L2

/-- its code fits it -/
structure Good (G : Gm) (e : Rec) : Prop where
  sc : FnScope e.sy.N e.sy.ps e.sy.scope
  np : e.df.np = e.sy.ps.length
  cold : G.isCold e.f = true → fits G false (G.io e.f) e.df e.sy = true
  hot : G.isHot e.f = true → fits G true (G.io e.f) e.df e.sy = true
  bind : ∀ (kV doc pm : Value) (an : Option Addr) (cdv ct : Value) (us : List Value), us.length = e.sy.ps.length → bindArgs (PySem.W.fnOf e.f e.sy.qual e.sy.params e.sy.body e.sy.scope .none kV doc pm an cdv ct) ⟨us, []⟩ = pure (e.sy.ps.zip us)
/-! ### the classes -/
theorem oexB_ok {K : PySem.W.Frag} {C : Addr} (h : oexB K C = true) : ∃ nm q N bs bm sn sub ab col dd k0 k1 k2 k3 k5, K.lookup C = some (excClassObj nm q C N bs bm true sn sub ab col dd k0 k1 k2 k3 k5 "ValueError.__new__") ∧ PySem.HandSPX.refsVE bm = true := by
  unfold oexB at h
  split at h
  · rename_i t dd nm bs C' bm N q hdct sn sub ab col hdel k0 k1 k2 k3 n k5 e
    obtain ⟨h1, h2⟩ := and2 h
    obtain ⟨h3, h4⟩ := and2 h1
    obtain ⟨h5, h6⟩ := and2 h3
    obtain ⟨h7, h8⟩ := and2 h4
    obtain ⟨h9, h10⟩ := and2 h2
    have e1 := of_decide_eq_true h5
    have e2 := of_decide_eq_true h6
    have e3 := of_decide_eq_true h9
    rw [Bool.not_eq_true'] at h8
    subst e1 e2 e3 h7 h8
    exact ⟨nm, q, N, bs, bm, sn, sub, ab, col, dd, k0, k1, k2, k3, k5, e, h10⟩
  · cases h
theorem excCB_ok {K : PySem.W.Frag} {D : Addr} (hk : excCK K = true) (h : excCB K D = true) : ExcC K D ∧ PySem.W.findIn K (.ref D) "line" = some none ∧ PySem.W.findIn K (.ref D) "column" = some none := by
  obtain ⟨a, b⟩ := and2 hk
  obtain ⟨h1, h2⟩ := and2 h
  obtain ⟨h3, h4⟩ := and2 h2
  obtain ⟨h5, h6⟩ := and2 h4
  exact ⟨⟨of_decide_eq_true (and2 h1).1, of_decide_eq_true (and2 h1).2, of_decide_eq_true (and2 h3).1, (and2 h3).2, of_decide_eq_true (and2 h5).1, of_decide_eq_true a, of_decide_eq_true b, of_decide_eq_true (and2 h5).2⟩, of_decide_eq_true (and2 h6).1, of_decide_eq_true (and2 h6).2⟩
/-! ### the Hook -/
/-! ### the tables of a row -/
theorem Tab.found {T : Tab} {f : Str} (h : T.G.isFn f = true) : ∃ e, T.find f = some e ∧ e ∈ T.recs ∧ e.f = f := by
  obtain ⟨e, he⟩ := Option.isSome_iff_exists.mp (show (T.find f).isSome = true from h)
  exact ⟨e, he, List.mem_of_find?_eq_some he, by simpa using List.find?_some he⟩
def rcOf (K : PySem.W.Frag) (mg : Str → Option Value) : RC := ⟨K, mg, fun _ _ _ => False⟩
theorem lookup_mem {α : Type} : ∀ {l : List (Str × α)} {x : Str} {d : α}, l.lookup x = some d → (x, d) ∈ l
  | [], _, _, h => by cases h
  | (y, e) :: l, x, d, h => by
    rw [List.lookup_cons] at h
    cases q : x == y with
    | true =>
      rw [q] at h
      cases h
      rw [show x = y by simpa using q]
      exact List.mem_cons_self
    | false =>
      rw [q] at h
      exact List.mem_cons_of_mem _ (lookup_mem h)
theorem rowF_of {T : Tab} {K : PySem.W.Frag} {h : Heap} {mg : Str → Option Value} (X : K.In h) (Ns : h.Ns mainGlobals mg) (hcb : T.cb K = true) (c : He.SaysD [] T.fn K) (good : ∀ e ∈ T.recs, Good T.G e)
    (hin : FnScope ["self", "line", "column"] ["self", "line", "column"] T.ini.scope) (hib : ∀ (kV doc pm : Value) (an : Option Addr) (cdv ct : Value) (us : List Value), us.length = ["self", "line", "column"].length → bindArgs (PySem.W.fnOf "__init__" T.ini.qual T.ini.params T.ini.body T.ini.scope .none kV doc pm an cdv ct) ⟨us, []⟩ = pure (([("self" : Str), "line", "column"]).zip us))
    (hbody : ∃ p1 p2 p3 p4 p5 p6 p7 p8, T.ini.body = [.Assign [.Attribute (.Name "self" p1) "line" p2] (.Name "line" p3) p4, .Assign [.Attribute (.Name "self" p5) "column" p6] (.Name "column" p7) p8]) :
    RowF T.G (rcOf K mg) T.defs T.syn K mg := by
  obtain ⟨h1, h2⟩ := and2 hcb
  obtain ⟨h3, h4⟩ := and2 h1
  obtain ⟨h5, h6⟩ := and2 h4
  obtain ⟨h7, h8⟩ := and2 h2
  obtain ⟨h9, h10⟩ := and2 h7
  obtain ⟨h11, h12⟩ := and2 h8
  obtain ⟨h13, h14⟩ := and2 h11
  obtain ⟨h15, h16⟩ := and2 h14
  have mgx : ∀ c ∈ T.exs, mg c = some (.ref (He.ga K c)) := fun c hc => He.glo_ok X Ns (and2 (List.all_eq_true.mp h5 c hc)).1
  have mgf : ∀ e ∈ T.recs, mg e.f = some (.ref (He.ga K e.f)) := fun e he => He.glo_ok X Ns (List.all_eq_true.mp h15 e.f (List.mem_map.mpr ⟨e, he, rfl⟩))
  refine { hK := rfl, hZ := fun _ _ _ z => z, fns := ?_, blt := ?_, glob := ?_, exo := ?_, kit := ?_, kiv := ?_, exm := ?_, bt := ?_, ot := ?_ }
  · intro f hf
    obtain ⟨e, e1, e2, rfl⟩ := Tab.found hf
    obtain ⟨i, hi⟩ := List.getElem?_of_mem e2
    have hi2 : T.fn[i]? = some e.d := by
      unfold Tab.fn
      rw [List.getElem?_append_left (by
        rw [List.length_map]
        exact (List.getElem?_eq_some_iff.mp hi).1), List.getElem?_map, hi]
      rfl
    obtain ⟨fd, FD⟩ := c.def_ i hi2
    have g := good e e2
    exact ⟨e.df, e.sy, He.ga K e.f, fd, by unfold Tab.defs; rw [e1]; rfl, by unfold Tab.syn; rw [e1]; rfl, FD, mgf e e2, mgf e e2, FunD.bindsN FD g.bind, g.sc, g.np, g.cold, g.hot⟩
  · intro x hx
    exact He.free_ok X Ns (List.all_eq_true.mp h16 x hx)
  · intro x d hd
    have m := lookup_mem (show T.globs.lookup x = some d from hd)
    have g := List.all_eq_true.mp h13 (x, d) m
    cases d with
    | str z =>
      obtain ⟨t, ht⟩ := He.str_ok X Ns (show (He.Fa.str x z).ok K = true from g)
      exact ⟨.str z, _, ht, ⟨t, rfl⟩, rfl, fun H F B => ⟨rfl, rfl⟩⟩
    | int i =>
      obtain ⟨t, ht⟩ := He.int_ok X Ns (show (He.Fa.int x i).ok K = true from g)
      exact ⟨.int i, _, ht, ⟨t, rfl⟩, rfl, fun H F B => ⟨rfl, rfl⟩⟩
    | fn f =>
      obtain ⟨g1, g2⟩ := and2 (show (decide (f = x) && (T.recs.map (·.f)).contains f) = true from g)
      have e := of_decide_eq_true g1
      subst e
      obtain ⟨e, e1, e2⟩ := List.mem_map.mp (List.contains_iff_mem.mp g2)
      have q := mgf e e1
      rw [e2] at q
      exact ⟨.ref (He.ga K f), _, q, rfl, rfl, fun H F B => ⟨⟨_, rfl, q⟩, rfl⟩⟩
    | _ => cases g
  · intro x hx
    obtain ⟨z1, z2, z3⟩ := excCB_ok h3 (and2 (List.all_eq_true.mp h5 x hx)).2
    exact ⟨_, mgx x hx, mgx x hx, z1, z2, z3⟩
  · intro c' hc' c hc D' D m1 m2
    rw [mgx c' hc'] at m1
    rw [mgx c hc] at m2
    cases m1
    cases m2
    exact of_decide_eq_true (and2 (List.all_eq_true.mp (List.all_eq_true.mp h10 c' hc') c hc)).1
  · intro c' hc' D' m1
    rw [mgx c' hc'] at m1
    cases m1
    exact of_decide_eq_true (List.all_eq_true.mp h9 c' hc')
  · intro c' hc' c hc D' D m1 m2
    rw [mgx c' hc'] at m1
    rw [mgx c hc] at m2
    cases m1
    cases m2
    exact of_decide_eq_true (and2 (List.all_eq_true.mp (List.all_eq_true.mp h10 c' hc') c hc)).2
  · intro hb
    have hb2 : btB K = true := by
      rcases Bool.or_eq_true_iff.mp h12 with z | z
      · rw [Bool.not_eq_true', List.contains_iff_mem.mpr hb] at z
        cases z
      · exact z
    obtain ⟨k1, k2⟩ := and2 hb2
    obtain ⟨k3, k4⟩ := and2 k1
    obtain ⟨k5, k6⟩ := and2 k2
    obtain ⟨k7, k8⟩ := and2 k5
    obtain ⟨k9, k10⟩ := and2 k6
    obtain ⟨k11, k12⟩ := and2 k10
    have hi2 : T.fn[T.recs.length]? = some T.iniD := by
      unfold Tab.fn
      rw [List.getElem?_append_right (by rw [List.length_map]; exact Nat.le_refl _), List.length_map, Nat.sub_self]
      rfl
    obtain ⟨fd, FD⟩ := c.def_ _ hi2
    exact ⟨_, _, fd, T.ini, ⟨oexB_ok k3, of_decide_eq_true k4, of_decide_eq_true k7, of_decide_eq_true k8, k9⟩, of_decide_eq_true k11, of_decide_eq_true k12, mgx _ hb, mgx _ hb, FunD.bindsN FD hib, hin, FD, hbody⟩
  · intro x hx ne
    have g := List.all_eq_true.mp h6 x hx
    rcases Bool.or_eq_true_iff.mp g with z | z
    · exact absurd (of_decide_eq_true z) ne
    · obtain ⟨y1, y2⟩ := and2 (show (PySem.W.excIn K (He.ga K x) He.veBase "ValueError.__new__" && (PySem.W.keepIn K (.ref (He.ga K x)) && (decide (PySem.W.subIn K (.ref (He.ga K x)) (.type "BaseException") = some true) && decide (PySem.W.typeIn K (.ref (He.ga K x)) = some (.type "type"))))) = true from z)
      obtain ⟨y3, y4⟩ := and2 y2
      obtain ⟨y5, y6⟩ := and2 y4
      exact ⟨_, _, _, _, PySem.F.excBase_ValueError, y1, mgx x hx, mgx x hx, y3, of_decide_eq_true y5, of_decide_eq_true y6⟩
theorem mg_rec {T : Tab} {K : PySem.W.Frag} {h : Heap} {mg : Str → Option Value} (X : K.In h) (Ns : h.Ns mainGlobals mg) (hcb : T.cb K = true) {e : Rec} (he : e ∈ T.recs) : mg e.f = some (.ref (He.ga K e.f)) := by
  obtain ⟨_, h2⟩ := and2 hcb
  obtain ⟨_, h8⟩ := and2 h2
  obtain ⟨h11, _⟩ := and2 h8
  obtain ⟨_, h14⟩ := and2 h11
  exact He.glo_ok X Ns (List.all_eq_true.mp (and2 h14).1 e.f (List.mem_map.mpr ⟨e, he, rfl⟩))
/-- the law's def -/
theorem law_ok {T : Tab} {K : PySem.W.Frag} {mg : Str → Option Value} {P : Program} {w : World} {base : Heap} {wf : Nat} {e : Rec} {fd : FuncData} {a : Addr} (R : RowF T.G (rcOf K mg) T.defs T.syn K mg) (hf : T.find e.f = some e) (g : Good T.G e) (hcold : T.G.isCold e.f = true) (n : Nat)
    (FD : FunD K e.f e.sy.qual e.sy.params e.sy.body e.sy.scope [] [] a fd) : FnOk P w K mg base (L2N.CX P w) (n + 4) a fd e.sy.ps (spF (rcOf K mg) (callF T.G T.defs wf (n + 1)) (T.G.io e.f) e.f) := by
  have hd : T.defs e.f = some e.df := by
    unfold Tab.defs
    rw [hf]
    rfl
  have hpre : e.sy.ps.length ≤ e.sy.N.length := by
    have := congrArg List.length g.sc.pre
    rw [List.length_take] at this
    omega
  refine FD.ok g.sc (fun vs H Q E h => ?_) fun cdv A outer s H vs Q E room h => ?_
  · rw [len_ok hd h, g.np]
  · obtain ⟨cx, rf⟩ := row_cx (P := P) (w := w) (base := base) (outer := outer) (H := H) (E := E) R g.sc room (all_ok R n)
    exact body_ok hd (g.cold hcold) rfl hpre cx (fun _ => ⟨rf, R.hZ⟩) h
end PI
set_option maxRecDepth 100000
set_option maxHeartbeats 4000000
/-! PI24: running codes on pure data. -/
namespace PI
open PySem PySem.Spec PyProof.Rows L2

/-- a block goes on -/
def R.next (x : R Fl) (k : Rho → R Fl) : R Fl := match x with
  | .ok .nx r => k r
  | .ok f r => .ok f r
  | .exc c fs r => .exc c fs r
  | .bad => .bad
/-- a test is asked -/
def R.test {α : Type} (x : R D) (a b : Rho → R α) : R α := match x with
  | .ok (.bl true) r => a r
  | .ok (.bl false) r => b r
  | .ok _ _ => .bad
  | .exc c fs r => .exc c fs r
  | .bad => .bad
/-- a def's end -/
def finR (io : List Nat) (x : R Fl) : FR := match x with
  | .ok fl r => match finOf io r with
    | some fin => match fl with
      | .rt d => .ret d fin
      | .nx => .ret .non fin
      | _ => .bad
    | none => .bad
  | .exc c fs r => match finOf io r with
    | some fin => .exc c fs fin
    | none => .bad
  | .bad => .bad
section
variable {G : Gm} {cf : Str → List D → FR} {wf : Nat} {r : Rho}
@[simp] theorem bind_ok {α β : Type} {a : α} {k : α → Rho → R β} : (R.ok a r).bind k = k a r := rfl
@[simp] theorem bind_bad {α β : Type} {k : α → Rho → R β} : (R.bad : R α).bind k = .bad := rfl
@[simp] theorem bind_exc {α β : Type} {c : Str} {fs : List (Str × Int)} {k : α → Rho → R β} : (R.exc c fs r : R α).bind k = .exc c fs r := rfl
@[simp] theorem next_nx {k : Rho → R Fl} : (R.ok .nx r).next k = k r := rfl
@[simp] theorem next_rt {k : Rho → R Fl} {d : D} : (R.ok (.rt d) r).next k = .ok (.rt d) r := rfl
@[simp] theorem next_bk {k : Rho → R Fl} : (R.ok .bk r).next k = .ok .bk r := rfl
@[simp] theorem next_ct {k : Rho → R Fl} : (R.ok .ct r).next k = .ok .ct r := rfl
@[simp] theorem next_exc {k : Rho → R Fl} {c : Str} {fs : List (Str × Int)} : (R.exc c fs r).next k = .exc c fs r := rfl
@[simp] theorem next_bad {k : Rho → R Fl} : (R.bad : R Fl).next k = .bad := rfl
@[simp] theorem test_bl {α : Type} {b : Bool} {p q : Rho → R α} : (R.ok (.bl b) r).test p q = if b = true then p r else q r := by cases b <;> rfl
@[simp] theorem test_bad {α : Type} {p q : Rho → R α} : (R.bad : R D).test p q = .bad := rfl
@[simp] theorem test_exc {α : Type} {c : Str} {fs : List (Str × Int)} {p q : Rho → R α} : (R.exc c fs r : R D).test p q = .exc c fs r := rfl
@[simp] theorem ofO_some {α : Type} {a : α} : ofO (some a) r = .ok a r := rfl
@[simp] theorem ofO_none {α : Type} : (ofO (none : Option α) r) = .bad := rfl
@[simp] theorem blR_some' {b : Bool} : blR (some b) r = .ok (.bl b) r := rfl
@[simp] theorem blR_none : blR none r = .bad := rfl
theorem test_of {α : Type} (x : R D) (a b : Rho → R α) : (x.bind fun d r => match isBl d with
    | some true => a r
    | some false => b r
    | none => .bad) = x.test a b := by
  cases x with
  | ok d r => cases d <;> first | rfl | (rename_i z; cases z <;> rfl)
  | exc _ _ _ => rfl
  | bad => rfl
theorem next_of (x : R Fl) (k : Rho → R Fl) : (x.bind fun f r => match f with
    | .nx => k r
    | f => .ok f r) = x.next k := by
  cases x with
  | ok f r => cases f <;> rfl
  | exc _ _ _ => rfl
  | bad => rfl
-- expressions
@[simp] theorem e_k {d : D} : evE G cf (.k d) r = .ok d r := rfl
@[simp] theorem e_gl {x : Str} : evE G cf (.gl x) r = ofO (G.glob x) r := rfl
/-- a slot's data -/
def slotR (r : Rho) (i : Nat) : R D := match r[i]? with
  | some (some d) => .ok d r
  | _ => .bad
@[simp] theorem e_s {i : Nat} : evE G cf (.s i) r = slotR r i := rfl
def copyR (d : D) (r : Rho) : R D := if copyable d = true then .ok d r else .bad
@[simp] theorem e_cp {e : E} : evE G cf (.cp e) r = (evE G cf e r).bind copyR := rfl
@[simp] theorem e_fz {e : E} : evE G cf (.fz e) r = (evE G cf e r).bind fun d r => .ok (fz d) r := rfl
@[simp] theorem e_tup {es : Es} : evE G cf (.tup es) r = (evEs G cf es r).bind fun ds r => if szl ds.length = true then .ok (.tup ds) r else .bad := rfl
@[simp] theorem e_lst {es : Es} : evE G cf (.lst es) r = (evEs G cf es r).bind fun ds r => if szl ds.length = true then .ok (.lst .own ds) r else .bad := rfl
@[simp] theorem e_bin {o : Bop} {a b : E} : evE G cf (.bin o a b) r = (evE G cf a r).bind fun x r => (evE G cf b r).bind fun y r => ofO (binD o x y) r := rfl
@[simp] theorem e_neg {a : E} : evE G cf (.neg a) r = (evE G cf a r).bind fun x r => ofO (negD x) r := rfl
@[simp] theorem e_cmp {o : Cop} {a b : E} : evE G cf (.cmp o a b) r = (evE G cf a r).bind fun x r => (evE G cf b r).bind fun y r => blR (cmpD o x y) r := rfl
@[simp] theorem e_andv {a b : E} : evE G cf (.andv a b) r = (evE G cf a r).test (fun r => evE G cf b r) (fun r => .ok (.bl false) r) := by rw [← test_of]; rfl
@[simp] theorem e_orv {a b : E} : evE G cf (.orv a b) r = (evE G cf a r).test (fun r => .ok (.bl true) r) (fun r => evE G cf b r) := by rw [← test_of]; rfl
@[simp] theorem e_notv {a : E} : evE G cf (.notv a) r = (evE G cf a r).test (fun r => .ok (.bl false) r) (fun r => .ok (.bl true) r) := by
  rw [← test_of]
  show (evE G cf a r).bind _ = _
  congr 1
  funext x r
  cases x <;> first | rfl | (rename_i z; cases z <;> rfl)
@[simp] theorem e_ife {t : T} {a b : E} : evE G cf (.ife t a b) r = (evT G cf t r).test (fun r => evE G cf a r) (fun r => evE G cf b r) := by rw [← test_of]; rfl
@[simp] theorem e_cal {f : Str} {as : As} : evE G cf (.cal f as) r = (evAs G cf as r).bind fun p r => callR G cf f p r := rfl
@[simp] theorem e_bi {b : Bi} {a : E} : evE G cf (.bi b a) r = (evE G cf a r).bind fun x r => ofO (biD b x) r := rfl
@[simp] theorem e_ix {a b : E} : evE G cf (.ix a b) r = (evE G cf a r).bind fun x r => (evE G cf b r).bind fun y r => ofO (ixD x y) r := rfl
@[simp] theorem e_sl {a : E} {lo hi : Oe} : evE G cf (.sl a lo hi) r = (evE G cf a r).bind fun x r => (evO G cf lo r).bind fun l r => (evO G cf hi r).bind fun h r => ofO (slD x l h) r := rfl
theorem e_cmpr {elt : E} {tg : Tg} {src : Sr} {cond : Ot} {own : List (Str × Nat)} : evE G cf (.cmpr elt tg src cond own) r = (evSr G cf src r).bind fun xs r => (turns (oneC tg (own.map (·.2)) (fun r => evC G cf cond r) (fun r => evE G cf elt r)) xs [] (wipeR r (own.map (·.2)))).calm.bind fun ys r => .ok (.lst .own ys) r := rfl
@[simp] theorem e_isi {a : E} {t : Ty} : evE G cf (.isi a t) r = (evE G cf a r).bind fun x r => blR (isTy t x) r := rfl
@[simp] theorem es_nil : evEs G cf .nil r = .ok [] r := rfl
@[simp] theorem es_cons {e : E} {es : Es} : evEs G cf (.cons e es) r = (evE G cf e r).bind fun d r => (evEs G cf es r).bind fun ds r => .ok (d :: ds) r := rfl
@[simp] theorem as_nil : evAs G cf .nil r = .ok [] r := rfl
@[simp] theorem as_val {e : E} {as : As} : evAs G cf (.val e as) r = (evE G cf e r).bind fun d r => (evAs G cf as r).bind fun p r => .ok (.val d :: p) r := rfl
def hasR {α : Type} (r : Rho) (i : Nat) (k : R α) : R α := match r[i]? with
  | some (some _) => k
  | _ => .bad
@[simp] theorem as_io {i : Nat} {as : As} : evAs G cf (.io i as) r = hasR r i ((evAs G cf as r).bind fun p r => .ok (.io i :: p) r) := rfl
@[simp] theorem as_bor {i : Nat} {as : As} : evAs G cf (.bor i as) r = hasR r i ((evAs G cf as r).bind fun p r => .ok (.bor i :: p) r) := rfl
@[simp] theorem o_no' : evO G cf .no r = .ok none r := rfl
def intR (d : D) (r : Rho) : R (Option Int) := match d with
  | .int i => .ok (some i) r
  | _ => .bad
@[simp] theorem o_yes' {e : E} : evO G cf (.yes e) r = (evE G cf e r).bind intR := rfl
@[simp] theorem intR_int {i : Int} : intR (.int i) r = .ok (some i) r := rfl
@[simp] theorem t_e' {e : E} : evT G cf (.e e) r = (evE G cf e r).bind fun x r => blR (truD x) r := rfl
@[simp] theorem t_an' {a b : T} : evT G cf (.an a b) r = (evT G cf a r).test (fun r => evT G cf b r) (fun r => .ok (.bl false) r) := by rw [← test_of]; rfl
@[simp] theorem t_oo' {a b : T} : evT G cf (.oo a b) r = (evT G cf a r).test (fun r => .ok (.bl true) r) (fun r => evT G cf b r) := by rw [← test_of]; rfl
@[simp] theorem t_no' {a : T} : evT G cf (.no a) r = (evT G cf a r).test (fun r => .ok (.bl false) r) (fun r => .ok (.bl true) r) := by
  rw [← test_of]
  show (evT G cf a r).bind _ = _
  congr 1
  funext x r
  cases x <;> first | rfl | (rename_i z; cases z <;> rfl)
def strK {α : Type} (k : Str → Rho → R α) (d : D) (r : Rho) : R α := match d with
  | .str z => k z r
  | _ => .bad
@[simp] theorem strK_str {α : Type} {k : Str → Rho → R α} {z : Str} : strK k (.str z) r = k z r := rfl
@[simp] theorem e_me {m : Me} {a b : E} : evE G cf (.me m a b) r = (evE G cf a r).bind (strK fun z r => (evE G cf b r).bind fun y r => ofO (meD m (.str z) y) r) := by
  show (evE G cf a r).bind _ = _
  congr 1
@[simp] theorem sr_it {e : E} : evSr G cf (.it e) r = (evE G cf e r).bind fun x r => ofO (itemsD x) r := rfl
@[simp] theorem c_no' : evC G cf .no r = .ok true r := rfl
@[simp] theorem finR_rt {io : List Nat} {d : D} : finR io (.ok (.rt d) r) = match finOf io r with
  | some fin => .ret d fin
  | none => .bad := by
  show (match finOf io r with | some fin => _ | none => _) = _
  cases finOf io r <;> rfl
@[simp] theorem finOf_nil : finOf [] r = some [] := rfl
@[simp] theorem calm_ok {α : Type} {a : α} : (R.ok a r).calm = .ok a r := rfl
-- statements
@[simp] theorem ss_nil : evSs G cf wf .nil r = .ok .nx r := rfl
@[simp] theorem ss_cons {s : S} {ss : Ss} : evSs G cf wf (.cons s ss) r = (evS G cf wf s r).next (fun r => evSs G cf wf ss r) := by rw [← next_of]; rfl
def setR (t : Tg) (d : D) (r : Rho) : R Fl := match setT t d r with
  | some r1 => .ok .nx r1
  | none => .bad
@[simp] theorem s_set {t : Tg} {e : E} : evS G cf wf (.set t e) r = (evE G cf e r).bind (setR t) := rfl
@[simp] theorem setR_nm {i : Nat} {d : D} : setR (.nm i) d r = .ok .nx (r.set i (some d)) := rfl
@[simp] theorem s_ifs {t : T} {a b : Ss} : evS G cf wf (.ifs t a b) r = (evT G cf t r).test (fun r => evSs G cf wf a r) (fun r => evSs G cf wf b r) := by rw [← test_of]; rfl
@[simp] theorem s_ret {e : E} : evS G cf wf (.ret e) r = (evE G cf e r).bind fun d r => .ok (.rt d) r := rfl
@[simp] theorem s_asgc_t {i : Nat} {e : E} : evS G cf wf (.asgc i true e) r = (evE G cf (.fz e) r).bind fun d r => .ok .nx (r.set i (some d)) := rfl
@[simp] theorem s_asgc_f {i : Nat} {e : E} : evS G cf wf (.asgc i false e) r = (evE G cf e r).bind fun d r => .ok .nx (r.set i (some d)) := rfl
end
/-- a call -/
theorem callF_of {T : Tab} {f : Str} {e : Rec} (h : T.find f = some e) {n wf : Nat} {ds : List D} (hl : ds.length = e.df.np) : callF T.G T.defs wf (n + 1) f ds = finR e.df.io (evSs T.G (callF T.G T.defs wf n) wf e.df.body (ds.map some ++ List.replicate (e.df.ns - e.df.np) none)) := by
  have hd : T.defs f = some e.df := by
    unfold Tab.defs
    rw [h]
    rfl
  show (match T.defs f with
    | some df => if ds.length = df.np then _ else _
    | none => _) = _
  rw [hd]
  show (if ds.length = e.df.np then _ else _) = _
  rw [if_pos hl]
  unfold finR
  rfl
end PI
set_option maxRecDepth 100000
set_option maxHeartbeats 4000000
/-! PI25: loops on pure data. -/
namespace PI
open PySem PySem.Spec PyProof.Rows L2

section
variable {r : Rho}
/-- a comprehension whose turns leave the slots alone: all are taken -/
theorem turns_map {α : Type} {one : D → Rho → R (Option D)} (g : α → D) (f : α → D) (hone : ∀ x, one (g x) r = .ok (some (f x)) r) : ∀ (xs : List α) (acc : List D), acc.length + xs.length ≤ 16777216 → turns one (xs.map g) acc r = .ok (acc ++ xs.map f) r
  | [], acc, _ => by
    show R.ok acc r = _
    rw [List.map_nil, List.append_nil]
  | x :: xs, acc, h => by
    have h : acc.length + (xs.length + 1) ≤ 16777216 := h
    show (one (g x) r).bind _ = _
    rw [hone x]
    show (if szlt acc.length = true then turns one (xs.map g) (acc ++ [f x]) r else .bad) = _
    rw [if_pos (show szlt acc.length = true from decide_eq_true (by omega)), turns_map g f hone xs (acc ++ [f x]) (by rw [List.length_append, List.length_singleton]; omega), List.append_assoc]
    rfl
/-- the same over the members alone -/
theorem turns_map' {one : D → Rho → R (Option D)} (f : D → D) : ∀ (xs : List D) (acc : List D), (∀ x ∈ xs, one x r = .ok (some (f x)) r) → acc.length + xs.length ≤ 16777216 → turns one xs acc r = .ok (acc ++ xs.map f) r
  | [], acc, _, _ => by
    show R.ok acc r = _
    rw [List.map_nil, List.append_nil]
  | x :: xs, acc, hone, h => by
    have h : acc.length + (xs.length + 1) ≤ 16777216 := h
    show (one x r).bind _ = _
    rw [hone x List.mem_cons_self]
    show (if szlt acc.length = true then turns one xs (acc ++ [f x]) r else .bad) = _
    rw [if_pos (show szlt acc.length = true from decide_eq_true (by omega)), turns_map' f xs (acc ++ [f x]) (fun y hy => hone y (List.mem_cons_of_mem _ hy)) (by rw [List.length_append, List.length_singleton]; omega), List.append_assoc]
    rfl
/-- a comprehension with a test -/
theorem turns_filter {one : D → Rho → R (Option D)} (f : D → Option D) : ∀ (xs : List D) (acc : List D), (∀ x ∈ xs, one x r = .ok (f x) r) → acc.length + xs.length ≤ 16777216 → turns one xs acc r = .ok (acc ++ xs.filterMap f) r
  | [], acc, _, _ => by
    show R.ok acc r = _
    rw [List.filterMap_nil, List.append_nil]
  | x :: xs, acc, hone, h => by
    have h : acc.length + (xs.length + 1) ≤ 16777216 := h
    show (one x r).bind _ = _
    rw [hone x List.mem_cons_self]
    cases e : f x with
    | none =>
      show turns one xs acc r = _
      rw [turns_filter f xs acc (fun y hy => hone y (List.mem_cons_of_mem _ hy)) (by omega), List.filterMap_cons, e]
    | some y =>
      show (if szlt acc.length = true then turns one xs (acc ++ [y]) r else .bad) = _
      rw [if_pos (show szlt acc.length = true from decide_eq_true (by omega)), turns_filter f xs (acc ++ [y]) (fun y hy => hone y (List.mem_cons_of_mem _ hy)) (by rw [List.length_append, List.length_singleton]; omega), List.filterMap_cons, e, List.append_assoc]
      rfl
end
/-- ints as data -/
abbrev dI (ns : List Int) : D := .tup (ns.map D.int)
theorem copy_ints : ∀ ns : List Int, copyables (ns.map D.int) = true
  | [] => rfl
  | _ :: ns => copy_ints ns
theorem copy_strs : ∀ ns : List Str, copyables (ns.map D.str) = true
  | [] => rfl
  | _ :: ns => copy_strs ns
theorem copy_dI (ns : List Int) : copyable (dI ns) = true := copy_ints ns
theorem copy_all {ds : List D} (h : ∀ d ∈ ds, copyable d = true) : copyables ds = true := by
  induction ds with
  | nil => rfl
  | cons d ds ih =>
    show (copyable d && copyables ds) = true
    rw [h d List.mem_cons_self, ih fun x hx => h x (List.mem_cons_of_mem _ hx)]
    rfl
theorem strsOf_map : ∀ ys : List Str, strsOf (ys.map D.str) = some ys
  | [] => rfl
  | y :: ys => by
    show (strsOf (ys.map D.str)).map (y :: ·) = _
    rw [strsOf_map ys]
    rfl

/-- behind a turn of a loop -/
def loopK (k : Rho → R Fl) (f : Fl) (r : Rho) : R Fl := match f with
  | .nx => k r
  | .ct => k r
  | .bk => .ok .nx r
  | .rt d => .ok (.rt d) r
@[simp] theorem loopK_nx {k : Rho → R Fl} {r : Rho} : loopK k .nx r = k r := rfl
@[simp] theorem loopK_ct {k : Rho → R Fl} {r : Rho} : loopK k .ct r = k r := rfl
@[simp] theorem loopK_bk {k : Rho → R Fl} {r : Rho} : loopK k .bk r = .ok .nx r := rfl
@[simp] theorem loopK_rt {k : Rho → R Fl} {r : Rho} {d : D} : loopK k (.rt d) r = .ok (.rt d) r := rfl
theorem while_step {t : Rho → R D} {b : Rho → R Fl} {m : Nat} {r : Rho} : whileN t b (m + 1) r = (t r).test (fun r => (b r).bind (loopK (whileN t b m))) (fun r => .ok .nx r) := by
  rw [← test_of]
  show (t r).bind _ = (t r).bind _
  congr 1
theorem for_step {t : Tg} {b : Rho → R Fl} {x : D} {xs : List D} {r : Rho} : forN t b (x :: xs) r = match setT t x r with
    | some r1 => (b r1).bind (loopK (forN t b xs))
    | none => .bad := by
  show (match setT t x r with | some r1 => _ | none => _) = _
  cases setT t x r with
  | none => rfl
  | some r1 =>
    show (b r1).bind _ = (b r1).bind _
    congr 1
end PI
set_option maxRecDepth 100000
set_option maxHeartbeats 4000000
/-! PI26: what a code leads to, as a Prop that simp unfolds step by step. -/
namespace PI
open PySem PySem.Spec PyProof.Rows L2

abbrev Ex := Str → List (Str × Int) → Rho → Prop
abbrev ExF := Str → List (Str × Int) → List D → Prop
def Sat {α : Type} (x : R α) (Q : α → Rho → Prop) (E : Ex) : Prop := match x with
  | .ok a r => Q a r
  | .exc c fs r => E c fs r
  | .bad => False
def SatF (x : FR) (Q : D → List D → Prop) (E : ExF) : Prop := match x with
  | .ret d fin => Q d fin
  | .exc c fs fin => E c fs fin
  | .bad => False
def NoX : Ex := fun _ _ _ => False
def NoF : ExF := fun _ _ _ => False
/-- an option that is there -/
def So {α : Type} (o : Option α) (P : α → Prop) : Prop := match o with
  | some a => P a
  | none => False
/-- a slot that holds data -/
def Sl (r : Rho) (i : Nat) (P : D → Prop) : Prop := match r[i]? with
  | some (some d) => P d
  | _ => False
def tsQ (A B : Rho → Prop) (d : D) (r : Rho) : Prop := match d with
  | .bl true => A r
  | .bl false => B r
  | _ => False
def retQ (io : List Nat) (Q : D → List D → Prop) (fl : Fl) (r : Rho) : Prop := So (finOf io r) fun fin => match fl with
  | .rt d => Q d fin
  | .nx => Q .non fin
  | _ => False
def nxQ (A : Rho → Prop) (Q : Fl → Rho → Prop) (f : Fl) (r : Rho) : Prop := match f with
  | .nx => A r
  | f => Q f r
/-- behind a turn -/
def lpQ (A : Rho → Prop) (Q : Fl → Rho → Prop) (f : Fl) (r : Rho) : Prop := match f with
  | .nx => A r
  | .ct => A r
  | .bk => Q .nx r
  | .rt d => Q (.rt d) r

theorem Sat.mono {α : Type} {x : R α} {Q Q' : α → Rho → Prop} {E E' : Ex} (h : Sat x Q E) (hq : ∀ a r, Q a r → Q' a r) (he : ∀ c fs r, E c fs r → E' c fs r) : Sat x Q' E' := by
  cases x with
  | ok a r => exact hq _ _ h
  | exc c fs r => exact he _ _ _ h
  | bad => exact h
theorem SatF.mono {x : FR} {Q Q' : D → List D → Prop} {E E' : ExF} (h : SatF x Q E) (hq : ∀ a r, Q a r → Q' a r) (he : ∀ c fs r, E c fs r → E' c fs r) : SatF x Q' E' := by
  cases x with
  | ret d fin => exact hq _ _ h
  | exc c fs r => exact he _ _ _ h
  | bad => exact h
theorem SatF.ok {x : FR} {Q Q' : D → List D → Prop} {E' : ExF} (h : SatF x Q NoF) (hq : ∀ a r, Q a r → Q' a r) : SatF x Q' E' := h.mono hq fun _ _ _ z => z.elim
theorem SatF.of {x : FR} {d : D} {fin : List D} {Q : D → List D → Prop} {E : ExF} (h : x = .ret d fin) (hq : Q d fin) : SatF x Q E := by
  rw [h]
  exact hq
theorem SatF.eq {x : FR} {d : D} {fin : List D} (h : SatF x (fun v f => v = d ∧ f = fin) NoF) : x = .ret d fin := by
  cases x with
  | ret v f =>
    obtain ⟨h1, h2⟩ := h
    rw [h1, h2]
  | exc _ _ _ => exact h.elim
  | bad => exact h.elim

section
variable {G : Gm} {cf : Str → List D → FR} {wf : Nat} {r : Rho} {α β : Type} {E : Ex}
theorem sat_ok {a : α} {Q : α → Rho → Prop} : Sat (.ok a r) Q E = Q a r := rfl
theorem sat_bad {Q : α → Rho → Prop} : Sat (.bad : R α) Q E = False := rfl
theorem sat_exc {c : Str} {fs : List (Str × Int)} {Q : α → Rho → Prop} : Sat (.exc c fs r : R α) Q E = E c fs r := rfl
theorem sat_bind {x : R α} {k : α → Rho → R β} {Q : β → Rho → Prop} : Sat (x.bind k) Q E = Sat x (fun a r => Sat (k a r) Q E) E := by cases x <;> rfl
theorem sat_test {x : R D} {p q : Rho → R α} {Q : α → Rho → Prop} : Sat (x.test p q) Q E = Sat x (tsQ (fun r => Sat (p r) Q E) (fun r => Sat (q r) Q E)) E := by
  cases x with
  | ok d r => cases d <;> first | rfl | (rename_i z; cases z <;> rfl)
  | exc _ _ _ => rfl
  | bad => rfl
theorem sat_next {x : R Fl} {k : Rho → R Fl} {Q : Fl → Rho → Prop} : Sat (x.next k) Q E = Sat x (nxQ (fun r => Sat (k r) Q E) Q) E := by
  cases x with
  | ok f r => cases f <;> rfl
  | exc _ _ _ => rfl
  | bad => rfl
theorem sat_ofO {o : Option α} {Q : α → Rho → Prop} : Sat (ofO o r) Q E = So o (fun a => Q a r) := by cases o <;> rfl
theorem sat_blR {o : Option Bool} {Q : D → Rho → Prop} : Sat (blR o r) Q E = So o (fun b => Q (.bl b) r) := by cases o <;> rfl
theorem sat_slot {i : Nat} {Q : D → Rho → Prop} : Sat (slotR r i) Q E = Sl r i (fun d => Q d r) := by
  unfold slotR Sl
  cases r[i]? with
  | none => rfl
  | some o => cases o <;> rfl
theorem sat_copyR {d : D} {Q : D → Rho → Prop} : Sat (copyR d r) Q E = (copyable d = true ∧ Q d r) := by
  unfold copyR
  split <;> rename_i h <;> simp [Sat, h]
theorem sat_ite {c : Prop} [Decidable c] {x y : R α} {Q : α → Rho → Prop} : Sat (if c then x else y) Q E = if c then Sat x Q E else Sat y Q E := by split <;> rfl
theorem sat_guard {c : Prop} [Decidable c] {x : R α} {Q : α → Rho → Prop} : Sat (if c then x else .bad) Q E = (c ∧ Sat x Q E) := by split <;> simp_all [Sat]
theorem sat_hasR {i : Nat} {x : R α} {Q : α → Rho → Prop} : Sat (hasR r i x) Q E = Sl r i (fun _ => Sat x Q E) := by
  unfold hasR Sl
  cases r[i]? with
  | none => rfl
  | some o => cases o <;> rfl
theorem sat_setR {t : Tg} {d : D} {Q : Fl → Rho → Prop} : Sat (setR t d r) Q E = So (setT t d r) (fun r1 => Q .nx r1) := by
  unfold setR
  cases setT t d r <;> rfl
theorem sat_intR {d : D} {Q : Option Int → Rho → Prop} {i : Int} : Sat (intR (.int i) r) Q E = Q (some i) r := rfl
theorem sat_fin {io : List Nat} {x : R Fl} {Q : D → List D → Prop} {E : ExF} : SatF (finR io x) Q E = Sat x (retQ io Q) (fun c fs r => So (finOf io r) fun fin => E c fs fin) := by
  cases x with
  | ok fl r =>
    show SatF (match finOf io r with | some fin => _ | none => _) Q E = So (finOf io r) _
    cases finOf io r with
    | none => rfl
    | some fin => cases fl <;> rfl
  | exc c fs r =>
    show SatF (match finOf io r with | some fin => _ | none => _) Q E = So (finOf io r) _
    cases finOf io r <;> rfl
  | bad => rfl
theorem so_some {a : α} {P : α → Prop} : So (some a) P = P a := rfl
theorem so_none {P : α → Prop} : So (none : Option α) P = False := rfl
theorem so_guard {c : Prop} [Decidable c] {o : Option α} {P : α → Prop} : So (if c then o else none) P = (c ∧ So o P) := by split <;> simp_all [So]
theorem so_ite {c : Prop} [Decidable c] {o u : Option α} {P : α → Prop} : So (if c then o else u) P = if c then So o P else So u P := by split <;> rfl
theorem so_bind {o : Option α} {k : α → Option β} {P : β → Prop} : So (o.bind k) P = So o (fun a => So (k a) P) := by cases o <;> rfl
theorem so_map {o : Option α} {k : α → β} {P : β → Prop} : So (o.map k) P = So o (fun a => P (k a)) := by cases o <;> rfl
theorem sl_z {x : D} {P : D → Prop} : Sl (some x :: r) 0 P = P x := rfl
theorem sl_n {P : D → Prop} : Sl (none :: r) 0 P = False := rfl
theorem sl_s {y : Option D} {i : Nat} {P : D → Prop} : Sl (y :: r) (i + 1) P = Sl r i P := rfl
theorem tsQ_bl {A B : Rho → Prop} {b : Bool} : tsQ A B (.bl b) r = ((b = true → A r) ∧ (b = false → B r)) := by cases b <;> simp [tsQ]
theorem tsQ_t {A B : Rho → Prop} : tsQ A B (.bl true) r = A r := rfl
theorem tsQ_f {A B : Rho → Prop} : tsQ A B (.bl false) r = B r := rfl
theorem nxQ_nx {A : Rho → Prop} {Q : Fl → Rho → Prop} : nxQ A Q .nx r = A r := rfl
theorem nxQ_rt {A : Rho → Prop} {Q : Fl → Rho → Prop} {d : D} : nxQ A Q (.rt d) r = Q (.rt d) r := rfl
theorem nxQ_bk {A : Rho → Prop} {Q : Fl → Rho → Prop} : nxQ A Q .bk r = Q .bk r := rfl
theorem nxQ_ct {A : Rho → Prop} {Q : Fl → Rho → Prop} : nxQ A Q .ct r = Q .ct r := rfl
theorem lpQ_nx {A : Rho → Prop} {Q : Fl → Rho → Prop} : lpQ A Q .nx r = A r := rfl
theorem lpQ_rt {A : Rho → Prop} {Q : Fl → Rho → Prop} {d : D} : lpQ A Q (.rt d) r = Q (.rt d) r := rfl
theorem lpQ_bk {A : Rho → Prop} {Q : Fl → Rho → Prop} : lpQ A Q .bk r = Q .nx r := rfl
theorem lpQ_ct {A : Rho → Prop} {Q : Fl → Rho → Prop} : lpQ A Q .ct r = A r := rfl
theorem retQ_rt0 {Q : D → List D → Prop} {d : D} : retQ [] Q (.rt d) r = Q d [] := rfl
theorem retQ_nx0 {Q : D → List D → Prop} : retQ [] Q .nx r = Q .non [] := rfl
theorem retQ_rt1 {Q : D → List D → Prop} {d : D} {i : Nat} : retQ [i] Q (.rt d) r = Sl r i (fun x => Q d [x]) := by
  unfold retQ Sl
  show So (match r[i]? with | some (some d) => (finOf [] r).map (d :: ·) | _ => none) _ = _
  cases r[i]? with
  | none => rfl
  | some o => cases o <;> rfl
theorem retQ_nx1 {Q : D → List D → Prop} {i : Nat} : retQ [i] Q .nx r = Sl r i (fun x => Q .non [x]) := by
  unfold retQ Sl
  show So (match r[i]? with | some (some d) => (finOf [] r).map (d :: ·) | _ => none) _ = _
  cases r[i]? with
  | none => rfl
  | some o => cases o <;> rfl
theorem finE0 {P : List D → Prop} : So (finOf [] r) P = P [] := rfl
theorem finE1 {P : List D → Prop} {i : Nat} : So (finOf [i] r) P = Sl r i (fun x => P [x]) := by
  unfold Sl
  show So (match r[i]? with | some (some d) => (finOf [] r).map (d :: ·) | _ => none) _ = _
  cases r[i]? with
  | none => rfl
  | some o => cases o <;> rfl

-- expressions
section
variable {Q : D → Rho → Prop}
theorem q_k {d : D} : Sat (evE G cf (.k d) r) Q E = Q d r := rfl
theorem q_gl {x : Str} : Sat (evE G cf (.gl x) r) Q E = So (G.glob x) (fun d => Q d r) := sat_ofO
theorem q_s {i : Nat} : Sat (evE G cf (.s i) r) Q E = Sl r i (fun d => Q d r) := sat_slot
theorem q_cp {e : PI.E} : Sat (evE G cf (.cp e) r) Q E = Sat (evE G cf e r) (fun d r => copyable d = true ∧ Q d r) E := by
  rw [e_cp, sat_bind]
  congr 1
  funext a r
  exact sat_copyR
theorem q_mv {i : Nat} : Sat (evE G cf (.mv i) r) Q E = Sl r i (fun d => Q d (r.set i none)) := by
  show Sat (match r[i]? with | some (some d) => .ok d (r.set i none) | _ => .bad) Q E = _
  unfold Sl
  cases r[i]? with
  | none => rfl
  | some o => cases o <;> rfl
theorem q_vf {i : Nat} : Sat (evE G cf (.vf i) r) Q E = Sl r i (fun d => Q (fz d) (r.set i (some (fz d)))) := by
  show Sat (match r[i]? with | some (some d) => .ok (fz d) (r.set i (some (fz d))) | _ => .bad) Q E = _
  unfold Sl
  cases r[i]? with
  | none => rfl
  | some o => cases o <;> rfl
theorem q_fz {e : PI.E} : Sat (evE G cf (.fz e) r) Q E = Sat (evE G cf e r) (fun d r => Q (fz d) r) E := by rw [e_fz, sat_bind]; rfl
theorem q_tup {es : Es} : Sat (evE G cf (.tup es) r) Q E = Sat (evEs G cf es r) (fun ds r => szl ds.length = true ∧ Q (.tup ds) r) E := by
  rw [e_tup, sat_bind]
  congr 1
  funext a r
  exact sat_guard
theorem q_lst {es : Es} : Sat (evE G cf (.lst es) r) Q E = Sat (evEs G cf es r) (fun ds r => szl ds.length = true ∧ Q (.lst .own ds) r) E := by
  rw [e_lst, sat_bind]
  congr 1
  funext a r
  exact sat_guard
theorem q_bin {o : Bop} {a b : PI.E} : Sat (evE G cf (.bin o a b) r) Q E = Sat (evE G cf a r) (fun x r => Sat (evE G cf b r) (fun y r => So (binD o x y) (fun z => Q z r)) E) E := by
  simp only [e_bin, sat_bind, sat_ofO]
theorem q_neg {a : PI.E} : Sat (evE G cf (.neg a) r) Q E = Sat (evE G cf a r) (fun x r => So (negD x) (fun z => Q z r)) E := by
  simp only [e_neg, sat_bind, sat_ofO]
theorem q_cmp {o : Cop} {a b : PI.E} : Sat (evE G cf (.cmp o a b) r) Q E = Sat (evE G cf a r) (fun x r => Sat (evE G cf b r) (fun y r => So (cmpD o x y) (fun z => Q (.bl z) r)) E) E := by
  simp only [e_cmp, sat_bind, sat_blR]
theorem q_chn {o u : Cop} {a b c : PI.E} : Sat (evE G cf (.chn o u a b c) r) Q E = Sat (evE G cf a r) (fun x r => Sat (evE G cf b r) (fun y r => So (cmpD o x y) (fun z => (z = true → Sat (evE G cf c r) (fun w r => So (cmpD u y w) (fun z => Q (.bl z) r)) E) ∧ (z = false → Q (.bl false) r))) E) E := by
  show Sat ((evE G cf a r).bind _) Q E = _
  rw [sat_bind]
  congr 1
  funext x r
  show Sat ((evE G cf b r).bind _) Q E = _
  rw [sat_bind]
  congr 1
  funext y r
  rw [sat_bind, sat_blR]
  congr 1
  funext z
  cases z with
  | true =>
    show Sat ((evE G cf c r).bind _) Q E = _
    rw [sat_bind]
    simp only [sat_blR]
    simp
  | false => simp [isBl, Sat]
theorem q_andv {a b : PI.E} : Sat (evE G cf (.andv a b) r) Q E = Sat (evE G cf a r) (tsQ (fun r => Sat (evE G cf b r) Q E) (fun r => Q (.bl false) r)) E := by rw [e_andv, sat_test]; rfl
theorem q_orv {a b : PI.E} : Sat (evE G cf (.orv a b) r) Q E = Sat (evE G cf a r) (tsQ (fun r => Q (.bl true) r) (fun r => Sat (evE G cf b r) Q E)) E := by rw [e_orv, sat_test]; rfl
theorem q_notv {a : PI.E} : Sat (evE G cf (.notv a) r) Q E = Sat (evE G cf a r) (tsQ (fun r => Q (.bl false) r) (fun r => Q (.bl true) r)) E := by rw [e_notv, sat_test]; rfl
theorem q_ife {t : T} {a b : PI.E} : Sat (evE G cf (.ife t a b) r) Q E = Sat (evT G cf t r) (tsQ (fun r => Sat (evE G cf a r) Q E) (fun r => Sat (evE G cf b r) Q E)) E := by rw [e_ife, sat_test]
theorem q_cal {f : Str} {as : As} : Sat (evE G cf (.cal f as) r) Q E = Sat (evAs G cf as r) (fun p r => Sat (callR G cf f p r) Q E) E := by rw [e_cal, sat_bind]
theorem q_cav {i : Nat} {as : As} : Sat (evE G cf (.cav i as) r) Q E = Sl r i (fun d => match d with
    | .fn f => (G.isFn f && G.isCold f) = true ∧ Sat (evAs G cf as r) (fun p r => Sat (callR G cf f p r) Q E) E
    | _ => False) := by
  show Sat (match r[i]? with | some (some (.fn f)) => if (G.isFn f && G.isCold f) = true then (evAs G cf as r).bind fun p r => callR G cf f p r else .bad | _ => .bad) Q E = _
  unfold Sl
  cases r[i]? with
  | none => rfl
  | some o =>
    cases o with
    | none => rfl
    | some d =>
      cases d <;> first | rfl | skip
      show Sat (if _ then _ else _) Q E = _
      rw [sat_guard, sat_bind]
theorem q_bi {b : Bi} {a : PI.E} : Sat (evE G cf (.bi b a) r) Q E = Sat (evE G cf a r) (fun x r => So (biD b x) (fun z => Q z r)) E := by
  simp only [e_bi, sat_bind, sat_ofO]
theorem q_bj {b : Bj} {a c : PI.E} : Sat (evE G cf (.bj b a c) r) Q E = Sat (evE G cf a r) (fun x r => Sat (evE G cf c r) (fun y r => So (bjD b x y) (fun z => Q z r)) E) E := by
  show Sat ((evE G cf a r).bind _) Q E = _
  simp only [sat_bind, sat_ofO]
theorem q_me {m : Me} {a b : PI.E} : Sat (evE G cf (.me m a b) r) Q E = Sat (evE G cf a r) (fun x r => match x with
    | .str z => Sat (evE G cf b r) (fun y r => So (meD m (.str z) y) (fun z => Q z r)) E
    | _ => False) E := by
  rw [e_me, sat_bind]
  congr 1
  funext x r
  cases x <;> first | rfl | skip
  show Sat ((evE G cf b r).bind _) Q E = _
  simp only [sat_bind, sat_ofO]
theorem q_rpl {a : PI.E} {y z : Str} : Sat (evE G cf (.rpl a y z) r) Q E = Sat (evE G cf a r) (fun x r => match x with
    | .str x => szl (x.length + (x.length + 1) * z.length) = true ∧ Q (.str (Txt.replace x y z)) r
    | _ => False) E := by
  show Sat ((evE G cf a r).bind _) Q E = _
  rw [sat_bind]
  congr 1
  funext x r
  cases x <;> first | rfl | skip
  exact sat_guard
theorem q_pop {i : Nat} : Sat (evE G cf (.pop i) r) Q E = Sl r i (fun d => match d with
    | .lst .own ds => So ds[ds.length - 1]? (fun d => Q d (r.set i (some (.lst .own ds.dropLast))))
    | _ => False) := by
  show Sat (match r[i]? with | some (some (.lst .own ds)) => (match ds[ds.length - 1]? with | some d => .ok d (r.set i (some (.lst .own ds.dropLast))) | none => .bad) | _ => .bad) Q E = _
  unfold Sl
  cases r[i]? with
  | none => rfl
  | some o =>
    cases o with
    | none => rfl
    | some d =>
      cases d <;> first | rfl | skip
      rename_i m ds
      cases m <;> first | rfl | skip
      show Sat (match ds[ds.length - 1]? with | some d => .ok d (r.set i (some (.lst .own ds.dropLast))) | none => .bad) Q E = So ds[ds.length - 1]? (fun d => Q d (r.set i (some (.lst .own ds.dropLast))))
      cases ds[ds.length - 1]? <;> rfl
theorem q_ix {a b : PI.E} : Sat (evE G cf (.ix a b) r) Q E = Sat (evE G cf a r) (fun x r => Sat (evE G cf b r) (fun y r => So (ixD x y) (fun z => Q z r)) E) E := by
  simp only [e_ix, sat_bind, sat_ofO]
theorem q_sl {a : PI.E} {lo hi : Oe} : Sat (evE G cf (.sl a lo hi) r) Q E = Sat (evE G cf a r) (fun x r => Sat (evO G cf lo r) (fun l r => Sat (evO G cf hi r) (fun h r => So (slD x l h) (fun z => Q z r)) E) E) E := by
  simp only [e_sl, sat_bind, sat_ofO]
theorem q_isi {a : PI.E} {t : Ty} : Sat (evE G cf (.isi a t) r) Q E = Sat (evE G cf a r) (fun x r => So (isTy t x) (fun z => Q (.bl z) r)) E := by
  simp only [e_isi, sat_bind, sat_blR]
/-- a comprehension: its source, its turns -/
theorem q_cmpr {elt : PI.E} {tg : Tg} {src : Sr} {cond : Ot} {own : List (Str × Nat)} : Sat (evE G cf (.cmpr elt tg src cond own) r) Q E = Sat (evSr G cf src r) (fun xs r => Sat (turns (oneC tg (own.map (·.2)) (fun r => evC G cf cond r) (fun r => evE G cf elt r)) xs [] (wipeR r (own.map (·.2)))) (fun ys r => Q (.lst .own ys) r) NoX) E := by
  rw [e_cmpr, sat_bind]
  congr 1
  funext xs r
  rw [sat_bind]
  cases turns (oneC tg (own.map (·.2)) (fun r => evC G cf cond r) (fun r => evE G cf elt r)) xs [] (wipeR r (own.map (·.2))) <;> rfl
end
theorem q_es0 {Q : List D → Rho → Prop} : Sat (evEs G cf .nil r) Q E = Q [] r := rfl
theorem q_es1 {e : PI.E} {es : Es} {Q : List D → Rho → Prop} : Sat (evEs G cf (.cons e es) r) Q E = Sat (evE G cf e r) (fun d r => Sat (evEs G cf es r) (fun ds r => Q (d :: ds) r) E) E := by
  simp only [es_cons, sat_bind, sat_ok]
theorem q_as0 {Q : List Ar → Rho → Prop} : Sat (evAs G cf .nil r) Q E = Q [] r := rfl
theorem q_as1 {e : PI.E} {as : As} {Q : List Ar → Rho → Prop} : Sat (evAs G cf (.val e as) r) Q E = Sat (evE G cf e r) (fun d r => Sat (evAs G cf as r) (fun p r => Q (.val d :: p) r) E) E := by
  simp only [as_val, sat_bind, sat_ok]
theorem q_as2 {i : Nat} {as : As} {Q : List Ar → Rho → Prop} : Sat (evAs G cf (.io i as) r) Q E = Sl r i (fun _ => Sat (evAs G cf as r) (fun p r => Q (.io i :: p) r) E) := by
  simp only [as_io, sat_hasR, sat_bind, sat_ok]
theorem q_as3 {i : Nat} {as : As} {Q : List Ar → Rho → Prop} : Sat (evAs G cf (.bor i as) r) Q E = Sl r i (fun _ => Sat (evAs G cf as r) (fun p r => Q (.bor i :: p) r) E) := by
  simp only [as_bor, sat_hasR, sat_bind, sat_ok]
theorem q_o0 {Q : Option Int → Rho → Prop} : Sat (evO G cf .no r) Q E = Q none r := rfl
theorem q_o1 {e : PI.E} {Q : Option Int → Rho → Prop} : Sat (evO G cf (.yes e) r) Q E = Sat (evE G cf e r) (fun d r => match d with | .int i => Q (some i) r | _ => False) E := by
  rw [o_yes', sat_bind]
  congr 1
  funext d r
  cases d <;> rfl
theorem q_c0 {Q : Bool → Rho → Prop} : Sat (evC G cf .no r) Q E = Q true r := rfl
theorem q_c1 {t : T} {Q : Bool → Rho → Prop} : Sat (evC G cf (.yes t) r) Q E = Sat (evT G cf t r) (tsQ (Q true) (Q false)) E := by
  show Sat ((evT G cf t r).bind _) Q E = _
  rw [sat_bind]
  congr 1
  funext d r
  cases d <;> first | rfl | (rename_i z; cases z <;> rfl)
section
variable {Q : D → Rho → Prop}
theorem q_te {e : PI.E} : Sat (evT G cf (.e e) r) Q E = Sat (evE G cf e r) (fun x r => So (truD x) (fun z => Q (.bl z) r)) E := by
  simp only [t_e', sat_bind, sat_blR]
theorem q_tan {a b : T} : Sat (evT G cf (.an a b) r) Q E = Sat (evT G cf a r) (tsQ (fun r => Sat (evT G cf b r) Q E) (fun r => Q (.bl false) r)) E := by rw [t_an', sat_test]; rfl
theorem q_too {a b : T} : Sat (evT G cf (.oo a b) r) Q E = Sat (evT G cf a r) (tsQ (fun r => Q (.bl true) r) (fun r => Sat (evT G cf b r) Q E)) E := by rw [t_oo', sat_test]; rfl
theorem q_tno {a : T} : Sat (evT G cf (.no a) r) Q E = Sat (evT G cf a r) (tsQ (fun r => Q (.bl false) r) (fun r => Q (.bl true) r)) E := by rw [t_no', sat_test]; rfl
end
section
variable {Q : List D → Rho → Prop}
theorem q_it {e : PI.E} : Sat (evSr G cf (.it e) r) Q E = Sat (evE G cf e r) (fun x r => So (itemsD x) (fun z => Q z r)) E := by
  simp only [sr_it, sat_bind, sat_ofO]
theorem q_itl {e : PI.E} : Sat (evSr G cf (.itl e) r) Q E = Sat (evE G cf e r) (fun x r => match x with | .lst _ ds => copyables ds = true ∧ Q ds r | _ => False) E := by
  show Sat ((evE G cf e r).bind _) Q E = _
  rw [sat_bind]
  congr 1
  funext x r
  cases x <;> first | rfl | exact sat_guard
theorem q_rng {e : PI.E} : Sat (evSr G cf (.rng e) r) Q E = Sat (evE G cf e r) (fun x r => match x with | .int j => (-(2 ^ 62) ≤ j ∧ j < 2 ^ 62) ∧ Q ((List.range j.toNat).map fun i => .int (i : Nat)) r | _ => False) E := by
  show Sat ((evE G cf e r).bind _) Q E = _
  rw [sat_bind]
  congr 1
  funext x r
  cases x <;> first | rfl | skip
  show Sat (if _ then _ else _) Q E = _
  rw [sat_guard, decide_eq_true_eq]
  rfl
theorem q_enum {e : PI.E} : Sat (evSr G cf (.enum e) r) Q E = Sat (evE G cf e r) (fun x r => match x with | .lst _ ds => copyables ds = true ∧ Q (ds.mapIdx fun i d => .tup [.int (i : Nat), d]) r | _ => False) E := by
  show Sat ((evE G cf e r).bind _) Q E = _
  rw [sat_bind]
  congr 1
  funext x r
  cases x <;> first | rfl | exact sat_guard
end
-- statements
section
variable {Q : Fl → Rho → Prop}
theorem q_ss0 : Sat (evSs G cf wf .nil r) Q E = Q .nx r := rfl
theorem q_ss1 {s : S} {ss : Ss} : Sat (evSs G cf wf (.cons s ss) r) Q E = Sat (evS G cf wf s r) (nxQ (fun r => Sat (evSs G cf wf ss r) Q E) Q) E := by rw [ss_cons, sat_next]
theorem q_set {t : Tg} {e : PI.E} : Sat (evS G cf wf (.set t e) r) Q E = Sat (evE G cf e r) (fun d r => So (setT t d r) (fun r1 => Q .nx r1)) E := by
  simp only [s_set, sat_bind, sat_setR]
theorem q_asgt {i : Nat} {e : PI.E} : Sat (evS G cf wf (.asgc i true e) r) Q E = Sat (evE G cf e r) (fun d r => Q .nx (r.set i (some (fz d)))) E := by
  rw [s_asgc_t, sat_bind, q_fz]; rfl
theorem q_asgf {i : Nat} {e : PI.E} : Sat (evS G cf wf (.asgc i false e) r) Q E = Sat (evE G cf e r) (fun d r => Q .nx (r.set i (some d))) E := by
  rw [s_asgc_f, sat_bind]; rfl
theorem q_aug {i : Nat} {o : Bop} {e : PI.E} : Sat (evS G cf wf (.aug i o e) r) Q E = Sl r i (fun x => Sat (evE G cf e r) (fun y r => So (binD o x y) (fun z => match z with | .int z => Q .nx (r.set i (some (.int z))) | _ => False)) E) := by
  show Sat (match r[i]? with | some (some x) => ((evE G cf e r).bind fun y r => match binD o x y with | some (.int z) => .ok .nx (r.set i (some (.int z))) | _ => .bad) | _ => .bad) Q E = _
  unfold Sl
  cases r[i]? with
  | none => rfl
  | some q =>
    cases q with
    | none => rfl
    | some x =>
      show Sat ((evE G cf e r).bind _) Q E = Sat (evE G cf e r) _ E
      rw [sat_bind]
      congr 1
      funext y r
      cases binD o x y with
      | none => rfl
      | some z => cases z <;> rfl
theorem q_dro {e : PI.E} : Sat (evS G cf wf (.dro e) r) Q E = Sat (evE G cf e r) (fun _ r => Q .nx r) E := by
  show Sat ((evE G cf e r).bind _) Q E = _
  rw [sat_bind]; rfl
theorem q_app {i : Nat} {e : PI.E} : Sat (evS G cf wf (.app i e) r) Q E = Sl r i (fun x => match x with
    | .lst .own _ => Sat (evE G cf e r) (fun d r => Sl r i (fun y => match y with | .lst .own ds => szlt ds.length = true ∧ Q .nx (r.set i (some (.lst .own (ds ++ [d])))) | _ => False)) E
    | _ => False) := by
  show Sat (match r[i]? with | some (some (.lst .own _)) => ((evE G cf e r).bind fun d r => match r[i]? with | some (some (.lst .own ds)) => if szlt ds.length then .ok .nx (r.set i (some (.lst .own (ds ++ [d])))) else .bad | _ => .bad) | _ => .bad) Q E = _
  unfold Sl
  cases r[i]? with
  | none => rfl
  | some q =>
    cases q with
    | none => rfl
    | some x =>
      cases x <;> first | rfl | skip
      rename_i m ds
      cases m <;> first | rfl | skip
      show Sat ((evE G cf e r).bind _) Q E = Sat (evE G cf e r) _ E
      rw [sat_bind]
      congr 1
      funext y r
      cases r[i]? with
      | none => rfl
      | some q =>
        cases q with
        | none => rfl
        | some x =>
          cases x <;> first | rfl | skip
          rename_i m ds
          cases m <;> first | rfl | skip
          exact sat_guard
theorem q_rev {i : Nat} : Sat (evS G cf wf (.rev i) r) Q E = Sl r i (fun x => match x with
    | .lst .own ds => Q .nx (r.set i (some (.lst .own ds.reverse)))
    | _ => False) := by
  show Sat (match r[i]? with | some (some (.lst .own ds)) => .ok .nx (r.set i (some (.lst .own ds.reverse))) | _ => .bad) Q E = _
  unfold Sl
  cases r[i]? with
  | none => rfl
  | some q =>
    cases q with
    | none => rfl
    | some x =>
      cases x <;> first | rfl | skip
      rename_i m ds
      cases m <;> rfl
theorem q_sti {i : Nat} {k e : PI.E} : Sat (evS G cf wf (.sti i k e) r) Q E = Sat (evE G cf e r) (fun d r => Sl r i (fun x => match x with
    | .lst .own _ => Sat (evE G cf k r) (fun x r => Sl r i (fun y => match y, x with | .lst .own ds, .int j => So (ixN ds.length j) (fun n => Q .nx (r.set i (some (.lst .own (ds.set n d))))) | _, _ => False)) E
    | _ => False)) E := by
  show Sat ((evE G cf e r).bind _) Q E = _
  rw [sat_bind]
  congr 1
  funext d r
  unfold Sl
  cases r[i]? with
  | none => rfl
  | some q =>
    cases q with
    | none => rfl
    | some x =>
      cases x <;> first | rfl | skip
      rename_i m ds
      cases m <;> first | rfl | skip
      show Sat ((evE G cf k r).bind _) Q E = Sat (evE G cf k r) _ E
      rw [sat_bind]
      congr 1
      funext y r
      cases r[i]? with
      | none => rfl
      | some q =>
        cases q with
        | none => rfl
        | some x =>
          cases x <;> first | rfl | skip
          rename_i m ds
          cases m <;> first | rfl | (cases y <;> first | rfl | skip)
          rename_i j
          show Sat (match ixN ds.length j with | some n => _ | none => _) Q E = So (ixN ds.length j) _
          cases ixN ds.length j <;> rfl
theorem q_ifs {t : T} {a b : Ss} : Sat (evS G cf wf (.ifs t a b) r) Q E = Sat (evT G cf t r) (tsQ (fun r => Sat (evSs G cf wf a r) Q E) (fun r => Sat (evSs G cf wf b r) Q E)) E := by rw [s_ifs, sat_test]
theorem q_fors {t : Tg} {src : Sr} {b : Ss} : Sat (evS G cf wf (.fors t src b) r) Q E = Sat (evSr G cf src r) (fun xs r => Sat (forN t (evSs G cf wf b) xs r) Q E) E := by
  show Sat ((evSr G cf src r).bind _) Q E = _
  rw [sat_bind]
theorem q_whl {t : T} {b : Ss} : Sat (evS G cf wf (.whl t b) r) Q E = Sat (whileN (evT G cf t) (evSs G cf wf b) wf r) Q E := rfl
theorem q_ret {e : PI.E} : Sat (evS G cf wf (.ret e) r) Q E = Sat (evE G cf e r) (fun d r => Q (.rt d) r) E := by rw [s_ret, sat_bind]; rfl
theorem q_retn : Sat (evS G cf wf .retn r) Q E = Q (.rt .non) r := rfl
theorem q_brk : Sat (evS G cf wf .brk r) Q E = Q .bk r := rfl
theorem q_cnt : Sat (evS G cf wf .cnt r) Q E = Q .ct r := rfl
theorem q_pas : Sat (evS G cf wf .pas r) Q E = Q .nx r := rfl
/-- a loop over a list, by an invariant over what is left -/
theorem q_forN {t : Tg} {b : Rho → R Fl} (I : List D → Rho → Prop) (hs : ∀ x xs r, I (x :: xs) r → So (setT t x r) (fun r1 => Sat (b r1) (lpQ (I xs) Q) E)) (he : ∀ r, I [] r → Q .nx r) : ∀ (xs : List D) (r : Rho), I xs r → Sat (forN t b xs r) Q E
  | [], r, h => he r h
  | x :: xs, r, h => by
    rw [for_step]
    have h2 := hs x xs r h
    cases e : setT t x r with
    | none =>
      rw [e] at h2
      exact h2.elim
    | some r1 =>
      rw [e] at h2
      show Sat ((b r1).bind _) Q E
      rw [sat_bind]
      refine Sat.mono h2 (fun f r hf => ?_) fun _ _ _ z => z
      cases f with
      | nx => exact q_forN I hs he xs r hf
      | ct => exact q_forN I hs he xs r hf
      | bk => exact hf
      | rt d => exact hf
/-- a loop with a test, by an invariant and a measure -/
theorem q_whileN {t : Rho → R D} {b : Rho → R Fl} (I : Nat → Rho → Prop) (hs : ∀ n r, I n r → Sat (t r) (tsQ (fun r => Sat (b r) (lpQ (fun r => ∃ m, m < n ∧ I m r) Q) E) (Q .nx)) E) : ∀ (k n : Nat) (r : Rho), n < k → I n r → Sat (whileN t b k r) Q E
  | 0, n, _, h, _ => absurd h (by omega)
  | k + 1, n, r, h, hi => by
    rw [while_step, sat_test]
    refine Sat.mono (hs n r hi) (fun d r hd => ?_) fun _ _ _ z => z
    cases d with
    | bl z =>
      cases z with
      | true =>
        show Sat ((b r).bind _) Q E
        rw [sat_bind]
        refine Sat.mono (show Sat (b r) _ E from hd) (fun f r hf => ?_) fun _ _ _ z => z
        cases f with
        | nx =>
          obtain ⟨m, h1, h2⟩ := hf
          exact q_whileN I hs k m r (by omega) h2
        | ct =>
          obtain ⟨m, h1, h2⟩ := hf
          exact q_whileN I hs k m r (by omega) h2
        | bk => exact hf
        | rt d => exact hf
      | false => exact hd
    | _ => exact hd.elim
end
/-- a comprehension's turns, by an invariant over what is left and what is made -/
theorem q_turns {one : D → Rho → R (Option D)} {Q : List D → Rho → Prop} (I : List D → List D → Rho → Prop) (hs : ∀ x xs acc r, I (x :: xs) acc r → Sat (one x r) (fun o r => match o with | some y => szlt acc.length = true ∧ I xs (acc ++ [y]) r | none => I xs acc r) E) (he : ∀ acc r, I [] acc r → Q acc r) : ∀ (xs acc : List D) (r : Rho), I xs acc r → Sat (turns one xs acc r) Q E
  | [], acc, r, h => he acc r h
  | x :: xs, acc, r, h => by
    show Sat ((one x r).bind _) Q E
    rw [sat_bind]
    refine Sat.mono (hs x xs acc r h) (fun o r ho => ?_) fun _ _ _ z => z
    cases o with
    | none => exact q_turns I hs he xs acc r ho
    | some y =>
      show Sat (if _ then _ else _) Q E
      rw [sat_guard]
      exact ⟨ho.1, q_turns I hs he xs (acc ++ [y]) r ho.2⟩
/-- one turn -/
theorem q_one {tg : Tg} {vs : List Nat} {ec : Rho → R Bool} {ee : Rho → R D} {x : D} {Q : Option D → Rho → Prop} : Sat (oneC tg vs ec ee x r) Q E = So (setT tg x (wipeR r vs)) (fun r1 => Sat (ec r1) (fun b r2 => (b = true → Sat (ee r2) (fun y r3 => copyable y = true ∧ Q (some y) (wipeR r3 vs)) E) ∧ (b = false → Q none (wipeR r2 vs))) E) := by
  unfold oneC
  cases setT tg x (wipeR r vs) with
  | none => rfl
  | some r1 =>
    show Sat ((ec r1).bind _) Q E = Sat (ec r1) _ E
    rw [sat_bind]
    congr 1
    funext b r2
    cases b with
    | true =>
      rw [if_pos rfl, sat_bind]
      simp only [true_implies, Bool.true_eq_false, false_implies, and_true]
      congr 1
      funext y r3
      exact sat_guard
    | false =>
      rw [if_neg Bool.false_ne_true]
      simp [Sat]
/-- a map whose turns change nothing -/
theorem q_map {one : D → Rho → R (Option D)} {Q : List D → Rho → Prop} {xs : List D} {r : Rho} (f : D → D) (hl : xs.length ≤ 16777216) (hs : ∀ x ∈ xs, Sat (one x r) (fun o r' => o = some (f x) ∧ r' = r) E) (he : Q (xs.map f) r) : Sat (turns one xs [] r) Q E := by
  refine q_turns (fun ys acc r' => r' = r ∧ acc.length + ys.length ≤ 16777216 ∧ (∀ y ∈ ys, y ∈ xs) ∧ acc ++ ys.map f = xs.map f) ?_ ?_ xs [] r ⟨rfl, by simpa using hl, fun y hy => hy, rfl⟩
  · rintro x ys acc r' ⟨rfl, h2, h3, h4⟩
    refine (hs x (h3 x List.mem_cons_self)).mono ?_ fun _ _ _ z => z
    rintro o r' ⟨rfl, rfl⟩
    refine ⟨decide_eq_true ?_, rfl, ?_, fun y hy => h3 y (List.mem_cons_of_mem _ hy), ?_⟩
    · rw [List.length_cons] at h2
      omega
    · rw [List.length_append, List.length_singleton]
      rw [List.length_cons] at h2
      omega
    · rw [List.append_assoc]
      exact h4
  · rintro acc r' ⟨rfl, h2, h3, h4⟩
    rw [List.map_nil, List.append_nil] at h4
    rw [h4]
    exact he
/-- a call -/
theorem q_call {f : Str} {p : List Ar} {r r1 : Rho} {ds : List D} {Q : D → Rho → Prop} (hio : ioAt p 0 = G.io f) (ho : outIo p r = some r1) (ha : argD r r1 p = some ds)
    (h : SatF (cf f ds) (fun d fin => ((p.any isBor = true → clean d = true ∧ cleans fin = true) ∧ So (putIo p fin r1) (fun r2 => Q d r2))) (fun c fs fin => (p.any isBor = true → cleans fin = true) ∧ So (putIo p fin r1) (fun r2 => E c fs r2))) : Sat (callR G cf f p r) Q E := by
  unfold callR
  rw [if_pos hio, ho]
  show Sat (match argD r r1 p with | some ds => _ | none => _) Q E
  rw [ha]
  show Sat (match cf f ds with | .ret d fin => _ | .exc c fs fin => _ | .bad => _) Q E
  revert h
  cases cf f ds with
  | ret d fin =>
    rintro ⟨h1, h2⟩
    show Sat (if (p.any isBor && !(clean d && cleans fin)) = true then _ else _) Q E
    rw [if_neg]
    · revert h2
      show So (putIo p fin r1) _ → Sat (match putIo p fin r1 with | some r2 => _ | none => _) Q E
      cases putIo p fin r1 with
      | none => exact fun z => z
      | some r2 => exact fun z => z
    · intro z
      obtain ⟨z1, z2⟩ := Bool.and_eq_true_iff.mp z
      obtain ⟨h3, h4⟩ := h1 z1
      rw [h3, h4] at z2
      cases z2
  | exc c fs fin =>
    rintro ⟨h1, h2⟩
    show Sat (if (p.any isBor && !cleans fin) = true then _ else _) Q E
    rw [if_neg]
    · revert h2
      show So (putIo p fin r1) _ → Sat (match putIo p fin r1 with | some r2 => _ | none => _) Q E
      cases putIo p fin r1 with
      | none => exact fun z => z
      | some r2 => exact fun z => z
    · intro z
      obtain ⟨z1, z2⟩ := Bool.and_eq_true_iff.mp z
      rw [h1 z1] at z2
      cases z2
  | bad => exact fun z => z
end
end PI
namespace PI
section
variable {α : Type} {E : Ex}
/-- a comprehension with a test, whose turns change nothing -/
theorem q_filt {one : D → Rho → R (Option D)} {Q : List D → Rho → Prop} {xs : List D} {r : Rho} (f : D → Option D) (hl : xs.length ≤ 16777216) (hs : ∀ x ∈ xs, Sat (one x r) (fun o r' => o = f x ∧ r' = r) E) (he : Q (xs.filterMap f) r) : Sat (turns one xs [] r) Q E := by
  refine q_turns (fun ys acc r' => r' = r ∧ acc.length + ys.length ≤ 16777216 ∧ (∀ y ∈ ys, y ∈ xs) ∧ acc ++ ys.filterMap f = xs.filterMap f) ?_ ?_ xs [] r ⟨rfl, by simpa using hl, fun y hy => hy, rfl⟩
  · rintro x ys acc r' ⟨rfl, h2, h3, h4⟩
    refine (hs x (h3 x List.mem_cons_self)).mono ?_ fun _ _ _ z => z
    rintro o r' ⟨rfl, rfl⟩
    rw [List.length_cons] at h2
    cases e : f x with
    | none =>
      rw [List.filterMap_cons, e] at h4
      exact ⟨rfl, by omega, fun y hy => h3 y (List.mem_cons_of_mem _ hy), h4⟩
    | some y =>
      rw [List.filterMap_cons, e] at h4
      refine ⟨decide_eq_true (by omega), rfl, ?_, fun y hy => h3 y (List.mem_cons_of_mem _ hy), ?_⟩
      · rw [List.length_append, List.length_singleton]
        omega
      · rw [List.append_assoc]
        exact h4
  · rintro acc r' ⟨rfl, h2, h3, h4⟩
    rw [List.filterMap_nil, List.append_nil] at h4
    rw [h4]
    exact he
end
end PI
set_option maxRecDepth 100000
set_option maxHeartbeats 4000000
/-! PI27: operations, as simp uses them. -/
namespace PI
open PySem PySem.Spec PyProof.Rows L2

theorem szl_eq {n : Nat} : (szl n = true) = (n ≤ 16777216) := by simp [szl]
theorem szlt_eq {n : Nat} : (szlt n = true) = (n < 16777216) := by simp [szlt]
-- what may be had twice
theorem c_non : copyable .non = true := rfl
theorem c_bl {b : Bool} : copyable (.bl b) = true := rfl
theorem c_int {i : Int} : copyable (.int i) = true := rfl
theorem c_str {s : Str} : copyable (.str s) = true := rfl
theorem c_fn {s : Str} : copyable (.fn s) = true := rfl
theorem c_tup' {ds : List D} : copyable (.tup ds) = copyables ds := rfl
theorem c_lf {ds : List D} : copyable (.lst .frz ds) = copyables ds := rfl
theorem c_lr {ds : List D} : copyable (.lst .ro ds) = copyables ds := rfl
theorem c_lb {ds : List D} : copyable (.lst .bor ds) = copyables ds := rfl
theorem c_nil : copyables [] = true := rfl
theorem c_cons {d : D} {ds : List D} : copyables (d :: ds) = (copyable d && copyables ds) := rfl
theorem c_app' {ds es : List D} : copyables (ds ++ es) = (copyables ds && copyables es) := by
  induction ds with
  | nil => rfl
  | cons d ds ih =>
    show (copyable d && copyables (ds ++ es)) = (copyable d && copyables ds && copyables es)
    rw [ih, Bool.and_assoc]
theorem c_map {α : Type} {f : α → D} (h : ∀ x, copyable (f x) = true) : ∀ xs : List α, copyables (xs.map f) = true
  | [] => rfl
  | x :: xs => by
    show (copyable (f x) && copyables (xs.map f)) = true
    rw [h x, c_map h xs]; rfl
theorem c_mem {ds : List D} : copyables ds = true ↔ ∀ d ∈ ds, copyable d = true := by
  constructor
  · intro h d hd
    induction ds with
    | nil => cases hd
    | cons x xs ih =>
      obtain ⟨h1, h2⟩ := Bool.and_eq_true_iff.mp (show (copyable x && copyables xs) = true from h)
      rcases List.mem_cons.mp hd with rfl | hd
      · exact h1
      · exact ih h2 hd
  · exact copy_all
theorem c_ints {ns : List Int} : copyables (ns.map D.int) = true := copy_ints ns
theorem c_strs {ns : List Str} : copyables (ns.map D.str) = true := copy_strs ns
theorem c_dIs {ns : List (List Int)} : copyables (ns.map dI) = true := c_map (fun x => copy_dI x) ns
-- given up
theorem f_non : fz .non = .non := rfl
theorem f_bl {b : Bool} : fz (.bl b) = .bl b := rfl
theorem f_int {i : Int} : fz (.int i) = .int i := rfl
theorem f_str {s : Str} : fz (.str s) = .str s := rfl
theorem f_fn {s : Str} : fz (.fn s) = .fn s := rfl
theorem f_tup {ds : List D} : fz (.tup ds) = .tup (fzs ds) := rfl
theorem f_lo {ds : List D} : fz (.lst .own ds) = .lst .frz (fzs ds) := rfl
theorem f_lf {ds : List D} : fz (.lst .frz ds) = .lst .frz (fzs ds) := rfl
theorem f_lr {ds : List D} : fz (.lst .ro ds) = .lst .ro (fzs ds) := rfl
theorem f_nil : fzs [] = [] := rfl
theorem f_cons {d : D} {ds : List D} : fzs (d :: ds) = fz d :: fzs ds := rfl
theorem fzs_map (ds : List D) : fzs ds = ds.map fz := by
  induction ds with
  | nil => rfl
  | cons d ds ih =>
    show fz d :: fzs ds = _
    rw [ih]; rfl
theorem f_map {α : Type} {f : α → D} (h : ∀ x, fz (f x) = f x) (xs : List α) : fzs (xs.map f) = xs.map f := by
  rw [fzs_map, List.map_map]
  exact List.map_congr_left fun x _ => h x
mutual
theorem fz_copy : ∀ d : D, copyable d = true → fz d = d
  | .tup ds, h => by
    show D.tup (fzs ds) = _
    rw [fzs_copy ds h]
  | .lst m ds, h => by
    obtain ⟨h1, h2⟩ := Bool.and_eq_true_iff.mp (show ((m != .own) && copyables ds) = true from h)
    show D.lst (fzm m) (fzs ds) = _
    rw [fzs_copy ds h2]
    cases m <;> first | rfl | cases h1
  | .dct m ks vs, h => by
    obtain ⟨h1, h2⟩ := Bool.and_eq_true_iff.mp (show ((m != .own) && (copyables ks && copyables vs)) = true from h)
    obtain ⟨h3, h4⟩ := Bool.and_eq_true_iff.mp h2
    show D.dct (fzm m) (fzs ks) (fzs vs) = _
    rw [fzs_copy ks h3, fzs_copy vs h4]
    cases m <;> first | rfl | cases h1
  | .ins m c ns vs, h => by
    obtain ⟨h1, h2⟩ := Bool.and_eq_true_iff.mp (show ((m != .own) && copyables vs) = true from h)
    show D.ins (fzm m) c ns (fzs vs) = _
    rw [fzs_copy vs h2]
    cases m <;> first | rfl | cases h1
  | .non, _ => rfl
  | .bl _, _ => rfl
  | .int _, _ => rfl
  | .str _, _ => rfl
  | .fn _, _ => rfl
  | .exc _ _, _ => rfl
theorem fzs_copy : ∀ ds : List D, copyables ds = true → fzs ds = ds
  | [], _ => rfl
  | d :: ds, h => by
    obtain ⟨h1, h2⟩ := Bool.and_eq_true_iff.mp (show (copyable d && copyables ds) = true from h)
    show fz d :: fzs ds = _
    rw [fz_copy d h1, fzs_copy ds h2]
end
theorem f_ints {ns : List Int} : fzs (ns.map D.int) = ns.map D.int := fzs_copy _ c_ints
theorem f_strs {ns : List Str} : fzs (ns.map D.str) = ns.map D.str := fzs_copy _ c_strs
-- two things
theorem b_add {i j : Int} : binD .add (.int i) (.int j) = some (.int (i + j)) := rfl
theorem b_sub {i j : Int} : binD .sub (.int i) (.int j) = some (.int (i - j)) := rfl
theorem b_mul {i j : Int} : binD .mul (.int i) (.int j) = if CMul i j then some (.int (i * j)) else none := by
  show (if decide (CMul i j) = true then _ else _) = _
  simp only [decide_eq_true_eq]
theorem b_fdiv {i j : Int} : binD .fdiv (.int i) (.int j) = if CDivN i j then some (.int (i.fdiv j)) else none := by
  show (if decide (CDivN i j) = true then _ else _) = _
  simp only [decide_eq_true_eq]
theorem b_mod {i j : Int} : binD .mod (.int i) (.int j) = if j ≠ 0 then some (.int (i.fmod j)) else none := by
  show (if decide (j ≠ 0) = true then _ else _) = _
  simp only [decide_eq_true_eq]
theorem b_pow {i j : Int} : binD .pow (.int i) (.int j) = if CPow i j then some (.int (i ^ j.toNat)) else none := by
  show (if decide (CPow i j) = true then _ else _) = _
  simp only [decide_eq_true_eq]
theorem b_adds {a b : Str} : binD .add (.str a) (.str b) = if szl (a.length + b.length) = true then some (.str (a ++ b)) else none := rfl
theorem b_addt {a b : List D} : binD .add (.tup a) (.tup b) = if (szl (a.length + b.length) && (copyables a && copyables b)) = true then some (.tup (a ++ b)) else none := rfl
theorem b_addl {m n : Md} {a b : List D} : binD .add (.lst m a) (.lst n b) = if ((m != .ro && n != .ro) && (szl (a.length + b.length) && (copyables a && copyables b))) = true then some (.lst .own (a ++ b)) else none := rfl
theorem b_mulL {m : Md} {a : List D} {k : Int} : binD .mul (.lst m a) (.int k) = if ((m != .ro && copyables a) && (decide (-(2 ^ 63) ≤ k ∧ k < 2 ^ 63) && szl (a.length * k.toNat))) = true then some (.lst .own (List.replicate k.toNat a).flatten) else none := rfl
theorem b_muls {a : Str} {k : Int} : binD .mul (.str a) (.int k) = if ((decide (1 < k) && !(a.length == 0)) && szl (a.length * k.toNat)) = true then some (.str (strRep a k.toNat)) else none := rfl
theorem k_eq {a b : D} : cmpD .eq a b = eqD a b := by cases a <;> cases b <;> rfl
theorem k_ne {a b : D} : cmpD .ne a b = (eqD a b).map (!·) := by cases a <;> cases b <;> rfl
theorem k_lt {i j : Int} : cmpD .lt (.int i) (.int j) = some (decide (i < j)) := rfl
theorem k_le {i j : Int} : cmpD .le (.int i) (.int j) = some (decide (i ≤ j)) := rfl
theorem k_gt {i j : Int} : cmpD .gt (.int i) (.int j) = some (decide (j < i)) := rfl
theorem k_ge {i j : Int} : cmpD .ge (.int i) (.int j) = some (decide (j ≤ i)) := rfl
theorem k_in {a b : D} : cmpD .isin a b = inD a b := by cases a <;> cases b <;> rfl
theorem k_notin {a b : D} : cmpD .notin a b = (inD a b).map (!·) := by cases a <;> cases b <;> rfl
theorem k_is0 : cmpD .isn .non .non = some true := rfl
theorem k_is1 {i : Int} : cmpD .isn (.int i) .non = some false := rfl
theorem k_is2 {ds : List D} : cmpD .isn (.tup ds) .non = some false := rfl
theorem k_is3 {m : Md} {ds : List D} : cmpD .isn (.lst m ds) .non = some false := rfl
theorem k_is4 {s : Str} : cmpD .isn (.str s) .non = some false := rfl
theorem k_is5 {b : Bool} : cmpD .isn (.bl b) .non = some false := rfl
-- ==
theorem eqD_int {i j : Int} : eqD (.int i) (.int j) = some (decide (i = j)) := by
  unfold eqD toPy
  simp only [Option.bind_some]
  rw [if_pos (by constructor <;> simp [SeqAt.shaped, PyData.canLay0, PyData.depth])]
  show some (i == j) = _
  rw [Bool.beq_eq_decide_eq]
/-- signs that a text may have -/
def okS (s : Str) : Prop := ∀ c ∈ s.cps.toList, c < 128
theorem okS.lay {s : Str} (h : okS s) : PySem.PyData.canLay0 (.str s) = true := by
  show s.cps.all (· < 0x110000) = true
  rw [Array.all_eq_true]
  intro i hi
  have := h s.cps[i] (by simp)
  exact decide_eq_true (by omega)
theorem shaped_str {s : Str} (h : okS s) : SeqAt.shaped (.str s) = true := by
  unfold SeqAt.shaped
  rw [h.lay]
  simp [PyData.depth]
theorem eqD_str {a b : Str} (ha : okS a) (hb : okS b) : eqD (.str a) (.str b) = some (decide (a = b)) := by
  unfold eqD toPy
  simp only [Option.bind_some]
  rw [if_pos ⟨shaped_str ha, shaped_str hb⟩]
  show some (a == b) = _
  rw [Bool.beq_eq_decide_eq]
theorem eqD_bl {i j : Bool} : eqD (.bl i) (.bl j) = some (decide (i = j)) := by
  unfold eqD toPy
  simp only [Option.bind_some]
  rw [if_pos (by constructor <;> simp [SeqAt.shaped, PyData.canLay0, PyData.depth])]
  cases i <;> cases j <;> rfl
theorem pys_strs : ∀ l : List Str, toPy.toPys (l.map D.str) = some (l.map PyData.str)
  | [] => rfl
  | s :: l => by
    show (toPy (.str s)).bind (fun x => (toPy.toPys (l.map D.str)).map fun xs => x :: xs) = _
    rw [pys_strs l]
    rfl
theorem canAll_strs : ∀ l : List Str, (∀ s ∈ l, okS s) → PyData.canLayAll0 (l.map PyData.str) = true
  | [], _ => rfl
  | s :: l, h => by
    unfold PyData.canLayAll0
    simp only [List.map_cons]
    rw [(h s List.mem_cons_self).lay, canAll_strs l fun x hx => h x (List.mem_cons_of_mem _ hx)]
    rfl
theorem dep_strs : ∀ l : List Str, PyData.depthAll (l.map PyData.str) ≤ 1
  | [] => by simp [PyData.depthAll]
  | s :: l => by
    have := dep_strs l
    simp only [List.map_cons, PyData.depthAll, PyData.depth]
    omega
theorem eqvAll_strs : ∀ a b : List Str, PyData.eqvAll (a.map PyData.str) (b.map PyData.str) = decide (a = b)
  | [], [] => rfl
  | [], _ :: _ => by simp [PyData.eqvAll]
  | _ :: _, [] => by simp [PyData.eqvAll]
  | x :: a, y :: b => by
    simp only [List.map_cons, PyData.eqvAll, PyData.eqv]
    rw [eqvAll_strs a b]
    rw [Bool.eq_iff_iff]
    simp
theorem eqD_strs {m n : Md} {a b : List Str} (ha : ∀ s ∈ a, okS s) (hb : ∀ s ∈ b, okS s) : eqD (.lst m (a.map D.str)) (.lst n (b.map D.str)) = some (decide (a = b)) := by
  unfold eqD toPy
  rw [pys_strs, pys_strs]
  simp only [Option.bind_some, Option.map_some]
  rw [if_pos]
  · show some (PyData.eqvAll _ _) = _
    rw [eqvAll_strs]
  · constructor
    · unfold SeqAt.shaped PyData.canLay0
      rw [canAll_strs a ha]
      have := dep_strs a
      simp [PyData.depth]
      omega
    · unfold SeqAt.shaped PyData.canLay0
      rw [canAll_strs b hb]
      have := dep_strs b
      simp [PyData.depth]
      omega
-- built-ins
theorem i_lens {s : Str} : biD .len (.str s) = if szl s.length = true then some (.int s.length) else none := rfl
theorem i_lent {ds : List D} : biD .len (.tup ds) = some (.int ds.length) := rfl
theorem i_lenl {m : Md} {ds : List D} : biD .len (.lst m ds) = some (.int ds.length) := rfl
theorem i_inti {i : Int} : biD .int (.int i) = some (.int i) := rfl
theorem i_intb {b : Bool} : biD .int (.bl b) = some (.int (if b then 1 else 0)) := rfl
theorem i_ints {s : Str} : biD .int (.str s) = if s.length ≤ 640 then (PySem.intText? s).map D.int else none := by
  show (if decide (s.length ≤ 640) = true then _ else _) = _
  simp only [decide_eq_true_eq]
theorem i_str {i : Int} : biD .str (.int i) = if i.natAbs.log2 < 1920 then some (.str (toString i)) else none := by
  show (if decide (i.natAbs.log2 < 1920) = true then _ else _) = _
  simp only [decide_eq_true_eq]
theorem i_tupl {m : Md} {ds : List D} : biD .tuple (.lst m ds) = if copyables ds = true then some (.tup ds) else none := rfl
theorem i_tupt {ds : List D} : biD .tuple (.tup ds) = if copyables ds = true then some (.tup ds) else none := rfl
theorem i_lisl {m : Md} {ds : List D} : biD .list (.lst m ds) = if copyables ds = true then some (.lst .own ds) else none := rfl
theorem i_list {ds : List D} : biD .list (.tup ds) = if copyables ds = true then some (.lst .own ds) else none := rfl
theorem i_abs {i : Int} : biD .abs (.int i) = some (.int (if i < 0 then -i else i)) := rfl
theorem i_sum {m : Md} {ds : List D} : biD .sum (.lst m ds) = (intsOf ds).map fun ns => .int ns.sum := rfl
theorem i_any {m : Md} {ds : List D} : biD .any (.lst m ds) = (blsOf ds).map fun bs => .bl (bs.any id) := rfl
theorem i_all {m : Md} {ds : List D} : biD .all (.lst m ds) = (blsOf ds).map fun bs => .bl (bs.all id) := rfl
theorem j_max {i j : Int} : bjD .max (.int i) (.int j) = some (.int (if j > i then j else i)) := rfl
theorem j_min {i j : Int} : bjD .min (.int i) (.int j) = some (.int (if j < i then j else i)) := rfl
theorem n_int {i : Int} : negD (.int i) = some (.int (-i)) := rfl
theorem intsOf_map : ∀ ns : List Int, intsOf (ns.map D.int) = some ns
  | [] => rfl
  | n :: ns => by
    show (intsOf (ns.map D.int)).map (n :: ·) = _
    rw [intsOf_map ns]; rfl
theorem blsOf_map : ∀ ns : List Bool, blsOf (ns.map D.bl) = some ns
  | [] => rfl
  | n :: ns => by
    show (blsOf (ns.map D.bl)).map (n :: ·) = _
    rw [blsOf_map ns]; rfl
-- truth
theorem t_bl {b : Bool} : truD (.bl b) = some b := rfl
theorem t_non : truD .non = some false := rfl
theorem t_int {i : Int} : truD (.int i) = some (i != 0) := rfl
theorem t_tup {ds : List D} : truD (.tup ds) = some (!ds.isEmpty) := rfl
theorem t_lst {m : Md} {ds : List D} : truD (.lst m ds) = some (!ds.isEmpty) := rfl
-- items
theorem m_tup {ds : List D} : itemsD (.tup ds) = if copyables ds = true then some ds else none := rfl
theorem m_lst {m : Md} {ds : List D} : itemsD (.lst m ds) = if copyables ds = true then some ds else none := rfl
theorem m_str {s : Str} : itemsD (.str s) = some (s.cps.toList.map fun c => .str ⟨#[c]⟩) := rfl
theorem x_tup {ds : List D} {i : Int} : ixD (.tup ds) (.int i) = atI ds i := rfl
theorem x_lst {m : Md} {ds : List D} {i : Int} : ixD (.lst m ds) (.int i) = atI ds i := rfl
theorem x_str {s : Str} {i : Int} : ixD (.str s) (.int i) = if szl s.length = true then (atI s.cps.toList i).map fun c => .str ⟨#[c]⟩ else none := rfl
theorem at_nat {α : Type} {xs : List α} (k : Nat) : atI xs (k : Int) = xs[k]? := by
  unfold atI ixN
  rw [if_pos (Int.natCast_nonneg k)]
  by_cases h : (k : Int) < xs.length
  · rw [if_pos h]; rfl
  · rw [if_neg h]
    show none = _
    rw [List.getElem?_eq_none (by omega)]
theorem at0 {α : Type} {xs : List α} : atI xs 0 = xs[0]? := at_nat 0
theorem at1 {α : Type} {xs : List α} : atI xs 1 = xs[1]? := at_nat 1
theorem at2 {α : Type} {xs : List α} : atI xs 2 = xs[2]? := at_nat 2
theorem at3 {α : Type} {xs : List α} : atI xs 3 = xs[3]? := at_nat 3
theorem at4 {α : Type} {xs : List α} : atI xs 4 = xs[4]? := at_nat 4
theorem at5 {α : Type} {xs : List α} : atI xs 5 = xs[5]? := at_nat 5
theorem at6 {α : Type} {xs : List α} : atI xs 6 = xs[6]? := at_nat 6
theorem atl {α : Type} {xs : List α} : atI xs (-1) = xs.getLast? := by
  unfold atI ixN
  rw [if_neg (by decide)]
  cases xs with
  | nil => rfl
  | cons x xs =>
    rw [if_pos (by simp; omega), List.getLast?_eq_getElem?]
    show (x :: xs)[(-1 + ((x :: xs).length : Int)).toNat]? = _
    congr 1
    simp
    omega
theorem at_int {α : Type} {xs : List α} {i : Int} (h : 0 ≤ i) : atI xs i = xs[i.toNat]? := by
  have e := at_nat (xs := xs) i.toNat
  rw [Int.toNat_of_nonneg h] at e
  exact e
-- slices
theorem l_tup {ds : List D} {lo hi : Option Int} : slD (.tup ds) lo hi = if copyables ds = true then some (.tup (cutL ds lo hi)) else none := rfl
theorem l_lst {m : Md} {ds : List D} {lo hi : Option Int} : slD (.lst m ds) lo hi = if copyables ds = true then some (.lst .own (cutL ds lo hi)) else none := rfl
theorem l_str {s : Str} {lo hi : Option Int} : slD (.str s) lo hi = if szl s.length = true then some (.str (cutS s lo hi)) else none := rfl
theorem cut_to {α : Type} {xs : List α} (k : Nat) : cutL xs none (some (k : Int)) = xs.take k := by
  unfold cutL
  rw [HT.sIx_none, HT.sIx_nat, List.drop_zero, Nat.sub_zero]
  by_cases h : k ≤ xs.length
  · rw [Nat.min_eq_left h]
  · rw [Nat.min_eq_right (by omega), List.take_length, List.take_of_length_le (by omega)]
theorem cut_from {α : Type} {xs : List α} (k : Nat) : cutL xs (some (k : Int)) none = xs.drop k := by
  unfold cutL
  rw [HT.sIx_none, HT.sIx_nat]
  by_cases h : k ≤ xs.length
  · rw [Nat.min_eq_left h, List.take_of_length_le (by rw [List.length_drop]; omega)]
  · rw [Nat.min_eq_right (by omega), List.drop_length, List.drop_eq_nil_of_le (by omega), List.take_nil]
theorem cut_to1 {α : Type} {xs : List α} : cutL xs none (some 1) = xs.take 1 := cut_to 1
theorem cut_to2 {α : Type} {xs : List α} : cutL xs none (some 2) = xs.take 2 := cut_to 2
theorem cut_to3 {α : Type} {xs : List α} : cutL xs none (some 3) = xs.take 3 := cut_to 3
theorem cut_from1 {α : Type} {xs : List α} : cutL xs (some 1) none = xs.drop 1 := cut_from 1
theorem cut_from2 {α : Type} {xs : List α} : cutL xs (some 2) none = xs.drop 2 := cut_from 2
theorem cut_from3 {α : Type} {xs : List α} : cutL xs (some 3) none = xs.drop 3 := cut_from 3
theorem cut_tol {α : Type} {xs : List α} : cutL xs none (some (-1)) = xs.dropLast := by
  unfold cutL
  rw [HT.sIx_none, List.drop_zero, Nat.sub_zero]
  have e : HT.sIx xs.length xs.length (some (-1)) = ((-1 : Int) + (xs.length : Int)).toNat := by
    unfold HT.sIx
    exact if_pos (by decide)
  rw [e, List.dropLast_eq_take]
  congr 1
  omega
theorem cut_map {α β : Type} {f : α → β} {xs : List α} {lo hi : Option Int} : cutL (xs.map f) lo hi = (cutL xs lo hi).map f := by
  unfold cutL
  rw [List.length_map, List.map_take, List.map_drop]
theorem cut_sub {α : Type} {xs : List α} {lo hi : Option Int} : ∀ x ∈ cutL xs lo hi, x ∈ xs := fun x hx => List.mem_of_mem_drop (List.mem_of_mem_take hx)
theorem cut_len {α : Type} {xs : List α} {lo hi : Option Int} : (cutL xs lo hi).length ≤ xs.length := by
  unfold cutL
  rw [List.length_take, List.length_drop]
  omega
theorem c_cut {ds : List D} {lo hi : Option Int} (h : copyables ds = true) : copyables (cutL ds lo hi) = true := c_mem.mpr fun d hd => c_mem.mp h d (cut_sub d hd)
theorem cutS_tl {s : Str} {lo hi : Option Int} : (cutS s lo hi).cps.toList = cutL s.cps.toList lo hi := by
  unfold cutS cutL
  simp [Str.length]
-- targets
theorem g_nm {i : Nat} {d : D} {r : Rho} : setT (.nm i) d r = some (r.set i (some d)) := rfl
theorem g_tu {ts : List Tg} {ds : List D} {r : Rho} : setT (.tu ts) (.tup ds) r = if copyables ds = true then setT.setTs ts ds r else none := rfl
theorem g_nil {r : Rho} : setT.setTs [] [] r = some r := rfl
theorem g_cons {t : Tg} {ts : List Tg} {d : D} {ds : List D} {r : Rho} : setT.setTs (t :: ts) (d :: ds) r = (setT t d r).bind fun r1 => setT.setTs ts ds r1 := rfl
theorem w_nil {r : Rho} : wipeR r [] = r := rfl
theorem w_cons {r : Rho} {v : Nat} {vs : List Nat} : wipeR r (v :: vs) = (wipeR r vs).set v none := rfl
-- methods
theorem e_split {a b : Str} : meD .split (.str a) (.str b) = if (!(b.length == 0) && szl (a.length + 2)) = true then some (.lst .own ((Txt.split a b).map D.str)) else none := rfl
theorem e_join {m : Md} {a : Str} {ys : List Str} : meD .join (.str a) (.lst m (ys.map D.str)) = if szl (joinLen a ys) = true then some (.str (Txt.join a ys)) else none := by
  show (strsOf (ys.map D.str)).bind _ = _
  rw [strsOf_map]
  rfl
-- clean
theorem cl_int {i : Int} : clean (.int i) = true := rfl
theorem cl_str {i : Str} : clean (.str i) = true := rfl
theorem cl_bl {i : Bool} : clean (.bl i) = true := rfl
theorem cl_non : clean .non = true := rfl
theorem cl_nil : cleans [] = true := rfl
theorem cl_cons {d : D} {ds : List D} : cleans (d :: ds) = (clean d && cleans ds) := rfl
end PI
namespace PI
open PySem PySem.Spec PyProof.Rows L2
instance {s : Str} : Decidable (okS s) := by unfold okS; infer_instance
section
variable {G : Gm} {cf : Str → List D → FR} {wf : Nat} {r : Rho} {E : Ex} {Q : Fl → Rho → Prop}
/-- a statement, then the rest from what holds between -/
theorem q_seq {s : S} {ss : Ss} (M : Rho → Prop) (h : Sat (evS G cf wf s r) (nxQ M Q) E) (k : ∀ r, M r → Sat (evSs G cf wf ss r) Q E) : Sat (evSs G cf wf (.cons s ss) r) Q E := by
  rw [q_ss1]
  refine h.mono (fun f r hf => ?_) fun _ _ _ z => z
  cases f with
  | nx => exact k r hf
  | rt d => exact hf
  | bk => exact hf
  | ct => exact hf
end
theorem so_of {α : Type} {o : Option α} {a : α} {P : α → Prop} (h : o = some a) (p : P a) : So o P := by rw [h]; exact p
/-- a call whose end is known -/
theorem SatF.ofE {x : FR} {d : D} {fin : List D} (h : x = .ret d fin) {Q : D → List D → Prop} {E : ExF} (hq : Q d fin) : SatF x Q E := by rw [h]; exact hq
theorem okS_app {a b : Str} (ha : okS a) (hb : okS b) : okS (a ++ b) := by
  intro c hc
  rw [show (a ++ b).cps.toList = a.cps.toList ++ b.cps.toList by rw [Str.cps_append, Array.toList_append]] at hc
  rcases List.mem_append.mp hc with h | h
  · exact ha c h
  · exact hb c h
end PI
namespace PI
open PySem PySem.Spec PyProof.Rows L2
section
variable {G : Gm} {cf : Str → List D → FR} {wf : Nat} {E : Ex} {Q : D → Rho → Prop}
/-- a call whose end is known -/
theorem q_callE {f : Str} {p : List Ar} {r r1 r2 : Rho} {ds fin : List D} {d : D} (hio : ioAt p 0 = G.io f) (ho : outIo p r = some r1) (ha : argD r r1 p = some ds) (hb : p.any isBor = false)
    (h : cf f ds = .ret d fin) (hp : putIo p fin r1 = some r2) (hq : Q d r2) : Sat (callR G cf f p r) Q E := by
  refine q_call hio ho ha ?_
  rw [h]
  refine ⟨fun z => absurd z (by rw [hb]; exact Bool.false_ne_true), ?_⟩
  rw [hp]
  exact hq
/-- the same with lent slots -/
theorem q_callB {f : Str} {p : List Ar} {r r1 r2 : Rho} {ds fin : List D} {d : D} (hio : ioAt p 0 = G.io f) (ho : outIo p r = some r1) (ha : argD r r1 p = some ds) (hc : clean d = true) (hcf : cleans fin = true)
    (h : cf f ds = .ret d fin) (hp : putIo p fin r1 = some r2) (hq : Q d r2) : Sat (callR G cf f p r) Q E := by
  refine q_call hio ho ha ?_
  rw [h]
  refine ⟨fun _ => ⟨hc, hcf⟩, ?_⟩
  rw [hp]
  exact hq
/-- a call of which something is known -/
theorem q_callS {f : Str} {p : List Ar} {r r1 : Rho} {ds : List D} {P : D → List D → Prop} (hio : ioAt p 0 = G.io f) (ho : outIo p r = some r1) (ha : argD r r1 p = some ds) (hb : p.any isBor = false)
    (h : SatF (cf f ds) P NoF) (hq : ∀ d fin, P d fin → So (putIo p fin r1) (fun r2 => Q d r2)) : Sat (callR G cf f p r) Q E := by
  refine q_call hio ho ha (h.ok fun d fin hd => ⟨fun z => absurd z (by rw [hb]; exact Bool.false_ne_true), hq d fin hd⟩)
end
end PI
set_option maxRecDepth 100000
set_option maxHeartbeats 4000000
/-! PI28: raising, catching. -/
namespace PI
open PySem PySem.Spec PyProof.Rows L2
section
variable {G : Gm} {cf : Str → List D → FR} {wf : Nat} {r : Rho} {E : Ex}
theorem q_rai {c : Str} {es : Es} {Q : Fl → Rho → Prop} : Sat (evS G cf wf (.rai c es) r) Q E = Sat (evEs G cf es r) (fun ds r => match c == "BadText", ds with
    | true, [.int l, .int k] => E c [("column", k), ("line", l)] r
    | true, _ => False
    | false, _ => E c [] r) E := by
  show Sat ((evEs G cf es r).bind _) Q E = _
  rw [sat_bind]
  congr 1
  funext ds r
  cases c == "BadText" with
  | false => rfl
  | true =>
    rcases ds with _ | ⟨a, _ | ⟨b, _ | ⟨d, ds⟩⟩⟩
    · rfl
    · cases a <;> rfl
    · cases a <;> cases b <;> rfl
    · cases a <;> cases b <;> rfl
theorem q_tra {b h : Ss} {c : Str} {i : Nat} {Q : Fl → Rho → Prop} : Sat (evS G cf wf (.tra b c i h) r) Q E = Sat (evSs G cf wf b r) Q (fun c' fs r1 => G.exs.contains c' = true ∧ if G.sub c' c = true then Sat (evSs G cf wf h (r1.set i (some (.exc c' fs)))) (fun f r2 => (noexcR (r2.set i none) = true ∧ noexcF f = true) ∧ Q f (r2.set i none)) NoX else E c' fs r1) := by
  show Sat (match evSs G cf wf b r with | .exc c' fs r1 => _ | x => x) Q E = _
  cases evSs G cf wf b r with
  | ok f r => rfl
  | bad => rfl
  | exc c' fs r1 =>
    show Sat (if _ then (if _ then _ else _) else _) Q E = _
    rw [sat_guard, sat_ite]
    show (_ ∧ _) = (_ ∧ _)
    congr 1
    split
    · cases evSs G cf wf h (r1.set i (some (.exc c' fs))) with
      | ok f r2 =>
        show Sat (if _ then _ else _) Q E = _
        rw [sat_guard]
        rfl
      | exc _ _ _ => rfl
      | bad => rfl
    · rfl
theorem q_xf {i : Nat} {n : Str} {Q : D → Rho → Prop} : Sat (evE G cf (.xf i n) r) Q E = Sl r i (fun d => match d with | .exc c fs => G.exs.contains c = true ∧ So (fs.lookup n) (fun v => Q (.int v) r) | _ => False) := by
  show Sat (match r[i]? with | some (some (.exc c fs)) => (if G.exs.contains c = true then (match fs.lookup n with | some v => .ok (.int v) r | none => .bad) else .bad) | _ => .bad) Q E = _
  unfold Sl
  cases r[i]? with
  | none => rfl
  | some o =>
    cases o with
    | none => rfl
    | some d =>
      cases d <;> first | rfl | skip
      rename_i c fs
      show Sat (if _ then _ else _) Q E = (_ ∧ _)
      rw [sat_guard]
      congr 1
      cases fs.lookup n <;> rfl
theorem q_isx {i : Nat} {c : Str} {Q : D → Rho → Prop} : Sat (evE G cf (.isx i c) r) Q E = Sl r i (fun d => match d with | .exc c' _ => G.exs.contains c' = true ∧ Q (.bl (G.sub c' c)) r | _ => False) := by
  show Sat (match r[i]? with | some (some (.exc c' _)) => (if G.exs.contains c' = true then .ok (.bl (G.sub c' c)) r else .bad) | _ => .bad) Q E = _
  unfold Sl
  cases r[i]? with
  | none => rfl
  | some o =>
    cases o with
    | none => rfl
    | some d =>
      cases d <;> first | rfl | skip
      exact sat_guard
end
/-- numbered data -/
def enumD : Nat → List D → List D
  | _, [] => []
  | i, d :: ds => .tup [.int (i : Nat), d] :: enumD (i + 1) ds
theorem enum_eq (ds : List D) : (ds.mapIdx fun i d => D.tup [.int (i : Nat), d]) = enumD 0 ds := by
  have : ∀ (ds : List D) (k : Nat), (ds.mapIdx fun i d => D.tup [.int ((i + k : Nat)), d]) = enumD k ds := by
    intro ds
    induction ds with
    | nil => intro k; rfl
    | cons d ds ih =>
      intro k
      rw [List.mapIdx_cons]
      show D.tup [.int ((0 + k : Nat)), d] :: _ = D.tup [.int (k : Nat), d] :: enumD (k + 1) ds
      rw [← ih (k + 1), Nat.zero_add]
      congr 1
      congr 1
      funext i d
      rw [show i + 1 + k = i + (k + 1) by omega]
  exact this ds 0
theorem enum_len : ∀ (ds : List D) (k : Nat), (enumD k ds).length = ds.length
  | [], _ => rfl
  | _ :: ds, k => by
    show (enumD (k + 1) ds).length + 1 = _
    rw [enum_len ds (k + 1)]
    rfl
end PI
namespace PI
open PySem PySem.Spec PyProof.Rows L2
theorem ty_bn : isTy .bool .non = some false := rfl
theorem ty_bb {b : Bool} : isTy .bool (.bl b) = some true := rfl
theorem ty_bi {i : Int} : isTy .bool (.int i) = some false := rfl
theorem ty_bs {s : Str} : isTy .bool (.str s) = some false := rfl
theorem ty_bt {ds : List D} : isTy .bool (.tup ds) = some false := rfl
theorem ty_bl {m : Md} {ds : List D} : isTy .bool (.lst m ds) = some false := rfl
theorem ty_in : isTy .int .non = some false := rfl
theorem ty_ib {b : Bool} : isTy .int (.bl b) = some true := rfl
theorem ty_ii {i : Int} : isTy .int (.int i) = some true := rfl
theorem ty_is {s : Str} : isTy .int (.str s) = some false := rfl
theorem ty_it {ds : List D} : isTy .int (.tup ds) = some false := rfl
theorem ty_il {m : Md} {ds : List D} : isTy .int (.lst m ds) = some false := rfl
theorem ty_sn : isTy .str .non = some false := rfl
theorem ty_sb {b : Bool} : isTy .str (.bl b) = some false := rfl
theorem ty_si {i : Int} : isTy .str (.int i) = some false := rfl
theorem ty_ss {s : Str} : isTy .str (.str s) = some true := rfl
theorem ty_st {ds : List D} : isTy .str (.tup ds) = some false := rfl
theorem ty_sl {m : Md} {ds : List D} : isTy .str (.lst m ds) = some false := rfl
theorem ty_tn : isTy .tup .non = some false := rfl
theorem ty_tb {b : Bool} : isTy .tup (.bl b) = some false := rfl
theorem ty_ti {i : Int} : isTy .tup (.int i) = some false := rfl
theorem ty_ts {s : Str} : isTy .tup (.str s) = some false := rfl
theorem ty_tt {ds : List D} : isTy .tup (.tup ds) = some true := rfl
theorem ty_tl {m : Md} {ds : List D} : isTy .tup (.lst m ds) = some false := rfl
end PI
namespace PI
open PySem PySem.Spec PyProof.Rows L2
/-- a map over encoded things -/
theorem q_mapL {α : Type} {E : Ex} {one : D → Rho → R (Option D)} {Q : List D → Rho → Prop} {r : Rho} (g f : α → D) (l : List α) (hl : l.length ≤ 16777216) (hs : ∀ a ∈ l, Sat (one (g a) r) (fun o r' => o = some (f a) ∧ r' = r) E) (he : Q (l.map f) r) : Sat (turns one (l.map g) [] r) Q E := by
  refine q_turns (fun ys acc r' => ∃ p s : List α, l = p ++ s ∧ ys = s.map g ∧ acc = p.map f ∧ r' = r) ?_ ?_ _ [] r ⟨[], l, rfl, rfl, rfl, rfl⟩
  · rintro x ys acc r' ⟨p, s, h1, h2, rfl, rfl⟩
    obtain ⟨a, s, rfl⟩ : ∃ a s', s = a :: s' := by
      cases s with
      | nil => cases h2
      | cons a s => exact ⟨a, s, rfl⟩
    obtain ⟨rfl, rfl⟩ := List.cons.inj h2
    have hlen : l.length = p.length + (s.length + 1) := by rw [h1]; simp
    refine (hs a (by rw [h1]; simp)).mono ?_ fun _ _ _ z => z
    rintro o r' ⟨rfl, rfl⟩
    exact ⟨decide_eq_true (by rw [List.length_map]; omega), p ++ [a], s, by rw [h1]; simp, rfl, by simp, rfl⟩
  · rintro acc r' ⟨p, s, h1, h2, rfl, rfl⟩
    have : s = [] := by
      cases s with
      | nil => rfl
      | cons a s => cases h2
    subst this
    rw [List.append_nil] at h1
    rw [← h1]
    exact he
theorem e_join2 {m : Md} {a : Str} {ds : List D} {ys : List Str} (h : ds = ys.map D.str) (hl : joinLen a ys ≤ 16777216) : meD .join (.str a) (.lst m ds) = some (.str (Txt.join a ys)) := by
  rw [h, e_join, if_pos (show szl (joinLen a ys) = true from decide_eq_true hl)]
theorem b_addl2 {m n : Md} {a b : List D} (h1 : m ≠ .ro) (h2 : n ≠ .ro) (hl : a.length + b.length ≤ 16777216) (ha : copyables a = true) (hb : copyables b = true) : binD .add (.lst m a) (.lst n b) = some (.lst .own (a ++ b)) := by
  rw [b_addl, if_pos]
  rw [ha, hb, show szl (a.length + b.length) = true from decide_eq_true hl]
  cases m <;> cases n <;> first | rfl | exact absurd rfl h1 | exact absurd rfl h2
end PI
namespace PI
open PySem PySem.Spec PyProof.Rows L2
theorem pio_nil {r : Rho} : putIo [] [] r = some r := rfl
theorem pio_val {d : D} {as : List Ar} {fin : List D} {r : Rho} : putIo (.val d :: as) fin r = putIo as fin r := rfl
theorem pio_bor {i : Nat} {as : List Ar} {fin : List D} {r : Rho} : putIo (.bor i :: as) fin r = putIo as fin r := rfl
theorem pio_io {i : Nat} {as : List Ar} {d : D} {fin : List D} {r : Rho} : putIo (.io i :: as) (d :: fin) r = putIo as fin (r.set i (some d)) := rfl
theorem fmod_rng {i m : Int} (h : 0 < m) : 0 ≤ i.fmod m ∧ i.fmod m < m := ⟨Int.fmod_nonneg_of_pos i h, Int.fmod_lt_of_pos i h⟩
theorem at_map {α : Type} {f : α → D} {xs : List α} {i : Int} (h0 : 0 ≤ i) (h1 : i < xs.length) : ∃ x, x ∈ xs ∧ xs[i.toNat]? = some x ∧ atI (xs.map f) i = some (f x) := by
  have h : i.toNat < xs.length := by omega
  refine ⟨xs[i.toNat], List.getElem_mem h, List.getElem?_eq_getElem h, ?_⟩
  rw [at_int h0, List.getElem?_map, List.getElem?_eq_getElem h]
  rfl
end PI
namespace PI
open PySem PySem.Spec PyProof.Rows L2
theorem cut_len2 {α : Type} {xs : List α} {lo hi : Int} (h0 : 0 ≤ lo) (h1 : lo ≤ hi) : (cutL xs (some lo) (some hi)).length ≤ (hi - lo).toNat := by
  have e : ∀ (v : Int) (n d : Nat), 0 ≤ v → HT.sIx n d (some v) = min v.toNat n := fun v n d hv => if_neg (by omega)
  unfold cutL
  rw [List.length_take, List.length_drop, e _ _ _ h0, e _ _ _ (by omega)]
  omega
end PI
set_option maxRecDepth 100000
set_option maxHeartbeats 4000000
namespace K96
open PySem PySem.Spec PyProof.Rows L2 PI
theorem find_run_end : Tk.find "run_end" = some RF_run_end := by kernel_rfl
theorem find_is_integer : Tk.find "is_integer" = some RF_is_integer := by kernel_rfl
theorem find_lines_of : Tk.find "lines_of" = some RF_lines_of := by kernel_rfl
theorem find_sections_of : Tk.find "sections_of" = some RF_sections_of := by kernel_rfl
theorem find_written : Tk.find "written" = some RF_written := by kernel_rfl
theorem find_rows_of_text : Tk.find "rows_of_text" = some RF_rows_of_text := by kernel_rfl
theorem find_stand_words : Tk.find "stand_words" = some RF_stand_words := by kernel_rfl
theorem find_text_of : Tk.find "text_of" = some RF_text_of := by kernel_rfl
theorem find_write_holding : Tk.find "write_holding" = some RF_write_holding := by kernel_rfl
theorem find_write_falling : Tk.find "write_falling" = some RF_write_falling := by kernel_rfl
theorem find_write_course : Tk.find "write_course" = some RF_write_course := by kernel_rfl
theorem find_are_named : Tk.find "are_named" = some RF_are_named := by kernel_rfl
theorem find_stand_of_words : Tk.find "stand_of_words" = some RF_stand_of_words := by kernel_rfl
theorem find_holding_row : Tk.find "holding_row" = some RF_holding_row := by kernel_rfl
theorem find_falling_row : Tk.find "falling_row" = some RF_falling_row := by kernel_rfl
theorem find_course_row : Tk.find "course_row" = some RF_course_row := by kernel_rfl
theorem find_read_holding : Tk.find "read_holding" = some RF_read_holding := by kernel_rfl
theorem find_read_falling : Tk.find "read_falling" = some RF_read_falling := by kernel_rfl
theorem find_read_course : Tk.find "read_course" = some RF_read_course := by kernel_rfl
theorem find_law_draws : Tk.find "_law_draws" = some RF_law_draws := by kernel_rfl
theorem find_law_take : Tk.find "_law_take" = some RF_law_take := by kernel_rfl
theorem find_law_cell : Tk.find "_law_cell" = some RF_law_cell := by kernel_rfl
theorem find_law_same : Tk.find "_law_same" = some RF_law_same := by kernel_rfl
theorem find_law_which : Tk.find "_law_which" = some RF_law_which := by kernel_rfl
theorem find_law_number : Tk.find "_law_number" = some RF_law_number := by kernel_rfl
theorem find_law_any_number : Tk.find "_law_any_number" = some RF_law_any_number := by kernel_rfl
theorem find_law_some_numbers : Tk.find "_law_some_numbers" = some RF_law_some_numbers := by kernel_rfl
theorem find_law_tuples : Tk.find "_law_tuples" = some RF_law_tuples := by kernel_rfl
theorem find_law_row : Tk.find "_law_row" = some RF_law_row := by kernel_rfl
theorem find_law_long_row : Tk.find "_law_long_row" = some RF_law_long_row := by kernel_rfl
theorem find_law_part : Tk.find "_law_part" = some RF_law_part := by kernel_rfl
theorem find_law_line : Tk.find "_law_line" = some RF_law_line := by kernel_rfl
theorem find_law_sections : Tk.find "_law_sections" = some RF_law_sections := by kernel_rfl
theorem find_law_row_of : Tk.find "_law_row_of" = some RF_law_row_of := by kernel_rfl
theorem find_law_read : Tk.find "_law_read" = some RF_law_read := by kernel_rfl
theorem find_law_told : Tk.find "_law_told" = some RF_law_told := by kernel_rfl
theorem find_law_written_by : Tk.find "_law_written_by" = some RF_law_written_by := by kernel_rfl
theorem find_law_one_sign : Tk.find "_law_one_sign" = some RF_law_one_sign := by kernel_rfl
theorem find_law_signed : Tk.find "_law_signed" = some RF_law_signed := by kernel_rfl
theorem find_law_bad_line : Tk.find "_law_bad_line" = some RF_law_bad_line := by kernel_rfl
theorem find_law_changed : Tk.find "_law_changed" = some RF_law_changed := by kernel_rfl
theorem find_law : Tk.find "law" = some RF_law := by kernel_rfl
end K96
set_option maxRecDepth 100000
set_option maxHeartbeats 4000000
namespace K96
open PySem PySem.Spec PyProof.Rows L2 PI
local macro_rules | `(tactic| array_get_dec) => `(tactic| simp only [sat_ok, sat_bad, sat_exc, sat_fin, retQ_rt0, retQ_nx0, retQ_rt1, retQ_nx1, finE0, finE1, q_k, q_gl, q_s, q_cp, q_mv, q_vf, q_fz, q_tup, q_lst, q_bin, q_neg, q_cmp, q_chn, q_andv, q_orv, q_notv, q_ife, q_cal, q_cav, q_bi, q_bj, q_me, q_rpl, q_pop, q_ix, q_sl, q_isi, q_cmpr, q_es0, q_es1, q_as0, q_as1, q_as2, q_as3, q_o0, q_o1, q_c0, q_c1, q_te, q_tan, q_too, q_tno, q_it, q_itl, q_rng, q_enum, q_ss0, q_ss1, q_set, q_asgt, q_asgf, q_aug, q_dro, q_app, q_rev, q_sti, q_ifs, q_fors, q_whl, q_ret, q_retn, q_brk, q_cnt, q_pas, q_one,
  so_some, so_none, so_guard, so_bind, so_map, sl_z, sl_n, sl_s, tsQ_bl, tsQ_t, tsQ_f, nxQ_nx, nxQ_rt, nxQ_bk, nxQ_ct, lpQ_nx, lpQ_rt, lpQ_bk, lpQ_ct,
  List.set_cons_zero, List.set_cons_succ, List.getElem?_cons_zero, List.getElem?_cons_succ, List.map_cons, List.map_nil, List.length_cons, List.length_nil, List.length_map, List.length_singleton,
  c_non, c_bl, c_int, c_str, c_fn, c_tup', c_lf, c_lr, c_lb, c_nil, c_cons, c_app', c_ints, c_strs, c_dIs, f_non, f_bl, f_int, f_str, f_fn, f_tup, f_lo, f_lf, f_lr, f_nil, f_cons, f_ints, f_strs,
  b_add, b_sub, b_mul, b_fdiv, b_mod, b_pow, b_adds, b_addt, b_addl, b_mulL, b_muls, k_eq, k_ne, k_lt, k_le, k_gt, k_ge, k_in, k_notin, k_is0, k_is1, k_is2, k_is3, k_is4, k_is5, eqD_int, eqD_bl,
  i_lens, i_lent, i_lenl, i_inti, i_intb, i_ints, i_str, i_tupl, i_tupt, i_lisl, i_list, i_abs, i_sum, i_any, i_all, j_max, j_min, n_int, intsOf_map, blsOf_map, t_bl, t_non, t_int, t_tup, t_lst, m_tup, m_lst, m_str, x_tup, x_lst, x_str, at0, at1, at2, at3, at4, at5, at6, atl,
  l_tup, l_lst, l_str, cut_to1, cut_to2, cut_to3, cut_from1, cut_from2, cut_from3, cut_tol, g_nm, g_tu, g_nil, g_cons, w_nil, w_cons, e_split, e_join, cl_int, cl_str, cl_bl, cl_non, cl_nil, cl_cons,
  szl_eq, szlt_eq, Bool.and_eq_true, true_and, and_true, decide_eq_true_eq, decide_eq_false_iff_not, Bool.true_eq_false, Bool.false_eq_true, false_implies, true_implies, forall_const, Option.bind_some, Option.map_some, bne_iff_ne, ne_eq, Bool.not_eq_true', Bool.not_eq_false', reduceCtorEq, not_true_eq_false, not_false_eq_true])
/-- the signs of t from i on that lie in sg, up to the first other one -/
def runL (t sg : Str) (i : Nat) : Nat := i + ((t.cps.toList.drop i).takeWhile fun c => decide (c ∈ sg.cps.toList)).length
theorem in_one (c : Nat) (sg : Str) : inD (.str ⟨#[c]⟩) (.str sg) = some (decide (c ∈ sg.cps.toList)) := by
  show some _ = some _
  congr 1
  exact PySem.StrLaws.found_one sg c
theorem w_run_end (n wf : Nat) (t sg : Str) (ht : t.length ≤ 16777216) (hw : t.length < wf) : callF Tk.G Tk.defs wf (n + 1) "run_end" [.str t, .int 0, .str sg] = .ret (.int (runL t sg 0 : Nat)) [] := by
  refine SatF.eq ?_
  rw [callF_of find_run_end rfl]
  show SatF (finR [] (evSs Tk.G (callF Tk.G Tk.defs wf n) wf F_run_end [some (.str t), some (.int ((0 : Nat) : Int)), some (.str sg)])) _ _
  unfold F_run_end
  array_get_dec
  have hlen : t.cps.toList.length = t.length := by simp [Str.length]
  refine q_whileN (fun m r => ∃ i : Nat, i ≤ t.length ∧ m = t.length - i ∧ runL t sg i = runL t sg 0 ∧ r = [some (.str t), some (.int (i : Nat)), some (.str sg)]) ?_ wf t.length _ hw ⟨0, Nat.zero_le _, rfl, rfl, rfl⟩
  rintro m r ⟨i, h1, h2, h3, rfl⟩
  unfold T_run_end_0 B_run_end_1
  array_get_dec
  refine ⟨ht, fun h4 => ⟨ht, ?_⟩, fun h4 => ?_⟩
  · have h5 : i < t.cps.toList.length := by omega
    have ed : t.cps.toList.drop i = t.cps.toList[i] :: t.cps.toList.drop (i + 1) := List.drop_eq_getElem_cons h5
    rw [at_nat, List.getElem?_eq_getElem h5]
    simp only [so_some, in_one, decide_eq_true_eq, decide_eq_false_iff_not]
    refine ⟨fun h6 => ⟨t.length - (i + 1), by omega, i + 1, by omega, rfl, ?_, by simp⟩, fun h6 => ?_⟩
    · rw [← h3]
      unfold runL
      rw [ed, List.takeWhile_cons, decide_eq_true h6]
      simp
      omega
    · rw [← h3]
      unfold runL
      rw [ed, List.takeWhile_cons, decide_eq_false h6]
      simp
  · rw [← h3]
    unfold runL
    rw [List.drop_eq_nil_of_le (by omega)]
    rfl
/-! ### numbers -/
theorem ok_cut {s : Str} (h : okS s) (lo hi : Option Int) : okS (cutS s lo hi) := fun c hc => h c (by
  rw [cutS_tl] at hc
  exact cut_sub c hc)
def DIG : Str := "0123456789"
def digs (w : Str) : Str := if cutS w none (some 1) = "-" then cutS w (some 1) none else w
def isDg (c : Nat) : Bool := decide (c ∈ DIG.cps.toList)
def numOk (w : Str) : Bool := decide (digs w ≠ "") && (decide ((digs w).length ≤ 60) && ((digs w).cps.toList.all isDg && (decide ((digs w).cps.toList.head? ≠ some 48) || decide (w = "0"))))
theorem run_all (t : Str) : runL t DIG 0 < t.length ↔ t.cps.toList.all isDg = false := by
  have hlen : t.length = t.cps.toList.length := by simp [Str.length]
  unfold runL
  rw [hlen, List.drop_zero, Nat.zero_add]
  generalize t.cps.toList = l
  show (l.takeWhile isDg).length < l.length ↔ _
  induction l with
  | nil => simp
  | cons c l ih =>
    rw [List.takeWhile_cons, List.all_cons]
    cases e : isDg c with
    | true => simpa using ih
    | false => simp
theorem nil_of_len {s : Str} (h : s ≠ "") : ∃ c l, s.cps.toList = c :: l := by
  cases e : s.cps.toList with
  | nil => exact absurd (TL.ext_tl (x := s) (y := "") e) h
  | cons c l => exact ⟨c, l, rfl⟩
theorem one_eq {c : Nat} {d : Nat} : (⟨#[c]⟩ : Str) = ⟨#[d]⟩ ↔ c = d := by
  constructor
  · intro h
    have := congrArg (fun s : Str => s.cps.toList) h
    simpa using this
  · rintro rfl; rfl
theorem cut_le {s : Str} {lo hi : Option Int} : (cutS s lo hi).length ≤ s.length := cutS_length s lo hi
theorem digs_le {w : Str} : (digs w).length ≤ w.length := by
  unfold digs
  split
  · exact cut_le
  · exact Nat.le_refl _
theorem digs_ok {w : Str} (h : okS w) : okS (digs w) := by
  unfold digs
  split
  · exact ok_cut h _ _
  · exact h
theorem gl_MOST : Tk.G.glob "MOST_DIGITS" = some (.int 60) := by kernel_rfl
theorem gl_DIG : Tk.G.glob "DIGITS" = some (.str DIG) := by kernel_rfl
theorem w_is_integer (n wf : Nat) (w : Str) (hw : w.length ≤ 16777216) (ho : okS w) (hf : 60 < wf) : callF Tk.G Tk.defs wf (n + 2) "is_integer" [.str w] = .ret (.bl (numOk w)) [] := by
  refine SatF.eq ?_
  rw [callF_of find_is_integer rfl]
  show SatF (finR [] (evSs Tk.G (callF Tk.G Tk.defs wf (n + 1)) wf F_is_integer [some (.str w), none])) _ _
  unfold F_is_integer
  rw [sat_fin]
  refine q_seq (fun r => r = [some (.str w), some (.str w)]) (by array_get_dec) ?_
  rintro r rfl
  refine q_seq (fun r => r = [some (.str w), some (.str (digs w))]) ?_ ?_
  · array_get_dec
    refine ⟨hw, ?_⟩
    rw [eqD_str (ok_cut ho _ _) (by decide)]
    array_get_dec
    unfold digs
    exact ⟨fun h => ⟨hw, by rw [if_pos h]⟩, fun h => by rw [if_neg h]⟩
  · rintro r rfl
    have hd := digs_ok ho
    have hl := digs_le (w := w)
    have hw2 : (digs w).length ≤ 16777216 := Nat.le_trans hl hw
    array_get_dec
    rw [eqD_str hd (by decide), gl_MOST]
    unfold numOk
    array_get_dec
    refine ⟨fun h => ?_, fun h => ⟨hw2, fun h2 => ?_, fun h2 => ?_⟩⟩
    · rw [decide_eq_false (show ¬ (digs w ≠ "") from fun z => z h)]
      rfl
    · rw [decide_eq_false (show ¬ ((digs w).length ≤ 60) by omega), Bool.false_and, Bool.and_false]
    · rw [gl_DIG]
      array_get_dec
      have h3 : (digs w).length ≤ 60 := by omega
      refine q_callE rfl rfl rfl rfl (w_run_end n wf (digs w) DIG hw2 (by omega)) rfl ?_
      obtain ⟨c, l, e⟩ := nil_of_len h
      have ho2 : okS ⟨#[c]⟩ := fun x hx => hd x (by
        rw [e]
        have : x = c := by simpa using hx
        rw [this]
        exact List.mem_cons_self)
      array_get_dec
      refine ⟨hw2, fun h4 => ?_, fun h4 => ⟨hw2, ?_⟩⟩
      · rw [(run_all (digs w)).mp (by omega), Bool.false_and, Bool.and_false, Bool.and_false]
      · have h5 : (digs w).cps.toList.all isDg = true := by
          cases q : (digs w).cps.toList.all isDg with
          | true => rfl
          | false => exact absurd ((run_all (digs w)).mpr q) (by omega)
        rw [h5, e]
        array_get_dec
        rw [eqD_str ho2 (by decide), eqD_str ho (by decide)]
        array_get_dec
        rw [decide_eq_true h, decide_eq_true h3]
        have z : (⟨#[c]⟩ : Str) = "0" ↔ c = 48 := one_eq
        rw [z]
        refine ⟨fun h6 => ?_, fun h6 => ?_⟩
        · simp [h6]
        · simp [h6]
end K96
set_option maxRecDepth 100000
set_option maxHeartbeats 4000000
namespace K96
open PySem PySem.Spec PyProof.Rows L2 PI
local macro_rules | `(tactic| array_get_dec) => `(tactic| simp only [sat_ok, sat_bad, sat_exc, sat_fin, retQ_rt0, retQ_nx0, retQ_rt1, retQ_nx1, finE0, finE1, q_k, q_gl, q_s, q_cp, q_mv, q_vf, q_fz, q_tup, q_lst, q_bin, q_neg, q_cmp, q_chn, q_andv, q_orv, q_notv, q_ife, q_cal, q_cav, q_bi, q_bj, q_me, q_rpl, q_pop, q_ix, q_sl, q_isi, q_cmpr, q_es0, q_es1, q_as0, q_as1, q_as2, q_as3, q_o0, q_o1, q_c0, q_c1, q_te, q_tan, q_too, q_tno, q_it, q_itl, q_rng, q_enum, q_ss0, q_ss1, q_set, q_asgt, q_asgf, q_aug, q_dro, q_app, q_rev, q_sti, q_ifs, q_fors, q_whl, q_ret, q_retn, q_brk, q_cnt, q_pas, q_one,
  so_some, so_none, so_guard, so_bind, so_map, sl_z, sl_n, sl_s, tsQ_bl, tsQ_t, tsQ_f, nxQ_nx, nxQ_rt, nxQ_bk, nxQ_ct, lpQ_nx, lpQ_rt, lpQ_bk, lpQ_ct,
  List.set_cons_zero, List.set_cons_succ, List.getElem?_cons_zero, List.getElem?_cons_succ, List.map_cons, List.map_nil, List.length_cons, List.length_nil, List.length_map, List.length_singleton,
  c_non, c_bl, c_int, c_str, c_fn, c_tup', c_lf, c_lr, c_lb, c_nil, c_cons, c_app', c_ints, c_strs, c_dIs, f_non, f_bl, f_int, f_str, f_fn, f_tup, f_lo, f_lf, f_lr, f_nil, f_cons, f_ints, f_strs,
  b_add, b_sub, b_mul, b_fdiv, b_mod, b_pow, b_adds, b_addt, b_addl, b_mulL, b_muls, k_eq, k_ne, k_lt, k_le, k_gt, k_ge, k_in, k_notin, k_is0, k_is1, k_is2, k_is3, k_is4, k_is5, eqD_int, eqD_bl,
  i_lens, i_lent, i_lenl, i_inti, i_intb, i_ints, i_str, i_tupl, i_tupt, i_lisl, i_list, i_abs, i_sum, i_any, i_all, j_max, j_min, n_int, intsOf_map, blsOf_map, t_bl, t_non, t_int, t_tup, t_lst, m_tup, m_lst, m_str, x_tup, x_lst, x_str, at0, at1, at2, at3, at4, at5, at6, atl,
  l_tup, l_lst, l_str, cut_to1, cut_to2, cut_to3, cut_from1, cut_from2, cut_from3, cut_tol, g_nm, g_tu, g_nil, g_cons, w_nil, w_cons, e_split, e_join, cl_int, cl_str, cl_bl, cl_non, cl_nil, cl_cons,
  szl_eq, szlt_eq, Bool.and_eq_true, true_and, and_true, decide_eq_true_eq, decide_eq_false_iff_not, Bool.true_eq_false, Bool.false_eq_true, false_implies, true_implies, forall_const, Option.bind_some, Option.map_some, bne_iff_ne, ne_eq, Bool.not_eq_true', Bool.not_eq_false', reduceCtorEq, not_true_eq_false, not_false_eq_true])
/-! ### the numbers of texts -/
def val (w : Str) : Int := (PySem.intText? w).getD 0
theorem isDg_iff {c : Nat} : isDg c = true ↔ 48 ≤ c ∧ c ≤ 57 := by
  show decide (c ∈ DIG.cps.toList) = true ↔ _
  rw [decide_eq_true_eq, show DIG.cps.toList = [48, 49, 50, 51, 52, 53, 54, 55, 56, 57] by decide]
  simp only [List.mem_cons, List.not_mem_nil, or_false]
  omega
theorem all_dig {l : List Nat} : l.all isDg = true ↔ NumText.AllDigits l := by
  rw [List.all_eq_true]
  exact ⟨fun h c hc => isDg_iff.mp (h c hc), fun h c hc => isDg_iff.mpr (h c hc)⟩
theorem len_tl' (s : Str) : s.length = s.cps.toList.length := by simp [Str.length]
theorem minus_iff {w : Str} : cutS w none (some 1) = "-" ↔ ∃ l, w.cps.toList = 45 :: l := by
  have e : (cutS w none (some 1)).cps.toList = w.cps.toList.take 1 := by rw [cutS_tl, cut_to1]
  constructor
  · intro h
    rw [h] at e
    cases q : w.cps.toList with
    | nil => rw [q] at e; exact absurd e (by decide)
    | cons c l =>
      rw [q] at e
      have : c = 45 := by
        have e2 : [45] = [c] := e
        simpa using e2.symm
      exact ⟨l, by rw [this]⟩
  · rintro ⟨l, hl⟩
    refine TL.ext_tl ?_
    show (cutS w none (some 1)).cps.toList = _
    rw [e, hl]
    rfl
theorem rest_tl {w : Str} : (cutS w (some 1) none).cps.toList = w.cps.toList.drop 1 := by rw [cutS_tl, cut_from1]
structure NumW (w : Str) : Prop where
  ne : digs w ≠ ""
  le : (digs w).length ≤ 60
  dg : NumText.AllDigits (digs w).cps.toList
theorem numW {w : Str} (h : numOk w = true) : NumW w := by
  unfold numOk at h
  simp only [Bool.and_eq_true, decide_eq_true_eq] at h
  exact ⟨h.1, h.2.1, all_dig.mp h.2.2.1⟩
theorem num_val {w : Str} (h : numOk w = true) : w.length ≤ 61 ∧ PySem.intText? w = some (val w) := by
  obtain ⟨h1, h2, h3⟩ := numW h
  unfold val
  by_cases hm : cutS w none (some 1) = "-"
  · obtain ⟨l, hl⟩ := minus_iff.mp hm
    have e : (digs w).cps.toList = l := by
      unfold digs
      rw [if_pos hm, rest_tl, hl]
      rfl
    have hlen : w.length ≤ 61 := by
      have := h2
      rw [len_tl', e] at this
      rw [len_tl', hl, List.length_cons]
      omega
    rw [e] at h3
    refine ⟨hlen, ?_⟩
    rw [intText_neg hl h3 (by
      rintro rfl
      exact h1 (TL.ext_tl e)) (by omega)]
    rfl
  · have e : digs w = w := by
      unfold digs
      rw [if_neg hm]
    rw [e] at h1 h2 h3
    refine ⟨by omega, ?_⟩
    rw [intText_digits h3 (by
      intro z
      exact h1 (TL.ext_tl z)) (by omega)]
    rfl
theorem numL_head : ∀ (n : Nat), 0 < n → (TL.numL n).head? ≠ some 48 := by
  intro n
  induction n using Nat.strongRecOn with
  | _ n ih =>
    intro hn
    by_cases h : n < 10
    · rw [TL.numL_lt h]
      simp
      omega
    · rw [TL.numL_step (by omega)]
      have := ih (n / 10) (by omega) (by omega)
      cases q : TL.numL (n / 10) with
      | nil => exact absurd q (TL.numL_ne _)
      | cons c l =>
        rw [q] at this
        simpa using this
/-- str(i) -/
def tx (i : Int) : Str := toString i
theorem tx_pos (n : Nat) : (tx (n : Int)).cps.toList = TL.numL n := TL.tl_num n
theorem tx_neg (n : Nat) : (tx (-((n + 1 : Nat) : Int))).cps.toList = 45 :: TL.numL (n + 1) := by
  have e : (toString (-((n + 1 : Nat) : Int)) : String) = "-" ++ toString ((n + 1 : Nat) : Int) := rfl
  show (Str.ofString (toString (-((n + 1 : Nat) : Int)))).cps.toList = _
  rw [e, ← TL.tl_num]
  show TL.tl (Str.ofString _) = 45 :: TL.tl (Str.ofString _)
  rw [TL.tl_ofString, TL.tl_ofString, String.toList_append, List.map_append]
  rfl
/-- a text of digits, perhaps behind a minus -/
theorem num_of {w : Str} {l : List Nat} {m : Bool} (e : w.cps.toList = if m then 45 :: l else l) (hd : NumText.AllDigits l) (hne : l ≠ []) (hl : l.length ≤ 60) (h0 : l.head? ≠ some 48 ∨ (m = false ∧ l = [48])) : numOk w = true := by
  have hdg : (digs w).cps.toList = l := by
    unfold digs
    cases m with
    | true =>
      rw [if_pos (minus_iff.mpr ⟨l, e⟩), rest_tl, e]
      rfl
    | false =>
      rw [if_neg]
      · exact e
      · intro z
        obtain ⟨l2, h2⟩ := minus_iff.mp z
        rw [e] at h2
        have h2 : l = 45 :: l2 := h2
        have := hd 45 (by rw [h2]; exact List.mem_cons_self)
        omega
  unfold numOk
  rw [len_tl', hdg]
  simp only [Bool.and_eq_true, Bool.or_eq_true, decide_eq_true_eq]
  refine ⟨?_, hl, all_dig.mpr hd, ?_⟩
  · intro z
    rw [z] at hdg
    exact hne hdg.symm
  · rcases h0 with h | ⟨h1, h2⟩
    · exact .inl h
    · refine .inr (TL.ext_tl ?_)
      show w.cps.toList = _
      rw [e, h1, h2]
      rfl
theorem num_tx {i : Int} (h : i.natAbs < 10 ^ 60) : numOk (tx i) = true ∧ val (tx i) = i ∧ okS (tx i) ∧ (tx i).length ≤ 61 ∧ 32 ∉ (tx i).cps.toList ∧ 10 ∉ (tx i).cps.toList := by
  have ok : ∀ l : List Nat, NumText.AllDigits l → ∀ c ∈ l, 45 ≤ c ∧ c ≤ 57 := fun l hl c hc => by
    have := hl c hc
    omega
  have key : ∀ l : List Nat, NumText.AllDigits l → ∀ m : Bool, (∀ c ∈ (if m then 45 :: l else l), 45 ≤ c ∧ c ≤ 57) := fun l hl m c hc => by
    cases m with
    | true =>
      rcases List.mem_cons.mp hc with rfl | hc
      · omega
      · exact ok l hl c hc
    | false => exact ok l hl c hc
  have fin : ∀ (w : Str) (l : List Nat) (m : Bool), w.cps.toList = (if m then 45 :: l else l) → NumText.AllDigits l → okS w ∧ 32 ∉ w.cps.toList ∧ 10 ∉ w.cps.toList := fun w l m e hl => by
    refine ⟨fun c hc => ?_, fun hc => ?_, fun hc => ?_⟩ <;> rw [e] at hc <;> have := key l hl m _ hc <;> omega
  by_cases hi : 0 ≤ i
  · obtain ⟨n, rfl⟩ := Int.eq_ofNat_of_zero_le hi
    have hn : n < 10 ^ 60 := by simpa using h
    have e := tx_pos n
    have hlen := TL.numL_len (n := n) (k := 60) (by decide) hn
    have hok : numOk (tx (n : Int)) = true := num_of (m := false) e (TL.numL_digits n) (TL.numL_ne n) hlen (by
      by_cases h0 : 0 < n
      · exact .inl (numL_head n h0)
      · have : n = 0 := by omega
        subst this
        exact .inr ⟨rfl, rfl⟩)
    obtain ⟨f1, f2, f3⟩ := fin _ _ false e (TL.numL_digits n)
    refine ⟨hok, ?_, f1, ?_, f2, f3⟩
    · unfold val
      rw [intText_digits (by rw [e]; exact TL.numL_digits n) (by rw [e]; exact TL.numL_ne n) (by rw [len_tl', e]; omega), e, TL.numL_val]
      rfl
    · rw [len_tl', e]
      omega
  · obtain ⟨n, rfl⟩ : ∃ n : Nat, i = -((n + 1 : Nat) : Int) := ⟨i.natAbs - 1, by omega⟩
    have hn : n + 1 < 10 ^ 60 := by
      rw [Int.natAbs_neg, Int.natAbs_natCast] at h
      exact h
    have e := tx_neg n
    have hlen := TL.numL_len (n := n + 1) (k := 60) (by decide) hn
    have hok : numOk (tx (-((n + 1 : Nat) : Int))) = true := num_of (m := true) e (TL.numL_digits _) (TL.numL_ne _) hlen (.inl (numL_head _ (by omega)))
    obtain ⟨f1, f2, f3⟩ := fin _ _ true e (TL.numL_digits _)
    refine ⟨hok, ?_, f1, ?_, f2, f3⟩
    · unfold val
      rw [intText_neg e (TL.numL_digits _) (TL.numL_ne _) (by rw [len_tl', e, List.length_cons]; omega), TL.numL_val]
      rfl
    · rw [len_tl', e, List.length_cons]
      omega
/-! ### sections -/
abbrev Sec := Str × List Int
def encS (s : Sec) : D := .tup [.str s.1, dI s.2]
def addLast (l : List Sec) (i : Int) : List Sec := match l.getLast? with
  | some s => l.dropLast ++ [(s.1, s.2 ++ [i])]
  | none => []
/-- the sections of words; the law's -/
def secL : List Sec → List Str → Option (List Sec)
  | acc, [] => some acc
  | acc, w :: ws => if numOk w = true then (if acc = [] then none else secL (addLast acc (val w)) ws) else secL (acc ++ [(w, [])]) ws
/-- the program's -/
def secP (nm : List Str) : List Sec → List Str → Option (List Sec)
  | acc, [] => some acc
  | acc, w :: ws => if w ∈ nm then secP nm (acc ++ [(w, [])]) ws else if numOk w = false ∨ acc = [] then none else secP nm (addLast acc (val w)) ws
theorem addLast_names {l : List Sec} {i : Int} (h : l ≠ []) : (addLast l i).map (·.1) = l.map (·.1) := by
  unfold addLast
  rw [List.getLast?_eq_some_getLast h]
  show (l.dropLast ++ [((l.getLast h).1, (l.getLast h).2 ++ [i])]).map (·.1) = _
  conv => rhs; rw [← List.dropLast_concat_getLast h]
  rw [List.map_append, List.map_append]
  rfl
theorem addLast_ne {l : List Sec} {i : Int} (h : l ≠ []) : addLast l i ≠ [] := by
  unfold addLast
  rw [List.getLast?_eq_some_getLast h]
  simp
/-- names once there stay -/
theorem secL_names : ∀ (ws : List Str) (acc s : List Sec), secL acc ws = some s → ∃ more, s.map (·.1) = acc.map (·.1) ++ more
  | [], acc, s, h => ⟨[], by cases h; simp⟩
  | w :: ws, acc, s, h => by
    unfold secL at h
    split at h
    · split at h
      · cases h
      · rename_i hne
        obtain ⟨more, e⟩ := secL_names ws _ s h
        exact ⟨more, by rw [e, addLast_names hne]⟩
    · obtain ⟨more, e⟩ := secL_names ws _ s h
      exact ⟨w :: more, by rw [e, List.map_append, List.append_assoc]; rfl⟩
/-- THE TWO READINGS OF A LINE -/
theorem sec_eq {nm : List Str} (hn : ∀ w ∈ nm, numOk w = false) : ∀ (ws : List Str) (acc : List Sec), (∀ x ∈ acc.map (·.1), x ∈ nm) →
    (∀ s, secL acc ws = some s → (∀ x ∈ s.map (·.1), x ∈ nm) → secP nm acc ws = some s) ∧ (∀ s, secP nm acc ws = some s → secL acc ws = some s)
  | [], acc, _ => ⟨fun s h _ => h, fun s h => h⟩
  | w :: ws, acc, ha => by
    unfold secL secP
    by_cases hw : w ∈ nm
    · rw [if_pos hw, if_neg (by rw [hn w hw]; exact Bool.false_ne_true)]
      exact sec_eq hn ws _ (fun x hx => by
        rw [List.map_append] at hx
        rcases List.mem_append.mp hx with h | h
        · exact ha x h
        · have : x = w := by simpa using h
          rw [this]; exact hw)
    · rw [if_neg hw]
      by_cases hk : numOk w = true
      · rw [if_pos hk]
        by_cases hne : acc = []
        · rw [if_pos hne, if_pos (.inr hne)]
          exact ⟨fun s h => (nomatch h), fun s h => (nomatch h)⟩
        · rw [if_neg hne, if_neg (by rw [hk]; rintro (z | z); cases z; exact hne z)]
          exact sec_eq hn ws _ (fun x hx => by
            rw [addLast_names hne] at hx
            exact ha x hx)
      · have hk2 : numOk w = false := by simpa using hk
        rw [if_neg hk, if_pos (.inl hk2)]
        refine ⟨fun s h hs => ?_, fun s h => (nomatch h)⟩
        obtain ⟨more, e⟩ := secL_names ws _ s h
        exact absurd (hs w (by rw [e, List.map_append]; simp)) hw
end K96
set_option maxRecDepth 100000
set_option maxHeartbeats 4000000
namespace K96
open PySem PySem.Spec PyProof.Rows L2 PI
local macro_rules | `(tactic| array_get_dec) => `(tactic| simp only [sat_ok, sat_bad, sat_exc, sat_fin, retQ_rt0, retQ_nx0, retQ_rt1, retQ_nx1, finE0, finE1, q_k, q_gl, q_s, q_cp, q_mv, q_vf, q_fz, q_tup, q_lst, q_bin, q_neg, q_cmp, q_chn, q_andv, q_orv, q_notv, q_ife, q_cal, q_cav, q_bi, q_bj, q_me, q_rpl, q_pop, q_ix, q_sl, q_isi, q_cmpr, q_es0, q_es1, q_as0, q_as1, q_as2, q_as3, q_o0, q_o1, q_c0, q_c1, q_te, q_tan, q_too, q_tno, q_it, q_itl, q_rng, q_enum, q_ss0, q_ss1, q_set, q_asgt, q_asgf, q_aug, q_dro, q_app, q_rev, q_sti, q_ifs, q_fors, q_whl, q_ret, q_retn, q_brk, q_cnt, q_pas, q_one,
  so_some, so_none, so_guard, so_bind, so_map, sl_z, sl_n, sl_s, tsQ_bl, tsQ_t, tsQ_f, nxQ_nx, nxQ_rt, nxQ_bk, nxQ_ct, lpQ_nx, lpQ_rt, lpQ_bk, lpQ_ct,
  List.set_cons_zero, List.set_cons_succ, List.getElem?_cons_zero, List.getElem?_cons_succ, List.map_cons, List.map_nil, List.length_cons, List.length_nil, List.length_map, List.length_singleton,
  c_non, c_bl, c_int, c_str, c_fn, c_tup', c_lf, c_lr, c_lb, c_nil, c_cons, c_app', c_ints, c_strs, c_dIs, f_non, f_bl, f_int, f_str, f_fn, f_tup, f_lo, f_lf, f_lr, f_nil, f_cons, f_ints, f_strs,
  b_add, b_sub, b_mul, b_fdiv, b_mod, b_pow, b_adds, b_addt, b_addl, b_mulL, b_muls, k_eq, k_ne, k_lt, k_le, k_gt, k_ge, k_in, k_notin, k_is0, k_is1, k_is2, k_is3, k_is4, k_is5, eqD_int, eqD_bl,
  i_lens, i_lent, i_lenl, i_inti, i_intb, i_ints, i_str, i_tupl, i_tupt, i_lisl, i_list, i_abs, i_sum, i_any, i_all, j_max, j_min, n_int, intsOf_map, blsOf_map, t_bl, t_non, t_int, t_tup, t_lst, m_tup, m_lst, m_str, x_tup, x_lst, x_str, at0, at1, at2, at3, at4, at5, at6, atl,
  l_tup, l_lst, l_str, cut_to1, cut_to2, cut_to3, cut_from1, cut_from2, cut_from3, cut_tol, g_nm, g_tu, g_nil, g_cons, w_nil, w_cons, e_split, e_join, cl_int, cl_str, cl_bl, cl_non, cl_nil, cl_cons,
  szl_eq, szlt_eq, Bool.and_eq_true, true_and, and_true, decide_eq_true_eq, decide_eq_false_iff_not, Bool.true_eq_false, Bool.false_eq_true, false_implies, true_implies, forall_const, Option.bind_some, Option.map_some, bne_iff_ne, ne_eq, Bool.not_eq_true', Bool.not_eq_false', reduceCtorEq, not_true_eq_false, not_false_eq_true])
/-! ### cutting lines -/
theorem spl_facts (S : List Nat) : ∀ (l : List Nat) (k : Nat) (acc : List Nat), (∀ p ∈ TL.spl S k acc l, (∀ c ∈ p, c ∈ acc ++ l) ∧ p.length ≤ acc.length + l.length) ∧ (TL.spl S k acc l).length ≤ l.length + 1 ∧ TL.spl S k acc l ≠ []
  | [], k, acc => by
    rw [TL.spl_nil]
    refine ⟨fun p hp => ?_, by simp, by simp⟩
    have : p = acc := by simpa using hp
    subst this
    exact ⟨fun c hc => by simpa using hc, by simp⟩
  | c :: r, 0, acc => by
    by_cases h : TL.pre S (c :: r) = true
    · rw [TL.spl_hit h]
      obtain ⟨h1, h2, h3⟩ := spl_facts S r (S.length - 1) []
      refine ⟨fun p hp => ?_, by simp only [List.length_cons]; omega, by simp⟩
      rcases List.mem_cons.mp hp with rfl | hp
      · exact ⟨fun x hx => List.mem_append_left _ hx, by simp⟩
      · obtain ⟨h4, h5⟩ := h1 p hp
        refine ⟨fun x hx => ?_, ?_⟩
        · have := h4 x hx
          simp at this
          simp [this]
        · simp at h5
          simp
          omega
    · rw [TL.spl_miss (by simpa using h)]
      obtain ⟨h1, h2, h3⟩ := spl_facts S r 0 (acc ++ [c])
      refine ⟨fun p hp => ?_, by simp only [List.length_cons]; omega, h3⟩
      obtain ⟨h4, h5⟩ := h1 p hp
      refine ⟨fun x hx => ?_, ?_⟩
      · have := h4 x hx
        simpa using this
      · simp at h5
        simp
        omega
  | c :: r, k + 1, acc => by
    show (∀ p ∈ TL.spl S k acc r, _) ∧ (TL.spl S k acc r).length ≤ _ ∧ TL.spl S k acc r ≠ []
    obtain ⟨h1, h2, h3⟩ := spl_facts S r k acc
    refine ⟨fun p hp => ?_, by simp only [List.length_cons]; omega, h3⟩
    obtain ⟨h4, h5⟩ := h1 p hp
    refine ⟨fun x hx => ?_, by simp only [List.length_cons]; omega⟩
    have := h4 x hx
    rcases List.mem_append.mp this with h | h
    · exact List.mem_append_left _ h
    · exact List.mem_append_right _ (List.mem_cons_of_mem _ h)
theorem split_facts {x y : Str} (hy : y.cps.toList ≠ []) (hk : y.cps.all (· < 256) = true) : (∀ p ∈ Txt.split x y, (∀ c ∈ p.cps.toList, c ∈ x.cps.toList) ∧ p.length ≤ x.length) ∧ (Txt.split x y).length ≤ x.length + 1 ∧ Txt.split x y ≠ [] := by
  have e := TL.split_spl x y hy (TL.kind_ok hk)
  obtain ⟨h1, h2, h3⟩ := spl_facts y.cps.toList x.cps.toList 0 []
  refine ⟨fun p hp => ?_, ?_, ?_⟩
  · have hm : p.cps.toList ∈ TL.spl y.cps.toList 0 [] x.cps.toList := by
      rw [← e]
      exact List.mem_map_of_mem hp
    obtain ⟨h4, h5⟩ := h1 _ hm
    refine ⟨fun c hc => by simpa using h4 c hc, ?_⟩
    rw [len_tl', len_tl']
    simpa using h5
  · have := congrArg List.length e
    rw [List.length_map] at this
    rw [this, len_tl']
    exact h2
  · intro z
    rw [z] at e
    exact h3 e.symm
theorem sp_facts {x : Str} (hx : okS x) : (∀ p ∈ Txt.split x " ", okS p ∧ p.length ≤ x.length) ∧ (Txt.split x " ").length ≤ x.length + 1 ∧ Txt.split x " " ≠ [] := by
  obtain ⟨h1, h2, h3⟩ := split_facts (x := x) (y := " ") (by decide) (by decide +kernel)
  exact ⟨fun p hp => ⟨fun c hc => hx c ((h1 p hp).1 c hc), (h1 p hp).2⟩, h2, h3⟩
theorem nl_facts {x : Str} (hx : okS x) : (∀ p ∈ Txt.split x "\n", okS p ∧ p.length ≤ x.length) ∧ (Txt.split x "\n").length ≤ x.length + 1 ∧ Txt.split x "\n" ≠ [] := by
  obtain ⟨h1, h2, h3⟩ := split_facts (x := x) (y := "\n") (by decide) (by decide +kernel)
  exact ⟨fun p hp => ⟨fun c hc => hx c ((h1 p hp).1 c hc), (h1 p hp).2⟩, h2, h3⟩
/-! ### the law's number -/
def numD (w : Str) : D := if numOk w = true then .int (val w) else .non
def noDg (x : D) : Option D := match x with
  | .str s => if isDg (s.cps.toList.headD 0) = true then none else some (.str s)
  | d => some d
theorem noDg_str {c : Nat} : noDg (.str ⟨#[c]⟩) = if isDg c = true then none else some (.str ⟨#[c]⟩) := rfl
theorem noDg_len (l : List Nat) : ((l.map fun c => D.str ⟨#[c]⟩).filterMap noDg).length = 0 ↔ l.all isDg = true := by
  induction l with
  | nil => simp
  | cons c l ih =>
    rw [List.map_cons, List.filterMap_cons, noDg_str, List.all_cons]
    cases e : isDg c with
    | true => simpa using ih
    | false => simp
theorem w_law_number (n wf : Nat) (w : Str) (hw : w.length ≤ 16777216) (ho : okS w) : callF Tk.G Tk.defs wf (n + 1) "_law_number" [.str w] = .ret (numD w) [] := by
  refine SatF.eq ?_
  rw [callF_of find_law_number rfl]
  show SatF (finR [] (evSs Tk.G (callF Tk.G Tk.defs wf n) wf F_law_number [some (.str w), none, none])) _ _
  unfold F_law_number
  rw [sat_fin]
  refine q_seq (fun r => r = [some (.str w), some (.str w), none]) (by array_get_dec) ?_
  rintro r rfl
  refine q_seq (fun r => r = [some (.str w), some (.str (digs w)), none]) ?_ ?_
  · array_get_dec
    refine ⟨hw, ?_⟩
    rw [eqD_str (ok_cut ho _ _) (by decide)]
    array_get_dec
    unfold digs
    exact ⟨fun h => ⟨hw, by rw [if_pos h]⟩, fun h => by rw [if_neg h]⟩
  · rintro r rfl
    have hd := digs_ok ho
    have hl := digs_le (w := w)
    have hw2 : (digs w).length ≤ 16777216 := Nat.le_trans hl hw
    unfold C_law_number_0
    array_get_dec
    rw [eqD_str hd (by decide)]
    unfold numD numOk
    array_get_dec
    refine ⟨fun h => ?_, fun h => ⟨hw2, fun h2 => ?_, fun h2 => ?_⟩⟩
    · rw [if_neg]
      rintro ⟨z, _⟩
      exact z h
    · rw [if_neg]
      rintro ⟨_, z, _⟩
      omega
    · refine q_filt noDg (by rw [List.length_map, ← len_tl']; exact hw2) ?_ ?_
      · intro x hx
        obtain ⟨c, hc, rfl⟩ := List.mem_map.mp hx
        array_get_dec
        rw [in_one]
        array_get_dec
        rw [noDg_str]
        show (c ∉ DIG.cps.toList → _) ∧ (c ∈ DIG.cps.toList → _)
        exact ⟨fun h => by rw [if_neg (show ¬ isDg c = true from fun z => h (of_decide_eq_true z))], fun h => by rw [if_pos (show isDg c = true from decide_eq_true h)]⟩
      · have e0 := noDg_len (digs w).cps.toList
        array_get_dec
        refine ⟨fun h3 => ?_, fun h3 => ?_⟩
        · rw [if_neg]
          rintro ⟨_, _, z, _⟩
          rw [e0.mpr z] at h3
          exact absurd h3 (by decide)
        · have h4 : (digs w).cps.toList.all isDg = true := e0.mp (by omega)
          obtain ⟨c, l, e⟩ := nil_of_len h
          have ho2 : okS ⟨#[c]⟩ := fun x hx => hd x (by
            rw [e]
            have : x = c := by simpa using hx
            rw [this]
            exact List.mem_cons_self)
          have z : (⟨#[c]⟩ : Str) = "0" ↔ c = 48 := one_eq
          have h5 : (digs w).length ≤ 60 := by omega
          rw [h4, e]
          array_get_dec
          rw [eqD_str ho2 (by decide), eqD_str ho (by decide)]
          array_get_dec
          rw [z]
          have hi : ∀ (p : Prop) [Decidable p], (p → False) → True := fun _ _ _ => trivial
          refine ⟨hw2, fun h6 => ⟨fun h7 => ?_, fun h7 => ?_⟩, fun h6 => ?_⟩
          · rw [if_neg]
            rintro ⟨_, _, z⟩
            simp [h6] at z
            exact h7 z
          · rw [if_pos (⟨h, h5, by simp [h7]⟩)]
            have hk : numOk w = true := by
              unfold numOk
              rw [h4, e]
              rw [decide_eq_true h, decide_eq_true h5, decide_eq_true h7, Bool.or_true]
              rfl
            obtain ⟨k1, k2⟩ := num_val hk
            refine ⟨by omega, ?_⟩
            rw [k2]
            array_get_dec
          · rw [if_pos (⟨h, h5, by simp [h6]⟩)]
            have hk : numOk w = true := by
              unfold numOk
              rw [h4, e]
              simp [h, h5, h6]
            obtain ⟨k1, k2⟩ := num_val hk
            refine ⟨by omega, ?_⟩
            rw [k2]
            array_get_dec
end K96
set_option maxRecDepth 100000
set_option maxHeartbeats 4000000
namespace K96
open PySem PySem.Spec PyProof.Rows L2 PI
local macro_rules | `(tactic| array_get_dec) => `(tactic| simp only [sat_ok, sat_bad, sat_exc, sat_fin, retQ_rt0, retQ_nx0, retQ_rt1, retQ_nx1, finE0, finE1, q_k, q_gl, q_s, q_cp, q_mv, q_vf, q_fz, q_tup, q_lst, q_bin, q_neg, q_cmp, q_chn, q_andv, q_orv, q_notv, q_ife, q_cal, q_cav, q_bi, q_bj, q_me, q_rpl, q_pop, q_ix, q_sl, q_isi, q_cmpr, q_es0, q_es1, q_as0, q_as1, q_as2, q_as3, q_o0, q_o1, q_c0, q_c1, q_te, q_tan, q_too, q_tno, q_it, q_itl, q_rng, q_enum, q_ss0, q_ss1, q_set, q_asgt, q_asgf, q_aug, q_dro, q_app, q_rev, q_sti, q_ifs, q_fors, q_whl, q_ret, q_retn, q_brk, q_cnt, q_pas, q_one,
  so_some, so_none, so_guard, so_bind, so_map, sl_z, sl_n, sl_s, tsQ_bl, tsQ_t, tsQ_f, nxQ_nx, nxQ_rt, nxQ_bk, nxQ_ct, lpQ_nx, lpQ_rt, lpQ_bk, lpQ_ct,
  List.set_cons_zero, List.set_cons_succ, List.getElem?_cons_zero, List.getElem?_cons_succ, List.map_cons, List.map_nil, List.length_cons, List.length_nil, List.length_map, List.length_singleton,
  c_non, c_bl, c_int, c_str, c_fn, c_tup', c_lf, c_lr, c_lb, c_nil, c_cons, c_app', c_ints, c_strs, c_dIs, f_non, f_bl, f_int, f_str, f_fn, f_tup, f_lo, f_lf, f_lr, f_nil, f_cons, f_ints, f_strs,
  b_add, b_sub, b_mul, b_fdiv, b_mod, b_pow, b_adds, b_addt, b_addl, b_mulL, b_muls, k_eq, k_ne, k_lt, k_le, k_gt, k_ge, k_in, k_notin, k_is0, k_is1, k_is2, k_is3, k_is4, k_is5, eqD_int, eqD_bl,
  i_lens, i_lent, i_lenl, i_inti, i_intb, i_ints, i_str, i_tupl, i_tupt, i_lisl, i_list, i_abs, i_sum, i_any, i_all, j_max, j_min, n_int, intsOf_map, blsOf_map, t_bl, t_non, t_int, t_tup, t_lst, m_tup, m_lst, m_str, x_tup, x_lst, x_str, at0, at1, at2, at3, at4, at5, at6, atl,
  l_tup, l_lst, l_str, cut_to1, cut_to2, cut_to3, cut_from1, cut_from2, cut_from3, cut_tol, g_nm, g_tu, g_nil, g_cons, w_nil, w_cons, e_split, e_join, cl_int, cl_str, cl_bl, cl_non, cl_nil, cl_cons,
  szl_eq, szlt_eq, Bool.and_eq_true, true_and, and_true, decide_eq_true_eq, decide_eq_false_iff_not, Bool.true_eq_false, Bool.false_eq_true, false_implies, true_implies, forall_const, Option.bind_some, Option.map_some, bne_iff_ne, ne_eq, Bool.not_eq_true', Bool.not_eq_false', reduceCtorEq, not_true_eq_false, not_false_eq_true])
theorem c_encS (s : Sec) : copyable (encS s) = true := by
  show (copyable (.str s.1) && (copyable (dI s.2) && true)) = true
  rw [copy_dI]; rfl
theorem f_encS (s : Sec) : fz (encS s) = encS s := fz_copy _ (c_encS s)
theorem c_encSs (l : List Sec) : copyables (l.map encS) = true := c_map c_encS l
theorem f_encSs (l : List Sec) : fzs (l.map encS) = l.map encS := f_map f_encS l
def encO (m : Md) (o : Option (List Sec)) : D := match o with
  | none => .non
  | some s => .lst m (s.map encS)
theorem flat_strs (l : List Str) : (l.map D.str).all flat = true := by
  rw [List.all_map]
  exact List.all_eq_true.mpr fun _ _ => rfl
theorem in_strs (w : Str) (nm : List Str) : inD (.str w) (.tup (nm.map D.str)) = some (decide (w ∈ nm)) := by
  show (if flat (.str w) = true ∧ (nm.map D.str).all flat = true then some (inF (.str w) (nm.map D.str)) else none) = _
  rw [if_pos ⟨rfl, flat_strs nm⟩]
  congr 1
  unfold inF
  rw [List.any_map, Bool.eq_iff_iff, List.any_eq_true, decide_eq_true_eq]
  constructor
  · rintro ⟨x, hx, h⟩
    have h2 : (x == w) = true := h
    have : x = w := by simpa using h2
    rw [← this]; exact hx
  · intro h
    exact ⟨w, h, show (w == w) = true by simp⟩
theorem last_enc {acc : List Sec} (h : acc ≠ []) : (acc.map encS)[(acc.map encS).length - 1]? = some (encS (acc.getLast h)) := by
  rw [← List.getLast?_eq_getElem?, List.getLast?_map, List.getLast?_eq_some_getLast h]
  rfl
theorem addLast_eq {acc : List Sec} (h : acc ≠ []) (i : Int) : addLast acc i = acc.dropLast ++ [((acc.getLast h).1, (acc.getLast h).2 ++ [i])] := by
  unfold addLast
  rw [List.getLast?_eq_some_getLast h]
theorem enc_app {acc : List Sec} {s : Sec} : acc.map encS ++ [encS s] = (acc ++ [s]).map encS := by rw [List.map_append]; rfl
theorem w_sections_of (n wf : Nat) (line : Str) (nm : List Str) (hw : line.length + 2 ≤ 16777216) (ho : okS line) (hf : 60 < wf) (hn : nm.length ≤ 100) : callF Tk.G Tk.defs wf (n + 3) "sections_of" [.str line, .tup (nm.map D.str)] = .ret (encO .own (secP nm [] (Txt.split line " "))) [] := by
  refine SatF.eq ?_
  rw [callF_of find_sections_of rfl]
  show SatF (finR [] (evSs Tk.G (callF Tk.G Tk.defs wf (n + 2)) wf F_sections_of [some (.str line), some (.tup (nm.map D.str)), none, none, none, none])) _ _
  obtain ⟨hs1, hs2, hs3⟩ := sp_facts ho
  generalize hT : secP nm [] (Txt.split line " ") = T
  unfold F_sections_of
  array_get_dec
  refine ⟨by decide, ⟨by decide, hw⟩, ?_⟩
  refine q_forN (fun xs r => ∃ (ws : List Str) (acc : List Sec) (a b c : Option D), xs = ws.map D.str ∧ r = [some (.str line), some (.tup (nm.map D.str)), some (.lst .own (acc.map encS)), a, b, c] ∧
    secP nm acc ws = T ∧ (∀ w ∈ ws, okS w ∧ w.length ≤ line.length) ∧ acc.length + ws.length ≤ line.length + 1 ∧ (∀ s ∈ acc, s.2.length + ws.length ≤ line.length + 1)) ?_ ?_ _ _ ⟨Txt.split line " ", [], _, _, _, rfl, rfl, hT, hs1, by simpa using hs2, by simp⟩
  · rintro x xs r ⟨ws, acc, a, b, c, h1, rfl, h3, h4, h5, h6⟩
    obtain ⟨w, ws, rfl⟩ : ∃ w ws', ws = w :: ws' := by
      cases ws with
      | nil => simp at h1
      | cons w ws => exact ⟨w, ws, rfl⟩
    obtain ⟨rfl, rfl⟩ := List.cons.inj h1
    obtain ⟨hw1, hw2⟩ := h4 w List.mem_cons_self
    rw [List.length_cons] at h5
    unfold secP at h3
    unfold B_sections_of_0
    array_get_dec
    rw [in_strs]
    array_get_dec
    refine ⟨fun hm => ?_, fun hm => ?_⟩
    · rw [if_pos hm] at h3
      refine ⟨by decide, by decide, by omega, ws, acc ++ [(w, [])], some (.str w), b, c, rfl, ?_, h3, fun x hx => h4 x (List.mem_cons_of_mem _ hx), by simp only [List.length_append, List.length_singleton]; omega, ?_⟩
      · rw [← enc_app]; rfl
      · intro s hs
        rcases List.mem_append.mp hs with hs | hs
        · have := h6 s hs
          rw [List.length_cons] at this
          omega
        · have : s = (w, []) := by simpa using hs
          subst this
          simp only [List.length_nil]
          omega
    · rw [if_neg hm] at h3
      refine q_callE rfl rfl rfl rfl (w_is_integer n wf w (by omega) hw1 hf) rfl ?_
      array_get_dec
      refine ⟨fun hk => ⟨fun ha => ?_, fun ha => ?_⟩, fun hk => ?_⟩
      · have : acc = [] := List.length_eq_zero_iff.mp (by omega)
        rw [if_pos (.inr this)] at h3
        rw [← h3]
        rfl
      · have hne : acc ≠ [] := by
          rintro rfl
          exact ha rfl
        rw [if_neg (by rintro (z | z); rw [hk] at z; cases z; exact hne z)] at h3
        obtain ⟨k1, k2⟩ := num_val hk
        have h7 := h6 (acc.getLast hne) (List.getLast_mem hne)
        rw [List.length_cons] at h7
        have := last_enc hne
        rw [List.length_map] at this
        rw [this]
        rw [show encS (acc.getLast hne) = .tup [.str (acc.getLast hne).1, dI (acc.getLast hne).2] from rfl]
        array_get_dec
        rw [k2]
        array_get_dec
        have hdl : (List.map encS acc).dropLast.length = acc.length - 1 := by simp
        refine ⟨by omega, by decide, by omega, by decide, by omega, ws, addLast acc (val w), some (.str w), some (.str (acc.getLast hne).1), some (dI (acc.getLast hne).2), rfl, ?_, h3, fun x hx => h4 x (List.mem_cons_of_mem _ hx), ?_, ?_⟩
        · rw [addLast_eq hne, ← enc_app, List.map_dropLast]
          unfold encS dI
          rw [List.map_append]
          rfl
        · rw [addLast_eq hne, List.length_append, List.length_dropLast, List.length_singleton]
          omega
        · intro s hs
          rw [addLast_eq hne] at hs
          rcases List.mem_append.mp hs with hs | hs
          · have := h6 s (List.dropLast_subset _ hs)
            rw [List.length_cons] at this
            omega
          · have : s = ((acc.getLast hne).1, (acc.getLast hne).2 ++ [val w]) := by simpa using hs
            subst this
            rw [List.length_append, List.length_singleton]
            omega
      · rw [if_pos (.inl hk)] at h3
        rw [← h3]
        rfl
  · rintro r ⟨ws, acc, a, b, c, h1, rfl, h3, h4, h5, h6⟩
    have : ws = [] := by simpa using h1.symm
    subst this
    array_get_dec
    have h3 : some acc = _ := h3
    rw [← h3]
    rfl
theorem w_law_sections (n wf : Nat) (line : Str) (hw : line.length + 2 ≤ 16777216) (ho : okS line) : callF Tk.G Tk.defs wf (n + 2) "_law_sections" [.str line] = .ret (encO .own (secL [] (Txt.split line " "))) [] := by
  refine SatF.eq ?_
  rw [callF_of find_law_sections rfl]
  show SatF (finR [] (evSs Tk.G (callF Tk.G Tk.defs wf (n + 1)) wf F_law_sections [some (.str line), none, none, none, none])) _ _
  obtain ⟨hs1, hs2, hs3⟩ := sp_facts ho
  generalize hT : secL [] (Txt.split line " ") = T
  unfold F_law_sections
  array_get_dec
  refine ⟨by decide, ⟨by decide, hw⟩, ?_⟩
  refine q_forN (fun xs r => ∃ (ws : List Str) (acc : List Sec) (a b c : Option D), xs = ws.map D.str ∧ r = [some (.str line), some (.lst .own (acc.map encS)), a, b, c] ∧
    secL acc ws = T ∧ (∀ w ∈ ws, okS w ∧ w.length ≤ line.length) ∧ acc.length + ws.length ≤ line.length + 1 ∧ (∀ s ∈ acc, s.2.length + ws.length ≤ line.length + 1)) ?_ ?_ _ _ ⟨Txt.split line " ", [], _, _, _, rfl, rfl, hT, hs1, by simpa using hs2, by simp⟩
  · rintro x xs r ⟨ws, acc, a, b, c, h1, rfl, h3, h4, h5, h6⟩
    obtain ⟨w, ws, rfl⟩ : ∃ w ws', ws = w :: ws' := by
      cases ws with
      | nil => simp at h1
      | cons w ws => exact ⟨w, ws, rfl⟩
    obtain ⟨rfl, rfl⟩ := List.cons.inj h1
    obtain ⟨hw1, hw2⟩ := h4 w List.mem_cons_self
    rw [List.length_cons] at h5
    unfold secL at h3
    unfold B_law_sections_0
    array_get_dec
    refine q_callE rfl rfl rfl rfl (w_law_number n wf w (by omega) hw1) rfl ?_
    by_cases hk : numOk w = true
    · rw [if_pos hk] at h3
      rw [show numD w = .int (val w) from if_pos hk]
      array_get_dec
      refine ⟨fun ha => ?_, fun ha => ?_⟩
      · have : acc = [] := List.length_eq_zero_iff.mp (by omega)
        rw [if_pos this] at h3
        rw [← h3]
        rfl
      · have hne : acc ≠ [] := by
          rintro rfl
          exact ha rfl
        rw [if_neg hne] at h3
        have h7 := h6 (acc.getLast hne) (List.getLast_mem hne)
        rw [List.length_cons] at h7
        have := last_enc hne
        rw [List.length_map] at this
        rw [this]
        rw [show encS (acc.getLast hne) = .tup [.str (acc.getLast hne).1, dI (acc.getLast hne).2] from rfl]
        array_get_dec
        have hdl : (List.map encS acc).dropLast.length = acc.length - 1 := by simp
        refine ⟨by decide, by omega, by decide, by omega, ws, addLast acc (val w), some (.str w), some (.int (val w)), some (encS (acc.getLast hne)), rfl, ?_, h3, fun x hx => h4 x (List.mem_cons_of_mem _ hx), ?_, ?_⟩
        · rw [addLast_eq hne, ← enc_app, List.map_dropLast]
          unfold encS dI
          rw [List.map_append]
          rfl
        · rw [addLast_eq hne, List.length_append, List.length_dropLast, List.length_singleton]
          omega
        · intro s hs
          rw [addLast_eq hne] at hs
          rcases List.mem_append.mp hs with hs | hs
          · have := h6 s (List.dropLast_subset _ hs)
            rw [List.length_cons] at this
            omega
          · have : s = ((acc.getLast hne).1, (acc.getLast hne).2 ++ [val w]) := by simpa using hs
            subst this
            rw [List.length_append, List.length_singleton]
            omega
    · rw [if_neg hk] at h3
      rw [show numD w = .non from if_neg hk]
      array_get_dec
      refine ⟨by decide, by decide, by omega, ws, acc ++ [(w, [])], some (.str w), some .non, c, rfl, ?_, h3, fun x hx => h4 x (List.mem_cons_of_mem _ hx), by simp only [List.length_append, List.length_singleton]; omega, ?_⟩
      · rw [← enc_app]; rfl
      · intro s hs
        rcases List.mem_append.mp hs with hs | hs
        · have := h6 s hs
          rw [List.length_cons] at this
          omega
        · have : s = (w, []) := by simpa using hs
          subst this
          simp only [List.length_nil]
          omega
  · rintro r ⟨ws, acc, a, b, c, h1, rfl, h3, h4, h5, h6⟩
    have : ws = [] := by simpa using h1.symm
    subst this
    array_get_dec
    have h3 : some acc = _ := h3
    rw [← h3]
    rfl
end K96
set_option maxRecDepth 100000
set_option maxHeartbeats 4000000
namespace K96
open PySem PySem.Spec PyProof.Rows L2 PI
local macro_rules | `(tactic| array_get_dec) => `(tactic| simp only [sat_ok, sat_bad, sat_exc, sat_fin, retQ_rt0, retQ_nx0, retQ_rt1, retQ_nx1, finE0, finE1, q_k, q_gl, q_s, q_cp, q_mv, q_vf, q_fz, q_tup, q_lst, q_bin, q_neg, q_cmp, q_chn, q_andv, q_orv, q_notv, q_ife, q_cal, q_cav, q_bi, q_bj, q_me, q_rpl, q_pop, q_ix, q_sl, q_isi, q_cmpr, q_es0, q_es1, q_as0, q_as1, q_as2, q_as3, q_o0, q_o1, q_c0, q_c1, q_te, q_tan, q_too, q_tno, q_it, q_itl, q_rng, q_enum, q_ss0, q_ss1, q_set, q_asgt, q_asgf, q_aug, q_dro, q_app, q_rev, q_sti, q_ifs, q_fors, q_whl, q_ret, q_retn, q_brk, q_cnt, q_pas, q_one,
  so_some, so_none, so_guard, so_bind, so_map, sl_z, sl_n, sl_s, tsQ_bl, tsQ_t, tsQ_f, nxQ_nx, nxQ_rt, nxQ_bk, nxQ_ct, lpQ_nx, lpQ_rt, lpQ_bk, lpQ_ct,
  List.set_cons_zero, List.set_cons_succ, List.getElem?_cons_zero, List.getElem?_cons_succ, List.map_cons, List.map_nil, List.length_cons, List.length_nil, List.length_map, List.length_singleton,
  c_non, c_bl, c_int, c_str, c_fn, c_tup', c_lf, c_lr, c_lb, c_nil, c_cons, c_app', c_ints, c_strs, c_dIs, f_non, f_bl, f_int, f_str, f_fn, f_tup, f_lo, f_lf, f_lr, f_nil, f_cons, f_ints, f_strs,
  b_add, b_sub, b_mul, b_fdiv, b_mod, b_pow, b_adds, b_addt, b_addl, b_mulL, b_muls, k_eq, k_ne, k_lt, k_le, k_gt, k_ge, k_in, k_notin, k_is0, k_is1, k_is2, k_is3, k_is4, k_is5, eqD_int, eqD_bl,
  i_lens, i_lent, i_lenl, i_inti, i_intb, i_ints, i_str, i_tupl, i_tupt, i_lisl, i_list, i_abs, i_sum, i_any, i_all, j_max, j_min, n_int, intsOf_map, blsOf_map, t_bl, t_non, t_int, t_tup, t_lst, m_tup, m_lst, m_str, x_tup, x_lst, x_str, at0, at1, at2, at3, at4, at5, at6, atl,
  l_tup, l_lst, l_str, cut_to1, cut_to2, cut_to3, cut_from1, cut_from2, cut_from3, cut_tol, ← List.map_take, ← List.map_drop, g_nm, g_tu, g_nil, g_cons, w_nil, w_cons, e_split, e_join, cl_int, cl_str, cl_bl, cl_non, cl_nil, cl_cons,
  szl_eq, szlt_eq, Bool.and_eq_true, true_and, and_true, decide_eq_true_eq, decide_eq_false_iff_not, Bool.true_eq_false, Bool.false_eq_true, false_implies, true_implies, forall_const, Option.bind_some, Option.map_some, bne_iff_ne, ne_eq, Bool.not_eq_true', Bool.not_eq_false', reduceCtorEq, not_true_eq_false, not_false_eq_true])
theorem secL_ok {P : Str → Prop} : ∀ (ws : List Str) (acc s : List Sec), (∀ w ∈ ws, P w) → (∀ x ∈ acc.map (·.1), P x) → secL acc ws = some s → (∀ x ∈ s.map (·.1), P x) ∧ s.length ≤ acc.length + ws.length
  | [], acc, s, _, ha, h => by
    cases h
    exact ⟨ha, by simp⟩
  | w :: ws, acc, s, hw, ha, h => by
    unfold secL at h
    split at h
    · split at h
      · cases h
      · rename_i hne
        obtain ⟨h1, h2⟩ := secL_ok ws _ s (fun x hx => hw x (List.mem_cons_of_mem _ hx)) (by rw [addLast_names hne]; exact ha) h
        refine ⟨h1, ?_⟩
        have := congrArg List.length (addLast_names (i := val w) hne)
        rw [List.length_map, List.length_map] at this
        rw [List.length_cons]
        omega
    · obtain ⟨h1, h2⟩ := secL_ok ws _ s (fun x hx => hw x (List.mem_cons_of_mem _ hx)) (by
        intro x hx
        rw [List.map_append] at hx
        rcases List.mem_append.mp hx with hx | hx
        · exact ha x hx
        · have : x = w := by simpa using hx
          rw [this]
          exact hw w List.mem_cons_self) h
      refine ⟨h1, ?_⟩
      rw [List.length_append, List.length_singleton] at h2
      rw [List.length_cons]
      omega
def namesOk (f : List Str) (rest : Str) (s : List Sec) : Bool := decide ((s.map (·.1)).take f.length = f) && ((s.map (·.1)).drop f.length).all fun x => decide (x = rest)
def namesOkO (f : List Str) (rest : Str) : Option (List Sec) → Bool
  | none => false
  | some s => namesOk f rest s
theorem namesOk_len {f : List Str} {rest : Str} {s : List Sec} (h : namesOk f rest s = true) : f.length ≤ s.length := by
  unfold namesOk at h
  simp only [Bool.and_eq_true, decide_eq_true_eq] at h
  have := congrArg List.length h.1
  rw [List.length_take, List.length_map] at this
  omega
/-- the first of a tuple -/
def fstD : D → D
  | .tup (y :: _) => y
  | d => d
def eqRest (rest : Str) : D → D
  | .str y => .bl (decide (y = rest))
  | d => d
theorem map_fstD (s : List Sec) : (s.map encS).map fstD = (s.map (·.1)).map D.str := by
  rw [List.map_map, List.map_map]
  rfl
theorem map_eqRest (rest : Str) (l : List Str) : (l.map D.str).map (eqRest rest) = (l.map fun y => decide (y = rest)).map D.bl := by
  rw [List.map_map, List.map_map]
  rfl
theorem w_are_named (n wf : Nat) (o : Option (List Sec)) (f : List Str) (rest : Str) (hf : ∀ x ∈ f, okS x) (hr : okS rest) (ho : ∀ s, o = some s → (∀ x ∈ s.map (·.1), okS x) ∧ s.length ≤ 16777216) :
    callF Tk.G Tk.defs wf (n + 1) "are_named" [encO .frz o, .tup (f.map D.str), .str rest] = .ret (.bl (namesOkO f rest o)) [] := by
  refine SatF.eq ?_
  rw [callF_of find_are_named rfl]
  show SatF (finR [] (evSs Tk.G (callF Tk.G Tk.defs wf n) wf F_are_named [some (encO .frz o), some (.tup (f.map D.str)), some (.str rest), none, none, none])) _ _
  unfold F_are_named
  cases o with
  | none =>
    rw [show encO .frz none = .non from rfl]
    array_get_dec
    rfl
  | some s =>
    obtain ⟨hs1, hs2⟩ := ho s rfl
    rw [show encO .frz (some s) = .lst .frz (s.map encS) from rfl]
    have hce := c_encSs s
    unfold C_are_named_0 C_are_named_1
    array_get_dec
    refine ⟨hce, ⟨hce, fun h => ?_, fun h => ?_⟩⟩
    · have : namesOkO f rest (some s) = false := by
        cases q : namesOkO f rest (some s) with
        | false => rfl
        | true =>
          have := namesOk_len q
          omega
      rw [this]
    · refine ⟨hce, hce, ?_⟩
      refine q_map fstD ?_ ?_ ?_
      · rw [List.length_map]; exact hs2
      · intro x hx
        obtain ⟨sc, hsc, rfl⟩ := List.mem_map.mp hx
        unfold encS
        array_get_dec
        rfl
      · rw [map_fstD]
        generalize hN : s.map (·.1) = N at hs1
        have hsl : N.length ≤ 16777216 := by rw [← hN, List.length_map]; exact hs2
        array_get_dec
        rw [cut_map, cut_map, cut_to, cut_from, eqD_strs (fun x hx => hs1 x (List.mem_of_mem_take hx)) hf]
        array_get_dec
        refine ⟨fun h2 => ?_, fun h2 => ?_⟩
        · refine q_map (eqRest rest) ?_ ?_ ?_
          · rw [List.length_map, List.length_drop]; omega
          · intro x hx
            obtain ⟨y, hy, rfl⟩ := List.mem_map.mp hx
            array_get_dec
            rw [eqD_str (hs1 y (List.mem_of_mem_drop hy)) hr]
            array_get_dec
            rfl
          · rw [map_eqRest]
            array_get_dec
            show D.bl _ = D.bl (decide ((s.map (·.1)).take f.length = f) && ((s.map (·.1)).drop f.length).all fun x => decide (x = rest))
            rw [hN, decide_eq_true h2, Bool.true_and, List.all_map]
            rfl
        · show D.bl _ = D.bl (decide ((s.map (·.1)).take f.length = f) && ((s.map (·.1)).drop f.length).all fun x => decide (x = rest))
          rw [hN, decide_eq_false h2]
          rfl
/-- the data of a stand -/
def standD (ns : List Int) : D := .tup ((ns.take 3).map D.int ++ [dI (ns.drop 3)])
theorem w_stand_of_words (n wf : Nat) (ns : List Int) : callF Tk.G Tk.defs wf (n + 1) "stand_of_words" [dI ns] = .ret (standD ns) [] := by
  refine SatF.eq ?_
  rw [callF_of find_stand_of_words rfl]
  show SatF (finR [] (evSs Tk.G (callF Tk.G Tk.defs wf n) wf F_stand_of_words [some (dI ns)])) _ _
  unfold F_stand_of_words
  array_get_dec
  have : (ns.take 3).length ≤ 3 := by rw [List.length_take]; omega
  exact ⟨by decide, by omega, rfl⟩
end K96
set_option maxRecDepth 100000
set_option maxHeartbeats 4000000
namespace K96
open PySem PySem.Spec PyProof.Rows L2 PI
local macro_rules | `(tactic| array_get_dec) => `(tactic| simp only [sat_ok, sat_bad, sat_exc, sat_fin, retQ_rt0, retQ_nx0, retQ_rt1, retQ_nx1, finE0, finE1, q_k, q_gl, q_s, q_cp, q_mv, q_vf, q_fz, q_tup, q_lst, q_bin, q_neg, q_cmp, q_chn, q_andv, q_orv, q_notv, q_ife, q_cal, q_cav, q_bi, q_bj, q_me, q_rpl, q_pop, q_ix, q_sl, q_isi, q_cmpr, q_es0, q_es1, q_as0, q_as1, q_as2, q_as3, q_o0, q_o1, q_c0, q_c1, q_te, q_tan, q_too, q_tno, q_it, q_itl, q_rng, q_enum, q_ss0, q_ss1, q_set, q_asgt, q_asgf, q_aug, q_dro, q_app, q_rev, q_sti, q_ifs, q_fors, q_whl, q_ret, q_retn, q_brk, q_cnt, q_pas, q_one,
  so_some, so_none, so_guard, so_bind, so_map, sl_z, sl_n, sl_s, tsQ_bl, tsQ_t, tsQ_f, nxQ_nx, nxQ_rt, nxQ_bk, nxQ_ct, lpQ_nx, lpQ_rt, lpQ_bk, lpQ_ct,
  List.set_cons_zero, List.set_cons_succ, List.getElem?_cons_zero, List.getElem?_cons_succ, List.map_cons, List.map_nil, List.length_cons, List.length_nil, List.length_map, List.length_singleton,
  c_non, c_bl, c_int, c_str, c_fn, c_tup', c_lf, c_lr, c_lb, c_nil, c_cons, c_app', c_ints, c_strs, c_dIs, f_non, f_bl, f_int, f_str, f_fn, f_tup, f_lo, f_lf, f_lr, f_nil, f_cons, f_ints, f_strs,
  b_add, b_sub, b_mul, b_fdiv, b_mod, b_pow, b_adds, b_addt, b_addl, b_mulL, b_muls, k_eq, k_ne, k_lt, k_le, k_gt, k_ge, k_in, k_notin, k_is0, k_is1, k_is2, k_is3, k_is4, k_is5, eqD_int, eqD_bl,
  i_lens, i_lent, i_lenl, i_inti, i_intb, i_ints, i_str, i_tupl, i_tupt, i_lisl, i_list, i_abs, i_sum, i_any, i_all, j_max, j_min, n_int, intsOf_map, blsOf_map, t_bl, t_non, t_int, t_tup, t_lst, m_tup, m_lst, m_str, x_tup, x_lst, x_str, at0, at1, at2, at3, at4, at5, at6, atl,
  l_tup, l_lst, l_str, cut_to1, cut_to2, cut_to3, cut_from1, cut_from2, cut_from3, cut_tol, ← List.map_take, ← List.map_drop, List.drop_succ_cons, List.drop_zero, g_nm, g_tu, g_nil, g_cons, w_nil, w_cons, e_split, e_join, cl_int, cl_str, cl_bl, cl_non, cl_nil, cl_cons,
  szl_eq, szlt_eq, Bool.and_eq_true, true_and, and_true, decide_eq_true_eq, decide_eq_false_iff_not, Bool.true_eq_false, Bool.false_eq_true, false_implies, true_implies, forall_const, Option.bind_some, Option.map_some, bne_iff_ne, ne_eq, Bool.not_eq_true', Bool.not_eq_false', reduceCtorEq, not_true_eq_false, not_false_eq_true])
def nmF : Nat → List Str
  | 0 => ["stand"]
  | 1 => ["stand", "rank", "absent"]
  | _ => ["absent", "pick", "overruns"]
def nmR : Nat → Str
  | 0 => "pick"
  | 1 => "answer"
  | _ => ""
def sec2 (s : Sec) : D := dI s.2
/-- the data of a row -/
def rowD : Nat → List Sec → Option D
  | 0, a :: l => if 3 ≤ a.2.length then some (.tup [standD a.2, .tup (l.map sec2)]) else none
  | 1, a :: b :: c :: l => if 3 ≤ a.2.length ∧ b.2.length = 1 then some (.tup [standD a.2, .int (b.2.headD 0), dI c.2, .tup (l.map sec2)]) else none
  | 2, [a, b, c] => some (.tup [dI a.2, dI b.2, dI c.2])
  | _, _ => none
def rowS (k : Nat) (s : List Sec) : Option D := if namesOk (nmF k) (nmR k) s = true then rowD k s else none
/-- the row of a line -/
def rowOf (k : Nat) (line : Str) : Option D := (secL [] (Txt.split line " ")).bind (rowS k)
def optD : Option D → D
  | none => .non
  | some d => d
def nmA : Nat → List Str
  | 0 => ["stand", "pick"]
  | 1 => ["stand", "rank", "absent", "answer"]
  | _ => ["absent", "pick", "overruns"]
theorem names_in {f : List Str} {r : Str} {s : List Sec} (h : namesOk f r s = true) : ∀ x ∈ s.map (·.1), x ∈ f ∨ (x = r ∧ x ∈ (s.map (·.1)).drop f.length) := by
  unfold namesOk at h
  simp only [Bool.and_eq_true, decide_eq_true_eq] at h
  intro x hx
  rw [← List.take_append_drop f.length (s.map (·.1))] at hx
  rcases List.mem_append.mp hx with hx | hx
  · rw [h.1] at hx
    exact .inl hx
  · exact .inr ⟨of_decide_eq_true (List.all_eq_true.mp h.2 x hx), hx⟩
theorem rowS_names {k : Nat} {s : List Sec} {d : D} (hk : k < 3) (h : rowS k s = some d) : ∀ x ∈ s.map (·.1), x ∈ nmA k := by
  unfold rowS at h
  split at h
  · rename_i hn
    intro x hx
    have := names_in hn x hx
    match k, hk with
    | 0, _ => simpa [nmF, nmR, nmA] using this.imp id (·.1)
    | 1, _ => simpa [nmF, nmR, nmA, or_assoc] using this.imp id (·.1)
    | 2, _ =>
      rcases this with h1 | ⟨h1, h2⟩
      · exact h1
      · match s, h with
        | [a, b, c], _ => simp [nmF] at h2
  · cases h
theorem nmA_num : ∀ k, k < 3 → ∀ w ∈ nmA k, numOk w = false := by
  intro k hk
  match k, hk with
  | 0, _ => decide +kernel
  | 1, _ => decide +kernel
  | 2, _ => decide +kernel
theorem row_bridge {k : Nat} (hk : k < 3) (ws : List Str) : (secP (nmA k) [] ws).bind (rowS k) = (secL [] ws).bind (rowS k) := by
  obtain ⟨h1, h2⟩ := sec_eq (nmA_num k hk) ws [] (fun x hx => by cases hx)
  cases e : secP (nmA k) [] ws with
  | some s => rw [h2 s e]
  | none =>
    cases e2 : secL [] ws with
    | none => rfl
    | some s =>
      show none = rowS k s
      cases e3 : rowS k s with
      | none => rfl
      | some d =>
        have := h1 s e2 (rowS_names hk e3)
        rw [e] at this
        cases this
theorem fz_encO (o : Option (List Sec)) : fz (encO .own o) = encO .frz o := by
  cases o with
  | none => rfl
  | some s =>
    show D.lst .frz (fzs (s.map encS)) = _
    rw [f_encSs]; rfl
theorem c_encO (o : Option (List Sec)) : copyable (encO .frz o) = true := by
  cases o with
  | none => rfl
  | some s => exact c_encSs s
theorem secP_ok {nm : List Str} (hn : ∀ w ∈ nm, numOk w = false) {line : Str} (ho : okS line) (hl : line.length + 2 ≤ 16777216) : ∀ s, secP nm [] (Txt.split line " ") = some s → (∀ x ∈ s.map (·.1), okS x) ∧ s.length ≤ 16777216 := by
  intro s hs
  obtain ⟨h1, h2⟩ := sec_eq hn (Txt.split line " ") [] (fun x hx => by cases hx)
  obtain ⟨k1, k2, k3⟩ := sp_facts ho
  obtain ⟨h3, h4⟩ := secL_ok (P := okS) _ _ s (fun w hw => (k1 w hw).1) (fun x hx => by cases hx) (h2 s hs)
  exact ⟨h3, by simp only [List.length_nil] at h4; omega⟩
theorem secL_ok2 {line : Str} (ho : okS line) (hl : line.length + 2 ≤ 16777216) : ∀ s, secL [] (Txt.split line " ") = some s → (∀ x ∈ s.map (·.1), okS x) ∧ s.length ≤ 16777216 := by
  intro s hs
  obtain ⟨k1, k2, k3⟩ := sp_facts ho
  obtain ⟨h3, h4⟩ := secL_ok (P := okS) _ _ s (fun w hw => (k1 w hw).1) (fun x hx => by cases hx) hs
  exact ⟨h3, by simp only [List.length_nil] at h4; omega⟩
/-- the second of a tuple -/
def sndD : D → D
  | .tup (_ :: y :: _) => y
  | d => d
theorem map_sndD (s : List Sec) : (s.map encS).map sndD = s.map sec2 := by
  rw [List.map_map]
  rfl
theorem c_sec2s (s : List Sec) : copyables (s.map sec2) = true := c_map (f := sec2) (fun x => copy_dI x.2) s
theorem ne_of_named {f : List Str} {r : Str} {s : List Sec} (h : namesOk f r s = true) (k : Nat) (hk : k ≤ f.length) : k ≤ s.length := Nat.le_trans hk (namesOk_len h)
theorem f_sec2s (l : List Sec) : fzs (l.map sec2) = l.map sec2 := f_map (f := sec2) (fun x => fz_copy _ (copy_dI x.2)) l
local macro_rules | `(tactic| array_get_dec) => `(tactic| simp only [sat_ok, sat_bad, sat_exc, sat_fin, retQ_rt0, retQ_nx0, retQ_rt1, retQ_nx1, finE0, finE1, q_k, q_gl, q_s, q_cp, q_mv, q_vf, q_fz, q_tup, q_lst, q_bin, q_neg, q_cmp, q_chn, q_andv, q_orv, q_notv, q_ife, q_cal, q_cav, q_bi, q_bj, q_me, q_rpl, q_pop, q_ix, q_sl, q_isi, q_cmpr, q_es0, q_es1, q_as0, q_as1, q_as2, q_as3, q_o0, q_o1, q_c0, q_c1, q_te, q_tan, q_too, q_tno, q_it, q_itl, q_rng, q_enum, q_ss0, q_ss1, q_set, q_asgt, q_asgf, q_aug, q_dro, q_app, q_rev, q_sti, q_ifs, q_fors, q_whl, q_ret, q_retn, q_brk, q_cnt, q_pas, q_one,
  so_some, so_none, so_guard, so_bind, so_map, sl_z, sl_n, sl_s, tsQ_bl, tsQ_t, tsQ_f, nxQ_nx, nxQ_rt, nxQ_bk, nxQ_ct, lpQ_nx, lpQ_rt, lpQ_bk, lpQ_ct,
  List.set_cons_zero, List.set_cons_succ, List.getElem?_cons_zero, List.getElem?_cons_succ, List.map_cons, List.map_nil, List.length_cons, List.length_nil, List.length_map, List.length_singleton,
  c_non, c_bl, c_int, c_str, c_fn, c_tup', c_lf, c_lr, c_lb, c_nil, c_cons, c_app', c_ints, c_strs, c_dIs, f_non, f_bl, f_int, f_str, f_fn, f_tup, f_lo, f_lf, f_lr, f_nil, f_cons, f_ints, f_strs,
  b_add, b_sub, b_mul, b_fdiv, b_mod, b_pow, b_adds, b_addt, b_addl, b_mulL, b_muls, k_eq, k_ne, k_lt, k_le, k_gt, k_ge, k_in, k_notin, k_is0, k_is1, k_is2, k_is3, k_is4, k_is5, eqD_int, eqD_bl,
  i_lens, i_lent, i_lenl, i_inti, i_intb, i_ints, i_str, i_tupl, i_tupt, i_lisl, i_list, i_abs, i_sum, i_any, i_all, j_max, j_min, n_int, intsOf_map, blsOf_map, t_bl, t_non, t_int, t_tup, t_lst, m_tup, m_lst, m_str, x_tup, x_lst, x_str, at0, at1, at2, at3, at4, at5, at6, atl,
  l_tup, l_lst, l_str, cut_to1, cut_to2, cut_to3, cut_from1, cut_from2, cut_from3, cut_tol, ← List.map_take, ← List.map_drop, List.drop_succ_cons, List.drop_zero, g_nm, g_tu, g_nil, g_cons, w_nil, w_cons, e_split, e_join, cl_int, cl_str, cl_bl, cl_non, cl_nil, cl_cons,
  szl_eq, szlt_eq, Bool.and_eq_true, true_and, and_true, decide_eq_true_eq, decide_eq_false_iff_not, Bool.true_eq_false, Bool.false_eq_true, false_implies, true_implies, forall_const, Option.bind_some, Option.map_some, bne_iff_ne, ne_eq, Bool.not_eq_true', Bool.not_eq_false', reduceCtorEq, not_true_eq_false, not_false_eq_true, c_encSs, f_encSs, c_sec2s, f_sec2s, c_encO, fz_encO])
theorem w_holding_row (n wf : Nat) (line : Str) (hl : line.length + 2 ≤ 16777216) (ho : okS line) (hf : 60 < wf) : callF Tk.G Tk.defs wf (n + 4) "holding_row" [.str line] = .ret (optD (rowOf 0 line)) [] := by
  refine SatF.eq ?_
  rw [callF_of find_holding_row rfl]
  show SatF (finR [] (evSs Tk.G (callF Tk.G Tk.defs wf (n + 3)) wf F_holding_row [some (.str line), none, none, none])) _ _
  unfold F_holding_row rowOf
  rw [← row_bridge (by decide)]
  have hok := secP_ok (nmA_num 0 (by decide)) ho hl
  have hc := w_sections_of n wf line (nmA 0) hl ho hf (by decide)
  generalize secP (nmA 0) [] (Txt.split line " ") = o at hok hc
  array_get_dec
  refine ⟨by decide, q_callE rfl rfl rfl rfl hc rfl ?_⟩
  array_get_dec
  refine ⟨by decide, q_callE rfl rfl rfl rfl (w_are_named (n + 2) wf o (nmF 0) (nmR 0) (by decide) (by decide) hok) rfl ?_⟩
  array_get_dec
  cases o with
  | none =>
    show (false = true → _) ∧ (false = false → _)
    array_get_dec
    rfl
  | some s =>
    rw [show encO .frz (some s) = .lst .frz (s.map encS) from rfl]
    show (namesOk (nmF 0) (nmR 0) s = true → _) ∧ (namesOk (nmF 0) (nmR 0) s = false → D.non = optD (rowS 0 s))
    refine ⟨fun h => ?_, fun h => ?_⟩
    · obtain ⟨a, l, rfl⟩ : ∃ a l, s = a :: l := by
        cases s with
        | nil => exact absurd (namesOk_len h) (by decide)
        | cons a l => exact ⟨a, l, rfl⟩
      have hs := (hok _ rfl).2
      have hcc := c_encSs (a :: l)
      rw [show (some (a :: l)).bind (rowS 0) = if 3 ≤ a.2.length then some (.tup [standD a.2, .tup (l.map sec2)]) else none from if_pos h]
      have ea : encS a = .tup [.str a.1, dI a.2] := rfl
      unfold C_holding_row_0
      array_get_dec
      rw [ea]
      array_get_dec
      refine ⟨fun h2 => ?_, fun h2 => ?_⟩
      · rw [if_neg (by omega)]; rfl
      · refine q_callE rfl rfl rfl rfl (w_stand_of_words (n + 2) wf a.2) rfl ?_
        array_get_dec
        refine q_map sndD ?_ ?_ ?_
        · rw [List.length_map]; rw [List.length_cons] at hs; omega
        · intro x hx
          obtain ⟨sc, hsc, rfl⟩ := List.mem_map.mp hx
          unfold encS
          array_get_dec
          rfl
        · rw [map_sndD]
          array_get_dec
          refine ⟨by decide, ?_⟩
          rw [if_pos (by omega)]
          rfl
    · show D.non = optD (rowS 0 s)
      unfold rowS
      rw [if_neg (by rw [h]; exact Bool.false_ne_true)]
      rfl
theorem w_falling_row (n wf : Nat) (line : Str) (hl : line.length + 2 ≤ 16777216) (ho : okS line) (hf : 60 < wf) : callF Tk.G Tk.defs wf (n + 4) "falling_row" [.str line] = .ret (optD (rowOf 1 line)) [] := by
  refine SatF.eq ?_
  rw [callF_of find_falling_row rfl]
  show SatF (finR [] (evSs Tk.G (callF Tk.G Tk.defs wf (n + 3)) wf F_falling_row [some (.str line), none, none, none, none])) _ _
  unfold F_falling_row rowOf
  rw [← row_bridge (by decide)]
  have hok := secP_ok (nmA_num 1 (by decide)) ho hl
  have hc := w_sections_of n wf line (nmA 1) hl ho hf (by decide)
  generalize secP (nmA 1) [] (Txt.split line " ") = o at hok hc
  array_get_dec
  refine ⟨by decide, q_callE rfl rfl rfl rfl hc rfl ?_⟩
  array_get_dec
  refine ⟨by decide, q_callE rfl rfl rfl rfl (w_are_named (n + 2) wf o (nmF 1) (nmR 1) (by decide) (by decide) hok) rfl ?_⟩
  array_get_dec
  cases o with
  | none =>
    show (false = true → _) ∧ (false = false → _)
    array_get_dec
    rfl
  | some s =>
    rw [show encO .frz (some s) = .lst .frz (s.map encS) from rfl]
    show (namesOk (nmF 1) (nmR 1) s = true → _) ∧ (namesOk (nmF 1) (nmR 1) s = false → D.non = optD (rowS 1 s))
    refine ⟨fun h => ?_, fun h => by
      unfold rowS
      rw [if_neg (by rw [h]; exact Bool.false_ne_true)]
      rfl⟩
    · obtain ⟨a, b, c, l, rfl⟩ : ∃ a b c l, s = a :: b :: c :: l := by
        have := namesOk_len h
        match s, this with
        | a :: b :: c :: l, _ => exact ⟨a, b, c, l, rfl⟩
        | [], z => exact absurd z (by decide)
        | [_], z => exact absurd z (by simp [nmF])
        | [_, _], z => exact absurd z (by simp [nmF])
      have hs := (hok _ rfl).2
      rw [show (some (a :: b :: c :: l)).bind (rowS 1) = if 3 ≤ a.2.length ∧ b.2.length = 1 then some (.tup [standD a.2, .int (b.2.headD 0), dI c.2, .tup (l.map sec2)]) else none from if_pos h]
      have ea : encS a = .tup [.str a.1, dI a.2] := rfl
      have eb : encS b = .tup [.str b.1, dI b.2] := rfl
      have ec : encS c = .tup [.str c.1, dI c.2] := rfl
      unfold C_falling_row_0
      array_get_dec
      rw [ea, eb, ec]
      array_get_dec
      refine ⟨fun h2 => ?_, fun h2 => ⟨fun h3 => ?_, fun h3 => ?_⟩⟩
      · rw [if_neg (by omega)]; rfl
      · rw [if_neg (by omega)]; rfl
      · refine q_map sndD ?_ ?_ ?_
        · rw [List.length_map]; simp only [List.length_cons] at hs; omega
        · intro x hx
          obtain ⟨sc, hsc, rfl⟩ := List.mem_map.mp hx
          unfold encS
          array_get_dec
          rfl
        · rw [map_sndD]
          array_get_dec
          refine q_callE rfl rfl rfl rfl (w_stand_of_words (n + 2) wf a.2) rfl ?_
          obtain ⟨v, hv⟩ : ∃ v, b.2 = [v] := by
            have : b.2.length = 1 := by omega
            match b.2, this with
            | [v], _ => exact ⟨v, rfl⟩
          rw [hv]
          array_get_dec
          refine ⟨by decide, ?_⟩
          rw [if_pos (by omega)]
          rfl
theorem w_course_row (n wf : Nat) (line : Str) (hl : line.length + 2 ≤ 16777216) (ho : okS line) (hf : 60 < wf) : callF Tk.G Tk.defs wf (n + 4) "course_row" [.str line] = .ret (optD (rowOf 2 line)) [] := by
  refine SatF.eq ?_
  rw [callF_of find_course_row rfl]
  show SatF (finR [] (evSs Tk.G (callF Tk.G Tk.defs wf (n + 3)) wf F_course_row [some (.str line), none])) _ _
  unfold F_course_row rowOf
  rw [← row_bridge (by decide)]
  have hok := secP_ok (nmA_num 2 (by decide)) ho hl
  have hc := w_sections_of n wf line (nmA 2) hl ho hf (by decide)
  generalize secP (nmA 2) [] (Txt.split line " ") = o at hok hc
  array_get_dec
  refine ⟨by decide, q_callE rfl rfl rfl rfl hc rfl ?_⟩
  array_get_dec
  refine ⟨by decide, q_callE rfl rfl rfl rfl (w_are_named (n + 2) wf o (nmF 2) (nmR 2) (by decide) (by decide) hok) rfl ?_⟩
  array_get_dec
  cases o with
  | none =>
    show (false = true → _) ∧ (false = false → _)
    array_get_dec
    rfl
  | some s =>
    rw [show encO .frz (some s) = .lst .frz (s.map encS) from rfl]
    show (namesOk (nmF 2) (nmR 2) s = true → _) ∧ (namesOk (nmF 2) (nmR 2) s = false → D.non = optD (rowS 2 s))
    refine ⟨fun h => ?_, fun h => ?_⟩
    · obtain ⟨a, b, c, l, rfl⟩ : ∃ a b c l, s = a :: b :: c :: l := by
        have := namesOk_len h
        match s, this with
        | a :: b :: c :: l, _ => exact ⟨a, b, c, l, rfl⟩
        | [], z => exact absurd z (by decide)
        | [_], z => exact absurd z (by simp [nmF])
        | [_, _], z => exact absurd z (by simp [nmF])
      rw [show (some (a :: b :: c :: l)).bind (rowS 2) = rowD 2 (a :: b :: c :: l) from if_pos h]
      have ea : encS a = .tup [.str a.1, dI a.2] := rfl
      have eb : encS b = .tup [.str b.1, dI b.2] := rfl
      have ec : encS c = .tup [.str c.1, dI c.2] := rfl
      array_get_dec
      refine ⟨fun h2 => ?_, fun h2 => ?_⟩
      · cases l with
        | nil => exact absurd rfl h2
        | cons x l => rfl
      · have : l = [] := List.length_eq_zero_iff.mp (by omega)
        subst this
        rw [ea, eb, ec]
        array_get_dec
        exact ⟨by decide, rfl⟩
    · show D.non = optD (rowS 2 s)
      unfold rowS
      rw [if_neg (by rw [h]; exact Bool.false_ne_true)]
      rfl
theorem rep_flat (n : Nat) (x : Str) : (List.replicate n [D.str x]).flatten = (List.replicate n x).map D.str := by
  induction n with
  | zero => rfl
  | succ n ih =>
    rw [List.replicate_succ, List.replicate_succ, List.flatten_cons, ih]
    rfl
/-- the literal lists of the law -/
def litF (k : Nat) : D := .lst .frz ((nmF k).map D.str)
theorem w_law_row_of (n wf : Nat) (k : Nat) (hk : k < 3) (line : Str) (hl : line.length + 2 ≤ 16777216) (ho : okS line) : callF Tk.G Tk.defs wf (n + 3) "_law_row_of" [.int (k : Nat), .str line] = .ret (optD (rowOf k line)) [] := by
  refine SatF.eq ?_
  rw [callF_of find_law_row_of rfl]
  show SatF (finR [] (evSs Tk.G (callF Tk.G Tk.defs wf (n + 2)) wf F_law_row_of [some (.int (k : Nat)), some (.str line), none, none, none, none, none, none, none])) _ _
  unfold F_law_row_of rowOf
  have hok := secL_ok2 ho hl
  have hc := w_law_sections n wf line hl ho
  generalize secL [] (Txt.split line " ") = o at hok hc
  rw [sat_fin]
  refine q_seq (fun r => r = [some (.int (k : Nat)), some (.str line), some (encO .frz o), none, none, none, none, none, none]) ?_ ?_
  · array_get_dec
    refine q_callE rfl rfl rfl rfl hc rfl ?_
    array_get_dec
  rintro r rfl
  cases o with
  | none =>
    rw [show encO .frz none = .non from rfl]
    array_get_dec
    rfl
  | some s =>
    obtain ⟨hs1, hs2⟩ := hok s rfl
    rw [show encO .frz (some s) = .lst .frz (s.map encS) from rfl]
    refine q_seq (fun r => r = [some (.int (k : Nat)), some (.str line), some (.lst .frz (s.map encS)), none, none, none, none, none, none]) (by array_get_dec) ?_
    rintro r rfl
    refine q_seq (fun r => r = [some (.int (k : Nat)), some (.str line), some (.lst .frz (s.map encS)), some (.lst .frz ((s.map (·.1)).map D.str)), none, none, none, none, none]) ?_ ?_
    · unfold C_law_row_of_1
      array_get_dec
      refine q_map fstD ?_ ?_ ?_
      · rw [List.length_map]; exact hs2
      · intro x hx
        obtain ⟨sc, hsc, rfl⟩ := List.mem_map.mp hx
        unfold encS
        array_get_dec
        rfl
      · rw [map_fstD]
        array_get_dec
    rintro r rfl
    refine q_seq (fun r => r = [some (.int (k : Nat)), some (.str line), some (.lst .frz (s.map encS)), some (.lst .frz ((s.map (·.1)).map D.str)), some (.lst .frz (s.map sec2)), none, none, none, none]) ?_ ?_
    · unfold C_law_row_of_0
      array_get_dec
      refine q_map sndD ?_ ?_ ?_
      · rw [List.length_map]; exact hs2
      · intro x hx
        obtain ⟨sc, hsc, rfl⟩ := List.mem_map.mp hx
        unfold encS
        array_get_dec
        rfl
      · rw [map_sndD]
        array_get_dec
    rintro r rfl
    generalize hN : s.map (·.1) = N at hs1
    have hNl : N.length ≤ 16777216 := by rw [← hN, List.length_map]; exact hs2
    refine q_seq (fun r => r = [some (.int (k : Nat)), some (.str line), some (.lst .frz (s.map encS)), some (.lst .frz (N.map D.str)), some (.lst .frz (s.map sec2)), some (litF k), none, none, none]) ?_ ?_
    · array_get_dec
      refine ⟨by decide, by decide, by decide, by decide, ?_⟩
      obtain rfl | rfl | rfl : k = 0 ∨ k = 1 ∨ k = 2 := by omega
      · rfl
      · rfl
      · rfl
    rintro r rfl
    have hfo : ∀ x ∈ nmF k, okS x := by
      obtain rfl | rfl | rfl : k = 0 ∨ k = 1 ∨ k = 2 := by omega
      · decide
      · decide
      · decide
    have hro : okS (nmR k) := by
      obtain rfl | rfl | rfl : k = 0 ∨ k = 1 ∨ k = 2 := by omega
      · decide
      · decide
      · decide
    refine q_seq (fun r => r = [some (.int (k : Nat)), some (.str line), some (.lst .frz (s.map encS)), some (.lst .frz (N.map D.str)), some (.lst .frz (s.map sec2)), some (.lst .frz ((nmF k).map D.str)), some (.lst .frz ((N.drop (nmF k).length).map D.str)), none, none]) ?_ ?_
    · unfold litF
      array_get_dec
      rw [cut_map, cut_from]
      array_get_dec
    rintro r rfl
    refine q_seq (fun r => namesOk (nmF k) (nmR k) s = true ∧ r = [some (.int (k : Nat)), some (.str line), some (.lst .frz (s.map encS)), some (.lst .frz (N.map D.str)), some (.lst .frz (s.map sec2)), some (.lst .frz ((nmF k).map D.str)), some (.lst .frz ((N.drop (nmF k).length).map D.str)), none, none]) ?_ ?_
    · array_get_dec
      rw [cut_map, cut_to, eqD_strs (fun x hx => hs1 x (List.mem_of_mem_take hx)) hfo]
      array_get_dec
      have hx : ∀ P : D → Prop, P (.lst .frz [.str (nmR k)]) → So (atI [D.lst .frz [.str "pick"], .lst .frz [.str "answer"], .lst .frz [.str ""]] (k : Int)) P := by
        intro P hp
        obtain rfl | rfl | rfl : k = 0 ∨ k = 1 ∨ k = 2 := by omega
        · exact hp
        · exact hp
        · exact hp
      have hno : D.non = optD ((some s).bind (rowS k)) ∨ namesOk (nmF k) (nmR k) s = true := by
        cases q : namesOk (nmF k) (nmR k) s with
        | true => exact .inr rfl
        | false =>
          refine .inl ?_
          show D.non = optD (rowS k s)
          unfold rowS
          rw [if_neg (by rw [q]; exact Bool.false_ne_true)]
          rfl
      have hdef : namesOk (nmF k) (nmR k) s = (decide (N.take (nmF k).length = nmF k) && (N.drop (nmF k).length).all fun x => decide (x = nmR k)) := by
        unfold namesOk
        rw [hN]
      refine ⟨fun h => ?_, fun h => ⟨by decide, by decide, by decide, by decide, hx _ ?_⟩⟩
      · rcases hno with z | z
        · exact z
        · rw [hdef, decide_eq_false h] at z
          cases z
      · have hdl : (N.drop (nmF k).length).length ≤ N.length := by rw [List.length_drop]; omega
        array_get_dec
        rw [Int.toNat_natCast, rep_flat, eqD_strs (fun x hx => hs1 x (List.mem_of_mem_drop hx)) (fun x hx => by rw [List.eq_of_mem_replicate hx]; exact hro)]
        array_get_dec
        refine ⟨⟨by omega, by omega⟩, fun h2 => ?_, fun h2 => ?_⟩
        · rcases hno with z | z
          · exact z
          · rw [hdef, decide_eq_true h, Bool.true_and] at z
            refine absurd (List.eq_replicate_iff.mpr ⟨rfl, fun x hx => of_decide_eq_true (List.all_eq_true.mp z x hx)⟩) h2
        · rw [hdef, decide_eq_true h, Bool.true_and]
          exact List.all_eq_true.mpr fun x hx => decide_eq_true ((List.eq_replicate_iff.mp h2).2 x hx)
    rintro r ⟨hnm, rfl⟩
    have hsl := namesOk_len hnm
    rw [show (some s).bind (rowS k) = rowD k s from if_pos hnm]
    have hlN : N.length = s.length := by rw [← hN, List.length_map]
    have hnl : ∀ l : List Sec, copyables (l.map sec2) = true := c_sec2s
    obtain rfl | rfl | rfl : k = 0 ∨ k = 1 ∨ k = 2 := by omega
    · obtain ⟨a, l, rfl⟩ : ∃ a l, s = a :: l := by
        cases s with
        | nil => exact absurd hsl (by decide)
        | cons a l => exact ⟨a, l, rfl⟩
      rw [show rowD 0 (a :: l) = if 3 ≤ a.2.length then some (.tup [standD a.2, .tup (l.map sec2)]) else none from rfl]
      have ea : sec2 a = dI a.2 := rfl
      array_get_dec
      rw [ea]
      array_get_dec
      have : (a.2.take 3).length ≤ 3 := by rw [List.length_take]; omega
      refine ⟨fun h => absurd h (by decide), fun _ => ⟨fun h => ?_, fun h => ⟨fun h => absurd h (by decide), fun _ => ?_⟩⟩⟩
      · rw [if_neg (by omega)]; rfl
      · refine ⟨by decide, by omega, fun _ => ⟨by decide, ?_⟩, fun h => absurd rfl h⟩
        rw [if_pos (by omega)]
        rfl
    · obtain ⟨a, b, c, l, rfl⟩ : ∃ a b c l, s = a :: b :: c :: l := by
        match s, hsl with
        | a :: b :: c :: l, _ => exact ⟨a, b, c, l, rfl⟩
        | [], z => exact absurd z (by decide)
        | [_], z => exact absurd z (by simp [nmF])
        | [_, _], z => exact absurd z (by simp [nmF])
      rw [show rowD 1 (a :: b :: c :: l) = if 3 ≤ a.2.length ∧ b.2.length = 1 then some (.tup [standD a.2, .int (b.2.headD 0), dI c.2, .tup (l.map sec2)]) else none from rfl]
      have ea : sec2 a = dI a.2 := rfl
      have eb : sec2 b = dI b.2 := rfl
      have ec : sec2 c = dI c.2 := rfl
      array_get_dec
      rw [ea, eb, ec]
      array_get_dec
      have : (a.2.take 3).length ≤ 3 := by rw [List.length_take]; omega
      refine ⟨fun h => absurd h (by decide), fun _ => ⟨fun h => ?_, fun h => ⟨fun _ => ⟨fun h2 => ?_, fun h2 => ?_⟩, fun h => absurd rfl h⟩⟩⟩
      · rw [if_neg (by omega)]; rfl
      · rw [if_neg (by omega)]; rfl
      · refine ⟨by decide, by omega, fun h => absurd h (by decide), fun _ => ?_⟩
        obtain ⟨v, hv⟩ : ∃ v, b.2 = [v] := by
          have : b.2.length = 1 := by omega
          match b.2, this with
          | [v], _ => exact ⟨v, rfl⟩
        rw [hv]
        array_get_dec
        refine ⟨by decide, ?_⟩
        rw [if_pos (by omega)]
        rfl
    · obtain ⟨a, b, c, l, rfl⟩ : ∃ a b c l, s = a :: b :: c :: l := by
        match s, hsl with
        | a :: b :: c :: l, _ => exact ⟨a, b, c, l, rfl⟩
        | [], z => exact absurd z (by decide)
        | [_], z => exact absurd z (by simp [nmF])
        | [_, _], z => exact absurd z (by simp [nmF])
      have hd3 : (N.drop (nmF 2).length).length = l.length := by
        rw [List.length_drop, hlN]
        simp [nmF]
      array_get_dec
      refine ⟨fun _ => ⟨fun h => ?_, fun h => ?_⟩, fun h => absurd rfl h⟩
      · cases l with
        | nil => rw [hd3] at h; exact absurd h (by decide)
        | cons x l => rfl
      · have : l = [] := List.length_eq_zero_iff.mp (by omega)
        subst this
        have e := fun x : Sec => copy_dI x.2
        exact ⟨⟨e a, e b, e c⟩, ⟨e a, e b, e c⟩, rfl⟩
end K96
set_option maxRecDepth 100000
set_option maxHeartbeats 4000000
namespace K96
open PySem PySem.Spec PyProof.Rows L2 PI
local macro_rules | `(tactic| array_get_dec) => `(tactic| simp only [sat_ok, sat_bad, sat_exc, sat_fin, retQ_rt0, retQ_nx0, retQ_rt1, retQ_nx1, finE0, finE1, q_k, q_gl, q_s, q_cp, q_mv, q_vf, q_fz, q_tup, q_lst, q_bin, q_neg, q_cmp, q_chn, q_andv, q_orv, q_notv, q_ife, q_cal, q_cav, q_bi, q_bj, q_me, q_rpl, q_pop, q_ix, q_sl, q_isi, q_cmpr, q_es0, q_es1, q_as0, q_as1, q_as2, q_as3, q_o0, q_o1, q_c0, q_c1, q_te, q_tan, q_too, q_tno, q_it, q_itl, q_rng, q_enum, q_ss0, q_ss1, q_set, q_asgt, q_asgf, q_aug, q_dro, q_app, q_rev, q_sti, q_ifs, q_fors, q_whl, q_ret, q_retn, q_brk, q_cnt, q_pas, q_one, q_rai, q_tra, q_xf, q_isx,
  so_some, so_none, so_guard, so_bind, so_map, sl_z, sl_n, sl_s, tsQ_bl, tsQ_t, tsQ_f, nxQ_nx, nxQ_rt, nxQ_bk, nxQ_ct, lpQ_nx, lpQ_rt, lpQ_bk, lpQ_ct,
  List.set_cons_zero, List.set_cons_succ, List.getElem?_cons_zero, List.getElem?_cons_succ, List.map_cons, List.map_nil, List.length_cons, List.length_nil, List.length_map, List.length_singleton,
  c_non, c_bl, c_int, c_str, c_fn, c_tup', c_lf, c_lr, c_lb, c_nil, c_cons, c_app', c_ints, c_strs, c_dIs, f_non, f_bl, f_int, f_str, f_fn, f_tup, f_lo, f_lf, f_lr, f_nil, f_cons, f_ints, f_strs,
  b_add, b_sub, b_mul, b_fdiv, b_mod, b_pow, b_adds, b_addt, b_addl, b_mulL, b_muls, k_eq, k_ne, k_lt, k_le, k_gt, k_ge, k_in, k_notin, k_is0, k_is1, k_is2, k_is3, k_is4, k_is5, eqD_int, eqD_bl,
  i_lens, i_lent, i_lenl, i_inti, i_intb, i_ints, i_str, i_tupl, i_tupt, i_lisl, i_list, i_abs, i_sum, i_any, i_all, j_max, j_min, n_int, intsOf_map, blsOf_map, t_bl, t_non, t_int, t_tup, t_lst, m_tup, m_lst, m_str, x_tup, x_lst, x_str, at0, at1, at2, at3, at4, at5, at6, atl,
  l_tup, l_lst, l_str, cut_to1, cut_to2, cut_to3, cut_from1, cut_from2, cut_from3, cut_tol, ← List.map_take, ← List.map_drop, List.drop_succ_cons, List.drop_zero, g_nm, g_tu, g_nil, g_cons, w_nil, w_cons, e_split, e_join, cl_int, cl_str, cl_bl, cl_non, cl_nil, cl_cons,
  szl_eq, szlt_eq, Bool.and_eq_true, true_and, and_true, decide_eq_true_eq, decide_eq_false_iff_not, Bool.true_eq_false, Bool.false_eq_true, false_implies, true_implies, forall_const, Option.bind_some, Option.map_some, bne_iff_ne, ne_eq, Bool.not_eq_true', Bool.not_eq_false', reduceCtorEq, not_true_eq_false, not_false_eq_true])
theorem rowD_tup {k : Nat} {s : List Sec} {d : D} (h : rowD k s = some d) : ∃ ds, d = .tup ds ∧ copyables ds = true := by
  have hi := copy_dI
  unfold rowD at h
  split at h
  · split at h
    · rename_i a l _
      cases h
      refine ⟨_, rfl, ?_⟩
      show (copyable (standD a.2) && (copyables (l.map sec2) && true)) = true
      rw [c_sec2s, show copyable (standD a.2) = true from by
        show copyables ((a.2.take 3).map D.int ++ [dI (a.2.drop 3)]) = true
        rw [PI.c_app', copy_ints]
        show (copyable (dI _) && true) = true
        rw [hi]; rfl]
      rfl
    · cases h
  · split at h
    · rename_i a b c l _
      cases h
      refine ⟨_, rfl, ?_⟩
      show (copyable (standD a.2) && (true && (copyable (dI c.2) && (copyables (l.map sec2) && true)))) = true
      rw [c_sec2s, hi, show copyable (standD a.2) = true from by
        show copyables ((a.2.take 3).map D.int ++ [dI (a.2.drop 3)]) = true
        rw [PI.c_app', copy_ints]
        show (copyable (dI _) && true) = true
        rw [hi]; rfl]
      rfl
    · cases h
  · rename_i a b c
    cases h
    refine ⟨_, rfl, ?_⟩
    show (copyable (dI a.2) && (copyable (dI b.2) && (copyable (dI c.2) && true))) = true
    rw [hi, hi, hi]; rfl
  · cases h
theorem rowOf_tup {k : Nat} {l : Str} {d : D} (h : rowOf k l = some d) : ∃ ds, d = .tup ds ∧ copyables ds = true := by
  unfold rowOf at h
  cases e : secL [] (Txt.split l " ") with
  | none => rw [e] at h; cases h
  | some s =>
    rw [e] at h
    have h : rowS k s = some d := h
    unfold rowS at h
    split at h
    · exact rowD_tup h
    · cases h
theorem rowOf_is (k : Nat) (l : Str) : cmpD .isn (optD (rowOf k l)) .non = some (decide (rowOf k l = none)) ∧ copyable (optD (rowOf k l)) = true ∧ fz (optD (rowOf k l)) = optD (rowOf k l) := by
  cases e : rowOf k l with
  | none => exact ⟨rfl, rfl, rfl⟩
  | some d =>
    obtain ⟨ds, rfl, h⟩ := rowOf_tup e
    exact ⟨rfl, h, fz_copy (.tup ds) h⟩
/-! ### lines -/
def lnD (x : Str) : D := .tup [.str x, .bl true]
def linesD (ps : List Str) (last : Str) : List D := ps.map lnD ++ (if last = "" then [] else [.tup [.str last, .bl false]])
theorem c_lnD (x : Str) : copyable (lnD x) = true := rfl
theorem c_linesD (ps : List Str) (last : Str) : copyables (linesD ps last) = true := by
  unfold linesD
  rw [PI.c_app', c_map c_lnD]
  split <;> rfl
theorem w_lines_of (n wf : Nat) (t : Str) (ps : List Str) (last : Str) (hp : Txt.split t "\n" = ps ++ [last]) (ht : t.length + 2 ≤ 16777216) (ho : okS t) : callF Tk.G Tk.defs wf (n + 1) "lines_of" [.str t] = .ret (.lst .own (linesD ps last)) [] := by
  refine SatF.eq ?_
  rw [callF_of find_lines_of rfl]
  show SatF (finR [] (evSs Tk.G (callF Tk.G Tk.defs wf n) wf F_lines_of [some (.str t), none, none, none])) _ _
  obtain ⟨h1, h2, h3⟩ := nl_facts ho
  rw [hp] at h1 h2 h3
  rw [List.length_append, List.length_singleton] at h2
  unfold F_lines_of C_lines_of_0
  array_get_dec
  refine ⟨⟨by decide, ht⟩, ?_⟩
  rw [hp, ← List.map_dropLast, List.dropLast_concat]
  array_get_dec
  refine q_map (fun d => .tup [d, .bl true]) ?_ ?_ ?_
  · rw [List.length_map]; omega
  · intro x hx
    obtain ⟨y, hy, rfl⟩ := List.mem_map.mp hx
    array_get_dec
    decide
  · rw [List.map_map, show ((fun d => D.tup [d, .bl true]) ∘ D.str) = lnD from rfl]
    array_get_dec
    rw [List.getLast?_map, List.getLast?_concat]
    array_get_dec
    rw [eqD_str (h1 last (by simp)).1 (by decide)]
    array_get_dec
    unfold linesD
    refine ⟨fun h => ?_, fun h => ?_⟩
    · rw [if_neg h]
      exact ⟨by decide, by omega, rfl⟩
    · rw [if_pos h, List.append_nil]
/-! ### what a text reads as -/
def rdL (k : Nat) : List Str → Nat → Nat ⊕ List D
  | [], _ => .inr []
  | l :: ls, i => match rowOf k l with
    | none => .inl (i + 1)
    | some d => match rdL k ls (i + 1) with
      | .inl j => .inl j
      | .inr ds => .inr (d :: ds)
def rdFin (last : Str) (n : Nat) : Nat ⊕ List D → Nat ⊕ List D
  | .inl j => .inl j
  | .inr ds => if last = "" then .inr ds else .inl n
def rd (k : Nat) (t : Str) : Nat ⊕ List D := rdFin ((Txt.split t "\n").getLastD "") (Txt.split t "\n").length (rdL k (Txt.split t "\n").dropLast 0)
theorem rd_of {k : Nat} {t : Str} {ps : List Str} {last : Str} (hp : Txt.split t "\n" = ps ++ [last]) : rd k t = rdFin last (ps.length + 1) (rdL k ps 0) := by
  unfold rd
  rw [hp, List.dropLast_concat, List.length_append, List.length_singleton, List.getLastD_eq_getLast?, List.getLast?_concat]
  rfl
/-- with what has been read -/
def rdA (acc : List D) : Nat ⊕ List D → Nat ⊕ List D
  | .inl j => .inl j
  | .inr ds => .inr (acc ++ ds)
theorem rdL_copy (k : Nat) : ∀ (ls : List Str) (i : Nat) (ds : List D), rdL k ls i = .inr ds → copyables ds = true ∧ ds.length = ls.length
  | [], _, _, h => by cases h; exact ⟨rfl, rfl⟩
  | l :: ls, i, ds, h => by
    unfold rdL at h
    split at h
    · cases h
    · rename_i d e
      split at h
      · cases h
      · rename_i es e2
        cases h
        obtain ⟨xs, rfl, hc⟩ := rowOf_tup e
        obtain ⟨h1, h2⟩ := rdL_copy k ls (i + 1) es e2
        refine ⟨?_, by rw [List.length_cons, List.length_cons, h2]⟩
        show (copyables xs && copyables es) = true
        rw [hc, h1]; rfl
/-- how a reader ends -/
def posL (j : Nat) : List (Str × Int) := [("column", 1), ("line", (j : Int))]
def rdF : Nat ⊕ List D → FR
  | .inl j => .exc "BadText" (posL j) []
  | .inr ds => .ret (.tup ds) []
def rdOf (x : FR) (k : Nat) (t : Str) : Prop := x = rdF (rd k t)
theorem satF_rd {x : FR} {v : Nat ⊕ List D} (h : SatF x (fun d fin => fin = [] ∧ ∃ ds, v = .inr ds ∧ d = .tup ds) (fun c fs fin => fin = [] ∧ c = "BadText" ∧ ∃ j : Nat, v = .inl j ∧ fs = posL j)) : x = rdF v := by
  cases x with
  | ret d fin =>
    obtain ⟨rfl, ds, rfl, rfl⟩ := h
    rfl
  | exc c fs fin =>
    obtain ⟨rfl, rfl, j, rfl, rfl⟩ := h
    rfl
  | bad => exact h.elim
def encLn (x : Str × Bool) : D := .tup [.str x.1, .bl x.2]
def itemsL (ps : List Str) (last : Str) : List (Str × Bool) := ps.map (fun p => (p, true)) ++ (if last = "" then [] else [(last, false)])
theorem linesD_eq (ps : List Str) (last : Str) : linesD ps last = (itemsL ps last).map encLn := by
  unfold linesD itemsL
  rw [List.map_append, List.map_map]
  split <;> rfl
def rdE (k : Nat) : List (Str × Bool) → Nat → Nat ⊕ List D
  | [], _ => .inr []
  | (l, b) :: ls, i => match rowOf k l with
    | none => .inl (i + 1)
    | some d => if b = true then rdA [d] (rdE k ls (i + 1)) else .inl (i + 1)
theorem rdE_items (k : Nat) (last : Str) : ∀ (ps : List Str) (i : Nat), rdE k (itemsL ps last) i = rdFin last (i + ps.length + 1) (rdL k ps i)
  | [], i => by
    show rdE k ([] ++ (if last = "" then [] else [(last, false)])) i = (if last = "" then _ else _)
    rw [List.nil_append]
    split
    · rfl
    · show (match rowOf k last with | none => _ | some d => _) = _
      cases rowOf k last <;> rfl
  | p :: ps, i => by
    have e : rdE k (itemsL (p :: ps) last) i = match rowOf k p with
      | none => .inl (i + 1)
      | some d => rdA [d] (rdE k (itemsL ps last) (i + 1)) := rfl
    have e2 : rdL k (p :: ps) i = match rowOf k p with
      | none => .inl (i + 1)
      | some d => match rdL k ps (i + 1) with
        | .inl j => .inl j
        | .inr ds => .inr (d :: ds) := rfl
    rw [e, e2]
    cases rowOf k p with
    | none => rfl
    | some d =>
      show rdA [d] (rdE k (itemsL ps last) (i + 1)) = rdFin last _ (match rdL k ps (i + 1) with | .inl j => .inl j | .inr ds => .inr (d :: ds))
      rw [rdE_items k last ps (i + 1)]
      cases rdL k ps (i + 1) with
      | inl j => rfl
      | inr ds =>
        show rdA [d] (if last = "" then _ else _) = if last = "" then _ else _
        split
        · rfl
        · show Sum.inl _ = Sum.inl _
          rw [List.length_cons]
          congr 1
          omega
theorem rdA_app (a b : List D) (v : Nat ⊕ List D) : rdA a (rdA b v) = rdA (a ++ b) v := by
  cases v with
  | inl j => rfl
  | inr ds =>
    show Sum.inr (a ++ (b ++ ds)) = Sum.inr (a ++ b ++ ds)
    rw [List.append_assoc]
theorem c_items (its : List (Str × Bool)) : copyables (its.map encLn) = true := c_map (f := encLn) (fun _ => rfl) its
theorem w_rows_of_text (n wf k : Nat) (f : Str) (t : Str) (ht : t.length + 2 ≤ 16777216) (ho : okS t) (hfn : (Tk.G.isFn f && Tk.G.isCold f) = true) (hio : Tk.G.io f = [])
    (hf : ∀ l : Str, l.length + 2 ≤ 16777216 → okS l → callF Tk.G Tk.defs wf (n + 4) f [.str l] = .ret (optD (rowOf k l)) []) : callF Tk.G Tk.defs wf (n + 5) "rows_of_text" [.str t, .fn f] = rdF (rd k t) := by
  refine satF_rd ?_
  rw [callF_of find_rows_of_text rfl]
  show SatF (finR [] (evSs Tk.G (callF Tk.G Tk.defs wf (n + 4)) wf F_rows_of_text [some (.str t), some (.fn f), none, none, none, none, none])) _ _
  obtain ⟨h1, h2, h3⟩ := nl_facts ho
  obtain ⟨ps, last, hp⟩ : ∃ ps last, Txt.split t "\n" = ps ++ [last] := ⟨_, _, (List.dropLast_concat_getLast h3).symm⟩
  rw [rd_of hp]
  rw [hp] at h1 h2
  rw [List.length_append, List.length_singleton] at h2
  unfold F_rows_of_text
  array_get_dec
  refine ⟨by decide, q_callE rfl rfl rfl rfl (w_lines_of (n + 3) wf t ps last hp ht ho) rfl ?_⟩
  rw [f_lo, fzs_copy _ (c_linesD ps last)]
  array_get_dec
  refine ⟨c_linesD ps last, ?_⟩
  rw [enum_eq, linesD_eq]
  have hV : rdE k (itemsL ps last) 0 = rdFin last (ps.length + 1) (rdL k ps 0) := by
    rw [rdE_items, Nat.zero_add]
  rw [← hV]
  generalize hV2 : rdE k (itemsL ps last) 0 = V
  have hok : ∀ x ∈ itemsL ps last, okS x.1 ∧ x.1.length ≤ t.length := by
    intro x hx
    rcases List.mem_append.mp hx with hx | hx
    · obtain ⟨p, hp2, rfl⟩ := List.mem_map.mp hx
      exact h1 p (List.mem_append_left _ hp2)
    · split at hx
      · cases hx
      · have : x = (last, false) := by simpa using hx
        subst this
        exact h1 last (by simp)
  have hlen : (itemsL ps last).length ≤ ps.length + 1 := by
    unfold itemsL
    rw [List.length_append, List.length_map]
    split <;> simp
  refine q_forN (fun xs r => ∃ (its : List (Str × Bool)) (i : Nat) (acc : List D) (a b c d : Option D), xs = enumD i (its.map encLn) ∧ r = [some (.str t), some (.fn f), some (.lst .own acc), a, b, c, d] ∧
    rdA acc (rdE k its i) = V ∧ copyables acc = true ∧ (∀ x ∈ its, okS x.1 ∧ x.1.length ≤ t.length) ∧ acc.length + its.length ≤ t.length + 1) ?_ ?_ _ _ ⟨itemsL ps last, 0, [], _, _, _, _, rfl, rfl, by rw [hV2]; cases V <;> rfl, rfl, hok, by rw [List.length_nil]; omega⟩
  · rintro x xs r ⟨its, i, acc, a, b, c, d, e1, rfl, e3, e4, e5, e6⟩
    obtain ⟨⟨l, bb⟩, its, rfl⟩ : ∃ w ws', its = w :: ws' := by
      cases its with
      | nil => cases e1
      | cons w ws => exact ⟨w, ws, rfl⟩
    obtain ⟨rfl, rfl⟩ := List.cons.inj e1
    obtain ⟨k1, k2⟩ := e5 _ List.mem_cons_self
    rw [List.length_cons] at e6
    obtain ⟨g1, g2, g3⟩ := rowOf_is k l
    unfold B_rows_of_text_0 encLn
    array_get_dec
    refine ⟨Bool.and_eq_true_iff.mp hfn, ?_⟩
    have k2 : l.length ≤ t.length := k2
    refine q_callE (by rw [hio]; rfl) rfl rfl rfl (hf l (by omega) k1) rfl ?_
    rw [g3]
    array_get_dec
    rw [g1]
    array_get_dec
    have hx : rdE k ((l, bb) :: its) i = match rowOf k l with
      | none => .inl (i + 1)
      | some d => if bb = true then rdA [d] (rdE k its (i + 1)) else .inl (i + 1) := rfl
    rw [hx] at e3
    refine ⟨g2, fun h => ?_, fun h => ⟨fun h2 => ?_, fun h2 => ?_⟩⟩
    · rw [h] at e3
      exact ⟨i + 1, e3.symm, rfl⟩
    · obtain ⟨d, hd⟩ := Option.ne_none_iff_exists'.mp h
      rw [hd, h2] at e3
      have e3 : rdA acc (rdA [d] (rdE k its (i + 1))) = V := e3
      rw [rdA_app] at e3
      rw [hd] at g2 ⊢
      refine ⟨g2, by omega, its, i + 1, acc ++ [d], _, _, _, _, rfl, rfl, e3, ?_, fun x hx => e5 x (List.mem_cons_of_mem _ hx), ?_⟩
      · rw [PI.c_app', e4]
        show (copyable d && true) = true
        rw [show copyable d = true from g2]
        rfl
      · rw [List.length_append, List.length_singleton]
        omega
    · obtain ⟨d, hd⟩ := Option.ne_none_iff_exists'.mp h
      rw [hd, h2] at e3
      exact ⟨i + 1, e3.symm, rfl⟩
  · rintro r ⟨its, i, acc, a, b, c, d, e1, rfl, e3, e4, e5, e6⟩
    have : its = [] := by
      cases its with
      | nil => rfl
      | cons x l => cases e1
    subst this
    array_get_dec
    refine ⟨e4, acc, ?_, rfl⟩
    rw [← e3]
    show Sum.inr (acc ++ []) = _
    rw [List.append_nil]
end K96
set_option maxRecDepth 100000
set_option maxHeartbeats 4000000
namespace K96
open PySem PySem.Spec PyProof.Rows L2 PI
local macro_rules | `(tactic| array_get_dec) => `(tactic| try simp only [sat_ok, sat_bad, sat_exc, sat_fin, retQ_rt0, retQ_nx0, retQ_rt1, retQ_nx1, finE0, finE1, q_k, q_gl, q_s, q_cp, q_mv, q_vf, q_fz, q_tup, q_lst, q_bin, q_neg, q_cmp, q_chn, q_andv, q_orv, q_notv, q_ife, q_cal, q_cav, q_bi, q_bj, q_me, q_rpl, q_pop, q_ix, q_sl, q_isi, q_cmpr, q_es0, q_es1, q_as0, q_as1, q_as2, q_as3, q_o0, q_o1, q_c0, q_c1, q_te, q_tan, q_too, q_tno, q_it, q_itl, q_rng, q_enum, q_ss0, q_ss1, q_set, q_asgt, q_asgf, q_aug, q_dro, q_app, q_rev, q_sti, q_ifs, q_fors, q_whl, q_ret, q_retn, q_brk, q_cnt, q_pas, q_one, q_rai, q_tra, q_xf, q_isx, ty_bn, ty_bb, ty_bi, ty_bs, ty_bt, ty_bl, ty_in, ty_ib, ty_ii, ty_is, ty_it, ty_il, ty_sn, ty_sb, ty_si, ty_ss, ty_st, ty_sl, ty_tn, ty_tb, ty_ti, ty_ts, ty_tt, ty_tl,
  so_some, so_none, so_guard, so_bind, so_map, sl_z, sl_n, sl_s, tsQ_bl, tsQ_t, tsQ_f, nxQ_nx, nxQ_rt, nxQ_bk, nxQ_ct, lpQ_nx, lpQ_rt, lpQ_bk, lpQ_ct,
  List.set_cons_zero, List.set_cons_succ, List.getElem?_cons_zero, List.getElem?_cons_succ, List.map_cons, List.map_nil, List.length_cons, List.length_nil, List.length_map, List.length_singleton,
  c_non, c_bl, c_int, c_str, c_fn, c_tup', c_lf, c_lr, c_lb, c_nil, c_cons, c_app', c_ints, c_strs, c_dIs, f_non, f_bl, f_int, f_str, f_fn, f_tup, f_lo, f_lf, f_lr, f_nil, f_cons, f_ints, f_strs,
  b_add, b_sub, b_mul, b_fdiv, b_mod, b_pow, b_adds, b_addt, b_addl, b_mulL, b_muls, k_eq, k_ne, k_lt, k_le, k_gt, k_ge, k_in, k_notin, k_is0, k_is1, k_is2, k_is3, k_is4, k_is5, eqD_int, eqD_bl,
  i_lens, i_lent, i_lenl, i_inti, i_intb, i_ints, i_str, i_tupl, i_tupt, i_lisl, i_list, i_abs, i_sum, i_any, i_all, j_max, j_min, n_int, intsOf_map, blsOf_map, t_bl, t_non, t_int, t_tup, t_lst, m_tup, m_lst, m_str, x_tup, x_lst, x_str, at0, at1, at2, at3, at4, at5, at6, atl,
  l_tup, l_lst, l_str, cut_to1, cut_to2, cut_to3, cut_from1, cut_from2, cut_from3, cut_tol, ← List.map_take, ← List.map_drop, List.drop_succ_cons, List.drop_zero, g_nm, g_tu, g_nil, g_cons, w_nil, w_cons, e_split, e_join, cl_int, cl_str, cl_bl, cl_non, cl_nil, cl_cons,
  szl_eq, szlt_eq, Bool.and_eq_true, true_and, and_true, decide_eq_true_eq, decide_eq_false_iff_not, Bool.true_eq_false, Bool.false_eq_true, false_implies, true_implies, forall_const, Option.bind_some, Option.map_some, bne_iff_ne, ne_eq, Bool.not_eq_true', Bool.not_eq_false', reduceCtorEq, not_true_eq_false, not_false_eq_true])
theorem q_callRd {G : Gm} {cf : Str → List D → FR} {f : Str} {p : List Ar} {r r1 : Rho} {ds : List D} {Q : D → Rho → Prop} {E : Ex} {v : Nat ⊕ List D} (hio : ioAt p 0 = G.io f) (ho : outIo p r = some r1) (ha : argD r r1 p = some ds) (hb : p.any isBor = false)
    (hp : putIo p [] r1 = some r1) (h : cf f ds = rdF v) (h1 : ∀ ds, v = .inr ds → Q (.tup ds) r1) (h2 : ∀ j, v = .inl j → E "BadText" (posL j) r1) : Sat (callR G cf f p r) Q E := by
  refine q_call hio ho ha ?_
  rw [h]
  cases v with
  | inl j =>
    refine ⟨fun z => absurd z (by rw [hb]; exact Bool.false_ne_true), ?_⟩
    rw [hp]
    exact h2 j rfl
  | inr ds =>
    refine ⟨fun z => absurd z (by rw [hb]; exact Bool.false_ne_true), ?_⟩
    rw [hp]
    exact h1 ds rfl
theorem gl_h : Tk.G.glob "holding_row" = some (.fn "holding_row") := by kernel_rfl
theorem gl_f : Tk.G.glob "falling_row" = some (.fn "falling_row") := by kernel_rfl
theorem gl_c : Tk.G.glob "course_row" = some (.fn "course_row") := by kernel_rfl
theorem w_read_holding (n wf : Nat) (t : Str) (ht : t.length + 2 ≤ 16777216) (ho : okS t) (hw : 60 < wf) : callF Tk.G Tk.defs wf (n + 6) "read_holding" [.str t] = rdF (rd 0 t) := by
  refine satF_rd ?_
  rw [callF_of find_read_holding rfl]
  show SatF (finR [] (evSs Tk.G (callF Tk.G Tk.defs wf (n + 5)) wf F_read_holding [some (.str t)])) _ _
  unfold F_read_holding
  array_get_dec
  rw [gl_h]
  array_get_dec
  refine q_callRd rfl rfl rfl rfl rfl (w_rows_of_text n wf 0 "holding_row" t ht ho (by kernel_rfl) (by kernel_rfl) fun l hl hol => w_holding_row n wf l hl hol hw) (fun ds h => ?_) (fun j h => ?_)
  · array_get_dec
    exact ⟨ds, h, rfl⟩
  · array_get_dec
    exact ⟨j, h, rfl⟩
theorem w_read_falling (n wf : Nat) (t : Str) (ht : t.length + 2 ≤ 16777216) (ho : okS t) (hw : 60 < wf) : callF Tk.G Tk.defs wf (n + 6) "read_falling" [.str t] = rdF (rd 1 t) := by
  refine satF_rd ?_
  rw [callF_of find_read_falling rfl]
  show SatF (finR [] (evSs Tk.G (callF Tk.G Tk.defs wf (n + 5)) wf F_read_falling [some (.str t)])) _ _
  unfold F_read_falling
  array_get_dec
  rw [gl_f]
  array_get_dec
  refine q_callRd rfl rfl rfl rfl rfl (w_rows_of_text n wf 1 "falling_row" t ht ho (by kernel_rfl) (by kernel_rfl) fun l hl hol => w_falling_row n wf l hl hol hw) (fun ds h => ?_) (fun j h => ?_)
  · array_get_dec
    exact ⟨ds, h, rfl⟩
  · array_get_dec
    exact ⟨j, h, rfl⟩
theorem w_read_course (n wf : Nat) (t : Str) (ht : t.length + 2 ≤ 16777216) (ho : okS t) (hw : 60 < wf) : callF Tk.G Tk.defs wf (n + 6) "read_course" [.str t] = rdF (rd 2 t) := by
  refine satF_rd ?_
  rw [callF_of find_read_course rfl]
  show SatF (finR [] (evSs Tk.G (callF Tk.G Tk.defs wf (n + 5)) wf F_read_course [some (.str t)])) _ _
  unfold F_read_course
  array_get_dec
  rw [gl_c]
  array_get_dec
  refine q_callRd rfl rfl rfl rfl rfl (w_rows_of_text n wf 2 "course_row" t ht ho (by kernel_rfl) (by kernel_rfl) fun l hl hol => w_course_row n wf l hl hol hw) (fun ds h => ?_) (fun j h => ?_)
  · array_get_dec
    exact ⟨ds, h, rfl⟩
  · array_get_dec
    exact ⟨j, h, rfl⟩
theorem w_law_which (n wf : Nat) (fs : List (Str × Int)) : callF Tk.G Tk.defs wf (n + 1) "_law_which" [.exc "BadText" fs] = .ret (.lst .own ([("BadText" : Str), "ValueError"].map D.str)) [] := by
  kernel_rfl
/-- what both ways of reading tell -/
def rdT : Nat ⊕ List D → D
  | .inl j => .tup [.int (j : Nat), .int 1]
  | .inr ds => .tup [.str "read", .tup ds]
theorem told_h (cf : Str → List D → FR) (wf k : Nat) (t : Str) (j : Nat) (hj : rd k t = .inl j) (hw : ∀ fs, cf "_law_which" [.exc "BadText" fs] = .ret (.lst .own ([("BadText" : Str), "ValueError"].map D.str)) []) : Sat (evSs Tk.G cf wf (.cons (.ifs (.e (.cmp .ne (.cal "_law_which" (.val (.cp (.s 2)) .nil)) (.lst (.cons (.k (.str "BadText")) (.cons (.k (.str "ValueError")) .nil))))) (.cons (.ret (.k .non)) .nil) .nil) (.cons (.ret (.tup (.cons (.xf 2 "line") (.cons (.xf 2 "column") .nil)))) .nil)) [some (.int (k : Nat)), some (.str t), some (.exc "BadText" (posL j))])
      (fun f r2 => (noexcR (r2.set 2 none) = true ∧ noexcF f = true) ∧ retQ [] (fun d fin => d = rdT (rd k t) ∧ fin = []) f (r2.set 2 none)) NoX := by
  array_get_dec
  refine ⟨rfl, q_callE rfl rfl rfl rfl (hw (posL j)) rfl ?_⟩
  array_get_dec
  rw [show (D.lst .own [D.str "BadText", D.str "ValueError"]) = .lst .own ([("BadText" : Str), "ValueError"].map D.str) from rfl, eqD_strs (by decide) (by decide)]
  array_get_dec
  refine ⟨by decide, by kernel_rfl, ?_⟩
  refine so_of (a := (j : Int)) rfl ⟨by kernel_rfl, so_of (a := 1) rfl ⟨by decide, ⟨by kernel_rfl, rfl⟩, ?_⟩⟩
  rw [hj]
  rfl
theorem w_law_told (n wf k : Nat) (hk : k < 3) (t : Str) (ht : t.length + 2 ≤ 16777216) (ho : okS t) (hw : 60 < wf) : callF Tk.G Tk.defs wf (n + 7) "_law_told" [.int (k : Nat), .str t] = .ret (rdT (rd k t)) [] := by
  refine SatF.eq ?_
  rw [callF_of find_law_told rfl]
  show SatF (finR [] (evSs Tk.G (callF Tk.G Tk.defs wf (n + 6)) wf F_law_told [some (.int (k : Nat)), some (.str t), none])) _ _
  have e1 := w_law_which (n + 5) wf
  have e2 := w_read_holding n wf t ht ho hw
  have e3 := w_read_falling n wf t ht ho hw
  have e4 := w_read_course n wf t ht ho hw
  generalize callF Tk.G Tk.defs wf (n + 6) = cf at e1 e2 e3 e4
  unfold F_law_told
  rw [sat_fin, q_ss1, q_tra]
  refine Sat.mono (E := fun c fs r => c = "BadText" ∧ ∃ j, rd k t = .inl j ∧ fs = posL j ∧ r = [some (.int (k : Nat)), some (.str t), none]) (Q := fun f r => f = .rt (rdT (rd k t))) ?_ ?_ ?_
  · array_get_dec
    obtain rfl | rfl | rfl : k = 0 ∨ k = 1 ∨ k = 2 := by omega
    · refine ⟨fun _ => q_callRd rfl rfl rfl rfl rfl e2 (fun ds h => ⟨by decide, by rw [h]; rfl⟩) (fun j h => ⟨rfl, j, h, rfl, rfl⟩), fun h => absurd rfl h⟩
    · refine ⟨fun h => absurd h (by decide), fun _ => ⟨fun _ => q_callRd rfl rfl rfl rfl rfl e3 (fun ds h => ⟨by decide, by rw [h]; rfl⟩) (fun j h => ⟨rfl, j, h, rfl, rfl⟩), fun h => absurd rfl h⟩⟩
    · refine ⟨fun h => absurd h (by decide), fun _ => ⟨fun h => absurd h (by decide), fun _ => q_callRd rfl rfl rfl rfl rfl e4 (fun ds h => ⟨by decide, by rw [h]; rfl⟩) (fun j h => ⟨rfl, j, h, rfl, rfl⟩)⟩⟩
  · rintro f r rfl
    array_get_dec
  · rintro c fs r ⟨rfl, j, hj, rfl, rfl⟩
    refine ⟨by kernel_rfl, ?_⟩
    rw [if_pos (by kernel_rfl)]
    refine (told_h cf wf k t j hj e1).mono ?_ (fun _ _ _ z => z)
    rintro f r2 ⟨h1, h2⟩
    refine ⟨h1, ?_⟩
    cases f with
    | nx =>
      rw [nxQ_nx]
      array_get_dec
      exact (show D.non = rdT (rd k t) ∧ ([] : List D) = [] from h2).1
    | rt d => exact h2
    | bk => exact h2
    | ct => exact h2
theorem w_law_read (n wf k : Nat) (hk : k < 3) (t : Str) (ht : t.length + 2 ≤ 16777216) (ho : okS t) : callF Tk.G Tk.defs wf (n + 4) "_law_read" [.int (k : Nat), .str t] = .ret (rdT (rd k t)) [] := by
  refine SatF.eq ?_
  rw [callF_of find_law_read rfl]
  show SatF (finR [] (evSs Tk.G (callF Tk.G Tk.defs wf (n + 3)) wf F_law_read [some (.int (k : Nat)), some (.str t), none, none, none, none])) _ _
  have e1 : ∀ l : Str, l.length + 2 ≤ 16777216 → okS l → callF Tk.G Tk.defs wf (n + 3) "_law_row_of" [.int (k : Nat), .str l] = .ret (optD (rowOf k l)) [] := fun l h1 h2 => w_law_row_of n wf k hk l h1 h2
  generalize callF Tk.G Tk.defs wf (n + 3) = cf at e1
  obtain ⟨h1, h2, h3⟩ := nl_facts ho
  obtain ⟨ps, last, hp⟩ : ∃ ps last, Txt.split t "\n" = ps ++ [last] := ⟨_, _, (List.dropLast_concat_getLast h3).symm⟩
  rw [rd_of hp]
  rw [hp] at h1 h2
  rw [List.length_append, List.length_singleton] at h2
  unfold F_law_read
  rw [sat_fin]
  refine q_seq (fun r => r = [some (.int (k : Nat)), some (.str t), some (.lst .frz ((ps ++ [last]).map D.str)), none, none, none]) ?_ ?_
  · array_get_dec
    rw [hp]
    exact ⟨⟨by decide, ht⟩, rfl⟩
  rintro r rfl
  generalize hV : rdFin last (ps.length + 1) (rdL k ps 0) = V
  array_get_dec
  refine ⟨by decide, by simp; omega, ?_⟩
  have hT : (((ps ++ [last]).length : Nat) - 1 : Int).toNat = ps.length := by simp
  rw [hT]
  refine q_forN (fun xs r => ∃ (qs ls : List Str) (acc : List D) (a b : Option D), ps = qs ++ ls ∧ xs = (List.range' qs.length ls.length).map (fun i => D.int (i : Nat)) ∧ r = [some (.int (k : Nat)), some (.str t), some (.lst .frz ((ps ++ [last]).map D.str)), some (.lst .own acc), a, b] ∧
    rdFin last (ps.length + 1) (rdA acc (rdL k ls qs.length)) = V ∧ copyables acc = true ∧ acc.length = qs.length) ?_ ?_ _ _ ⟨[], ps, [], _, _, rfl, by rw [List.range_eq_range']; rfl, rfl, by rw [← hV]; cases rdL k ps 0 <;> rfl, rfl, rfl⟩
  · rintro x xs r ⟨qs, ls, acc, a, b, c1, c2, rfl, c4, c5, c6⟩
    obtain ⟨l, ls, rfl⟩ : ∃ w ws', ls = w :: ws' := by
      cases ls with
      | nil => cases c2
      | cons w ws => exact ⟨w, ws, rfl⟩
    rw [List.length_cons, List.range'_succ, List.map_cons] at c2
    obtain ⟨rfl, rfl⟩ := List.cons.inj c2
    have hl := h1 l (by rw [c1]; simp)
    have hix : (ps ++ [last])[qs.length]? = some l := by
      rw [c1]
      simp
    obtain ⟨g1, g2, g3⟩ := rowOf_is k l
    have hpl : ps.length = qs.length + (ls.length + 1) := by rw [c1]; simp
    unfold B_law_read_0
    array_get_dec
    rw [at_nat, List.getElem?_map, hix]
    array_get_dec
    refine q_callE rfl rfl rfl rfl (e1 l (by omega) hl.1) rfl ?_
    array_get_dec
    rw [g1]
    array_get_dec
    have hx : rdL k (l :: ls) qs.length = match rowOf k l with
      | none => .inl (qs.length + 1)
      | some d => match rdL k ls (qs.length + 1) with
        | .inl j => .inl j
        | .inr ds => .inr (d :: ds) := rfl
    rw [hx] at c4
    refine ⟨g2, fun h => ?_, fun h => ?_⟩
    · rw [h] at c4
      refine ⟨by decide, ?_⟩
      rw [← c4]
      rfl
    · obtain ⟨d, hd⟩ := Option.ne_none_iff_exists'.mp h
      rw [hd] at c4 g2 ⊢
      refine ⟨g2, by omega, qs ++ [l], ls, acc ++ [d], some (.int (qs.length : Nat)), some (optD (some d)), by rw [c1]; simp, ?_, rfl, ?_, ?_, ?_⟩
      · rw [List.length_append, List.length_singleton]
      · rw [← c4, List.length_append, List.length_singleton]
        cases rdL k ls (qs.length + 1) with
        | inl j => rfl
        | inr ds =>
          show rdFin last _ (.inr (acc ++ [d] ++ ds)) = rdFin last _ (.inr (acc ++ (d :: ds)))
          rw [List.append_assoc]
          rfl
      · rw [PI.c_app', c5]
        show (copyable d && true) = true
        rw [show copyable d = true from g2]
        rfl
      · rw [List.length_append, List.length_append, c6]
        rfl
  · rintro r ⟨qs, ls, acc, a, b, c1, c2, rfl, c4, c5, c6⟩
    have : ls = [] := by
      cases ls with
      | nil => rfl
      | cons x l => cases c2
    subst this
    array_get_dec
    rw [List.getLast?_map, List.getLast?_concat]
    array_get_dec
    rw [eqD_str (h1 last (by simp)).1 (by decide)]
    array_get_dec
    have c4 : (if last = "" then Sum.inr (acc ++ []) else Sum.inl (ps.length + 1)) = V := c4
    rw [List.append_nil] at c4
    refine ⟨fun h => ?_, fun h => ?_⟩
    · rw [if_neg h] at c4
      refine ⟨by decide, ?_⟩
      rw [← c4]
      show D.tup [.int (((ps ++ [last]).length : Nat) : Int), .int 1] = D.tup [.int ((ps.length + 1 : Nat) : Int), .int 1]
      rw [List.length_append, List.length_singleton]
    · rw [if_pos h] at c4
      refine ⟨c5, by decide, ?_⟩
      rw [← c4]
      rfl
/-- plain data, at most so deep -/
def plD : Nat → D → Prop
  | 0, _ => False
  | n + 1, d => match d with
    | .non => True
    | .bl _ => True
    | .int _ => True
    | .str s => okS s
    | .tup ds => ds.length ≤ 16777216 ∧ copyables ds = true ∧ ∀ x ∈ ds, plD n x
    | _ => False
theorem w_law_same (wf : Nat) : ∀ (m n : Nat) (d : D), plD m d → callF Tk.G Tk.defs wf (n + m) "_law_same" [d, d] = .ret (.bl true) []
  | 0, _, _, h => h.elim
  | m + 1, n, d, h => by
    refine SatF.eq ?_
    rw [show n + (m + 1) = (n + m) + 1 from rfl, callF_of find_law_same rfl]
    show SatF (finR [] (evSs Tk.G (callF Tk.G Tk.defs wf (n + m)) wf F_law_same [some d, some d, none])) _ _
    have ih := fun x hx => w_law_same wf m n x hx
    generalize callF Tk.G Tk.defs wf (n + m) = cf at ih
    unfold F_law_same
    cases d with
    | non =>
      array_get_dec
    | bl b =>
      array_get_dec
      rfl
    | int i =>
      array_get_dec
      rfl
    | str s =>
      have h : okS s := h
      array_get_dec
      rw [eqD_str h h]
      array_get_dec
      rfl
    | tup ds =>
      obtain ⟨h1, h2, h3⟩ := h
      array_get_dec
      simp only [h2, true_and]
      refine ⟨by omega, ?_⟩
      try rw [Int.toNat_natCast]
      refine q_forN (fun xs r => (∀ x ∈ xs, ∃ i : Nat, i < ds.length ∧ x = .int (i : Nat)) ∧ ∃ a, r = [some (.tup ds), some (.tup ds), a]) ?_ ?_ _ _ ⟨fun x hx => ?_, none, rfl⟩
      · rintro x xs r ⟨c1, a, rfl⟩
        obtain ⟨i, hi, rfl⟩ := c1 x List.mem_cons_self
        unfold B_law_same_0
        array_get_dec
        rw [at_nat, List.getElem?_eq_getElem hi]
        array_get_dec
        refine ⟨h2, h2, q_callE rfl rfl rfl rfl (ih _ (h3 _ (List.getElem_mem hi))) rfl ?_⟩
        array_get_dec
        exact ⟨fun y hy => c1 y (List.mem_cons_of_mem _ hy), _, rfl⟩
      · rintro r ⟨c1, a, rfl⟩
        array_get_dec
      · obtain ⟨i, hi, rfl⟩ := List.mem_map.mp hx
        exact ⟨i, List.mem_range.mp hi, rfl⟩
    | fn f => exact h.elim
    | exc c fs => exact h.elim
    | lst _ _ => exact h.elim
    | dct _ _ _ => exact h.elim
    | ins _ _ _ _ => exact h.elim
end K96
set_option maxRecDepth 100000
set_option maxHeartbeats 4000000
namespace K96
open PySem PySem.Spec PyProof.Rows L2 PI
local macro_rules | `(tactic| array_get_dec) => `(tactic| try simp only [sat_ok, sat_bad, sat_exc, sat_fin, retQ_rt0, retQ_nx0, retQ_rt1, retQ_nx1, finE0, finE1, q_k, q_gl, q_s, q_cp, q_mv, q_vf, q_fz, q_tup, q_lst, q_bin, q_neg, q_cmp, q_chn, q_andv, q_orv, q_notv, q_ife, q_cal, q_cav, q_bi, q_bj, q_me, q_rpl, q_pop, q_ix, q_sl, q_isi, q_cmpr, q_es0, q_es1, q_as0, q_as1, q_as2, q_as3, q_o0, q_o1, q_c0, q_c1, q_te, q_tan, q_too, q_tno, q_it, q_itl, q_rng, q_enum, q_ss0, q_ss1, q_set, q_asgt, q_asgf, q_aug, q_dro, q_app, q_rev, q_sti, q_ifs, q_fors, q_whl, q_ret, q_retn, q_brk, q_cnt, q_pas, q_one, q_rai, q_tra, q_xf, q_isx, ty_bn, ty_bb, ty_bi, ty_bs, ty_bt, ty_bl, ty_in, ty_ib, ty_ii, ty_is, ty_it, ty_il, ty_sn, ty_sb, ty_si, ty_ss, ty_st, ty_sl, ty_tn, ty_tb, ty_ti, ty_ts, ty_tt, ty_tl,
  so_some, so_none, so_guard, so_bind, so_map, sl_z, sl_n, sl_s, tsQ_bl, tsQ_t, tsQ_f, nxQ_nx, nxQ_rt, nxQ_bk, nxQ_ct, lpQ_nx, lpQ_rt, lpQ_bk, lpQ_ct,
  List.set_cons_zero, List.set_cons_succ, List.getElem?_cons_zero, List.getElem?_cons_succ, List.map_cons, List.map_nil, List.length_cons, List.length_nil, List.length_map, List.length_singleton,
  c_non, c_bl, c_int, c_str, c_fn, c_tup', c_lf, c_lr, c_lb, c_nil, c_cons, c_app', c_ints, c_strs, c_dIs, f_non, f_bl, f_int, f_str, f_fn, f_tup, f_lo, f_lf, f_lr, f_nil, f_cons, f_ints, f_strs,
  b_add, b_sub, b_mul, b_fdiv, b_mod, b_pow, b_adds, b_addt, b_addl, b_mulL, b_muls, k_eq, k_ne, k_lt, k_le, k_gt, k_ge, k_in, k_notin, k_is0, k_is1, k_is2, k_is3, k_is4, k_is5, eqD_int, eqD_bl,
  i_lens, i_lent, i_lenl, i_inti, i_intb, i_ints, i_str, i_tupl, i_tupt, i_lisl, i_list, i_abs, i_sum, i_any, i_all, j_max, j_min, n_int, intsOf_map, blsOf_map, t_bl, t_non, t_int, t_tup, t_lst, m_tup, m_lst, m_str, x_tup, x_lst, x_str, at0, at1, at2, at3, at4, at5, at6, atl,
  l_tup, l_lst, l_str, cut_to1, cut_to2, cut_to3, cut_from1, cut_from2, cut_from3, cut_tol, ← List.map_take, ← List.map_drop, List.drop_succ_cons, List.drop_zero, g_nm, g_tu, g_nil, g_cons, w_nil, w_cons, e_split, e_join, cl_int, cl_str, cl_bl, cl_non, cl_nil, cl_cons,
  szl_eq, szlt_eq, Bool.and_eq_true, true_and, and_true, decide_eq_true_eq, decide_eq_false_iff_not, Bool.true_eq_false, Bool.false_eq_true, false_implies, true_implies, forall_const, Option.bind_some, Option.map_some, bne_iff_ne, ne_eq, Bool.not_eq_true', Bool.not_eq_false', reduceCtorEq, not_true_eq_false, not_false_eq_true])
local macro_rules | `(tactic| array_get_dec) => `(tactic| try simp only [sat_ok, sat_bad, sat_exc, sat_fin, retQ_rt0, retQ_nx0, retQ_rt1, retQ_nx1, finE0, finE1, q_k, q_gl, q_s, q_cp, q_mv, q_vf, q_fz, q_tup, q_lst, q_bin, q_neg, q_cmp, q_chn, q_andv, q_orv, q_notv, q_ife, q_cal, q_cav, q_bi, q_bj, q_me, q_rpl, q_pop, q_ix, q_sl, q_isi, q_cmpr, q_es0, q_es1, q_as0, q_as1, q_as2, q_as3, q_o0, q_o1, q_c0, q_c1, q_te, q_tan, q_too, q_tno, q_it, q_itl, q_rng, q_enum, q_ss0, q_ss1, q_set, q_asgt, q_asgf, q_aug, q_dro, q_app, q_rev, q_sti, q_ifs, q_fors, q_whl, q_ret, q_retn, q_brk, q_cnt, q_pas, q_one, q_rai, q_tra, q_xf, q_isx, ty_bn, ty_bb, ty_bi, ty_bs, ty_bt, ty_bl, ty_in, ty_ib, ty_ii, ty_is, ty_it, ty_il, ty_sn, ty_sb, ty_si, ty_ss, ty_st, ty_sl, ty_tn, ty_tb, ty_ti, ty_ts, ty_tt, ty_tl,
  so_some, so_none, so_guard, so_bind, so_map, sl_z, sl_n, sl_s, tsQ_bl, tsQ_t, tsQ_f, nxQ_nx, nxQ_rt, nxQ_bk, nxQ_ct, lpQ_nx, lpQ_rt, lpQ_bk, lpQ_ct,
  List.set_cons_zero, List.set_cons_succ, List.getElem?_cons_zero, List.getElem?_cons_succ, List.map_cons, List.map_nil, List.length_cons, List.length_nil, List.length_map, List.length_singleton,
  c_non, c_bl, c_int, c_str, c_fn, c_tup', c_lf, c_lr, c_lb, c_nil, c_cons, c_app', c_ints, c_strs, c_dIs, f_non, f_bl, f_int, f_str, f_fn, f_tup, f_lo, f_lf, f_lr, f_nil, f_cons, f_ints, f_strs,
  b_add, b_sub, b_mul, b_fdiv, b_mod, b_pow, b_adds, b_addt, b_addl, b_mulL, b_muls, k_eq, k_ne, k_lt, k_le, k_gt, k_ge, k_in, k_notin, k_is0, k_is1, k_is2, k_is3, k_is4, k_is5, eqD_int, eqD_bl,
  i_lens, i_lent, i_lenl, i_inti, i_intb, i_ints, i_str, i_tupl, i_tupt, i_lisl, i_list, i_abs, i_sum, i_any, i_all, j_max, j_min, n_int, intsOf_map, blsOf_map, t_bl, t_non, t_int, t_tup, t_lst, m_tup, m_lst, m_str, x_tup, x_lst, x_str, at0, at1, at2, at3, at4, at5, at6, atl,
  l_tup, l_lst, l_str, cut_to1, cut_to2, cut_to3, cut_from1, cut_from2, cut_from3, cut_tol, ← List.map_take, ← List.map_drop, List.drop_succ_cons, List.drop_zero, g_nm, g_tu, g_nil, g_cons, w_nil, w_cons, e_split, e_join, cl_int, cl_str, cl_bl, cl_non, cl_nil, cl_cons,
  szl_eq, szlt_eq, Bool.and_eq_true, true_and, and_true, decide_eq_true_eq, decide_eq_false_iff_not, Bool.true_eq_false, Bool.false_eq_true, false_implies, true_implies, forall_const, Option.bind_some, Option.map_some, bne_iff_ne, ne_eq, Bool.not_eq_true', Bool.not_eq_false', reduceCtorEq, not_true_eq_false, not_false_eq_true, List.cons_append, List.nil_append, List.take_succ_cons, List.take_zero, Nat.reduceAdd, Nat.reduceLeDiff, Nat.zero_add])
/-! ### rows and their texts -/
structure Row where
  s3 : List Int
  sts : List Int
  rank : Int
  abs : List Int
  more : List (List Int)
def secsOf : Nat → Row → List Sec
  | 0, w => ("stand", w.s3 ++ w.sts) :: w.more.map fun p => ("pick", p)
  | 1, w => ("stand", w.s3 ++ w.sts) :: ("rank", [w.rank]) :: ("absent", w.abs) :: w.more.map fun p => ("answer", p)
  | _, w => [("absent", w.more.getD 0 []), ("pick", w.more.getD 1 []), ("overruns", w.more.getD 2 [])]
def standR (w : Row) : D := .tup (w.s3.map D.int ++ [dI w.sts])
def encRow : Nat → Row → D
  | 0, w => .tup [standR w, .tup (w.more.map dI)]
  | 1, w => .tup [standR w, .int w.rank, dI w.abs, .tup (w.more.map dI)]
  | _, w => .tup (w.more.map dI)
def secW (s : Sec) : List Str := s.1 :: s.2.map tx
def wordsOf (k : Nat) (w : Row) : List Str := (secsOf k w).flatMap secW
def small (ns : List Int) : Prop := ∀ i ∈ ns, i.natAbs < 10 ^ 60
structure RowOk (k : Nat) (w : Row) : Prop where
  s3 : w.s3.length = 3
  c2 : k = 2 → w.more.length = 3
  sm : ∀ s ∈ secsOf k w, small s.2
  ln : (wordsOf k w).length ≤ 300
def partS (s : Sec) : Str := Txt.join " " (secW s)
def partsOf (k : Nat) (w : Row) : List Str := (secsOf k w).map partS
def lineOf (k : Nat) (w : Row) : Str := Txt.join " " (partsOf k w)
theorem join_len (y : Str) : ∀ ys : List Str, (Txt.join y ys).length ≤ joinLen y ys := by
  intro ys
  rw [TL.join_eq]
  unfold joinLen
  rw [len_tl']
  show (TL.tl (Str.join y ys)).length ≤ _
  rw [TL.tl_join]
  induction ys with
  | nil => exact Nat.zero_le _
  | cons a l ih =>
    cases l with
    | nil =>
      show (TL.tl a).length ≤ _
      simp only [List.map_cons, List.map_nil, List.sum_cons, List.sum_nil, List.length_cons, List.length_nil]
      rw [len_tl']
      exact Nat.le_trans (Nat.le_add_right _ _) (Nat.le_add_right _ _)
    | cons b l =>
      show (TL.tl a ++ (TL.tl y ++ TL.joinL (TL.tl y) ((b :: l).map TL.tl))).length ≤ _
      rw [List.length_append, List.length_append]
      simp only [List.map_cons, List.sum_cons, List.length_cons] at ih ⊢
      have h1 := len_tl' a
      have h2 := len_tl' y
      have e : (l.length + 1 + 1) * y.length = (l.length + 1) * y.length + y.length := by rw [Nat.succ_mul]
      have h3 : (TL.tl a).length = a.length := h1.symm
      have h4 : (TL.tl y).length = y.length := h2.symm
      omega
/-- a section's bounds -/
structure SecOk (s : Sec) : Prop where
  nm : s.1.length ≤ 61
  ok : okS s.1
  sm : small s.2
  ln : s.2.length ≤ 300
theorem sum_le : ∀ (l : List Str) (b : Nat), (∀ x ∈ l, x.length ≤ b) → (l.map Str.length).sum ≤ l.length * b
  | [], _, _ => by simp
  | x :: l, b, h => by
    rw [List.map_cons, List.sum_cons, List.length_cons, Nat.succ_mul]
    have := sum_le l b fun y hy => h y (List.mem_cons_of_mem _ hy)
    have := h x List.mem_cons_self
    omega
theorem SecOk.joinl {s : Sec} (h : SecOk s) : joinLen " " (secW s) ≤ 20000 := by
  have h1 : ∀ x ∈ secW s, x.length ≤ 61 := by
    intro x hx
    rcases List.mem_cons.mp hx with rfl | hx
    · exact h.nm
    · obtain ⟨i, hi, rfl⟩ := List.mem_map.mp hx
      exact (num_tx (h.sm i hi)).2.2.2.1
  have h2 := sum_le _ _ h1
  have h3 : (secW s).length ≤ 301 := by
    show (s.1 :: s.2.map tx).length ≤ _
    rw [List.length_cons, List.length_map]
    have := h.ln
    omega
  unfold joinLen
  rw [show (" " : Str).length = 1 from rfl, Nat.mul_one]
  omega
theorem small_log {i : Int} (h : i.natAbs < 10 ^ 60) : i.natAbs.log2 < 1920 := by
  by_cases h0 : i.natAbs = 0
  · rw [h0]; decide
  · rw [Nat.log2_lt h0]
    exact Nat.lt_trans h (by decide +kernel)
theorem c_list1 (d : D) (h : copyable d = true) : copyables [d] = true := by
  show (copyable d && true) = true
  rw [h]; rfl
theorem w_written (n wf : Nat) (s : Sec) (h : SecOk s) : callF Tk.G Tk.defs wf (n + 1) "written" [.str s.1, dI s.2] = .ret (.str (partS s)) [] := by
  refine SatF.eq ?_
  rw [callF_of find_written rfl]
  show SatF (finR [] (evSs Tk.G (callF Tk.G Tk.defs wf n) wf F_written [some (.str s.1), some (dI s.2), none])) _ _
  have hl := h.ln
  unfold F_written C_written_0
  array_get_dec
  refine q_mapL D.int (fun i => .str (tx i)) s.2 (by omega) ?_ ?_
  · intro i hi
    array_get_dec
    exact ⟨small_log (h.sm i hi), rfl⟩
  · array_get_dec
    refine ⟨⟨by omega, ?_⟩, ?_⟩
    · exact c_map (f := fun i => D.str (tx i)) (fun _ => rfl) s.2
    · refine so_of (e_join2 (ys := secW s) ?_ (by have := h.joinl; omega)) rfl
      show D.str s.1 :: _ = D.str s.1 :: (s.2.map tx).map D.str
      rw [List.map_map]
      rfl
theorem w_law_part (n wf : Nat) (s : Sec) (h : SecOk s) : callF Tk.G Tk.defs wf (n + 1) "_law_part" [.str s.1, dI s.2] = .ret (.str (partS s)) [] := by
  refine SatF.eq ?_
  rw [callF_of find_law_part rfl]
  show SatF (finR [] (evSs Tk.G (callF Tk.G Tk.defs wf n) wf F_law_part [some (.str s.1), some (dI s.2), none])) _ _
  have hl := h.ln
  unfold F_law_part C_law_part_0
  array_get_dec
  refine q_mapL D.int (fun i => .str (tx i)) s.2 (by omega) ?_ ?_
  · intro i hi
    array_get_dec
    exact ⟨small_log (h.sm i hi), rfl⟩
  · array_get_dec
    refine ⟨⟨by omega, ?_⟩, ?_⟩
    · exact c_map (f := fun i => D.str (tx i)) (fun _ => rfl) s.2
    · refine so_of (e_join2 (ys := secW s) ?_ (by have := h.joinl; omega)) rfl
      show D.str s.1 :: _ = D.str s.1 :: (s.2.map tx).map D.str
      rw [List.map_map]
      rfl
theorem w_stand_words (n wf : Nat) (w : Row) (h3 : w.s3.length = 3) (h : SecOk ("stand", w.s3 ++ w.sts)) : callF Tk.G Tk.defs wf (n + 2) "stand_words" [standR w] = .ret (.str (partS ("stand", w.s3 ++ w.sts))) [] := by
  refine SatF.eq ?_
  rw [callF_of find_stand_words rfl]
  show SatF (finR [] (evSs Tk.G (callF Tk.G Tk.defs wf (n + 1)) wf F_stand_words [some (standR w)])) _ _
  have hl := h.ln
  have hl : (w.s3 ++ w.sts).length ≤ 300 := hl
  rw [List.length_append] at hl
  unfold F_stand_words standR
  obtain ⟨a, b, c, e⟩ : ∃ a b c, w.s3 = [a, b, c] := by
    match w.s3, h3 with
    | [a, b, c], _ => exact ⟨a, b, c, rfl⟩
  have hc := w_written n wf _ h
  generalize callF Tk.G Tk.defs wf (n + 1) = cf at hc
  rw [e] at hc ⊢
  array_get_dec
  refine ⟨by omega, q_callE rfl rfl rfl rfl hc rfl ?_⟩
  array_get_dec
/-- a list of texts, given up -/
def strsD (l : List Str) : D := .lst .frz (l.map D.str)
theorem c_strsD (l : List Str) : copyable (strsD l) = true := copy_strs l
theorem f_strsD (l : List Str) : fz (strsD l) = strsD l := fz_copy _ (c_strsD l)
def nlS (l : Str) : Str := l ++ ("\n" : Str)
/-- the text of lines -/
def textL (ls : List Str) : Str := Txt.join "" (ls.map nlS)
theorem nlS_len (l : Str) : (nlS l).length = l.length + 1 := by
  unfold nlS
  rw [len_tl', len_tl', Str.cps_append, Array.toList_append, List.length_append]
  rfl
theorem textL_joinl {ls : List Str} {b : Nat} (h : ∀ l ∈ ls, l.length ≤ b) : joinLen "" (ls.map nlS) ≤ ls.length * (b + 1) := by
  have := sum_le (ls.map nlS) (b + 1) (by
    intro x hx
    obtain ⟨l, hl, rfl⟩ := List.mem_map.mp hx
    rw [nlS_len]
    have := h l hl
    omega)
  unfold joinLen
  rw [show ("" : Str).length = 0 from rfl, Nat.mul_zero, Nat.add_zero]
  rw [List.length_map] at this
  exact this
theorem w_text_of (n wf : Nat) (m : Md) (hm : (m != .own) = true) (rows : List (List Str)) (b : Nat) (h1 : ∀ r ∈ rows, joinLen " " r ≤ b) (h2 : rows.length * (b + 1) ≤ 16777216) (h3 : rows.length ≤ 1000) (hb : b ≤ 1000000) : callF Tk.G Tk.defs wf (n + 1) "text_of" [.lst m (rows.map strsD)] = .ret (.str (textL (rows.map (Txt.join " ")))) [] := by
  refine SatF.eq ?_
  rw [callF_of find_text_of rfl]
  show SatF (finR [] (evSs Tk.G (callF Tk.G Tk.defs wf n) wf F_text_of [some (.lst m (rows.map strsD)), none])) _ _
  have hc := c_map c_strsD rows
  have hcl : copyable (.lst m (rows.map strsD)) = true := by
    show ((m != .own) && copyables (rows.map strsD)) = true
    rw [hm, hc]; rfl
  unfold F_text_of C_text_of_0
  array_get_dec
  refine ⟨hcl, hc, ?_⟩
  refine q_mapL strsD (fun r => .str (nlS (Txt.join " " r))) rows (by omega) ?_ ?_
  · intro r hr
    have hj := h1 r hr
    have hl := join_len " " r
    array_get_dec
    refine ⟨c_strsD r, ?_⟩
    unfold strsD
    array_get_dec
    refine ⟨by omega, ?_, rfl⟩
    rw [show ("\n" : Str).length = 1 from rfl]
    omega
  · refine so_of (e_join2 (ys := (rows.map (Txt.join " ")).map nlS) ?_ ?_) ?_
    · rw [List.map_map, List.map_map]
      rfl
    · have := textL_joinl (ls := rows.map (Txt.join " ")) (b := b) (by
        intro l hl
        obtain ⟨r, hr, rfl⟩ := List.mem_map.mp hl
        exact Nat.le_trans (join_len " " r) (h1 r hr))
      rw [List.length_map] at this
      exact Nat.le_trans this h2
    · rfl
theorem words_of_mem {k : Nat} {w : Row} {s : Sec} (hs : s ∈ secsOf k w) : s.2.length + 1 ≤ (wordsOf k w).length := by
  have h := (List.sublist_flatten_of_mem (List.mem_map_of_mem (f := secW) hs)).length_le
  show _ ≤ ((secsOf k w).flatMap secW).length
  rw [List.flatMap]
  have e : (secW s).length = s.2.length + 1 := by
    show (s.1 :: s.2.map tx).length = _
    rw [List.length_cons, List.length_map]
  omega
theorem secs_names {k : Nat} {w : Row} {s : Sec} (hs : s ∈ secsOf k w) : s.1 ∈ [("stand" : Str), "pick", "rank", "absent", "answer", "overruns"] := by
  match k with
  | 0 =>
    rcases List.mem_cons.mp hs with rfl | hs
    · simp
    · obtain ⟨p, _, rfl⟩ := List.mem_map.mp hs
      simp
  | 1 =>
    rcases List.mem_cons.mp hs with rfl | hs
    · simp
    rcases List.mem_cons.mp hs with rfl | hs
    · simp
    rcases List.mem_cons.mp hs with rfl | hs
    · simp
    · obtain ⟨p, _, rfl⟩ := List.mem_map.mp hs
      simp
  | k + 2 =>
    have hs : s ∈ [(("absent" : Str), w.more.getD 0 []), ("pick", w.more.getD 1 []), ("overruns", w.more.getD 2 [])] := hs
    simp only [List.mem_cons, List.not_mem_nil, or_false] at hs
    rcases hs with rfl | rfl | rfl <;> simp
theorem names_ok : ∀ x ∈ [("stand" : Str), "pick", "rank", "absent", "answer", "overruns"], x.length ≤ 61 ∧ okS x ∧ 32 ∉ x.cps.toList ∧ 10 ∉ x.cps.toList ∧ numOk x = false := by decide +kernel
theorem RowOk.sec {k : Nat} {w : Row} (h : RowOk k w) {s : Sec} (hs : s ∈ secsOf k w) : SecOk s := by
  obtain ⟨h1, h2, _⟩ := names_ok _ (secs_names hs)
  have := words_of_mem hs
  have := h.ln
  exact ⟨h1, h2, h.sm s hs, by omega⟩
theorem SecOk.joinw {s : Sec} (h : SecOk s) : joinLen " " (secW s) ≤ 62 * (secW s).length := by
  have h1 : ∀ x ∈ secW s, x.length ≤ 61 := by
    intro x hx
    rcases List.mem_cons.mp hx with rfl | hx
    · exact h.nm
    · obtain ⟨i, hi, rfl⟩ := List.mem_map.mp hx
      exact (num_tx (h.sm i hi)).2.2.2.1
  have h2 := sum_le _ _ h1
  unfold joinLen
  rw [show (" " : Str).length = 1 from rfl, Nat.mul_one]
  omega
theorem parts_joinl : ∀ l : List Sec, (∀ s ∈ l, SecOk s) → joinLen " " (l.map partS) ≤ 63 * (l.flatMap secW).length
  | [], _ => by decide
  | s :: l, h => by
    have ih := parts_joinl l fun x hx => h x (List.mem_cons_of_mem _ hx)
    have h1 := (h s List.mem_cons_self).joinw
    have h2 : (partS s).length ≤ _ := join_len " " (secW s)
    have h3 : 1 ≤ (secW s).length := by
      show 1 ≤ (s.1 :: s.2.map tx).length
      simp
    unfold joinLen at *
    rw [show (" " : Str).length = 1 from rfl] at *
    simp only [List.map_cons, List.sum_cons, List.length_cons, List.flatMap_cons, List.length_append, List.length_map] at *
    omega
theorem RowOk.joinl {k : Nat} {w : Row} (h : RowOk k w) : joinLen " " (partsOf k w) ≤ 18900 := by
  have h1 := parts_joinl _ fun s hs => h.sec hs
  have h2 := h.ln
  have h3 : ((secsOf k w).flatMap secW).length ≤ 300 := h2
  unfold partsOf
  omega
theorem RowOk.more0 {k : Nat} {w : Row} (h : RowOk k w) (hk : k < 2) : w.more.length ≤ 300 := by
  have h2 := h.ln
  have : w.more.length ≤ (wordsOf k w).length := by
    have e : ∀ n : Str, w.more.length ≤ ((w.more.map fun p => (n, p)).flatMap secW).length := by
      intro n
      generalize w.more = l
      induction l with
      | nil => exact Nat.zero_le _
      | cons p l ih =>
        rw [List.map_cons, List.flatMap_cons, List.length_append, List.length_cons]
        show _ ≤ (n :: p.map tx).length + _
        rw [List.length_cons]
        omega
    match k, hk with
    | 0, _ =>
      show _ ≤ ((_ :: _).flatMap secW).length
      rw [List.flatMap_cons, List.length_append]
      have := e "pick"
      omega
    | 1, _ =>
      show _ ≤ ((_ :: _ :: _ :: _).flatMap secW).length
      rw [List.flatMap_cons, List.flatMap_cons, List.flatMap_cons, List.length_append, List.length_append, List.length_append]
      have := e "answer"
      omega
  omega
theorem c_standR (w : Row) : copyable (standR w) = true := by
  show copyables (w.s3.map D.int ++ [dI w.sts]) = true
  rw [PI.c_app', copy_ints]
  show (copyable (dI w.sts) && true) = true
  rw [copy_dI]; rfl
theorem c_encRow (k : Nat) (w : Row) : copyable (encRow k w) = true := by
  have h1 := c_standR w
  have h2 := c_dIs (ns := w.more)
  match k with
  | 0 =>
    show (copyable (standR w) && (copyables (w.more.map dI) && true)) = true
    rw [h1, h2]; rfl
  | 1 =>
    show (copyable (standR w) && (true && (copyable (dI w.abs) && (copyables (w.more.map dI) && true)))) = true
    rw [h1, h2, copy_dI]; rfl
  | k + 2 => exact h2
theorem c_encRows (k : Nat) (l : List Row) : copyables (l.map (encRow k)) = true := c_map (c_encRow k) l
/-- the text of rows -/
def textR (k : Nat) (rows : List Row) : Str := textL (rows.map (lineOf k))
theorem c_mapS {α : Type} (f : α → Str) (l : List α) : copyables (l.map fun p => D.str (f p)) = true := c_map (f := fun p => D.str (f p)) (fun _ => rfl) l
theorem f_mapS {α : Type} (f : α → Str) (l : List α) : fzs (l.map fun p => D.str (f p)) = l.map fun p => D.str (f p) := f_map (f := fun p => D.str (f p)) (fun _ => rfl) l
theorem c_mapR {α : Type} (f : α → List Str) (l : List α) : copyables (l.map fun p => strsD (f p)) = true := c_map (f := fun p => strsD (f p)) (fun x => c_strsD (f x)) l
theorem f_mapR {α : Type} (f : α → List Str) (l : List α) : fzs (l.map fun p => strsD (f p)) = l.map fun p => strsD (f p) := f_map (f := fun p => strsD (f p)) (fun x => f_strsD (f x)) l
theorem w_text_rows (n wf k : Nat) (m : Md) (hm : (m != .own) = true) (rows : List Row) (h : ∀ w ∈ rows, RowOk k w) (hl : rows.length ≤ 800) : callF Tk.G Tk.defs wf (n + 1) "text_of" [.lst m (rows.map fun w => strsD (partsOf k w))] = .ret (.str (textR k rows)) [] := by
  have e := w_text_of n wf m hm (rows.map (partsOf k)) 18900 (fun r hr => by
    obtain ⟨w, hw, rfl⟩ := List.mem_map.mp hr
    exact (h w hw).joinl) (by rw [List.length_map]; omega) (by rw [List.length_map]; omega) (by decide)
  rw [List.map_map, List.map_map] at e
  exact e
local macro_rules | `(tactic| array_get_dec) => `(tactic| try simp only [sat_ok, sat_bad, sat_exc, sat_fin, retQ_rt0, retQ_nx0, retQ_rt1, retQ_nx1, finE0, finE1, q_k, q_gl, q_s, q_cp, q_mv, q_vf, q_fz, q_tup, q_lst, q_bin, q_neg, q_cmp, q_chn, q_andv, q_orv, q_notv, q_ife, q_cal, q_cav, q_bi, q_bj, q_me, q_rpl, q_pop, q_ix, q_sl, q_isi, q_cmpr, q_es0, q_es1, q_as0, q_as1, q_as2, q_as3, q_o0, q_o1, q_c0, q_c1, q_te, q_tan, q_too, q_tno, q_it, q_itl, q_rng, q_enum, q_ss0, q_ss1, q_set, q_asgt, q_asgf, q_aug, q_dro, q_app, q_rev, q_sti, q_ifs, q_fors, q_whl, q_ret, q_retn, q_brk, q_cnt, q_pas, q_one, q_rai, q_tra, q_xf, q_isx, ty_bn, ty_bb, ty_bi, ty_bs, ty_bt, ty_bl, ty_in, ty_ib, ty_ii, ty_is, ty_it, ty_il, ty_sn, ty_sb, ty_si, ty_ss, ty_st, ty_sl, ty_tn, ty_tb, ty_ti, ty_ts, ty_tt, ty_tl,
  so_some, so_none, so_guard, so_bind, so_map, sl_z, sl_n, sl_s, tsQ_bl, tsQ_t, tsQ_f, nxQ_nx, nxQ_rt, nxQ_bk, nxQ_ct, lpQ_nx, lpQ_rt, lpQ_bk, lpQ_ct,
  List.set_cons_zero, List.set_cons_succ, List.getElem?_cons_zero, List.getElem?_cons_succ, List.map_cons, List.map_nil, List.length_cons, List.length_nil, List.length_map, List.length_singleton,
  c_non, c_bl, c_int, c_str, c_fn, c_tup', c_lf, c_lr, c_lb, c_nil, c_cons, c_app', c_ints, c_strs, c_dIs, f_non, f_bl, f_int, f_str, f_fn, f_tup, f_lo, f_lf, f_lr, f_nil, f_cons, f_ints, f_strs,
  b_add, b_sub, b_mul, b_fdiv, b_mod, b_pow, b_adds, b_addt, b_addl, b_mulL, b_muls, k_eq, k_ne, k_lt, k_le, k_gt, k_ge, k_in, k_notin, k_is0, k_is1, k_is2, k_is3, k_is4, k_is5, eqD_int, eqD_bl,
  i_lens, i_lent, i_lenl, i_inti, i_intb, i_ints, i_str, i_tupl, i_tupt, i_lisl, i_list, i_abs, i_sum, i_any, i_all, j_max, j_min, n_int, intsOf_map, blsOf_map, t_bl, t_non, t_int, t_tup, t_lst, m_tup, m_lst, m_str, x_tup, x_lst, x_str, at0, at1, at2, at3, at4, at5, at6, atl,
  l_tup, l_lst, l_str, cut_to1, cut_to2, cut_to3, cut_from1, cut_from2, cut_from3, cut_tol, ← List.map_take, ← List.map_drop, List.drop_succ_cons, List.drop_zero, g_nm, g_tu, g_nil, g_cons, w_nil, w_cons, e_split, e_join, cl_int, cl_str, cl_bl, cl_non, cl_nil, cl_cons,
  szl_eq, szlt_eq, Bool.and_eq_true, true_and, and_true, decide_eq_true_eq, decide_eq_false_iff_not, Bool.true_eq_false, Bool.false_eq_true, false_implies, true_implies, forall_const, Option.bind_some, Option.map_some, bne_iff_ne, ne_eq, Bool.not_eq_true', Bool.not_eq_false', reduceCtorEq, not_true_eq_false, not_false_eq_true, List.cons_append, List.nil_append, List.take_succ_cons, List.take_zero, Nat.reduceAdd, Nat.reduceLeDiff, Nat.zero_add, c_mapS, f_mapS, c_mapR, f_mapR, c_encRows, c_standR, c_encRow])
theorem w_write_holding (n wf : Nat) (rows : List Row) (h : ∀ w ∈ rows, RowOk 0 w) (hl : rows.length ≤ 800) : callF Tk.G Tk.defs wf (n + 3) "write_holding" [.tup (rows.map (encRow 0))] = .ret (.str (textR 0 rows)) [] := by
  refine SatF.eq ?_
  rw [callF_of find_write_holding rfl]
  show SatF (finR [] (evSs Tk.G (callF Tk.G Tk.defs wf (n + 2)) wf F_write_holding [some (.tup (rows.map (encRow 0))), none, none, none])) _ _
  have g1 := fun (w : Row) h3 h => w_stand_words n wf w h3 h
  have g2 := fun (s : Sec) h => w_written (n + 1) wf s h
  have g3 := w_text_rows (n + 1) wf 0 .frz rfl rows h hl
  generalize callF Tk.G Tk.defs wf (n + 2) = cf at g1 g2 g3
  unfold F_write_holding C_write_holding_1
  array_get_dec
  refine q_mapL (encRow 0) (fun w => strsD (partsOf 0 w)) rows (by omega) ?_ ?_
  · intro w hw
    have ho := h w hw
    have hm := ho.more0 (by decide)
    rw [show encRow 0 w = .tup [standR w, .tup (w.more.map dI)] from rfl]
    unfold C_write_holding_0
    array_get_dec
    refine q_callE rfl rfl rfl rfl (g1 w ho.s3 (ho.sec (by simp [secsOf]))) rfl ?_
    array_get_dec
    refine q_mapL dI (fun p => .str (partS ("pick", p))) w.more (by omega) ?_ ?_
    · intro p hp
      array_get_dec
      have hs : (("pick" : Str), p) ∈ secsOf 0 w := List.mem_cons_of_mem _ (List.mem_map_of_mem hp)
      refine q_callE rfl rfl rfl rfl (g2 _ (ho.sec hs)) rfl ?_
      array_get_dec
    · array_get_dec
      refine ⟨by omega, ?_⟩
      unfold strsD partsOf
      rw [List.map_map, show secsOf 0 w = (("stand" : Str), w.s3 ++ w.sts) :: w.more.map fun p => (("pick" : Str), p) from rfl, List.map_cons, List.map_map]
      rfl
  · array_get_dec
    refine q_callE rfl rfl rfl rfl g3 rfl ?_
    array_get_dec
theorem brs_mapR {α : Type} (f : α → List Str) (l : List α) : brs (l.map fun p => strsD (f p)) = l.map fun p => strsD (f p) := by
  have e : ∀ x : List Str, brs (x.map D.str) = x.map D.str := by
    intro x
    induction x with
    | nil => rfl
    | cons a x ih =>
      show D.str a :: brs (x.map D.str) = _
      rw [ih]; rfl
  induction l with
  | nil => rfl
  | cons a l ih =>
    show D.lst .frz (brs ((f a).map D.str)) :: brs (l.map _) = _
    rw [ih, e]; rfl
theorem w_write_falling (n wf : Nat) (rows : List Row) (h : ∀ w ∈ rows, RowOk 1 w) (hl : rows.length ≤ 800) : callF Tk.G Tk.defs wf (n + 3) "write_falling" [.tup (rows.map (encRow 1))] = .ret (.str (textR 1 rows)) [] := by
  refine SatF.eq ?_
  rw [callF_of find_write_falling rfl]
  show SatF (finR [] (evSs Tk.G (callF Tk.G Tk.defs wf (n + 2)) wf F_write_falling [some (.tup (rows.map (encRow 1))), none, none, none, none, none, none, none])) _ _
  have g1 := fun (w : Row) h3 h => w_stand_words n wf w h3 h
  have g2 := fun (s : Sec) h => w_written (n + 1) wf s h
  have g3 := w_text_rows (n + 1) wf 1 .bor rfl rows h hl
  generalize callF Tk.G Tk.defs wf (n + 2) = cf at g1 g2 g3
  unfold F_write_falling
  array_get_dec
  refine q_forN (fun xs r => ∃ (p s : List Row) (a b c d e f : Option D), rows = p ++ s ∧ xs = s.map (encRow 1) ∧ r = [some (.tup (rows.map (encRow 1))), some (.lst .own (p.map fun w => strsD (partsOf 1 w))), a, b, c, d, e, f]) ?_ ?_ _ _ ⟨[], rows, _, _, _, _, _, _, rfl, rfl, rfl⟩
  · rintro x xs r ⟨p, s, a, b, c, d, e, f, e1, e2, rfl⟩
    obtain ⟨w, s, rfl⟩ : ∃ w s', s = w :: s' := by
      cases s with
      | nil => cases e2
      | cons w s => exact ⟨w, s, rfl⟩
    obtain ⟨rfl, rfl⟩ := List.cons.inj e2
    have hw : w ∈ rows := by rw [e1]; simp
    have hlen : rows.length = p.length + (s.length + 1) := by rw [e1]; simp
    have ho := h w hw
    have hm := ho.more0 (by decide)
    rw [show encRow 1 w = .tup [standR w, .int w.rank, dI w.abs, .tup (w.more.map dI)] from rfl]
    unfold B_write_falling_1 C_write_falling_0
    array_get_dec
    refine q_callE rfl rfl rfl rfl (g1 w ho.s3 (ho.sec (by simp [secsOf]))) rfl ?_
    array_get_dec
    refine q_callE rfl rfl rfl rfl (g2 ("rank", [w.rank]) (ho.sec (by simp [secsOf]))) rfl ?_
    array_get_dec
    refine q_callE rfl rfl rfl rfl (g2 ("absent", w.abs) (ho.sec (by simp [secsOf]))) rfl ?_
    array_get_dec
    refine q_mapL dI (fun p => .str (partS ("answer", p))) w.more (by omega) ?_ ?_
    · intro p hp
      array_get_dec
      have hs : (("answer" : Str), p) ∈ secsOf 1 w := List.mem_cons_of_mem _ (List.mem_cons_of_mem _ (List.mem_cons_of_mem _ (List.mem_map_of_mem hp)))
      refine q_callE rfl rfl rfl rfl (g2 _ (ho.sec hs)) rfl ?_
      array_get_dec
    · array_get_dec
      have key : (p.map fun w => strsD (partsOf 1 w)) ++ [D.lst .frz (D.str (partS ("stand", w.s3 ++ w.sts)) :: D.str (partS ("rank", [w.rank])) :: D.str (partS ("absent", w.abs)) :: w.more.map fun p => D.str (partS ("answer", p)))] = (p ++ [w]).map fun w => strsD (partsOf 1 w) := by
        rw [List.map_append, show ([w].map fun w => strsD (partsOf 1 w)) = [strsD (partsOf 1 w)] from rfl]
        unfold strsD partsOf
        rw [List.map_map, show secsOf 1 w = (("stand" : Str), w.s3 ++ w.sts) :: ("rank", [w.rank]) :: ("absent", w.abs) :: w.more.map fun p => (("answer" : Str), p) from rfl, List.map_cons, List.map_cons, List.map_cons, List.map_map]
        rfl
      rw [key]
      exact ⟨by omega, by omega, p ++ [w], s, _, _, _, _, _, _, by rw [e1]; simp, rfl, rfl⟩
  · rintro r ⟨p, s, a, b, c, d, e, f, e1, e2, rfl⟩
    have : s = [] := by
      cases s with
      | nil => rfl
      | cons w s => cases e2
    subst this
    rw [List.append_nil] at e1
    subst e1
    array_get_dec
    rw [← brs_mapR] at g3
    refine q_callB rfl rfl rfl rfl rfl g3 rfl ?_
    array_get_dec
theorem w_write_course (n wf : Nat) (rows : List Row) (h : ∀ w ∈ rows, RowOk 2 w) (hl : rows.length ≤ 800) : callF Tk.G Tk.defs wf (n + 3) "write_course" [.tup (rows.map (encRow 2))] = .ret (.str (textR 2 rows)) [] := by
  refine SatF.eq ?_
  rw [callF_of find_write_course rfl]
  show SatF (finR [] (evSs Tk.G (callF Tk.G Tk.defs wf (n + 2)) wf F_write_course [some (.tup (rows.map (encRow 2))), none, none, none])) _ _
  have g2 := fun (s : Sec) h => w_written (n + 1) wf s h
  have g3 := w_text_rows (n + 1) wf 2 .frz rfl rows h hl
  generalize callF Tk.G Tk.defs wf (n + 2) = cf at g2 g3
  unfold F_write_course C_write_course_0
  array_get_dec
  refine q_mapL (encRow 2) (fun w => strsD (partsOf 2 w)) rows (by omega) ?_ ?_
  · intro w hw
    have ho := h w hw
    obtain ⟨a, b, c, em⟩ : ∃ a b c, w.more = [a, b, c] := by
      have := ho.c2 rfl
      match w.more, this with
      | [a, b, c], _ => exact ⟨a, b, c, rfl⟩
    have es : secsOf 2 w = [(("absent" : Str), a), ("pick", b), ("overruns", c)] := by
      show [(("absent" : Str), w.more.getD 0 []), ("pick", w.more.getD 1 []), ("overruns", w.more.getD 2 [])] = _
      rw [em]; rfl
    rw [show encRow 2 w = .tup [dI a, dI b, dI c] from by
      show D.tup (w.more.map dI) = _
      rw [em]; rfl]
    array_get_dec
    refine q_callE rfl rfl rfl rfl (g2 ("absent", a) (ho.sec (by rw [es]; simp))) rfl ?_
    array_get_dec
    refine q_callE rfl rfl rfl rfl (g2 ("pick", b) (ho.sec (by rw [es]; simp))) rfl ?_
    array_get_dec
    refine q_callE rfl rfl rfl rfl (g2 ("overruns", c) (ho.sec (by rw [es]; simp))) rfl ?_
    array_get_dec
    unfold strsD partsOf
    rw [es]
    rfl
  · array_get_dec
    refine q_callE rfl rfl rfl rfl g3 rfl ?_
    array_get_dec
end K96
set_option maxRecDepth 100000
set_option maxHeartbeats 4000000
namespace K96
open PySem PySem.Spec PyProof.Rows L2 PI
local macro_rules | `(tactic| array_get_dec) => `(tactic| try simp only [sat_ok, sat_bad, sat_exc, sat_fin, retQ_rt0, retQ_nx0, retQ_rt1, retQ_nx1, finE0, finE1, q_k, q_gl, q_s, q_cp, q_mv, q_vf, q_fz, q_tup, q_lst, q_bin, q_neg, q_cmp, q_chn, q_andv, q_orv, q_notv, q_ife, q_cal, q_cav, q_bi, q_bj, q_me, q_rpl, q_pop, q_ix, q_sl, q_isi, q_cmpr, q_es0, q_es1, q_as0, q_as1, q_as2, q_as3, q_o0, q_o1, q_c0, q_c1, q_te, q_tan, q_too, q_tno, q_it, q_itl, q_rng, q_enum, q_ss0, q_ss1, q_set, q_asgt, q_asgf, q_aug, q_dro, q_app, q_rev, q_sti, q_ifs, q_fors, q_whl, q_ret, q_retn, q_brk, q_cnt, q_pas, q_one, q_rai, q_tra, q_xf, q_isx, ty_bn, ty_bb, ty_bi, ty_bs, ty_bt, ty_bl, ty_in, ty_ib, ty_ii, ty_is, ty_it, ty_il, ty_sn, ty_sb, ty_si, ty_ss, ty_st, ty_sl, ty_tn, ty_tb, ty_ti, ty_ts, ty_tt, ty_tl,
  so_some, so_none, so_guard, so_bind, so_map, sl_z, sl_n, sl_s, tsQ_bl, tsQ_t, tsQ_f, nxQ_nx, nxQ_rt, nxQ_bk, nxQ_ct, lpQ_nx, lpQ_rt, lpQ_bk, lpQ_ct,
  List.set_cons_zero, List.set_cons_succ, List.getElem?_cons_zero, List.getElem?_cons_succ, List.map_cons, List.map_nil, List.length_cons, List.length_nil, List.length_map, List.length_singleton,
  c_non, c_bl, c_int, c_str, c_fn, c_tup', c_lf, c_lr, c_lb, c_nil, c_cons, c_app', c_ints, c_strs, c_dIs, f_non, f_bl, f_int, f_str, f_fn, f_tup, f_lo, f_lf, f_lr, f_nil, f_cons, f_ints, f_strs,
  b_add, b_sub, b_mul, b_fdiv, b_mod, b_pow, b_adds, b_addt, b_addl, b_mulL, b_muls, k_eq, k_ne, k_lt, k_le, k_gt, k_ge, k_in, k_notin, k_is0, k_is1, k_is2, k_is3, k_is4, k_is5, eqD_int, eqD_bl,
  i_lens, i_lent, i_lenl, i_inti, i_intb, i_ints, i_str, i_tupl, i_tupt, i_lisl, i_list, i_abs, i_sum, i_any, i_all, j_max, j_min, n_int, intsOf_map, blsOf_map, t_bl, t_non, t_int, t_tup, t_lst, m_tup, m_lst, m_str, x_tup, x_lst, x_str, at0, at1, at2, at3, at4, at5, at6, atl,
  l_tup, l_lst, l_str, cut_to1, cut_to2, cut_to3, cut_from1, cut_from2, cut_from3, cut_tol, ← List.map_take, ← List.map_drop, List.drop_succ_cons, List.drop_zero, g_nm, g_tu, g_nil, g_cons, w_nil, w_cons, e_split, e_join, cl_int, cl_str, cl_bl, cl_non, cl_nil, cl_cons,
  szl_eq, szlt_eq, Bool.and_eq_true, true_and, and_true, decide_eq_true_eq, decide_eq_false_iff_not, Bool.true_eq_false, Bool.false_eq_true, false_implies, true_implies, forall_const, Option.bind_some, Option.map_some, bne_iff_ne, ne_eq, Bool.not_eq_true', Bool.not_eq_false', reduceCtorEq, not_true_eq_false, not_false_eq_true])
local macro_rules | `(tactic| array_get_dec) => `(tactic| try simp only [sat_ok, sat_bad, sat_exc, sat_fin, retQ_rt0, retQ_nx0, retQ_rt1, retQ_nx1, finE0, finE1, q_k, q_gl, q_s, q_cp, q_mv, q_vf, q_fz, q_tup, q_lst, q_bin, q_neg, q_cmp, q_chn, q_andv, q_orv, q_notv, q_ife, q_cal, q_cav, q_bi, q_bj, q_me, q_rpl, q_pop, q_ix, q_sl, q_isi, q_cmpr, q_es0, q_es1, q_as0, q_as1, q_as2, q_as3, q_o0, q_o1, q_c0, q_c1, q_te, q_tan, q_too, q_tno, q_it, q_itl, q_rng, q_enum, q_ss0, q_ss1, q_set, q_asgt, q_asgf, q_aug, q_dro, q_app, q_rev, q_sti, q_ifs, q_fors, q_whl, q_ret, q_retn, q_brk, q_cnt, q_pas, q_one, q_rai, q_tra, q_xf, q_isx, ty_bn, ty_bb, ty_bi, ty_bs, ty_bt, ty_bl, ty_in, ty_ib, ty_ii, ty_is, ty_it, ty_il, ty_sn, ty_sb, ty_si, ty_ss, ty_st, ty_sl, ty_tn, ty_tb, ty_ti, ty_ts, ty_tt, ty_tl,
  so_some, so_none, so_guard, so_bind, so_map, sl_z, sl_n, sl_s, tsQ_bl, tsQ_t, tsQ_f, nxQ_nx, nxQ_rt, nxQ_bk, nxQ_ct, lpQ_nx, lpQ_rt, lpQ_bk, lpQ_ct,
  List.set_cons_zero, List.set_cons_succ, List.getElem?_cons_zero, List.getElem?_cons_succ, List.map_cons, List.map_nil, List.length_cons, List.length_nil, List.length_map, List.length_singleton,
  c_non, c_bl, c_int, c_str, c_fn, c_tup', c_lf, c_lr, c_lb, c_nil, c_cons, c_app', c_ints, c_strs, c_dIs, f_non, f_bl, f_int, f_str, f_fn, f_tup, f_lo, f_lf, f_lr, f_nil, f_cons, f_ints, f_strs,
  b_add, b_sub, b_mul, b_fdiv, b_mod, b_pow, b_adds, b_addt, b_addl, b_mulL, b_muls, k_eq, k_ne, k_lt, k_le, k_gt, k_ge, k_in, k_notin, k_is0, k_is1, k_is2, k_is3, k_is4, k_is5, eqD_int, eqD_bl,
  i_lens, i_lent, i_lenl, i_inti, i_intb, i_ints, i_str, i_tupl, i_tupt, i_lisl, i_list, i_abs, i_sum, i_any, i_all, j_max, j_min, n_int, intsOf_map, blsOf_map, t_bl, t_non, t_int, t_tup, t_lst, m_tup, m_lst, m_str, x_tup, x_lst, x_str, at0, at1, at2, at3, at4, at5, at6, atl,
  l_tup, l_lst, l_str, cut_to1, cut_to2, cut_to3, cut_from1, cut_from2, cut_from3, cut_tol, ← List.map_take, ← List.map_drop, List.drop_succ_cons, List.drop_zero, g_nm, g_tu, g_nil, g_cons, w_nil, w_cons, e_split, e_join, cl_int, cl_str, cl_bl, cl_non, cl_nil, cl_cons,
  szl_eq, szlt_eq, Bool.and_eq_true, true_and, and_true, decide_eq_true_eq, decide_eq_false_iff_not, Bool.true_eq_false, Bool.false_eq_true, false_implies, true_implies, forall_const, Option.bind_some, Option.map_some, bne_iff_ne, ne_eq, Bool.not_eq_true', Bool.not_eq_false', reduceCtorEq, not_true_eq_false, not_false_eq_true, List.cons_append, List.nil_append, List.take_succ_cons, List.take_zero, Nat.reduceAdd, Nat.reduceLeDiff, Nat.zero_add, c_mapS, f_mapS, c_mapR, f_mapR, c_encRows, c_standR, c_encRow])
/-! ### the law's line -/
theorem w_law_line (n wf k : Nat) (hk : k < 3) (w : Row) (h : RowOk k w) : callF Tk.G Tk.defs wf (n + 2) "_law_line" [.int (k : Nat), encRow k w] = .ret (.str (lineOf k w)) [] := by
  refine SatF.eq ?_
  rw [callF_of find_law_line rfl]
  show SatF (finR [] (evSs Tk.G (callF Tk.G Tk.defs wf (n + 1)) wf F_law_line [some (.int (k : Nat)), some (encRow k w), none, none, none, none, none])) _ _
  have g := fun (s : Sec) h => w_law_part n wf s h
  generalize callF Tk.G Tk.defs wf (n + 1) = cf at g
  have hjl := h.joinl
  unfold F_law_line
  obtain rfl | rfl | rfl : k = 0 ∨ k = 1 ∨ k = 2 := by omega
  · have hm := h.more0 (by decide)
    obtain ⟨a, b, c, e3⟩ : ∃ a b c, w.s3 = [a, b, c] := by
      have := h.s3
      match w.s3, this with
      | [a, b, c], _ => exact ⟨a, b, c, rfl⟩
    have g1 := g ("stand", w.s3 ++ w.sts) (h.sec (by simp [secsOf]))
    have hl := (h.sec (s := ("stand", w.s3 ++ w.sts)) (by simp [secsOf])).ln
    have hl : (w.s3 ++ w.sts).length ≤ 300 := hl
    have er : encRow 0 w = .tup [.tup (w.s3.map D.int ++ [dI w.sts]), .tup (w.more.map dI)] := rfl
    rw [e3] at g1 er hl
    rw [List.length_append] at hl
    simp only [List.length_cons, List.length_nil] at hl
    rw [er]
    unfold C_law_line_1
    array_get_dec
    refine ⟨fun h => absurd h (by decide), fun _ => ⟨by omega, q_callE rfl rfl rfl rfl g1 rfl ?_⟩⟩
    array_get_dec
    refine ⟨fun _ => ?_, fun h => absurd rfl h⟩
    refine q_mapL dI (fun p => .str (partS ("pick", p))) w.more (by omega) ?_ ?_
    · intro p hp
      array_get_dec
      have hs : (("pick" : Str), p) ∈ secsOf 0 w := List.mem_cons_of_mem _ (List.mem_map_of_mem hp)
      refine q_callE rfl rfl rfl rfl (g _ (h.sec hs)) rfl ?_
      array_get_dec
    · array_get_dec
      refine ⟨by omega, so_of (e_join2 (ys := partsOf 0 w) ?_ (by omega)) rfl⟩
      unfold partsOf
      rw [List.map_map, show secsOf 0 w = (("stand" : Str), w.s3 ++ w.sts) :: w.more.map fun p => (("pick" : Str), p) from rfl, List.map_cons, List.map_map, e3]
      rfl
  · have hm := h.more0 (by decide)
    obtain ⟨a, b, c, e3⟩ : ∃ a b c, w.s3 = [a, b, c] := by
      have := h.s3
      match w.s3, this with
      | [a, b, c], _ => exact ⟨a, b, c, rfl⟩
    have g1 := g ("stand", w.s3 ++ w.sts) (h.sec (by simp [secsOf]))
    have g2 := g ("rank", [w.rank]) (h.sec (by simp [secsOf]))
    have g3 := g ("absent", w.abs) (h.sec (by simp [secsOf]))
    have hl := (h.sec (s := ("stand", w.s3 ++ w.sts)) (by simp [secsOf])).ln
    have hl : (w.s3 ++ w.sts).length ≤ 300 := hl
    have er : encRow 1 w = .tup [.tup (w.s3.map D.int ++ [dI w.sts]), .int w.rank, dI w.abs, .tup (w.more.map dI)] := rfl
    rw [e3] at g1 er hl
    rw [List.length_append] at hl
    simp only [List.length_cons, List.length_nil] at hl
    rw [er]
    unfold C_law_line_0
    array_get_dec
    refine ⟨fun h => absurd h (by decide), fun _ => ⟨by omega, q_callE rfl rfl rfl rfl g1 rfl ?_⟩⟩
    array_get_dec
    refine ⟨fun h => absurd h (by decide), fun _ => q_callE rfl rfl rfl rfl g2 rfl ?_⟩
    array_get_dec
    refine q_callE rfl rfl rfl rfl g3 rfl ?_
    array_get_dec
    refine q_mapL dI (fun p => .str (partS ("answer", p))) w.more (by omega) ?_ ?_
    · intro p hp
      array_get_dec
      have hs : (("answer" : Str), p) ∈ secsOf 1 w := List.mem_cons_of_mem _ (List.mem_cons_of_mem _ (List.mem_cons_of_mem _ (List.mem_map_of_mem hp)))
      refine q_callE rfl rfl rfl rfl (g _ (h.sec hs)) rfl ?_
      array_get_dec
    · array_get_dec
      refine ⟨by omega, so_of (e_join2 (ys := partsOf 1 w) ?_ (by omega)) rfl⟩
      unfold partsOf
      rw [List.map_map, show secsOf 1 w = (("stand" : Str), w.s3 ++ w.sts) :: ("rank", [w.rank]) :: ("absent", w.abs) :: w.more.map fun p => (("answer" : Str), p) from rfl, List.map_cons, List.map_cons, List.map_cons, List.map_map, e3]
      rfl
  · obtain ⟨a, b, c, em⟩ : ∃ a b c, w.more = [a, b, c] := by
      have := h.c2 rfl
      match w.more, this with
      | [a, b, c], _ => exact ⟨a, b, c, rfl⟩
    have es : secsOf 2 w = [(("absent" : Str), a), ("pick", b), ("overruns", c)] := by
      show [(("absent" : Str), w.more.getD 0 []), ("pick", w.more.getD 1 []), ("overruns", w.more.getD 2 [])] = _
      rw [em]; rfl
    have g1 := g ("absent", a) (h.sec (by rw [es]; simp))
    have g2 := g ("pick", b) (h.sec (by rw [es]; simp))
    have g3 := g ("overruns", c) (h.sec (by rw [es]; simp))
    rw [show encRow 2 w = .tup [dI a, dI b, dI c] from by
      show D.tup (w.more.map dI) = _
      rw [em]; rfl]
    unfold C_law_line_2
    array_get_dec
    refine ⟨fun _ => ⟨by decide, ?_⟩, fun h => absurd rfl h⟩
    have hrng : (List.range (3 : Int).toNat).map (fun i => D.int (i : Nat)) = [0, 1, 2].map fun i : Nat => D.int (i : Nat) := rfl
    rw [hrng]
    refine q_mapL (fun i : Nat => D.int (i : Nat)) (fun i => D.str (((partsOf 2 w)[i]?).getD "")) [0, 1, 2] (by decide) ?_ ?_
    · intro i hi
      have ep : partsOf 2 w = [partS ("absent", a), partS ("pick", b), partS ("overruns", c)] := by
        unfold partsOf
        rw [es]; rfl
      rw [ep]
      simp only [List.mem_cons, List.not_mem_nil, or_false] at hi
      rcases hi with rfl | rfl | rfl
      · array_get_dec
        refine so_of (a := D.str "absent") rfl (so_of (a := dI a) rfl (q_callE rfl rfl rfl rfl g1 rfl ?_))
        array_get_dec
        rfl
      · array_get_dec
        refine so_of (a := D.str "pick") rfl (so_of (a := dI b) rfl (q_callE rfl rfl rfl rfl g2 rfl ?_))
        array_get_dec
        rfl
      · array_get_dec
        refine so_of (a := D.str "overruns") rfl (so_of (a := dI c) rfl (q_callE rfl rfl rfl rfl g3 rfl ?_))
        array_get_dec
        rfl
    · refine so_of (e_join2 (ys := partsOf 2 w) ?_ (by omega)) rfl
      have ep : partsOf 2 w = [partS ("absent", a), partS ("pick", b), partS ("overruns", c)] := by
        unfold partsOf
        rw [es]; rfl
      rw [ep]
      rfl
end K96
set_option maxRecDepth 100000
set_option maxHeartbeats 4000000
namespace K96
open PySem PySem.Spec PyProof.Rows L2 PI
local macro_rules | `(tactic| array_get_dec) => `(tactic| try simp only [sat_ok, sat_bad, sat_exc, sat_fin, retQ_rt0, retQ_nx0, retQ_rt1, retQ_nx1, finE0, finE1, q_k, q_gl, q_s, q_cp, q_mv, q_vf, q_fz, q_tup, q_lst, q_bin, q_neg, q_cmp, q_chn, q_andv, q_orv, q_notv, q_ife, q_cal, q_cav, q_bi, q_bj, q_me, q_rpl, q_pop, q_ix, q_sl, q_isi, q_cmpr, q_es0, q_es1, q_as0, q_as1, q_as2, q_as3, q_o0, q_o1, q_c0, q_c1, q_te, q_tan, q_too, q_tno, q_it, q_itl, q_rng, q_enum, q_ss0, q_ss1, q_set, q_asgt, q_asgf, q_aug, q_dro, q_app, q_rev, q_sti, q_ifs, q_fors, q_whl, q_ret, q_retn, q_brk, q_cnt, q_pas, q_one, q_rai, q_tra, q_xf, q_isx, ty_bn, ty_bb, ty_bi, ty_bs, ty_bt, ty_bl, ty_in, ty_ib, ty_ii, ty_is, ty_it, ty_il, ty_sn, ty_sb, ty_si, ty_ss, ty_st, ty_sl, ty_tn, ty_tb, ty_ti, ty_ts, ty_tt, ty_tl,
  so_some, so_none, so_guard, so_bind, so_map, sl_z, sl_n, sl_s, tsQ_bl, tsQ_t, tsQ_f, nxQ_nx, nxQ_rt, nxQ_bk, nxQ_ct, lpQ_nx, lpQ_rt, lpQ_bk, lpQ_ct,
  List.set_cons_zero, List.set_cons_succ, List.getElem?_cons_zero, List.getElem?_cons_succ, List.map_cons, List.map_nil, List.length_cons, List.length_nil, List.length_map, List.length_singleton,
  c_non, c_bl, c_int, c_str, c_fn, c_tup', c_lf, c_lr, c_lb, c_nil, c_cons, c_app', c_ints, c_strs, c_dIs, f_non, f_bl, f_int, f_str, f_fn, f_tup, f_lo, f_lf, f_lr, f_nil, f_cons, f_ints, f_strs,
  b_add, b_sub, b_mul, b_fdiv, b_mod, b_pow, b_adds, b_addt, b_addl, b_mulL, b_muls, k_eq, k_ne, k_lt, k_le, k_gt, k_ge, k_in, k_notin, k_is0, k_is1, k_is2, k_is3, k_is4, k_is5, eqD_int, eqD_bl,
  i_lens, i_lent, i_lenl, i_inti, i_intb, i_ints, i_str, i_tupl, i_tupt, i_lisl, i_list, i_abs, i_sum, i_any, i_all, j_max, j_min, n_int, intsOf_map, blsOf_map, t_bl, t_non, t_int, t_tup, t_lst, m_tup, m_lst, m_str, x_tup, x_lst, x_str, at0, at1, at2, at3, at4, at5, at6, atl,
  l_tup, l_lst, l_str, cut_to1, cut_to2, cut_to3, cut_from1, cut_from2, cut_from3, cut_tol, ← List.map_take, ← List.map_drop, List.drop_succ_cons, List.drop_zero, g_nm, g_tu, g_nil, g_cons, w_nil, w_cons, e_split, e_join, cl_int, cl_str, cl_bl, cl_non, cl_nil, cl_cons,
  szl_eq, szlt_eq, Bool.and_eq_true, true_and, and_true, decide_eq_true_eq, decide_eq_false_iff_not, Bool.true_eq_false, Bool.false_eq_true, false_implies, true_implies, forall_const, Option.bind_some, Option.map_some, bne_iff_ne, ne_eq, Bool.not_eq_true', Bool.not_eq_false', reduceCtorEq, not_true_eq_false, not_false_eq_true])
/-! ### the round trip -/
theorem tl_app (x y : Str) : (x ++ y).cps.toList = x.cps.toList ++ y.cps.toList := by rw [Str.cps_append, Array.toList_append]
theorem joinL_join (S : List Nat) : ∀ ps : List (List (List Nat)), (∀ p ∈ ps, p ≠ []) → TL.joinL S (ps.map (TL.joinL S)) = TL.joinL S ps.flatten
  | [], _ => rfl
  | [p], _ => by
    rw [List.flatten_cons, List.flatten_nil, List.append_nil]
    rfl
  | p :: q :: r, h => by
    have ih := joinL_join S (q :: r) fun x hx => h x (List.mem_cons_of_mem _ hx)
    show TL.joinL S p ++ (S ++ TL.joinL S ((q :: r).map (TL.joinL S))) = TL.joinL S (p ++ (q :: r).flatten)
    rw [ih]
    have hne : (q :: r).flatten ≠ [] := by
      rw [List.flatten_cons]
      intro z
      exact h q (List.mem_cons_of_mem _ List.mem_cons_self) (List.append_eq_nil_iff.mp z).1
    generalize (q :: r).flatten = f at hne
    have hp := h p List.mem_cons_self
    clear ih h
    obtain ⟨g, f', rfl⟩ := List.exists_cons_of_ne_nil hne
    induction p with
    | nil => exact absurd rfl hp
    | cons a p ih =>
      cases p with
      | nil => rfl
      | cons b p =>
        have := ih (by simp)
        show a ++ (S ++ TL.joinL S (b :: p)) ++ _ = a ++ (S ++ TL.joinL S (b :: p ++ g :: f'))
        rw [← this]
        simp only [List.append_assoc]
theorem lineOf_eq (k : Nat) (w : Row) : lineOf k w = Txt.join " " (wordsOf k w) := by
  unfold lineOf partsOf wordsOf
  refine TL.ext_tl ?_
  rw [TL.join_eq, TL.join_eq, TL.tl_join, TL.tl_join, List.map_map]
  have e : (secsOf k w).map (TL.tl ∘ partS) = ((secsOf k w).map fun s => (secW s).map TL.tl).map (TL.joinL (TL.tl " ")) := by
    rw [List.map_map]
    refine List.map_congr_left fun s _ => ?_
    show TL.tl (Txt.join " " (secW s)) = TL.joinL (TL.tl " ") ((secW s).map TL.tl)
    rw [TL.join_eq, TL.tl_join]
  rw [e, joinL_join]
  · congr 1
    rw [List.flatMap, List.map_flatten, List.map_map]
    rfl
  · intro p hp
    obtain ⟨s, _, rfl⟩ := List.mem_map.mp hp
    show (s.1 :: s.2.map tx).map TL.tl ≠ []
    simp
theorem secW_facts {s : Sec} (hn : s.1 ∈ [("stand" : Str), "pick", "rank", "absent", "answer", "overruns"]) (hs : small s.2) : ∀ x ∈ secW s, 32 ∉ x.cps.toList ∧ 10 ∉ x.cps.toList ∧ okS x ∧ x.length ≤ 61 := by
  intro x hx
  rcases List.mem_cons.mp hx with rfl | hx
  · obtain ⟨h1, h2, h3, h4, _⟩ := names_ok _ hn
    exact ⟨h3, h4, h2, h1⟩
  · obtain ⟨i, hi, rfl⟩ := List.mem_map.mp hx
    obtain ⟨_, _, h1, h2, h3, h4⟩ := num_tx (hs i hi)
    exact ⟨h3, h4, h1, h2⟩
theorem words_facts {k : Nat} {w : Row} (h : RowOk k w) : ∀ x ∈ wordsOf k w, 32 ∉ x.cps.toList ∧ 10 ∉ x.cps.toList ∧ okS x ∧ x.length ≤ 61 := by
  intro x hx
  obtain ⟨s, hs, hx⟩ := List.mem_flatMap.mp hx
  exact secW_facts (secs_names hs) (h.sm s hs) x hx
theorem words_ne (k : Nat) (w : Row) : wordsOf k w ≠ [] := by
  have : ∃ s l, secsOf k w = s :: l := by
    match k with
    | 0 => exact ⟨_, _, rfl⟩
    | 1 => exact ⟨_, _, rfl⟩
    | k + 2 => exact ⟨_, _, rfl⟩
  obtain ⟨s, l, e⟩ := this
  unfold wordsOf
  rw [e, List.flatMap_cons]
  show (s.1 :: s.2.map tx) ++ _ ≠ []
  simp
theorem split_line {k : Nat} {w : Row} (h : RowOk k w) : Txt.split (lineOf k w) " " = wordsOf k w := by
  rw [lineOf_eq]
  exact TL.split_join (s := 32) (S := []) rfl (by decide +kernel) (words_ne k w) fun p hp => (words_facts h p hp).1
theorem addLast_snoc (acc : List Sec) (n : Str) (ns : List Int) (i : Int) : addLast (acc ++ [(n, ns)]) i = acc ++ [(n, ns ++ [i])] := by
  unfold addLast
  rw [List.getLast?_concat, List.dropLast_concat]
theorem secL_nums : ∀ (ns : List Int) (acc : List Sec) (n : Str) (ms : List Int) (rest : List Str), small ns → secL (acc ++ [(n, ms)]) (ns.map tx ++ rest) = secL (acc ++ [(n, ms ++ ns)]) rest
  | [], acc, n, ms, rest, _ => by rw [List.map_nil, List.nil_append, List.append_nil]
  | i :: ns, acc, n, ms, rest, h => by
    obtain ⟨h1, h2, _⟩ := num_tx (h i List.mem_cons_self)
    rw [List.map_cons, List.cons_append]
    show (if numOk (tx i) = true then (if acc ++ [(n, ms)] = [] then none else secL (addLast (acc ++ [(n, ms)]) (val (tx i))) (ns.map tx ++ rest)) else _) = _
    rw [if_pos h1, if_neg (by simp), h2, addLast_snoc, secL_nums ns acc n (ms ++ [i]) rest fun j hj => h j (List.mem_cons_of_mem _ hj), List.append_assoc]
    rfl
theorem secL_secs : ∀ (l acc : List Sec), (∀ s ∈ l, numOk s.1 = false ∧ small s.2) → secL acc (l.flatMap secW) = some (acc ++ l)
  | [], acc, _ => by
    show some acc = _
    rw [List.append_nil]
  | s :: l, acc, h => by
    obtain ⟨h1, h2⟩ := h s List.mem_cons_self
    rw [List.flatMap_cons]
    show secL acc (s.1 :: (s.2.map tx ++ l.flatMap secW)) = _
    show (if numOk s.1 = true then _ else secL (acc ++ [(s.1, [])]) (s.2.map tx ++ l.flatMap secW)) = _
    rw [if_neg (by rw [h1]; exact Bool.false_ne_true), secL_nums s.2 acc s.1 [] _ h2, List.nil_append, secL_secs l _ fun x hx => h x (List.mem_cons_of_mem _ hx), List.append_assoc]
    rfl
theorem sec2_map (n : Str) (l : List (List Int)) : (l.map fun p => (n, p)).map sec2 = l.map dI := by
  rw [List.map_map]
  rfl
theorem names_map (n : Str) (l : List (List Int)) : ((l.map fun p => (n, p)).map (·.1)).all (fun x => decide (x = n)) = true := by
  rw [List.map_map, List.all_map, List.all_eq_true]
  intro x _
  exact decide_eq_true rfl
theorem row_back {k : Nat} (hk : k < 3) {w : Row} (h : RowOk k w) : rowOf k (lineOf k w) = some (encRow k w) := by
  unfold rowOf
  rw [split_line h]
  have e := secL_secs (secsOf k w) [] fun s hs => ⟨(names_ok _ (secs_names hs)).2.2.2.2, h.sm s hs⟩
  rw [show wordsOf k w = (secsOf k w).flatMap secW from rfl, e, List.nil_append]
  show rowS k (secsOf k w) = _
  have ht : (w.s3 ++ w.sts).take 3 = w.s3 := by
    rw [List.take_append_of_le_length (by rw [h.s3]; exact Nat.le_refl _), List.take_of_length_le (by rw [h.s3]; exact Nat.le_refl _)]
  have hd : (w.s3 ++ w.sts).drop 3 = w.sts := by
    rw [← h.s3, List.drop_left]
  have hst : standD (w.s3 ++ w.sts) = standR w := by
    unfold standD standR
    rw [ht, hd]
  have h3 : 3 ≤ (w.s3 ++ w.sts).length := by
    rw [List.length_append, h.s3]
    omega
  obtain rfl | rfl | rfl : k = 0 ∨ k = 1 ∨ k = 2 := by omega
  · have hn : namesOk (nmF 0) (nmR 0) (secsOf 0 w) = true := by
      show (decide ((("stand" : Str) :: _).take 1 = [("stand" : Str)]) && ((("stand" : Str) :: _).drop 1).all _) = true
      rw [List.take_succ_cons, List.take_zero, List.drop_succ_cons, List.drop_zero, decide_eq_true rfl, Bool.true_and]
      exact names_map "pick" w.more
    unfold rowS
    rw [if_pos hn]
    show (if 3 ≤ (w.s3 ++ w.sts).length then some (D.tup [standD (w.s3 ++ w.sts), .tup ((w.more.map fun p => (("pick" : Str), p)).map sec2)]) else none) = _
    rw [if_pos h3, sec2_map, hst]
    rfl
  · have hn : namesOk (nmF 1) (nmR 1) (secsOf 1 w) = true := by
      show (decide ((("stand" : Str) :: "rank" :: "absent" :: _).take 3 = [("stand" : Str), "rank", "absent"]) && ((("stand" : Str) :: "rank" :: "absent" :: _).drop 3).all _) = true
      rw [List.take_succ_cons, List.take_succ_cons, List.take_succ_cons, List.take_zero, List.drop_succ_cons, List.drop_succ_cons, List.drop_succ_cons, List.drop_zero, decide_eq_true rfl, Bool.true_and]
      exact names_map "answer" w.more
    unfold rowS
    rw [if_pos hn]
    show (if 3 ≤ (w.s3 ++ w.sts).length ∧ [w.rank].length = 1 then some (D.tup [standD (w.s3 ++ w.sts), .int ([w.rank].headD 0), dI w.abs, .tup ((w.more.map fun p => (("answer" : Str), p)).map sec2)]) else none) = _
    rw [if_pos ⟨h3, rfl⟩, sec2_map, hst]
    rfl
  · obtain ⟨a, b, c, em⟩ : ∃ a b c, w.more = [a, b, c] := by
      have := h.c2 rfl
      match w.more, this with
      | [a, b, c], _ => exact ⟨a, b, c, rfl⟩
    have es : secsOf 2 w = [(("absent" : Str), a), ("pick", b), ("overruns", c)] := by
      show [(("absent" : Str), w.more.getD 0 []), ("pick", w.more.getD 1 []), ("overruns", w.more.getD 2 [])] = _
      rw [em]; rfl
    have hn : namesOk (nmF 2) (nmR 2) (secsOf 2 w) = true := by
      rw [es]
      rfl
    unfold rowS
    rw [if_pos hn, es, show encRow 2 w = .tup [dI a, dI b, dI c] from by
      show D.tup (w.more.map dI) = _
      rw [em]; rfl]
    rfl
/-! a text of lines, cut -/
theorem joinL_nl : ∀ ls : List (List Nat), TL.joinL [] (ls.map fun l => l ++ [10]) = TL.joinL [10] (ls ++ [[]])
  | [] => rfl
  | [l] => by
    show l ++ [10] = l ++ ([10] ++ [])
    rfl
  | l :: m :: r => by
    have ih := joinL_nl (m :: r)
    show (l ++ [10]) ++ ([] ++ TL.joinL [] ((m :: r).map fun l => l ++ [10])) = l ++ ([10] ++ TL.joinL [10] ((m :: r) ++ [[]]))
    rw [ih, List.nil_append, List.append_assoc]
theorem textL_eq (ls : List Str) : textL ls = Txt.join "\n" (ls ++ [("" : Str)]) := by
  unfold textL
  refine TL.ext_tl ?_
  rw [TL.join_eq, TL.join_eq, TL.tl_join, TL.tl_join, List.map_map, List.map_append]
  have e : ls.map (TL.tl ∘ nlS) = (ls.map TL.tl).map fun l => l ++ [10] := by
    rw [List.map_map]
    refine List.map_congr_left fun l _ => ?_
    show (l ++ ("\n" : Str)).cps.toList = l.cps.toList ++ [10]
    rw [tl_app]
    rfl
  rw [e]
  exact joinL_nl (ls.map TL.tl)
theorem split_text {ls : List Str} (h : ∀ l ∈ ls, 10 ∉ l.cps.toList) : Txt.split (textL ls) "\n" = ls ++ [("" : Str)] := by
  rw [textL_eq]
  refine TL.split_join (s := 10) (S := []) rfl (by decide +kernel) (by simp) fun p hp => ?_
  rcases List.mem_append.mp hp with hp | hp
  · exact h p hp
  · have : p = "" := by simpa using hp
    subst this
    decide
theorem rdL_back {k : Nat} (hk : k < 3) : ∀ (rows : List Row) (i : Nat), (∀ w ∈ rows, RowOk k w) → rdL k (rows.map (lineOf k)) i = .inr (rows.map (encRow k))
  | [], _, _ => rfl
  | w :: rows, i, h => by
    show (match rowOf k (lineOf k w) with | none => _ | some d => _) = _
    rw [row_back hk (h w List.mem_cons_self)]
    show (match rdL k (rows.map (lineOf k)) (i + 1) with | .inl j => Sum.inl j | .inr ds => .inr (encRow k w :: ds)) = _
    rw [rdL_back hk rows (i + 1) fun x hx => h x (List.mem_cons_of_mem _ hx)]
    rfl
theorem join_mem (y : Str) : ∀ ys : List Str, ∀ c ∈ (Txt.join y ys).cps.toList, c ∈ y.cps.toList ∨ ∃ x ∈ ys, c ∈ x.cps.toList := by
  intro ys
  rw [TL.join_eq]
  show ∀ c ∈ TL.tl (Str.join y ys), _
  rw [TL.tl_join]
  induction ys with
  | nil => intro c hc; cases hc
  | cons a l ih =>
    cases l with
    | nil => intro c hc; exact .inr ⟨a, List.mem_cons_self, hc⟩
    | cons b l =>
      intro c hc
      have hc : c ∈ TL.tl a ++ (TL.tl y ++ TL.joinL (TL.tl y) ((b :: l).map TL.tl)) := hc
      rcases List.mem_append.mp hc with h | h
      · exact .inr ⟨a, List.mem_cons_self, h⟩
      rcases List.mem_append.mp h with h | h
      · exact .inl h
      · rcases ih c h with h | ⟨x, hx, h⟩
        · exact .inl h
        · exact .inr ⟨x, List.mem_cons_of_mem _ hx, h⟩
theorem line_facts {k : Nat} {w : Row} (h : RowOk k w) : okS (lineOf k w) ∧ 10 ∉ (lineOf k w).cps.toList ∧ (lineOf k w).length ≤ 18900 := by
  have hf := words_facts h
  refine ⟨fun c hc => ?_, fun hc => ?_, ?_⟩
  · rw [lineOf_eq] at hc
    rcases join_mem _ _ c hc with h1 | ⟨x, hx, h1⟩
    · have : c = 32 := by simpa using (show c ∈ [32] from h1)
      omega
    · exact (hf x hx).2.2.1 c h1
  · rw [lineOf_eq] at hc
    rcases join_mem _ _ 10 hc with h1 | ⟨x, hx, h1⟩
    · exact absurd (show 10 ∈ [32] from h1) (by decide)
    · exact (hf x hx).2.1 h1
  · exact Nat.le_trans (join_len " " (partsOf k w)) h.joinl
theorem rd_back {k : Nat} (hk : k < 3) {rows : List Row} (h : ∀ w ∈ rows, RowOk k w) : rd k (textR k rows) = .inr (rows.map (encRow k)) := by
  have e : Txt.split (textR k rows) "\n" = rows.map (lineOf k) ++ [("" : Str)] := split_text fun l hl => by
    obtain ⟨w, hw, rfl⟩ := List.mem_map.mp hl
    exact (line_facts (h w hw)).2.1
  rw [rd_of e, rdL_back hk rows 0 h]
  rfl
theorem textL_ok {ls : List Str} (h : ∀ l ∈ ls, okS l) : okS (textL ls) := by
  intro c hc
  rcases join_mem _ _ c hc with h1 | ⟨x, hx, h1⟩
  · cases h1
  · obtain ⟨l, hl, rfl⟩ := List.mem_map.mp hx
    exact okS_app (h l hl) (by decide) c h1
theorem textL_len {ls : List Str} {b : Nat} (h : ∀ l ∈ ls, l.length ≤ b) : (textL ls).length ≤ ls.length * (b + 1) := Nat.le_trans (join_len "" _) (textL_joinl h)
end K96
set_option maxRecDepth 100000
set_option maxHeartbeats 4000000
namespace K96
open PySem PySem.Spec PyProof.Rows L2 PI
local macro_rules | `(tactic| array_get_dec) => `(tactic| try simp only [sat_ok, sat_bad, sat_exc, sat_fin, retQ_rt0, retQ_nx0, retQ_rt1, retQ_nx1, finE0, finE1, q_k, q_gl, q_s, q_cp, q_mv, q_vf, q_fz, q_tup, q_lst, q_bin, q_neg, q_cmp, q_chn, q_andv, q_orv, q_notv, q_ife, q_cal, q_cav, q_bi, q_bj, q_me, q_rpl, q_pop, q_ix, q_sl, q_isi, q_cmpr, q_es0, q_es1, q_as0, q_as1, q_as2, q_as3, q_o0, q_o1, q_c0, q_c1, q_te, q_tan, q_too, q_tno, q_it, q_itl, q_rng, q_enum, q_ss0, q_ss1, q_set, q_asgt, q_asgf, q_aug, q_dro, q_app, q_rev, q_sti, q_ifs, q_fors, q_whl, q_ret, q_retn, q_brk, q_cnt, q_pas, q_one, q_rai, q_tra, q_xf, q_isx, ty_bn, ty_bb, ty_bi, ty_bs, ty_bt, ty_bl, ty_in, ty_ib, ty_ii, ty_is, ty_it, ty_il, ty_sn, ty_sb, ty_si, ty_ss, ty_st, ty_sl, ty_tn, ty_tb, ty_ti, ty_ts, ty_tt, ty_tl, pio_nil, pio_val, pio_bor, pio_io,
  so_some, so_none, so_guard, so_bind, so_map, sl_z, sl_n, sl_s, tsQ_bl, tsQ_t, tsQ_f, nxQ_nx, nxQ_rt, nxQ_bk, nxQ_ct, lpQ_nx, lpQ_rt, lpQ_bk, lpQ_ct,
  List.set_cons_zero, List.set_cons_succ, List.getElem?_cons_zero, List.getElem?_cons_succ, List.map_cons, List.map_nil, List.length_cons, List.length_nil, List.length_map, List.length_singleton,
  c_non, c_bl, c_int, c_str, c_fn, c_tup', c_lf, c_lr, c_lb, c_nil, c_cons, c_app', c_ints, c_strs, c_dIs, f_non, f_bl, f_int, f_str, f_fn, f_tup, f_lo, f_lf, f_lr, f_nil, f_cons, f_ints, f_strs,
  b_add, b_sub, b_mul, b_fdiv, b_mod, b_pow, b_adds, b_addt, b_addl, b_mulL, b_muls, k_eq, k_ne, k_lt, k_le, k_gt, k_ge, k_in, k_notin, k_is0, k_is1, k_is2, k_is3, k_is4, k_is5, eqD_int, eqD_bl,
  i_lens, i_lent, i_lenl, i_inti, i_intb, i_ints, i_str, i_tupl, i_tupt, i_lisl, i_list, i_abs, i_sum, i_any, i_all, j_max, j_min, n_int, intsOf_map, blsOf_map, t_bl, t_non, t_int, t_tup, t_lst, m_tup, m_lst, m_str, x_tup, x_lst, x_str, at0, at1, at2, at3, at4, at5, at6, atl,
  l_tup, l_lst, l_str, cut_to1, cut_to2, cut_to3, cut_from1, cut_from2, cut_from3, cut_tol, ← List.map_take, ← List.map_drop, List.drop_succ_cons, List.drop_zero, g_nm, g_tu, g_nil, g_cons, w_nil, w_cons, e_split, e_join, cl_int, cl_str, cl_bl, cl_non, cl_nil, cl_cons,
  szl_eq, szlt_eq, Bool.and_eq_true, true_and, and_true, decide_eq_true_eq, decide_eq_false_iff_not, Bool.true_eq_false, Bool.false_eq_true, false_implies, true_implies, forall_const, Option.bind_some, Option.map_some, bne_iff_ne, ne_eq, Bool.not_eq_true', Bool.not_eq_false', reduceCtorEq, not_true_eq_false, not_false_eq_true])
local macro_rules | `(tactic| array_get_dec) => `(tactic| try simp only [sat_ok, sat_bad, sat_exc, sat_fin, retQ_rt0, retQ_nx0, retQ_rt1, retQ_nx1, finE0, finE1, q_k, q_gl, q_s, q_cp, q_mv, q_vf, q_fz, q_tup, q_lst, q_bin, q_neg, q_cmp, q_chn, q_andv, q_orv, q_notv, q_ife, q_cal, q_cav, q_bi, q_bj, q_me, q_rpl, q_pop, q_ix, q_sl, q_isi, q_cmpr, q_es0, q_es1, q_as0, q_as1, q_as2, q_as3, q_o0, q_o1, q_c0, q_c1, q_te, q_tan, q_too, q_tno, q_it, q_itl, q_rng, q_enum, q_ss0, q_ss1, q_set, q_asgt, q_asgf, q_aug, q_dro, q_app, q_rev, q_sti, q_ifs, q_fors, q_whl, q_ret, q_retn, q_brk, q_cnt, q_pas, q_one, q_rai, q_tra, q_xf, q_isx, ty_bn, ty_bb, ty_bi, ty_bs, ty_bt, ty_bl, ty_in, ty_ib, ty_ii, ty_is, ty_it, ty_il, ty_sn, ty_sb, ty_si, ty_ss, ty_st, ty_sl, ty_tn, ty_tb, ty_ti, ty_ts, ty_tt, ty_tl, pio_nil, pio_val, pio_bor, pio_io,
  so_some, so_none, so_guard, so_bind, so_map, sl_z, sl_n, sl_s, tsQ_bl, tsQ_t, tsQ_f, nxQ_nx, nxQ_rt, nxQ_bk, nxQ_ct, lpQ_nx, lpQ_rt, lpQ_bk, lpQ_ct,
  List.set_cons_zero, List.set_cons_succ, List.getElem?_cons_zero, List.getElem?_cons_succ, List.map_cons, List.map_nil, List.length_cons, List.length_nil, List.length_map, List.length_singleton,
  c_non, c_bl, c_int, c_str, c_fn, c_tup', c_lf, c_lr, c_lb, c_nil, c_cons, c_app', c_ints, c_strs, c_dIs, f_non, f_bl, f_int, f_str, f_fn, f_tup, f_lo, f_lf, f_lr, f_nil, f_cons, f_ints, f_strs,
  b_add, b_sub, b_mul, b_fdiv, b_mod, b_pow, b_adds, b_addt, b_addl, b_mulL, b_muls, k_eq, k_ne, k_lt, k_le, k_gt, k_ge, k_in, k_notin, k_is0, k_is1, k_is2, k_is3, k_is4, k_is5, eqD_int, eqD_bl,
  i_lens, i_lent, i_lenl, i_inti, i_intb, i_ints, i_str, i_tupl, i_tupt, i_lisl, i_list, i_abs, i_sum, i_any, i_all, j_max, j_min, n_int, intsOf_map, blsOf_map, t_bl, t_non, t_int, t_tup, t_lst, m_tup, m_lst, m_str, x_tup, x_lst, x_str, at0, at1, at2, at3, at4, at5, at6, atl,
  l_tup, l_lst, l_str, cut_to1, cut_to2, cut_to3, cut_from1, cut_from2, cut_from3, cut_tol, ← List.map_take, ← List.map_drop, List.drop_succ_cons, List.drop_zero, g_nm, g_tu, g_nil, g_cons, w_nil, w_cons, e_split, e_join, cl_int, cl_str, cl_bl, cl_non, cl_nil, cl_cons,
  szl_eq, szlt_eq, Bool.and_eq_true, true_and, and_true, decide_eq_true_eq, decide_eq_false_iff_not, Bool.true_eq_false, Bool.false_eq_true, false_implies, true_implies, forall_const, Option.bind_some, Option.map_some, bne_iff_ne, ne_eq, Bool.not_eq_true', Bool.not_eq_false', reduceCtorEq, not_true_eq_false, not_false_eq_true, List.cons_append, List.nil_append, List.take_succ_cons, List.take_zero, Nat.reduceAdd, Nat.reduceLeDiff, Nat.zero_add, c_mapS, f_mapS, c_mapR, f_mapR, c_encRows, c_standR, c_encRow])
/-! ### what the law draws -/
def dr (ds : List Int) : D := .lst .own (ds.map D.int)
theorem w_law_take (n wf : Nat) (ds : List Int) (m : Int) (hm : 0 < m) : SatF (callF Tk.G Tk.defs wf (n + 1) "_law_take" [dr ds, .int m]) (fun v fin => ∃ i ds', v = .int i ∧ 0 ≤ i ∧ i < m ∧ fin = [dr ds']) NoF := by
  rw [callF_of find_law_take rfl]
  show SatF (finR [0] (evSs Tk.G (callF Tk.G Tk.defs wf n) wf F_law_take [some (dr ds), some (.int m)])) _ _
  unfold F_law_take dr
  array_get_dec
  refine ⟨fun h => ⟨0, ds, rfl, Int.le_refl 0, hm, rfl⟩, fun h => ?_⟩
  have hne : ds ≠ [] := by
    rintro rfl
    exact h rfl
  rw [List.getElem?_map, ← List.getLast?_eq_getElem?, List.getLast?_eq_some_getLast hne]
  array_get_dec
  exact ⟨by omega, _, ds.dropLast, rfl, (fmod_rng hm).1, (fmod_rng hm).2, by rw [List.map_dropLast]⟩
abbrev scD (ns : List Int) : D := .lst .ro (ns.map D.int)
theorem w_law_cell (n wf : Nat) (ns : List Int) (i : Int) : SatF (callF Tk.G Tk.defs wf (n + 1) "_law_cell" [scD ns, .int i]) (fun v fin => ∃ j, v = .int j ∧ fin = []) NoF := by
  rw [callF_of find_law_cell rfl]
  show SatF (finR [] (evSs Tk.G (callF Tk.G Tk.defs wf n) wf F_law_cell [some (scD ns), some (.int i)])) _ _
  unfold F_law_cell
  array_get_dec
  refine ⟨fun h => ⟨0, rfl⟩, fun h => ⟨h, ?_⟩⟩
  have hl : (0 : Int) < ns.length := by omega
  obtain ⟨x, _, _, e⟩ := at_map (f := D.int) (xs := ns) (fmod_rng (i := i) hl).1 (fmod_rng hl).2
  rw [e]
  array_get_dec
  exact ⟨x, rfl⟩
theorem w_law_draws (n wf : Nat) (ns : List Int) (hl : ns.length ≤ 63) (m : Nat) (hm : m ≤ 1000) : SatF (callF Tk.G Tk.defs wf (n + 1) "_law_draws" [scD ns, .int (m : Nat)]) (fun v fin => ∃ ds, v = dr ds ∧ fin = []) NoF := by
  rw [callF_of find_law_draws rfl]
  show SatF (finR [] (evSs Tk.G (callF Tk.G Tk.defs wf n) wf F_law_draws [some (scD ns), some (.int (m : Nat)), none, none, none, none, none, none, none])) _ _
  unfold F_law_draws
  rw [sat_fin]
  refine q_seq (fun r => r = [some (scD ns), some (.int (m : Nat)), some (dr ns), none, none, none, none, none, none]) ?_ ?_
  · unfold C_law_draws_1
    array_get_dec
    refine q_mapL D.int D.int ns (by omega) ?_ rfl
    intro i hi
    array_get_dec
  rintro r rfl
  refine q_seq (fun r => ∃ cs : List Int, cs ≠ [] ∧ cs.length ≤ 63 ∧ r = [some (scD ns), some (.int (m : Nat)), some (dr cs), none, none, none, none, none, none]) ?_ ?_
  · unfold dr
    array_get_dec
    refine ⟨fun h => ⟨by omega, [0], by simp, by simp, ?_⟩, fun h => ⟨ns, ?_, hl, rfl⟩⟩
    · have : ns = [] := List.length_eq_zero_iff.mp (by omega)
      subst this
      rfl
    · rintro rfl
      exact h rfl
  rintro r ⟨cs, hne, hcl, rfl⟩
  have hpos : (0 : Int) < cs.length := by
    have := List.length_pos_iff.mpr hne
    omega
  unfold dr
  array_get_dec
  refine ⟨by omega, ?_⟩
  try rw [Int.toNat_natCast]
  refine q_forN (fun xs r => ∃ (rs ds : List Int) (a b c : Option D), (∀ x ∈ xs, ∃ i : Nat, i < m ∧ x = .int (i : Nat)) ∧ rs.length = cs.length ∧ ds.length + xs.length ≤ m ∧ r = [some (scD ns), some (.int (m : Nat)), some (.lst .own (cs.map D.int)), some (.lst .own (rs.map D.int)), some (.lst .own (ds.map D.int)), a, b, c, none]) ?_ ?_ _ _ ⟨cs, [], none, none, none, ?_, rfl, by simp, rfl⟩
  · rintro x xs r ⟨rs, ds, a, b, c, c1, c2, c3, rfl⟩
    obtain ⟨i, hi, rfl⟩ := c1 x List.mem_cons_self
    rw [List.length_cons] at c3
    obtain ⟨u, _, _, eu⟩ := at_map (f := D.int) (xs := cs) (i := ((i : Int)).fmod cs.length) (fmod_rng hpos).1 (fmod_rng hpos).2
    obtain ⟨v, _, _, ev⟩ := at_map (f := D.int) (xs := rs) (i := ((i : Int)).fmod cs.length) (fmod_rng hpos).1 (by rw [c2]; exact (fmod_rng hpos).2)
    unfold B_law_draws_0
    array_get_dec
    refine ⟨by omega, ?_⟩
    rw [eu, ev]
    array_get_dec
    have hq : CDivN v 1000 := by unfold CDivN; decide
    have hp : CPow 10 18 := by decide
    have ht : (18 : Int).toNat = 18 := rfl
    have hix : ixN rs.length (((i : Int)).fmod cs.length) = some (((i : Int)).fmod cs.length).toNat := by
      unfold ixN
      rw [if_pos (fmod_rng hpos).1, if_pos (by rw [c2]; exact (fmod_rng hpos).2)]
    have hset : ∀ (k : Nat) (z : Int), (rs.map D.int).set k (.int z) = (rs.set k z).map D.int := fun k z => by rw [List.map_set]
    have hap : ∀ z : Int, ds.map D.int ++ [D.int z] = (ds ++ [z]).map D.int := fun z => by rw [List.map_append]; rfl
    have c1' : ∀ x ∈ xs, ∃ i : Nat, i < m ∧ x = .int (i : Nat) := fun y hy => c1 y (List.mem_cons_of_mem _ hy)
    have cm : ∀ a : Int, CMul u 48271 ∧ CMul (i : Int) 69621 := fun _ => ⟨.inr (by decide), .inr (by decide)⟩
    have hw : ∀ z : Int, CMul (z.fmod 2147483647) (z.fmod 2147483647) ∧ CMul 3 (z.fmod 2147483647) := fun z => by
      have := fmod_rng (i := z) (m := 2147483647) (by decide)
      exact ⟨.inl (by omega), .inl (by decide)⟩
    rw [hix]
    array_get_dec
    simp only [hset, hap]
    refine ⟨hp, fun _ => ⟨by decide, by omega, hq, _, _, _, _, _, c1', ?_, ?_, rfl⟩, fun _ => ⟨(cm 0).1, (cm 0).2, by decide, (hw _).1, (hw _).2, by decide, by omega, _, _, _, _, _, c1', ?_, ?_, rfl⟩⟩
    · rw [List.length_set]; exact c2
    · rw [List.length_append, List.length_singleton]; omega
    · exact c2
    · rw [List.length_append, List.length_singleton]; omega
  · rintro r ⟨rs, ds, a, b, c, c1, c2, c3, rfl⟩
    array_get_dec
    exact ⟨ds.reverse, by rw [List.map_reverse]⟩
  · intro x hx
    obtain ⟨i, hi, rfl⟩ := List.mem_map.mp hx
    exact ⟨i, List.mem_range.mp hi, rfl⟩
theorem w_law_any_number (n wf : Nat) (ns ds : List Int) : SatF (callF Tk.G Tk.defs wf (n + 2) "_law_any_number" [scD ns, dr ds]) (fun v fin => ∃ i ds', v = .int i ∧ i.natAbs < 10 ^ 60 ∧ fin = [dr ds']) NoF := by
  rw [callF_of find_law_any_number rfl]
  show SatF (finR [1] (evSs Tk.G (callF Tk.G Tk.defs wf (n + 1)) wf F_law_any_number [some (scD ns), some (dr ds), none, none])) _ _
  have gt := fun ds m (hm : (0 : Int) < m) => w_law_take n wf ds m hm
  have gc := fun i => w_law_cell n wf ns i
  generalize callF Tk.G Tk.defs wf (n + 1) = cf at gt gc
  unfold F_law_any_number
  array_get_dec
  refine q_callS rfl rfl rfl rfl (gt ds 30 (by decide)) ?_
  rintro v fin ⟨i, ds, rfl, h1, h2, rfl⟩
  array_get_dec
  refine q_callS rfl rfl rfl rfl (gt ds 9 (by decide)) ?_
  rintro v fin ⟨j, ds, rfl, h3, h4, rfl⟩
  array_get_dec
  refine ⟨fun _ => ?_, fun _ => ⟨_, _, rfl, by omega, rfl⟩⟩
  refine q_callS rfl rfl rfl rfl (gc (i - 4)) ?_
  rintro v fin ⟨c, rfl, rfl⟩
  array_get_dec
  have habs : ∀ z : Int, (if z < 0 then -z else z) = (z.natAbs : Int) := fun z => by split <;> omega
  rw [habs]
  obtain ⟨s, hs, es⟩ : ∃ s : Int, (s = 1 ∨ s = -1) ∧ atI [D.int 1, D.int (-1)] (if c < 0 then 1 else 0) = some (.int s) := by
    by_cases hc : c < 0
    · rw [if_pos hc]; exact ⟨-1, .inr rfl, rfl⟩
    · rw [if_neg hc]; exact ⟨1, .inl rfl, rfl⟩
  rw [es]
  have e60 : (10 : Int) ^ Int.toNat 60 = ((10 ^ 60 : Nat) : Int) := by decide +kernel
  have e59 : (10 : Int) ^ Int.toNat 59 = ((10 ^ 59 : Nat) : Int) := by decide +kernel
  have hlt : (10 ^ 59 : Nat) + 1000 < 10 ^ 60 := by decide +kernel
  have hp : (0 : Int) < ((10 ^ 60 : Nat) : Int) := by decide +kernel
  rw [e60]
  have hq := fmod_rng (i := (c.natAbs : Int)) hp
  generalize ((c.natAbs : Int)).fmod ((10 ^ 60 : Nat) : Int) = q at hq
  have hsq : (s * q).natAbs < 10 ^ 60 := by
    rcases hs with rfl | rfl <;> omega
  have hcm : CMul s q := .inl (by rcases hs with rfl | rfl <;> decide)
  array_get_dec
  refine ⟨by decide, by omega, hcm, q_callS rfl rfl rfl rfl (gt ds 3 (by decide)) ?_⟩
  rintro v fin ⟨k, ds, rfl, h5, h6, rfl⟩
  array_get_dec
  rw [habs, e59]
  have hr := fmod_rng (i := (c.natAbs : Int)) (m := 1000) (by decide)
  generalize ((c.natAbs : Int)).fmod 1000 = t at hr
  exact ⟨fun _ => ⟨by decide, by decide, _, _, rfl, by omega, rfl⟩, fun _ => ⟨_, _, rfl, hsq, rfl⟩⟩
theorem w_law_some_numbers (n wf : Nat) (ns ds : List Int) (m : Int) (h0 : 0 ≤ m) (hm : m ≤ 1000) : SatF (callF Tk.G Tk.defs wf (n + 3) "_law_some_numbers" [scD ns, dr ds, .int m]) (fun v fin => ∃ is ds', v = dI is ∧ (is.length : Int) = m ∧ small is ∧ fin = [dr ds']) NoF := by
  rw [callF_of find_law_some_numbers rfl]
  show SatF (finR [1] (evSs Tk.G (callF Tk.G Tk.defs wf (n + 2)) wf F_law_some_numbers [some (scD ns), some (dr ds), some (.int m), none])) _ _
  have g := fun ds => w_law_any_number n wf ns ds
  generalize callF Tk.G Tk.defs wf (n + 2) = cf at g
  unfold F_law_some_numbers C_law_some_numbers_0
  array_get_dec
  refine ⟨by omega, ?_⟩
  refine q_turns (fun xs acc r => ∃ is ds', acc = is.map D.int ∧ (is.length : Int) + xs.length = m ∧ small is ∧ r = [some (scD ns), some (dr ds'), some (.int m), none]) ?_ ?_ _ _ _ ⟨[], ds, rfl, (by simp; omega), (by intro i hi; cases hi), rfl⟩
  · rintro x xs acc r ⟨is, ds, rfl, h1, h2, rfl⟩
    rw [List.length_cons] at h1
    array_get_dec
    refine q_callS rfl rfl rfl rfl (g ds) ?_
    rintro v fin ⟨i, ds', rfl, h3, rfl⟩
    array_get_dec
    refine ⟨by omega, is ++ [i], ds', by rw [List.map_append]; rfl, by rw [List.length_append, List.length_singleton]; omega, ?_, rfl⟩
    intro j hj
    rcases List.mem_append.mp hj with hj | hj
    · exact h2 j hj
    · have : j = i := by simpa using hj
      rw [this]; exact h3
  · rintro acc r ⟨is, ds, rfl, h1, h2, rfl⟩
    array_get_dec
    exact ⟨is, ds, rfl, by simpa using h1, h2, rfl⟩
theorem w_law_tuples (n wf : Nat) (ns ds : List Int) (m : Int) (h0 : 0 ≤ m) (hm : m ≤ 1000) : SatF (callF Tk.G Tk.defs wf (n + 4) "_law_tuples" [scD ns, dr ds, .int m]) (fun v fin => ∃ (l : List (List Int)) (ds' : List Int), v = .tup (l.map dI) ∧ (l.length : Int) = m ∧ (∀ p ∈ l, small p ∧ p.length ≤ 3) ∧ fin = [dr ds']) NoF := by
  rw [callF_of find_law_tuples rfl]
  show SatF (finR [1] (evSs Tk.G (callF Tk.G Tk.defs wf (n + 3)) wf F_law_tuples [some (scD ns), some (dr ds), some (.int m), none])) _ _
  have gt := fun ds m (hm : (0 : Int) < m) => w_law_take (n + 2) wf ds m hm
  have g := fun ds m h1 h2 => w_law_some_numbers n wf ns ds m h1 h2
  generalize callF Tk.G Tk.defs wf (n + 3) = cf at g gt
  unfold F_law_tuples C_law_tuples_0
  array_get_dec
  refine ⟨by omega, ?_⟩
  refine q_turns (fun xs acc r => ∃ (l : List (List Int)) (ds' : List Int), acc = l.map dI ∧ (l.length : Int) + xs.length = m ∧ (∀ p ∈ l, small p ∧ p.length ≤ 3) ∧ r = [some (scD ns), some (dr ds'), some (.int m), none]) ?_ ?_ _ _ _ ⟨[], ds, rfl, (by simp; omega), (by intro i hi; cases hi), rfl⟩
  · rintro x xs acc r ⟨is, ds, rfl, h1, h2, rfl⟩
    rw [List.length_cons] at h1
    array_get_dec
    refine q_callS rfl rfl rfl rfl (gt ds 4 (by decide)) ?_
    rintro v fin ⟨k, ds, rfl, h3, h4, rfl⟩
    array_get_dec
    refine q_callS rfl rfl rfl rfl (g ds k h3 (by omega)) ?_
    rintro v fin ⟨p, ds', rfl, h5, h6, rfl⟩
    array_get_dec
    refine ⟨by omega, is ++ [p], ds', by rw [List.map_append]; rfl, by rw [List.length_append, List.length_singleton]; omega, ?_, rfl⟩
    intro j hj
    rcases List.mem_append.mp hj with hj | hj
    · exact h2 j hj
    · have : j = p := by simpa using hj
      rw [this]; exact ⟨h6, by omega⟩
  · rintro acc r ⟨is, ds, rfl, h1, h2, rfl⟩
    array_get_dec
    exact ⟨is, ds, rfl, by simpa using h1, h2, rfl⟩
theorem flat_len (n : Str) (l : List (List Int)) (b : Nat) (h : ∀ p ∈ l, p.length ≤ b) : ((l.map fun p => (n, p)).flatMap secW).length ≤ l.length * (b + 1) := by
  induction l with
  | nil => exact Nat.zero_le _
  | cons p l ih =>
    have := ih fun x hx => h x (List.mem_cons_of_mem _ hx)
    have := h p List.mem_cons_self
    rw [List.map_cons, List.flatMap_cons, List.length_append, List.length_cons, Nat.succ_mul]
    show (n :: p.map tx).length + _ ≤ _
    rw [List.length_cons, List.length_map]
    omega
theorem rowOk_mk (k : Nat) (hk : k < 3) (w : Row) (h3 : w.s3.length = 3) (hs3 : small w.s3) (hst : small w.sts) (hr : w.rank.natAbs < 10 ^ 60) (hab : small w.abs) (b : Nat) (hm : ∀ p ∈ w.more, small p ∧ p.length ≤ b) (h2 : k = 2 → w.more.length = 3)
    (hc : w.sts.length ≤ 8 ∧ w.abs.length ≤ 8 ∧ w.more.length * (b + 1) ≤ 260) : RowOk k w := by
  have hrk : small [w.rank] := by
    intro i hi
    have : i = w.rank := by simpa using hi
    rw [this]; exact hr
  have hss : small (w.s3 ++ w.sts) := by
    intro i hi
    rcases List.mem_append.mp hi with hi | hi
    · exact hs3 i hi
    · exact hst i hi
  have e1 : ∀ s : Sec, (secW s).length = s.2.length + 1 := by
    intro s
    show (s.1 :: s.2.map tx).length = _
    rw [List.length_cons, List.length_map]
  refine ⟨h3, h2, ?_, ?_⟩
  · obtain rfl | rfl | rfl : k = 0 ∨ k = 1 ∨ k = 2 := by omega
    · intro s hs
      rcases List.mem_cons.mp hs with rfl | hs
      · exact hss
      · obtain ⟨p, hp, rfl⟩ := List.mem_map.mp hs
        exact (hm p hp).1
    · intro s hs
      rcases List.mem_cons.mp hs with rfl | hs
      · exact hss
      rcases List.mem_cons.mp hs with rfl | hs
      · exact hrk
      rcases List.mem_cons.mp hs with rfl | hs
      · exact hab
      · obtain ⟨p, hp, rfl⟩ := List.mem_map.mp hs
        exact (hm p hp).1
    · intro s hs
      have := h2 rfl
      match hw : w.more, this with
      | [a, b, c], _ =>
        rw [hw] at hm
        have es : secsOf 2 w = [(("absent" : Str), a), ("pick", b), ("overruns", c)] := by
          show [(("absent" : Str), w.more.getD 0 []), ("pick", w.more.getD 1 []), ("overruns", w.more.getD 2 [])] = _
          rw [hw]; rfl
        rw [es] at hs
        simp only [List.mem_cons, List.not_mem_nil, or_false] at hs
        rcases hs with rfl | rfl | rfl
        · exact (hm _ (by simp)).1
        · exact (hm _ (by simp)).1
        · exact (hm _ (by simp)).1
  · obtain ⟨c1, c2, c3⟩ := hc
    obtain rfl | rfl | rfl : k = 0 ∨ k = 1 ∨ k = 2 := by omega
    · have := flat_len "pick" w.more b fun p hp => (hm p hp).2
      show ((_ :: _).flatMap secW).length ≤ 300
      rw [List.flatMap_cons, List.length_append, e1]
      show (w.s3 ++ w.sts).length + 1 + _ ≤ 300
      rw [List.length_append]
      omega
    · have := flat_len "answer" w.more b fun p hp => (hm p hp).2
      show ((_ :: _ :: _ :: _).flatMap secW).length ≤ 300
      rw [List.flatMap_cons, List.flatMap_cons, List.flatMap_cons, List.length_append, List.length_append, List.length_append, e1, e1, e1]
      show (w.s3 ++ w.sts).length + 1 + (1 + 1 + (w.abs.length + 1 + _)) ≤ 300
      rw [List.length_append]
      omega
    · have := h2 rfl
      match hw : w.more, this with
      | [a, b', c], _ =>
        rw [hw] at hm c3
        have es : secsOf 2 w = [(("absent" : Str), a), ("pick", b'), ("overruns", c)] := by
          show [(("absent" : Str), w.more.getD 0 []), ("pick", w.more.getD 1 []), ("overruns", w.more.getD 2 [])] = _
          rw [hw]; rfl
        unfold wordsOf
        rw [es, List.flatMap_cons, List.flatMap_cons, List.flatMap_cons, List.flatMap_nil, List.length_append, List.length_append, List.length_append, e1, e1, e1]
        have h1 := (hm a (by simp)).2
        have h2 := (hm b' (by simp)).2
        have h3 := (hm c (by simp)).2
        simp only [List.length_cons, List.length_nil] at c3 ⊢
        omega
theorem z60 : (0 : Int).natAbs < 10 ^ 60 := by decide
theorem w_law_row (n wf : Nat) (ns ds : List Int) (k : Nat) (hk : k < 3) : SatF (callF Tk.G Tk.defs wf (n + 5) "_law_row" [scD ns, dr ds, .int (k : Nat)]) (fun v fin => ∃ (w : Row) (ds' : List Int), v = encRow k w ∧ RowOk k w ∧ fin = [dr ds']) NoF := by
  rw [callF_of find_law_row rfl]
  show SatF (finR [1] (evSs Tk.G (callF Tk.G Tk.defs wf (n + 4)) wf F_law_row [some (scD ns), some (dr ds), some (.int (k : Nat)), none, none, none])) _ _
  have gt := fun ds m (hm : (0 : Int) < m) => w_law_take (n + 3) wf ds m hm
  have g := fun ds m h1 h2 => w_law_some_numbers (n + 1) wf ns ds m h1 h2
  have gu := fun ds m h1 h2 => w_law_tuples n wf ns ds m h1 h2
  generalize callF Tk.G Tk.defs wf (n + 4) = cf at g gt gu
  unfold F_law_row
  array_get_dec
  have s0 : small [] := by intro i hi; cases hi
  refine ⟨fun h => ?_, fun h => ?_⟩
  · have : k = 2 := by omega
    subst this
    refine q_callS rfl rfl rfl rfl (gu ds 3 (by decide) (by decide)) ?_
    rintro v fin ⟨l, ds', rfl, h1, h2, rfl⟩
    array_get_dec
    have z3 : small [0, 0, 0] := by
      intro i hi
      simp only [List.mem_cons, List.not_mem_nil, or_false] at hi
      have : i = 0 := by omega
      rw [this]; decide
    refine ⟨⟨[0, 0, 0], [], 0, [], l⟩, ds', rfl, ?_, rfl⟩
    exact rowOk_mk 2 hk ⟨[0, 0, 0], [], 0, [], l⟩ rfl z3 s0 z60 s0 3 h2 (fun _ => by show l.length = 3; omega) ⟨Nat.zero_le _, Nat.zero_le _, by show l.length * 4 ≤ 260; omega⟩
  · refine q_callS rfl rfl rfl rfl (g ds 4 (by decide) (by decide)) ?_
    rintro v fin ⟨is, ds1, rfl, h1, h2, rfl⟩
    array_get_dec
    refine q_callS rfl rfl rfl rfl (gt ds1 4 (by decide)) ?_
    rintro v fin ⟨j, ds2, rfl, h3, h4, rfl⟩
    array_get_dec
    refine q_callS rfl rfl rfl rfl (g ds2 j h3 (by omega)) ?_
    rintro v fin ⟨st, ds3, rfl, h5, h6, rfl⟩
    array_get_dec
    refine ⟨by simp; omega, ?_⟩
    refine q_callS rfl rfl rfl rfl (gt ds3 4 (by decide)) ?_
    rintro v fin ⟨j2, ds4, rfl, h7, h8, rfl⟩
    array_get_dec
    refine q_callS rfl rfl rfl rfl (gu ds4 j2 h7 (by omega)) ?_
    rintro v fin ⟨l, ds5, rfl, h9, h10, rfl⟩
    obtain ⟨a, b, c, d, rfl⟩ : ∃ a b c d, is = [a, b, c, d] := by
      match is, h1 with
      | [a, b, c, d], _ => exact ⟨a, b, c, d, rfl⟩
      | [], h => simp at h
      | [_], h => simp at h
      | [_, _], h => simp at h
      | [_, _, _], h => simp at h
      | _ :: _ :: _ :: _ :: _ :: _, h => simp at h; omega
    have sm3 : small [a, b, c] := fun i hi => h2 i (by
      simp only [List.mem_cons, List.not_mem_nil, or_false] at hi ⊢
      rcases hi with rfl | rfl | rfl <;> simp)
    have smd : d.natAbs < 10 ^ 60 := h2 d (by simp)
    have hst8 : st.length ≤ 8 := by omega
    have hlm : l.length * 4 ≤ 260 := by omega
    array_get_dec
    refine ⟨fun h => ?_, fun h => ?_⟩
    · have : k = 0 := by omega
      subst this
      refine ⟨⟨[a, b, c], st, 0, [], l⟩, ds5, rfl, ?_, rfl⟩
      exact rowOk_mk 0 hk ⟨[a, b, c], st, 0, [], l⟩ rfl sm3 h6 z60 s0 3 h10 (fun z => by cases z) ⟨hst8, Nat.zero_le _, hlm⟩
    · have : k = 1 := by omega
      subst this
      refine q_callS rfl rfl rfl rfl (gt ds5 3 (by decide)) ?_
      rintro v fin ⟨j3, ds6, rfl, h11, h12, rfl⟩
      array_get_dec
      refine q_callS rfl rfl rfl rfl (g ds6 j3 h11 (by omega)) ?_
      rintro v fin ⟨ab, ds7, rfl, h13, h14, rfl⟩
      array_get_dec
      refine ⟨⟨[a, b, c], st, d, ab, l⟩, ds7, rfl, ?_, rfl⟩
      exact rowOk_mk 1 hk ⟨[a, b, c], st, d, ab, l⟩ rfl sm3 h6 smd h14 3 h10 (fun z => by cases z) ⟨hst8, by show ab.length ≤ 8; omega, hlm⟩
end K96
set_option maxRecDepth 100000
set_option maxHeartbeats 4000000
namespace K96
open PySem PySem.Spec PyProof.Rows L2 PI
local macro_rules | `(tactic| array_get_dec) => `(tactic| try simp only [sat_ok, sat_bad, sat_exc, sat_fin, retQ_rt0, retQ_nx0, retQ_rt1, retQ_nx1, finE0, finE1, q_k, q_gl, q_s, q_cp, q_mv, q_vf, q_fz, q_tup, q_lst, q_bin, q_neg, q_cmp, q_chn, q_andv, q_orv, q_notv, q_ife, q_cal, q_cav, q_bi, q_bj, q_me, q_rpl, q_pop, q_ix, q_sl, q_isi, q_cmpr, q_es0, q_es1, q_as0, q_as1, q_as2, q_as3, q_o0, q_o1, q_c0, q_c1, q_te, q_tan, q_too, q_tno, q_it, q_itl, q_rng, q_enum, q_ss0, q_ss1, q_set, q_asgt, q_asgf, q_aug, q_dro, q_app, q_rev, q_sti, q_ifs, q_fors, q_whl, q_ret, q_retn, q_brk, q_cnt, q_pas, q_one, q_rai, q_tra, q_xf, q_isx, ty_bn, ty_bb, ty_bi, ty_bs, ty_bt, ty_bl, ty_in, ty_ib, ty_ii, ty_is, ty_it, ty_il, ty_sn, ty_sb, ty_si, ty_ss, ty_st, ty_sl, ty_tn, ty_tb, ty_ti, ty_ts, ty_tt, ty_tl, pio_nil, pio_val, pio_bor, pio_io,
  so_some, so_none, so_guard, so_bind, so_map, sl_z, sl_n, sl_s, tsQ_bl, tsQ_t, tsQ_f, nxQ_nx, nxQ_rt, nxQ_bk, nxQ_ct, lpQ_nx, lpQ_rt, lpQ_bk, lpQ_ct,
  List.set_cons_zero, List.set_cons_succ, List.getElem?_cons_zero, List.getElem?_cons_succ, List.map_cons, List.map_nil, List.length_cons, List.length_nil, List.length_map, List.length_singleton,
  c_non, c_bl, c_int, c_str, c_fn, c_tup', c_lf, c_lr, c_lb, c_nil, c_cons, c_app', c_ints, c_strs, c_dIs, f_non, f_bl, f_int, f_str, f_fn, f_tup, f_lo, f_lf, f_lr, f_nil, f_cons, f_ints, f_strs,
  b_add, b_sub, b_mul, b_fdiv, b_mod, b_pow, b_adds, b_addt, b_addl, b_mulL, b_muls, k_eq, k_ne, k_lt, k_le, k_gt, k_ge, k_in, k_notin, k_is0, k_is1, k_is2, k_is3, k_is4, k_is5, eqD_int, eqD_bl,
  i_lens, i_lent, i_lenl, i_inti, i_intb, i_ints, i_str, i_tupl, i_tupt, i_lisl, i_list, i_abs, i_sum, i_any, i_all, j_max, j_min, n_int, intsOf_map, blsOf_map, t_bl, t_non, t_int, t_tup, t_lst, m_tup, m_lst, m_str, x_tup, x_lst, x_str, at0, at1, at2, at3, at4, at5, at6, atl,
  l_tup, l_lst, l_str, cut_to1, cut_to2, cut_to3, cut_from1, cut_from2, cut_from3, cut_tol, ← List.map_take, ← List.map_drop, List.drop_succ_cons, List.drop_zero, g_nm, g_tu, g_nil, g_cons, w_nil, w_cons, e_split, e_join, cl_int, cl_str, cl_bl, cl_non, cl_nil, cl_cons,
  szl_eq, szlt_eq, Bool.and_eq_true, true_and, and_true, decide_eq_true_eq, decide_eq_false_iff_not, Bool.true_eq_false, Bool.false_eq_true, false_implies, true_implies, forall_const, Option.bind_some, Option.map_some, bne_iff_ne, ne_eq, Bool.not_eq_true', Bool.not_eq_false', reduceCtorEq, not_true_eq_false, not_false_eq_true])
local macro_rules | `(tactic| array_get_dec) => `(tactic| try simp only [sat_ok, sat_bad, sat_exc, sat_fin, retQ_rt0, retQ_nx0, retQ_rt1, retQ_nx1, finE0, finE1, q_k, q_gl, q_s, q_cp, q_mv, q_vf, q_fz, q_tup, q_lst, q_bin, q_neg, q_cmp, q_chn, q_andv, q_orv, q_notv, q_ife, q_cal, q_cav, q_bi, q_bj, q_me, q_rpl, q_pop, q_ix, q_sl, q_isi, q_cmpr, q_es0, q_es1, q_as0, q_as1, q_as2, q_as3, q_o0, q_o1, q_c0, q_c1, q_te, q_tan, q_too, q_tno, q_it, q_itl, q_rng, q_enum, q_ss0, q_ss1, q_set, q_asgt, q_asgf, q_aug, q_dro, q_app, q_rev, q_sti, q_ifs, q_fors, q_whl, q_ret, q_retn, q_brk, q_cnt, q_pas, q_one, q_rai, q_tra, q_xf, q_isx, ty_bn, ty_bb, ty_bi, ty_bs, ty_bt, ty_bl, ty_in, ty_ib, ty_ii, ty_is, ty_it, ty_il, ty_sn, ty_sb, ty_si, ty_ss, ty_st, ty_sl, ty_tn, ty_tb, ty_ti, ty_ts, ty_tt, ty_tl, pio_nil, pio_val, pio_bor, pio_io,
  so_some, so_none, so_guard, so_bind, so_map, sl_z, sl_n, sl_s, tsQ_bl, tsQ_t, tsQ_f, nxQ_nx, nxQ_rt, nxQ_bk, nxQ_ct, lpQ_nx, lpQ_rt, lpQ_bk, lpQ_ct,
  List.set_cons_zero, List.set_cons_succ, List.getElem?_cons_zero, List.getElem?_cons_succ, List.map_cons, List.map_nil, List.length_cons, List.length_nil, List.length_map, List.length_singleton,
  c_non, c_bl, c_int, c_str, c_fn, c_tup', c_lf, c_lr, c_lb, c_nil, c_cons, c_app', c_ints, c_strs, c_dIs, f_non, f_bl, f_int, f_str, f_fn, f_tup, f_lo, f_lf, f_lr, f_nil, f_cons, f_ints, f_strs,
  b_add, b_sub, b_mul, b_fdiv, b_mod, b_pow, b_adds, b_addt, b_addl, b_mulL, b_muls, k_eq, k_ne, k_lt, k_le, k_gt, k_ge, k_in, k_notin, k_is0, k_is1, k_is2, k_is3, k_is4, k_is5, eqD_int, eqD_bl,
  i_lens, i_lent, i_lenl, i_inti, i_intb, i_ints, i_str, i_tupl, i_tupt, i_lisl, i_list, i_abs, i_sum, i_any, i_all, j_max, j_min, n_int, intsOf_map, blsOf_map, t_bl, t_non, t_int, t_tup, t_lst, m_tup, m_lst, m_str, x_tup, x_lst, x_str, at0, at1, at2, at3, at4, at5, at6, atl,
  l_tup, l_lst, l_str, cut_to1, cut_to2, cut_to3, cut_from1, cut_from2, cut_from3, cut_tol, ← List.map_take, ← List.map_drop, List.drop_succ_cons, List.drop_zero, g_nm, g_tu, g_nil, g_cons, w_nil, w_cons, e_split, e_join, cl_int, cl_str, cl_bl, cl_non, cl_nil, cl_cons,
  szl_eq, szlt_eq, Bool.and_eq_true, true_and, and_true, decide_eq_true_eq, decide_eq_false_iff_not, Bool.true_eq_false, Bool.false_eq_true, false_implies, true_implies, forall_const, Option.bind_some, Option.map_some, bne_iff_ne, ne_eq, Bool.not_eq_true', Bool.not_eq_false', reduceCtorEq, not_true_eq_false, not_false_eq_true, List.cons_append, List.nil_append, List.take_succ_cons, List.take_zero, Nat.reduceAdd, Nat.reduceLeDiff, Nat.zero_add, c_mapS, f_mapS, c_mapR, f_mapR, c_encRows, c_standR, c_encRow, cut_map])
theorem small_cut {ns : List Int} (h : small ns) (lo hi : Option Int) : small (cutL ns lo hi) := fun i hi => h i (cut_sub i hi)
theorem w_law_long_row (n wf : Nat) (ds : List Int) (k : Nat) (hk : k < 3) : SatF (callF Tk.G Tk.defs wf (n + 2) "_law_long_row" [dr ds, .int (k : Nat)]) (fun v fin => ∃ (w : Row) (ds' : List Int), v = encRow k w ∧ RowOk k w ∧ fin = [dr ds']) NoF := by
  rw [callF_of find_law_long_row rfl]
  show SatF (finR [0] (evSs Tk.G (callF Tk.G Tk.defs wf (n + 1)) wf F_law_long_row [some (dr ds), some (.int (k : Nat)), none, none, none, none, none])) _ _
  have gt := fun ds m (hm : (0 : Int) < m) => w_law_take n wf ds m hm
  generalize callF Tk.G Tk.defs wf (n + 1) = cf at gt
  unfold F_law_long_row
  rw [sat_fin]
  refine q_seq (fun r => ∃ (i : Int) (ds : List Int), 0 ≤ i ∧ i < 1000 ∧ r = [some (dr ds), some (.int (k : Nat)), some (.int i), none, none, none, none]) ?_ ?_
  · array_get_dec
    refine q_callS rfl rfl rfl rfl (gt ds 1000 (by decide)) ?_
    rintro v fin ⟨i, ds', rfl, h1, h2, rfl⟩
    array_get_dec
    exact ⟨i, ds', h1, h2, rfl⟩
  rintro r ⟨seed, ds, hs1, hs2, rfl⟩
  refine q_seq (fun r => ∃ (ns : List Int), ns.length = 211 ∧ small ns ∧ r = [some (dr ds), some (.int (k : Nat)), some (.int seed), some (.lst .frz (ns.map D.int)), none, none, none]) ?_ ?_
  · unfold C_law_long_row_1
    array_get_dec
    refine ⟨by decide, ?_⟩
    have hrng : (List.range (211 : Int).toNat).map (fun i => D.int (i : Nat)) = (List.range 211).map fun i : Nat => D.int (i : Nat) := rfl
    rw [hrng]
    refine q_mapL (fun i : Nat => D.int (i : Nat)) (fun i : Nat => D.int ((seed * (i + 3) + i * i).fmod 97 - 9)) (List.range 211) (by rw [List.length_range]; decide) ?_ ?_
    · intro i hi
      have hi := List.mem_range.mp hi
      array_get_dec
      exact ⟨.inl (by omega), .inl (by omega), by decide⟩
    · array_get_dec
      refine ⟨(List.range 211).map fun i : Nat => (seed * (i + 3) + i * i).fmod 97 - 9, by rw [List.length_map, List.length_range], ?_, ?_⟩
      · intro j hj
        obtain ⟨i, hi, rfl⟩ := List.mem_map.mp hj
        have := fmod_rng (i := seed * (i + 3) + i * i) (m := 97) (by decide)
        omega
      · rw [List.map_map]
        rw [f_map (f := fun i : Nat => D.int ((seed * (i + 3) + i * i).fmod 97 - 9)) (fun _ => rfl)]
        rfl
  rintro r ⟨ns, hl, hsm, rfl⟩
  have h3 : (ns.take 3).length = 3 := by rw [List.length_take]; omega
  have sm3 : small (ns.take 3) := fun i hi => hsm i (List.mem_of_mem_take hi)
  have c8 : (cutL ns (some 3) (some 11)).length ≤ 8 := cut_len2 (by decide) (by decide)
  have ca : (cutL ns (some 11) (some 19)).length ≤ 8 := cut_len2 (by decide) (by decide)
  obtain ⟨a, rest, hns⟩ : ∃ a rest, ns = a :: rest := by
    cases ns with
    | nil => simp at hl
    | cons a l => exact ⟨a, l, rfl⟩
  refine q_seq (fun r => r = [some (dr ds), some (.int (k : Nat)), some (.int seed), some (.lst .frz (ns.map D.int)), some (.tup ((ns.take 3).map D.int ++ [dI (cutL ns (some 3) (some 11))])), none, none]) ?_ ?_
  · array_get_dec
    omega
  rintro r rfl
  refine q_seq (fun r => ∃ (l : List (List Int)), l.length = 40 ∧ (∀ p ∈ l, small p ∧ p.length ≤ 5) ∧ r = [some (dr ds), some (.int (k : Nat)), some (.int seed), some (.lst .frz (ns.map D.int)), some (.tup ((ns.take 3).map D.int ++ [dI (cutL ns (some 3) (some 11))])), some (.tup (l.map dI)), none]) ?_ ?_
  · unfold C_law_long_row_0
    array_get_dec
    refine ⟨by decide, ?_⟩
    have hrng : (List.range (40 : Int).toNat).map (fun i => D.int (i : Nat)) = (List.range 40).map fun i : Nat => D.int (i : Nat) := rfl
    rw [hrng]
    refine q_mapL (fun i : Nat => D.int (i : Nat)) (fun i : Nat => dI (cutL ns (some (11 + 5 * (i : Int))) (some (16 + 5 * (i : Int))))) (List.range 40) (by rw [List.length_range]; decide) ?_ ?_
    · intro i hi
      have hi := List.mem_range.mp hi
      array_get_dec
      exact ⟨.inl (by decide), .inl (by decide)⟩
    · array_get_dec
      refine ⟨c_map (f := fun i : Nat => dI (cutL ns (some (11 + 5 * (i : Int))) (some (16 + 5 * (i : Int))))) (fun x => copy_dI _) _, (List.range 40).map fun i : Nat => cutL ns (some (11 + 5 * (i : Int))) (some (16 + 5 * (i : Int))), by rw [List.length_map, List.length_range], ?_, ?_⟩
      · intro p hp
        obtain ⟨i, hi, rfl⟩ := List.mem_map.mp hp
        refine ⟨small_cut hsm _ _, ?_⟩
        have := cut_len2 (xs := ns) (lo := 11 + 5 * (i : Int)) (hi := 16 + 5 * (i : Int)) (by omega) (by omega)
        omega
      · rw [List.map_map]
        rfl
  rintro r ⟨l, hll, hlm, rfl⟩
  array_get_dec
  have s0 : small [] := by intro i hi; cases hi
  refine ⟨fun h => ?_, fun h => ⟨fun h2 => ?_, fun h2 => ?_⟩⟩
  · have : k = 0 := by omega
    subst this
    refine ⟨⟨ns.take 3, cutL ns (some 3) (some 11), 0, [], l⟩, ds, rfl, ?_, rfl⟩
    exact rowOk_mk 0 hk ⟨ns.take 3, cutL ns (some 3) (some 11), 0, [], l⟩ h3 sm3 (small_cut hsm _ _) z60 s0 5 hlm (fun z => by cases z) ⟨c8, Nat.zero_le _, by show l.length * 6 ≤ 260; omega⟩
  · have : k = 1 := by omega
    subst this
    have e0 : (ns.map D.int)[0]? = some (.int a) := by rw [hns]; rfl
    rw [e0]
    array_get_dec
    refine ⟨⟨ns.take 3, cutL ns (some 3) (some 11), a, cutL ns (some 11) (some 19), l⟩, ds, rfl, ?_, rfl⟩
    exact rowOk_mk 1 hk ⟨ns.take 3, cutL ns (some 3) (some 11), a, cutL ns (some 11) (some 19), l⟩ h3 sm3 (small_cut hsm _ _) (hsm a (by rw [hns]; simp)) (small_cut hsm _ _) 5 hlm (fun z => by cases z) ⟨c8, ca, by show l.length * 6 ≤ 260; omega⟩
  · have : k = 2 := by omega
    subst this
    have z3 : small [0, 0, 0] := by
      intro i hi
      simp only [List.mem_cons, List.not_mem_nil, or_false] at hi
      have : i = 0 := by omega
      rw [this]; decide
    refine ⟨⟨[0, 0, 0], [], 0, [], [cutL ns none (some 9), cutL ns (some 9) (some 40), cutL ns (some 40) (some 60)]⟩, ds, rfl, ?_, rfl⟩
    have l1 : (cutL ns none (some 9)).length ≤ 9 := by
      have e := cut_to (xs := ns) 9
      have e : cutL ns none (some 9) = ns.take 9 := e
      rw [e, List.length_take]
      omega
    have l2 : (cutL ns (some 9) (some 40)).length ≤ 31 := cut_len2 (by decide) (by decide)
    have l3 : (cutL ns (some 40) (some 60)).length ≤ 20 := cut_len2 (by decide) (by decide)
    refine rowOk_mk 2 hk ⟨[0, 0, 0], [], 0, [], [cutL ns none (some 9), cutL ns (some 9) (some 40), cutL ns (some 40) (some 60)]⟩ rfl z3 s0 z60 s0 31 ?_ (fun _ => rfl) ⟨Nat.zero_le _, Nat.zero_le _, by show 3 * 32 ≤ 260; decide⟩
    intro p hp
    have hp : p ∈ [cutL ns none (some 9), cutL ns (some 9) (some 40), cutL ns (some 40) (some 60)] := hp
    simp only [List.mem_cons, List.not_mem_nil, or_false] at hp
    rcases hp with rfl | rfl | rfl
    · exact ⟨small_cut hsm _ _, by omega⟩
    · exact ⟨small_cut hsm _ _, by omega⟩
    · exact ⟨small_cut hsm _ _, by omega⟩
end K96
set_option maxRecDepth 100000
set_option maxHeartbeats 4000000
namespace K96
open PySem PySem.Spec PyProof.Rows L2 PI
local macro_rules | `(tactic| array_get_dec) => `(tactic| try simp only [sat_ok, sat_bad, sat_exc, sat_fin, retQ_rt0, retQ_nx0, retQ_rt1, retQ_nx1, finE0, finE1, q_k, q_gl, q_s, q_cp, q_mv, q_vf, q_fz, q_tup, q_lst, q_bin, q_neg, q_cmp, q_chn, q_andv, q_orv, q_notv, q_ife, q_cal, q_cav, q_bi, q_bj, q_me, q_rpl, q_pop, q_ix, q_sl, q_isi, q_cmpr, q_es0, q_es1, q_as0, q_as1, q_as2, q_as3, q_o0, q_o1, q_c0, q_c1, q_te, q_tan, q_too, q_tno, q_it, q_itl, q_rng, q_enum, q_ss0, q_ss1, q_set, q_asgt, q_asgf, q_aug, q_dro, q_app, q_rev, q_sti, q_ifs, q_fors, q_whl, q_ret, q_retn, q_brk, q_cnt, q_pas, q_one, q_rai, q_tra, q_xf, q_isx, ty_bn, ty_bb, ty_bi, ty_bs, ty_bt, ty_bl, ty_in, ty_ib, ty_ii, ty_is, ty_it, ty_il, ty_sn, ty_sb, ty_si, ty_ss, ty_st, ty_sl, ty_tn, ty_tb, ty_ti, ty_ts, ty_tt, ty_tl, pio_nil, pio_val, pio_bor, pio_io,
  so_some, so_none, so_guard, so_bind, so_map, sl_z, sl_n, sl_s, tsQ_bl, tsQ_t, tsQ_f, nxQ_nx, nxQ_rt, nxQ_bk, nxQ_ct, lpQ_nx, lpQ_rt, lpQ_bk, lpQ_ct,
  List.set_cons_zero, List.set_cons_succ, List.getElem?_cons_zero, List.getElem?_cons_succ, List.map_cons, List.map_nil, List.length_cons, List.length_nil, List.length_map, List.length_singleton,
  c_non, c_bl, c_int, c_str, c_fn, c_tup', c_lf, c_lr, c_lb, c_nil, c_cons, c_app', c_ints, c_strs, c_dIs, f_non, f_bl, f_int, f_str, f_fn, f_tup, f_lo, f_lf, f_lr, f_nil, f_cons, f_ints, f_strs,
  b_add, b_sub, b_mul, b_fdiv, b_mod, b_pow, b_adds, b_addt, b_addl, b_mulL, b_muls, k_eq, k_ne, k_lt, k_le, k_gt, k_ge, k_in, k_notin, k_is0, k_is1, k_is2, k_is3, k_is4, k_is5, eqD_int, eqD_bl,
  i_lens, i_lent, i_lenl, i_inti, i_intb, i_ints, i_str, i_tupl, i_tupt, i_lisl, i_list, i_abs, i_sum, i_any, i_all, j_max, j_min, n_int, intsOf_map, blsOf_map, t_bl, t_non, t_int, t_tup, t_lst, m_tup, m_lst, m_str, x_tup, x_lst, x_str, at0, at1, at2, at3, at4, at5, at6, atl,
  l_tup, l_lst, l_str, cut_to1, cut_to2, cut_to3, cut_from1, cut_from2, cut_from3, cut_tol, ← List.map_take, ← List.map_drop, List.drop_succ_cons, List.drop_zero, g_nm, g_tu, g_nil, g_cons, w_nil, w_cons, e_split, e_join, cl_int, cl_str, cl_bl, cl_non, cl_nil, cl_cons,
  szl_eq, szlt_eq, Bool.and_eq_true, true_and, and_true, decide_eq_true_eq, decide_eq_false_iff_not, Bool.true_eq_false, Bool.false_eq_true, false_implies, true_implies, forall_const, Option.bind_some, Option.map_some, bne_iff_ne, ne_eq, Bool.not_eq_true', Bool.not_eq_false', reduceCtorEq, not_true_eq_false, not_false_eq_true])
local macro_rules | `(tactic| array_get_dec) => `(tactic| try simp only [sat_ok, sat_bad, sat_exc, sat_fin, retQ_rt0, retQ_nx0, retQ_rt1, retQ_nx1, finE0, finE1, q_k, q_gl, q_s, q_cp, q_mv, q_vf, q_fz, q_tup, q_lst, q_bin, q_neg, q_cmp, q_chn, q_andv, q_orv, q_notv, q_ife, q_cal, q_cav, q_bi, q_bj, q_me, q_rpl, q_pop, q_ix, q_sl, q_isi, q_cmpr, q_es0, q_es1, q_as0, q_as1, q_as2, q_as3, q_o0, q_o1, q_c0, q_c1, q_te, q_tan, q_too, q_tno, q_it, q_itl, q_rng, q_enum, q_ss0, q_ss1, q_set, q_asgt, q_asgf, q_aug, q_dro, q_app, q_rev, q_sti, q_ifs, q_fors, q_whl, q_ret, q_retn, q_brk, q_cnt, q_pas, q_one, q_rai, q_tra, q_xf, q_isx, ty_bn, ty_bb, ty_bi, ty_bs, ty_bt, ty_bl, ty_in, ty_ib, ty_ii, ty_is, ty_it, ty_il, ty_sn, ty_sb, ty_si, ty_ss, ty_st, ty_sl, ty_tn, ty_tb, ty_ti, ty_ts, ty_tt, ty_tl, pio_nil, pio_val, pio_bor, pio_io,
  so_some, so_none, so_guard, so_bind, so_map, sl_z, sl_n, sl_s, tsQ_bl, tsQ_t, tsQ_f, nxQ_nx, nxQ_rt, nxQ_bk, nxQ_ct, lpQ_nx, lpQ_rt, lpQ_bk, lpQ_ct,
  List.set_cons_zero, List.set_cons_succ, List.getElem?_cons_zero, List.getElem?_cons_succ, List.map_cons, List.map_nil, List.length_cons, List.length_nil, List.length_map, List.length_singleton,
  c_non, c_bl, c_int, c_str, c_fn, c_tup', c_lf, c_lr, c_lb, c_nil, c_cons, c_app', c_ints, c_strs, c_dIs, f_non, f_bl, f_int, f_str, f_fn, f_tup, f_lo, f_lf, f_lr, f_nil, f_cons, f_ints, f_strs,
  b_add, b_sub, b_mul, b_fdiv, b_mod, b_pow, b_adds, b_addt, b_addl, b_mulL, b_muls, k_eq, k_ne, k_lt, k_le, k_gt, k_ge, k_in, k_notin, k_is0, k_is1, k_is2, k_is3, k_is4, k_is5, eqD_int, eqD_bl,
  i_lens, i_lent, i_lenl, i_inti, i_intb, i_ints, i_str, i_tupl, i_tupt, i_lisl, i_list, i_abs, i_sum, i_any, i_all, j_max, j_min, n_int, intsOf_map, blsOf_map, t_bl, t_non, t_int, t_tup, t_lst, m_tup, m_lst, m_str, x_tup, x_lst, x_str, at0, at1, at2, at3, at4, at5, at6, atl,
  l_tup, l_lst, l_str, cut_to1, cut_to2, cut_to3, cut_from1, cut_from2, cut_from3, cut_tol, ← List.map_take, ← List.map_drop, List.drop_succ_cons, List.drop_zero, g_nm, g_tu, g_nil, g_cons, w_nil, w_cons, e_split, e_join, cl_int, cl_str, cl_bl, cl_non, cl_nil, cl_cons,
  szl_eq, szlt_eq, Bool.and_eq_true, true_and, and_true, decide_eq_true_eq, decide_eq_false_iff_not, Bool.true_eq_false, Bool.false_eq_true, false_implies, true_implies, forall_const, Option.bind_some, Option.map_some, bne_iff_ne, ne_eq, Bool.not_eq_true', Bool.not_eq_false', reduceCtorEq, not_true_eq_false, not_false_eq_true, List.cons_append, List.nil_append, List.take_succ_cons, List.take_zero, Nat.reduceAdd, Nat.reduceLeDiff, Nat.zero_add, c_mapS, f_mapS, c_mapR, f_mapR, c_encRows, c_standR, c_encRow, cut_map])
theorem cut_toI {α : Type} {xs : List α} {v : Int} (h : 0 ≤ v) : cutL xs none (some v) = xs.take v.toNat := by
  have e := cut_to (xs := xs) v.toNat
  rw [Int.toNat_of_nonneg h] at e
  exact e
theorem cut_fromI {α : Type} {xs : List α} {v : Int} (h : 0 ≤ v) : cutL xs (some v) none = xs.drop v.toNat := by
  have e := cut_from (xs := xs) v.toNat
  rw [Int.toNat_of_nonneg h] at e
  exact e
theorem ix_str {s : Str} {i : Int} (ho : okS s) (hl : s.length ≤ 16777216) (h0 : 0 ≤ i) (h1 : i < s.length) : ∃ u : Str, ixD (.str s) (.int i) = some (.str u) ∧ okS u ∧ u.length = 1 := by
  have h : i.toNat < s.cps.toList.length := by rw [← len_tl']; omega
  refine ⟨⟨#[s.cps.toList[i.toNat]]⟩, ?_, ?_, rfl⟩
  · rw [x_str, if_pos (show szl s.length = true from decide_eq_true hl), at_int h0, List.getElem?_eq_getElem h]
    rfl
  · intro c hc
    have : c = s.cps.toList[i.toNat] := by simpa using hc
    rw [this]
    exact ho _ (List.getElem_mem h)
theorem ix_strs {ls : List Str} {i : Int} (h0 : 0 ≤ i) (h1 : i < ls.length) : ∃ u : Str, u ∈ ls ∧ atI (ls.map D.str) i = some (.str u) := by
  obtain ⟨x, h2, _, h3⟩ := at_map (f := D.str) h0 h1
  exact ⟨x, h2, h3⟩
def SIGNS : Str := " !\"#$&'()*+,-./0123456789:;<=>?@ABCDEFGHIJKLMNOPQRSTUVWXYZ[\\]^_`abcdefghijklmnopqrstuvwxyz{|}~\t"
theorem signs_len : SIGNS.length = 95 := by decide +kernel
theorem signs_ok : okS SIGNS := by decide +kernel
theorem okS_e : okS "" := by decide
theorem len_app (a b : Str) : (a ++ b).length = a.length + b.length := by
  rw [len_tl', len_tl' a, len_tl' b, tl_app, List.length_append]
theorem w_law_one_sign (n wf : Nat) (ds : List Int) (line : Str) (at_ : Int) (ho : okS line) (hl : line.length ≤ 1000000) : SatF (callF Tk.G Tk.defs wf (n + 2) "_law_one_sign" [dr ds, .str line, .int at_]) (fun v fin => ∃ (u : Str) (ds' : List Int), v = .str u ∧ okS u ∧ u.length ≤ 3 * line.length + 3 ∧ fin = [dr ds']) NoF := by
  rw [callF_of find_law_one_sign rfl]
  show SatF (finR [0] (evSs Tk.G (callF Tk.G Tk.defs wf (n + 1)) wf F_law_one_sign [some (dr ds), some (.str line), some (.int at_), none, none])) _ _
  have gt := fun ds m (hm : (0 : Int) < m) => w_law_take n wf ds m hm
  generalize callF Tk.G Tk.defs wf (n + 1) = cf at gt
  unfold F_law_one_sign
  rw [sat_fin]
  refine q_seq (fun r => r = [some (dr ds), some (.str line), some (.int at_), some (.str SIGNS), none]) (by array_get_dec; rfl) ?_
  rintro r rfl
  have hsl := signs_len
  have hso := signs_ok
  generalize SIGNS = S at hsl hso
  refine q_seq (fun r => ∃ (ds : List Int) (u : Str), okS u ∧ u.length ≤ 2 ∧ r = [some (dr ds), some (.str line), some (.int at_), some (.str S), some (.str u)]) ?_ ?_
  · array_get_dec
    refine ⟨by omega, q_callS rfl rfl rfl rfl (gt ds S.length (by omega)) ?_⟩
    rintro v fin ⟨i, ds', rfl, h1, h2, rfl⟩
    obtain ⟨u, e1, e2, e3⟩ := ix_str hso (by omega) h1 h2
    array_get_dec
    rw [x_str] at e1
    refine ⟨by omega, ?_⟩
    rw [if_pos (show szl S.length = true from decide_eq_true (by omega))] at e1
    obtain ⟨c, hc1, hc2⟩ := Option.map_eq_some_iff.mp e1
    rw [hc1]
    array_get_dec
    exact ⟨ds', u, e2, by omega, by rw [← hc2]⟩
  rintro r ⟨ds, u, hu1, hu2, rfl⟩
  refine q_seq (fun r => ∃ (ds : List Int) (u : Str), okS u ∧ u.length ≤ 2 ∧ r = [some (dr ds), some (.str line), some (.int at_), some (.str S), some (.str u)]) ?_ ?_
  · array_get_dec
    refine q_callS rfl rfl rfl rfl (gt ds 2 (by decide)) ?_
    rintro v fin ⟨i, ds', rfl, h1, h2, rfl⟩
    array_get_dec
    refine ⟨fun _ => q_callS rfl rfl rfl rfl (gt ds' 6 (by decide)) ?_, fun _ => ⟨ds', u, hu1, hu2, rfl⟩⟩
    rintro v fin ⟨i, ds', rfl, h1, h2, rfl⟩
    array_get_dec
    obtain ⟨x, hx1, hx2⟩ := ix_strs (ls := ["\t", "-", "0", ",", "\t", "  "]) h1 h2
    refine so_of hx2 ⟨ds', x, ?_, ?_, rfl⟩
    · exact (show ∀ x ∈ [("\t" : Str), "-", "0", ",", "\t", "  "], okS x by decide) x hx1
    · exact (show ∀ x ∈ [("\t" : Str), "-", "0", ",", "\t", "  "], x.length ≤ 2 by decide) x hx1
  rintro r ⟨ds, u, hu1, hu2, rfl⟩
  have c1 := cut_le (s := line) (lo := none) (hi := some at_)
  have c2 := cut_le (s := line) (lo := some (at_ + 1)) (hi := none)
  have c3 : (cutS line (some at_) (some (at_ + 1))).length ≤ line.length := cut_le
  array_get_dec
  refine ⟨by omega, ?_⟩
  refine ⟨by omega, by omega, q_callS rfl rfl rfl rfl (gt ds 3 (by decide)) ?_⟩
  rintro v fin ⟨i, ds', rfl, h1, h2, rfl⟩
  array_get_dec
  obtain ⟨x, hx1, hx2⟩ := ix_strs (ls := [u, "", u ++ cutS line (some at_) (some (at_ + 1))]) h1 h2
  have hxo : okS x := by
    simp only [List.mem_cons, List.not_mem_nil, or_false] at hx1
    rcases hx1 with rfl | rfl | rfl
    · exact hu1
    · exact okS_e
    · exact okS_app hu1 (ok_cut ho _ _)
  have hxl : x.length ≤ line.length + 2 := by
    simp only [List.mem_cons, List.not_mem_nil, or_false] at hx1
    rcases hx1 with rfl | rfl | rfl
    · omega
    · exact Nat.zero_le _
    · rw [len_app]; omega
  refine so_of hx2 ?_
  array_get_dec
  rw [len_app]
  refine ⟨by omega, by omega, by omega, _, ds', rfl, okS_app (okS_app (ok_cut ho _ _) hxo) (ok_cut ho _ _), ?_, rfl⟩
  rw [len_app, len_app]
  omega
/-- texts with signs that may be, at most so long -/
def okL (b : Nat) (ls : List Str) : Prop := ∀ l ∈ ls, okS l ∧ l.length ≤ b
theorem okL.app {b : Nat} {x y : List Str} (hx : okL b x) (hy : okL b y) : okL b (x ++ y) := by
  intro l hl
  rcases List.mem_append.mp hl with h | h
  · exact hx l h
  · exact hy l h
theorem okL.one {b : Nat} {x : Str} (h1 : okS x) (h2 : x.length ≤ b) : okL b [x] := by
  intro l hl
  have : l = x := by simpa using hl
  rw [this]; exact ⟨h1, h2⟩
theorem okL.mono {b c : Nat} {x : List Str} (h : okL b x) (hb : b ≤ c) : okL c x := fun l hl => ⟨(h l hl).1, Nat.le_trans (h l hl).2 hb⟩
theorem okL.take {b : Nat} {x : List Str} (h : okL b x) (n : Nat) : okL b (x.take n) := fun l hl => h l (List.mem_of_mem_take hl)
theorem okL.drop {b : Nat} {x : List Str} (h : okL b x) (n : Nat) : okL b (x.drop n) := fun l hl => h l (List.mem_of_mem_drop hl)
theorem okL.cut {b : Nat} {x : List Str} (h : okL b x) (lo hi : Option Int) : okL b (cutL x lo hi) := fun l hl => h l (cut_sub l hl)
/-- the words of a line make the line -/
theorem spl_sum (s : Nat) : ∀ (l acc : List Nat), ((TL.spl [s] 0 acc l).map List.length).sum + (TL.spl [s] 0 acc l).length = acc.length + l.length + 1
  | [], acc => by
    rw [TL.spl_nil]
    simp
  | c :: r, acc => by
    by_cases h : TL.pre [s] (c :: r) = true
    · rw [TL.spl_hit h]
      have ih := spl_sum s r []
      show ((acc :: TL.spl [s] 0 [] r).map List.length).sum + (acc :: TL.spl [s] 0 [] r).length = _
      rw [List.map_cons, List.sum_cons, List.length_cons]
      simp only [List.length_nil, List.length_cons] at ih ⊢
      omega
    · rw [TL.spl_miss (by simpa using h)]
      have ih := spl_sum s r (acc ++ [c])
      rw [List.length_append, List.length_singleton] at ih
      rw [List.length_cons]
      omega
theorem words_sum (x : Str) : ((Txt.split x " ").map Str.length).sum + (Txt.split x " ").length = x.length + 1 := by
  have e := TL.split_spl x " " (by decide) (TL.kind_ok (by decide +kernel))
  have h := spl_sum 32 x.cps.toList []
  have e : (Txt.split x " ").map TL.tl = TL.spl [32] 0 [] x.cps.toList := e
  rw [← e, List.map_map, List.length_map, ← len_tl'] at h
  have e2 : (List.length ∘ TL.tl) = Str.length := by
    funext s
    exact (len_tl' s).symm
  rw [e2] at h
  simpa using h
theorem sum_take (l : List Str) (n : Nat) : ((l.take n).map Str.length).sum + ((l.drop n).map Str.length).sum = (l.map Str.length).sum := by
  rw [← List.sum_append, ← List.map_append, List.take_append_drop]
theorem sum_drop (l : List Str) (n : Nat) : ((l.drop (n + 1)).map Str.length).sum ≤ ((l.drop n).map Str.length).sum := by
  rw [← List.drop_drop]
  have := sum_take (l.drop n) 1
  omega
theorem join_ok {ys : List Str} (h : ∀ y ∈ ys, okS y) : okS (Txt.join " " ys) := by
  intro c hc
  rcases join_mem _ _ c hc with h1 | ⟨x, hx, h1⟩
  · have : c = 32 := by simpa using (show c ∈ [32] from h1)
    omega
  · exact h x hx c h1
theorem joinl_sp (ys : List Str) : joinLen " " ys = (ys.map Str.length).sum + ys.length := by
  unfold joinLen
  rw [show (" " : Str).length = 1 from rfl, Nat.mul_one]
/-- words put together anew -/
theorem rejoin {line : Str} (w : List Str) (a b : Nat) (hb : a ≤ b) (hb2 : b ≤ a + 1) (c : Nat) (hw : okL c w) (hwl : w.length ≤ 1) (ho : okS line) : okS (Txt.join " " ((Txt.split line " ").take a ++ w ++ (Txt.split line " ").drop b)) ∧ joinLen " " ((Txt.split line " ").take a ++ w ++ (Txt.split line " ").drop b) ≤ line.length + 2 + c := by
  have h := words_sum line
  obtain ⟨hp, _, _⟩ := sp_facts ho
  generalize Txt.split line " " = ws at h hp
  refine ⟨join_ok fun y hy => ?_, ?_⟩
  · rcases List.mem_append.mp hy with hy | hy
    · rcases List.mem_append.mp hy with hy | hy
      · exact (hp y (List.mem_of_mem_take hy)).1
      · exact (hw y hy).1
    · exact (hp y (List.mem_of_mem_drop hy)).1
  · rw [joinl_sp]
    have h1 := sum_take ws a
    have h2 : ((ws.drop b).map Str.length).sum ≤ ((ws.drop a).map Str.length).sum := by
      rcases Nat.lt_or_ge a b with z | z
      · have : b = a + 1 := by omega
        rw [this]; exact sum_drop ws a
      · have : b = a := by omega
        rw [this]; exact Nat.le_refl _
    have h3 : (w.map Str.length).sum ≤ c := by
      match w, hwl with
      | [], _ => exact Nat.zero_le _
      | [x], _ => simpa using (hw x (by simp)).2
    simp only [List.map_append, List.sum_append, List.length_append, List.length_take, List.length_drop]
    omega
def MORE : List Str := ["00", "-0", "07", "+1", "", "x", strRep "1" 61, ("-" : Str) ++ strRep "9" 60, "0", "\t", "-", "1_0", "5", "-07", "-00", "--5", "stand", "rank", "absent", "answer", "pick", "overruns", "picks", "Stand"]
theorem more_ok : ∀ x ∈ MORE, okS x ∧ x.length ≤ 61 := by decide +kernel
theorem replS_mem (y z : List Nat) : ∀ (l : List Nat) (s : Nat), ∀ c ∈ StrLaws.replS y z s l, c ∈ l ∨ c ∈ z
  | [], s, c, h => by
    unfold StrLaws.replS at h
    cases h
  | d :: r, 0, c, h => by
    unfold StrLaws.replS at h
    split at h
    · rcases List.mem_append.mp h with h | h
      · exact .inr h
      · rcases replS_mem y z r _ c h with h | h
        · exact .inl (List.mem_cons_of_mem _ h)
        · exact .inr h
    · rcases List.mem_cons.mp h with rfl | h
      · exact .inl List.mem_cons_self
      · rcases replS_mem y z r _ c h with h | h
        · exact .inl (List.mem_cons_of_mem _ h)
        · exact .inr h
  | d :: r, s + 1, c, h => by
    unfold StrLaws.replS at h
    rcases replS_mem y z r _ c h with h | h
    · exact .inl (List.mem_cons_of_mem _ h)
    · exact .inr h
theorem repl_ok {x y z : Str} (hx : okS x) (hz : okS z) (hy : 1 ≤ y.length) : okS (Txt.replace x y z) := by
  intro c hc
  rw [StrLaws.replace_list hy] at hc
  rcases replS_mem _ _ _ _ c hc with h | h
  · exact hx c h
  · exact hz c h
theorem w_law_bad_line (n wf : Nat) (ds : List Int) (line : Str) (ho : okS line) (hl : line.length ≤ 1000000) : SatF (callF Tk.G Tk.defs wf (n + 2) "_law_bad_line" [dr ds, .str line]) (fun v fin => ∃ (u : Str) (ds' : List Int), v = .str u ∧ okS u ∧ u.length ≤ 3 * line.length + 70 ∧ fin = [dr ds']) NoF := by
  rw [callF_of find_law_bad_line rfl]
  show SatF (finR [0] (evSs Tk.G (callF Tk.G Tk.defs wf (n + 1)) wf F_law_bad_line [some (dr ds), some (.str line), none, none, none, none, none])) _ _
  have gt := fun ds m (hm : (0 : Int) < m) => w_law_take n wf ds m hm
  generalize callF Tk.G Tk.defs wf (n + 1) = cf at gt
  obtain ⟨hp, hp2, _⟩ := sp_facts ho
  have hrj := fun w a b h1 h2 c h3 h4 => rejoin (line := line) w a b h1 h2 c h3 h4 ho
  unfold F_law_bad_line
  rw [sat_fin]
  refine q_seq (fun r => r = [some (dr ds), some (.str line), some (.lst .frz ((Txt.split line " ").map D.str)), none, none, none, none]) ?_ ?_
  · array_get_dec
    exact ⟨by decide, by omega⟩
  rintro r rfl
  generalize Txt.split line " " = ws at hp hp2 hrj
  refine q_seq (fun r => ∃ (ds : List Int) (a : Nat), r = [some (dr ds), some (.str line), some (.lst .frz (ws.map D.str)), some (.int (a : Nat)), none, none, none]) ?_ ?_
  · array_get_dec
    refine q_callS rfl rfl rfl rfl (gt ds (ws.length + 1) (by omega)) ?_
    rintro v fin ⟨i, ds', rfl, h1, h2, rfl⟩
    obtain ⟨a, rfl⟩ := Int.eq_ofNat_of_zero_le h1
    array_get_dec
    exact ⟨ds', a, rfl⟩
  rintro r ⟨ds, a, rfl⟩
  refine q_seq (fun r => r = [some (dr ds), some (.str line), some (.lst .frz (ws.map D.str)), some (.int (a : Nat)), some (.lst .frz ((MORE.take 16).map D.str)), none, none]) ?_ ?_
  · array_get_dec
    exact ⟨by decide +kernel, by decide +kernel, by decide +kernel, rfl⟩
  rintro r rfl
  refine q_seq (fun r => r = [some (dr ds), some (.str line), some (.lst .frz (ws.map D.str)), some (.int (a : Nat)), some (.lst .frz (MORE.map D.str)), none, none]) ?_ ?_
  · array_get_dec
    exact ⟨by decide +kernel, rfl⟩
  rintro r rfl
  have hmo := more_ok
  have hml : MORE.length = 24 := rfl
  generalize MORE = M at hmo hml
  refine q_seq (fun r => ∃ (ds : List Int) (u : Str), okS u ∧ u.length ≤ 61 ∧ r = [some (dr ds), some (.str line), some (.lst .frz (ws.map D.str)), some (.int (a : Nat)), some (.lst .frz (M.map D.str)), some (.str u), none]) ?_ ?_
  · array_get_dec
    refine q_callS rfl rfl rfl rfl (gt ds M.length (by omega)) ?_
    rintro v fin ⟨i, ds', rfl, h1, h2, rfl⟩
    array_get_dec
    obtain ⟨u, hu1, hu2⟩ := ix_strs h1 h2
    obtain ⟨h3, h4⟩ := hmo u hu1
    exact so_of hu2 ⟨ds', u, h3, h4, rfl⟩
  rintro r ⟨ds, u, hu1, hu2, rfl⟩
  have ou : okL 61 [u] := okL.one hu1 hu2
  have o0 : okL 0 [] := fun _ h => by cases h
  obtain ⟨r1, r2⟩ := hrj [] a (a + 1) (by omega) (by omega) 0 o0 (by decide)
  obtain ⟨r3, r4⟩ := hrj [u] a a (by omega) (by omega) 61 ou (by simp)
  obtain ⟨r5, r6⟩ := hrj [u] a (a + 1) (by omega) (by omega) 61 ou (by simp)
  have ha1 : ((a : Int) + 1) = ((a + 1 : Nat) : Int) := by omega
  have hjl := join_len " "
  refine q_seq (fun r => ∃ (ds : List Int) (k : Int), r = [some (dr ds), some (.str line), some (.lst .frz (ws.map D.str)), some (.int (a : Nat)), some (.lst .frz (M.map D.str)), some (.str u), some (.int k)]) ?_ ?_
  · array_get_dec
    refine q_callS rfl rfl rfl rfl (gt ds 6 (by decide)) ?_
    rintro v fin ⟨i, ds', rfl, h1, h2, rfl⟩
    array_get_dec
    exact ⟨ds', i, rfl⟩
  rintro r ⟨ds, k, rfl⟩
  array_get_dec
  rw [ha1, cut_to, cut_from, cut_from]
  have hl1 : (ws.take a).length ≤ ws.length := by rw [List.length_take]; omega
  have hl2 : ∀ b, (ws.drop b).length ≤ ws.length := fun b => by rw [List.length_drop]; omega
  array_get_dec
  refine ⟨fun _ => ?_, fun _ => ⟨fun _ => ?_, fun _ => ⟨fun _ => ?_, fun _ => ?_⟩⟩⟩
  · refine ⟨by have := hl2 (a + 1); omega, ?_⟩
    rw [List.append_nil] at r1 r2
    refine so_of (e_join2 (ys := ws.take a ++ ws.drop (a + 1)) (by rw [List.map_append]) (by omega)) ⟨_, ds, rfl, r1, ?_, rfl⟩
    have := hjl (ws.take a ++ ws.drop (a + 1))
    omega
  · have e1 : (" " : Str).length = 1 := rfl
    have e2 : ("  " : Str).length = 2 := rfl
    have e3 : ("\t" : Str).length = 1 := rfl
    have rl := TK.replace_len line " " "  "
    obtain ⟨x, hx1, hx2⟩ := ix_strs (ls := [(" " : Str) ++ line, line ++ (" " : Str), Txt.replace line " " "  ", "", line ++ ("\t" : Str), line ++ (" " : Str) ++ line]) (i := ((a : Int)).fmod 6) (fmod_rng (by decide)).1 (fmod_rng (by decide)).2
    rw [e1, e2, e3, len_app]
    refine ⟨by omega, by omega, by omega, by omega, by omega, by omega, by decide, so_of hx2 ⟨x, ds, rfl, ?_, ?_, rfl⟩⟩
    · simp only [List.mem_cons, List.not_mem_nil, or_false] at hx1
      have o1 : okS " " := by decide
      have o2 : okS "  " := by decide
      have o3 : okS "\t" := by decide
      rcases hx1 with rfl | rfl | rfl | rfl | rfl | rfl
      · exact okS_app o1 ho
      · exact okS_app ho o1
      · exact repl_ok ho o2 (by decide)
      · exact okS_e
      · exact okS_app ho o3
      · exact okS_app (okS_app ho o1) ho
    · simp only [List.mem_cons, List.not_mem_nil, or_false] at hx1
      rw [e2] at rl
      rcases hx1 with rfl | rfl | rfl | rfl | rfl | rfl
      · rw [len_app, e1]; omega
      · rw [len_app, e1]; omega
      · omega
      · exact Nat.zero_le _
      · rw [len_app, e3]; omega
      · rw [len_app, len_app, e1]; omega
  · have := hl2 a
    refine ⟨by omega, ?_, ?_⟩
    · simp only [List.length_append, List.length_map, List.length_singleton]; omega
    · refine so_of (e_join2 (ys := ws.take a ++ [u] ++ ws.drop a) (by rw [List.map_append, List.map_append]; rfl) (by omega)) ⟨_, ds, rfl, r3, ?_, rfl⟩
      have := hjl (ws.take a ++ [u] ++ ws.drop a)
      omega
  · have := hl2 (a + 1)
    refine ⟨by omega, ?_, ?_⟩
    · simp only [List.length_append, List.length_map, List.length_singleton]; omega
    · refine so_of (e_join2 (ys := ws.take a ++ [u] ++ ws.drop (a + 1)) (by rw [List.map_append, List.map_append]; rfl) (by omega)) ⟨_, ds, rfl, r5, ?_, rfl⟩
      have := hjl (ws.take a ++ [u] ++ ws.drop (a + 1))
      omega
end K96
set_option maxRecDepth 100000
set_option maxHeartbeats 4000000
namespace K96
open PySem PySem.Spec PyProof.Rows L2 PI
local macro_rules | `(tactic| array_get_dec) => `(tactic| try simp only [sat_ok, sat_bad, sat_exc, sat_fin, retQ_rt0, retQ_nx0, retQ_rt1, retQ_nx1, finE0, finE1, q_k, q_gl, q_s, q_cp, q_mv, q_vf, q_fz, q_tup, q_lst, q_bin, q_neg, q_cmp, q_chn, q_andv, q_orv, q_notv, q_ife, q_cal, q_cav, q_bi, q_bj, q_me, q_rpl, q_pop, q_ix, q_sl, q_isi, q_cmpr, q_es0, q_es1, q_as0, q_as1, q_as2, q_as3, q_o0, q_o1, q_c0, q_c1, q_te, q_tan, q_too, q_tno, q_it, q_itl, q_rng, q_enum, q_ss0, q_ss1, q_set, q_asgt, q_asgf, q_aug, q_dro, q_app, q_rev, q_sti, q_ifs, q_fors, q_whl, q_ret, q_retn, q_brk, q_cnt, q_pas, q_one, q_rai, q_tra, q_xf, q_isx, ty_bn, ty_bb, ty_bi, ty_bs, ty_bt, ty_bl, ty_in, ty_ib, ty_ii, ty_is, ty_it, ty_il, ty_sn, ty_sb, ty_si, ty_ss, ty_st, ty_sl, ty_tn, ty_tb, ty_ti, ty_ts, ty_tt, ty_tl, pio_nil, pio_val, pio_bor, pio_io,
  so_some, so_none, so_guard, so_bind, so_map, sl_z, sl_n, sl_s, tsQ_bl, tsQ_t, tsQ_f, nxQ_nx, nxQ_rt, nxQ_bk, nxQ_ct, lpQ_nx, lpQ_rt, lpQ_bk, lpQ_ct,
  List.set_cons_zero, List.set_cons_succ, List.getElem?_cons_zero, List.getElem?_cons_succ, List.map_cons, List.map_nil, List.length_cons, List.length_nil, List.length_map, List.length_singleton,
  c_non, c_bl, c_int, c_str, c_fn, c_tup', c_lf, c_lr, c_lb, c_nil, c_cons, c_app', c_ints, c_strs, c_dIs, f_non, f_bl, f_int, f_str, f_fn, f_tup, f_lo, f_lf, f_lr, f_nil, f_cons, f_ints, f_strs,
  b_add, b_sub, b_mul, b_fdiv, b_mod, b_pow, b_adds, b_addt, b_addl, b_mulL, b_muls, k_eq, k_ne, k_lt, k_le, k_gt, k_ge, k_in, k_notin, k_is0, k_is1, k_is2, k_is3, k_is4, k_is5, eqD_int, eqD_bl,
  i_lens, i_lent, i_lenl, i_inti, i_intb, i_ints, i_str, i_tupl, i_tupt, i_lisl, i_list, i_abs, i_sum, i_any, i_all, j_max, j_min, n_int, intsOf_map, blsOf_map, t_bl, t_non, t_int, t_tup, t_lst, m_tup, m_lst, m_str, x_tup, x_lst, x_str, at0, at1, at2, at3, at4, at5, at6, atl,
  l_tup, l_lst, l_str, cut_to1, cut_to2, cut_to3, cut_from1, cut_from2, cut_from3, cut_tol, ← List.map_take, ← List.map_drop, List.drop_succ_cons, List.drop_zero, g_nm, g_tu, g_nil, g_cons, w_nil, w_cons, e_split, e_join, cl_int, cl_str, cl_bl, cl_non, cl_nil, cl_cons,
  szl_eq, szlt_eq, Bool.and_eq_true, true_and, and_true, decide_eq_true_eq, decide_eq_false_iff_not, Bool.true_eq_false, Bool.false_eq_true, false_implies, true_implies, forall_const, Option.bind_some, Option.map_some, bne_iff_ne, ne_eq, Bool.not_eq_true', Bool.not_eq_false', reduceCtorEq, not_true_eq_false, not_false_eq_true])
local macro_rules | `(tactic| array_get_dec) => `(tactic| try simp only [sat_ok, sat_bad, sat_exc, sat_fin, retQ_rt0, retQ_nx0, retQ_rt1, retQ_nx1, finE0, finE1, q_k, q_gl, q_s, q_cp, q_mv, q_vf, q_fz, q_tup, q_lst, q_bin, q_neg, q_cmp, q_chn, q_andv, q_orv, q_notv, q_ife, q_cal, q_cav, q_bi, q_bj, q_me, q_rpl, q_pop, q_ix, q_sl, q_isi, q_cmpr, q_es0, q_es1, q_as0, q_as1, q_as2, q_as3, q_o0, q_o1, q_c0, q_c1, q_te, q_tan, q_too, q_tno, q_it, q_itl, q_rng, q_enum, q_ss0, q_ss1, q_set, q_asgt, q_asgf, q_aug, q_dro, q_app, q_rev, q_sti, q_ifs, q_fors, q_whl, q_ret, q_retn, q_brk, q_cnt, q_pas, q_one, q_rai, q_tra, q_xf, q_isx, ty_bn, ty_bb, ty_bi, ty_bs, ty_bt, ty_bl, ty_in, ty_ib, ty_ii, ty_is, ty_it, ty_il, ty_sn, ty_sb, ty_si, ty_ss, ty_st, ty_sl, ty_tn, ty_tb, ty_ti, ty_ts, ty_tt, ty_tl, pio_nil, pio_val, pio_bor, pio_io,
  so_some, so_none, so_guard, so_bind, so_map, sl_z, sl_n, sl_s, tsQ_bl, tsQ_t, tsQ_f, nxQ_nx, nxQ_rt, nxQ_bk, nxQ_ct, lpQ_nx, lpQ_rt, lpQ_bk, lpQ_ct,
  List.set_cons_zero, List.set_cons_succ, List.getElem?_cons_zero, List.getElem?_cons_succ, List.map_cons, List.map_nil, List.length_cons, List.length_nil, List.length_map, List.length_singleton,
  c_non, c_bl, c_int, c_str, c_fn, c_tup', c_lf, c_lr, c_lb, c_nil, c_cons, c_app', c_ints, c_strs, c_dIs, f_non, f_bl, f_int, f_str, f_fn, f_tup, f_lo, f_lf, f_lr, f_nil, f_cons, f_ints, f_strs,
  b_add, b_sub, b_mul, b_fdiv, b_mod, b_pow, b_adds, b_addt, b_addl, b_mulL, b_muls, k_eq, k_ne, k_lt, k_le, k_gt, k_ge, k_in, k_notin, k_is0, k_is1, k_is2, k_is3, k_is4, k_is5, eqD_int, eqD_bl,
  i_lens, i_lent, i_lenl, i_inti, i_intb, i_ints, i_str, i_tupl, i_tupt, i_lisl, i_list, i_abs, i_sum, i_any, i_all, j_max, j_min, n_int, intsOf_map, blsOf_map, t_bl, t_non, t_int, t_tup, t_lst, m_tup, m_lst, m_str, x_tup, x_lst, x_str, at0, at1, at2, at3, at4, at5, at6, atl,
  l_tup, l_lst, l_str, cut_to1, cut_to2, cut_to3, cut_from1, cut_from2, cut_from3, cut_tol, ← List.map_take, ← List.map_drop, List.drop_succ_cons, List.drop_zero, g_nm, g_tu, g_nil, g_cons, w_nil, w_cons, e_split, e_join, cl_int, cl_str, cl_bl, cl_non, cl_nil, cl_cons,
  szl_eq, szlt_eq, Bool.and_eq_true, true_and, and_true, decide_eq_true_eq, decide_eq_false_iff_not, Bool.true_eq_false, Bool.false_eq_true, false_implies, true_implies, forall_const, Option.bind_some, Option.map_some, bne_iff_ne, ne_eq, Bool.not_eq_true', Bool.not_eq_false', reduceCtorEq, not_true_eq_false, not_false_eq_true, List.cons_append, List.nil_append, List.take_succ_cons, List.take_zero, Nat.reduceAdd, Nat.reduceLeDiff, Nat.zero_add, c_mapS, f_mapS, c_mapR, f_mapR, c_encRows, c_standR, c_encRow, cut_map])
theorem w_law_changed (n wf : Nat) (ds : List Int) (ls : List Str) (b : Nat) (ho : okL b ls) (hb : b ≤ 1000000) (hl : ls.length ≤ 1000) : SatF (callF Tk.G Tk.defs wf (n + 3) "_law_changed" [dr ds, .lst .frz (ls.map D.str)]) (fun v fin => ∃ (ms : List Str) (ds' : List Int), v = .lst .own (ms.map D.str) ∧ okL (3 * b + 70) ms ∧ ms.length ≤ ls.length + 1 ∧ fin = [dr ds']) NoF := by
  rw [callF_of find_law_changed rfl]
  show SatF (finR [0] (evSs Tk.G (callF Tk.G Tk.defs wf (n + 2)) wf F_law_changed [some (dr ds), some (.lst .frz (ls.map D.str)), none, none, none])) _ _
  have gt := fun ds m (hm : (0 : Int) < m) => w_law_take (n + 1) wf ds m hm
  have gb := fun ds line h1 h2 => w_law_bad_line n wf ds line h1 h2
  generalize callF Tk.G Tk.defs wf (n + 2) = cf at gt gb
  unfold F_law_changed
  rw [sat_fin]
  refine q_seq (fun r => ∃ (ds : List Int) (a : Nat), a ≤ ls.length ∧ r = [some (dr ds), some (.lst .frz (ls.map D.str)), some (.int (a : Nat)), none, none]) ?_ ?_
  · array_get_dec
    refine q_callS rfl rfl rfl rfl (gt ds (ls.length + 1) (by omega)) ?_
    rintro v fin ⟨i, ds', rfl, h1, h2, rfl⟩
    obtain ⟨a, rfl⟩ := Int.eq_ofNat_of_zero_le h1
    array_get_dec
    exact ⟨ds', a, by omega, rfl⟩
  rintro r ⟨ds, a, ha, rfl⟩
  refine q_seq (fun r => ∃ (ds : List Int) (k : Int), r = [some (dr ds), some (.lst .frz (ls.map D.str)), some (.int (a : Nat)), some (.int k), none]) ?_ ?_
  · array_get_dec
    refine q_callS rfl rfl rfl rfl (gt ds 7 (by decide)) ?_
    rintro v fin ⟨i, ds', rfl, h1, h2, rfl⟩
    array_get_dec
    exact ⟨ds', i, rfl⟩
  rintro r ⟨ds, k, rfl⟩
  have ha1 : ((a : Int) + 1) = ((a + 1 : Nat) : Int) := by omega
  have hob := ho.mono (show b ≤ 3 * b + 70 by omega)
  array_get_dec
  rw [ha1, cut_to, cut_from, cut_from]
  have l1 : (ls.take a).length ≤ a := by rw [List.length_take]; omega
  have l2 : (ls.drop a).length = ls.length - a := by rw [List.length_drop]
  have l3 : (ls.drop (a + 1)).length = ls.length - (a + 1) := by rw [List.length_drop]
  array_get_dec
  refine ⟨fun h => ?_, fun h => ⟨fun _ => ?_, fun _ => ⟨fun _ => ?_, fun _ => ?_⟩⟩⟩
  · obtain ⟨u, hu1, hu2⟩ := ix_strs (ls := ["", "stand", "stand 0 0 0", "absent pick overruns", "stand 0 0 0 rank 1 absent"]) (i := k.fmod 5) (fmod_rng (by decide)).1 (fmod_rng (by decide)).2
    refine ⟨by decide, so_of hu2 ?_⟩
    have hx := (show ∀ x ∈ [("" : Str), "stand", "stand 0 0 0", "absent pick overruns", "stand 0 0 0 rank 1 absent"], okS x ∧ x.length ≤ 70 by decide +kernel) u hu1
    array_get_dec
    exact ⟨by omega, ls ++ [u], ds, by rw [List.map_append]; rfl, hob.app (okL.one hx.1 (by omega)), by rw [List.length_append, List.length_singleton]; exact Nat.le_refl _, rfl⟩
  · exact ⟨by omega, ls.take a ++ ls.drop (a + 1), ds, by rw [List.map_append], (hob.take a).app (hob.drop (a + 1)), by rw [List.length_append]; omega, rfl⟩
  · obtain ⟨x, rest, e⟩ : ∃ x rest, ls = x :: rest := by
      cases ls with
      | nil => simp at ha; simp [ha] at h
      | cons x l => exact ⟨x, l, rfl⟩
    have e0 : (ls.map D.str)[0]? = some (.str x) := by rw [e]; rfl
    have hx := hob x (by rw [e]; simp)
    rw [e0]
    array_get_dec
    refine ⟨by omega, ?_, ls.take a ++ [x] ++ ls.drop a, ds, by rw [List.map_append, List.map_append]; rfl, ((hob.take a).app (okL.one hx.1 hx.2)).app (hob.drop a), ?_, rfl⟩
    · simp only [List.length_append, List.length_map, List.length_singleton]; omega
    · simp only [List.length_append, List.length_singleton]; omega
  · have hlt : a < ls.length := by omega
    obtain ⟨x, hx1, hx2⟩ := ix_strs (ls := ls) (i := (a : Nat)) (by omega) (by omega)
    have hx := ho x hx1
    rw [hx2]
    array_get_dec
    refine q_callS rfl rfl rfl rfl (gb ds x hx.1 (by omega)) ?_
    rintro v fin ⟨u, ds', rfl, h1, h2, rfl⟩
    array_get_dec
    rw [ha1, cut_from]
    array_get_dec
    refine ⟨by omega, ?_, ls.take a ++ [u] ++ ls.drop (a + 1), ds', by rw [List.map_append, List.map_append]; rfl, ((hob.take a).app (okL.one h1 (by omega))).app (hob.drop (a + 1)), ?_, rfl⟩
    · simp only [List.length_append, List.length_map, List.length_singleton]; omega
    · simp only [List.length_append, List.length_singleton]; omega
theorem w_law_signed (n wf : Nat) (ds : List Int) (ls : List Str) (b : Nat) (ho : okL b ls) (hb : b ≤ 1000000) (hl : ls.length ≤ 1000) (hne : ls ≠ []) : SatF (callF Tk.G Tk.defs wf (n + 3) "_law_signed" [dr ds, .lst .frz (ls.map D.str)]) (fun v fin => ∃ (ms : List Str) (ds' : List Int), v = .lst .own (ms.map D.str) ∧ okL (3 * b + 3) ms ∧ ms.length ≤ ls.length + 1 ∧ fin = [dr ds']) NoF := by
  rw [callF_of find_law_signed rfl]
  show SatF (finR [0] (evSs Tk.G (callF Tk.G Tk.defs wf (n + 2)) wf F_law_signed [some (dr ds), some (.lst .frz (ls.map D.str)), none, none, none, none])) _ _
  have gt := fun ds m (hm : (0 : Int) < m) => w_law_take (n + 1) wf ds m hm
  have gb := fun ds line at_ h1 h2 => w_law_one_sign n wf ds line at_ h1 h2
  generalize callF Tk.G Tk.defs wf (n + 2) = cf at gt gb
  have hpos : 0 < ls.length := List.length_pos_iff.mpr hne
  unfold F_law_signed
  rw [sat_fin]
  refine q_seq (fun r => ∃ (ds : List Int) (a : Nat), a < ls.length ∧ r = [some (dr ds), some (.lst .frz (ls.map D.str)), some (.int (a : Nat)), none, none, none]) ?_ ?_
  · array_get_dec
    refine q_callS rfl rfl rfl rfl (gt ds ls.length (by omega)) ?_
    rintro v fin ⟨i, ds', rfl, h1, h2, rfl⟩
    obtain ⟨a, rfl⟩ := Int.eq_ofNat_of_zero_le h1
    array_get_dec
    exact ⟨ds', a, by omega, rfl⟩
  rintro r ⟨ds, a, ha, rfl⟩
  obtain ⟨x, hx1, hx2⟩ := ix_strs (ls := ls) (i := (a : Nat)) (by omega) (by omega)
  have hx := ho x hx1
  obtain ⟨hp, hp2, hp3⟩ := sp_facts hx.1
  have hws := words_sum x
  refine q_seq (fun r => r = [some (dr ds), some (.lst .frz (ls.map D.str)), some (.int (a : Nat)), some (.lst .frz ((Txt.split x " ").map D.str)), none, none]) ?_ ?_
  · array_get_dec
    rw [hx2]
    array_get_dec
    exact ⟨by decide, by omega⟩
  rintro r rfl
  generalize Txt.split x " " = ws at hp hp2 hp3 hws
  have hwpos : 0 < ws.length := List.length_pos_iff.mpr hp3
  refine q_seq (fun r => ∃ (ds : List Int) (i j : Int), r = [some (dr ds), some (.lst .frz (ls.map D.str)), some (.int (a : Nat)), some (.lst .frz (ws.map D.str)), some (.lst .frz [.int i, .int j]), none]) ?_ ?_
  · array_get_dec
    refine q_callS rfl rfl rfl rfl (gt ds ws.length (by omega)) ?_
    rintro v fin ⟨i, ds', rfl, h1, h2, rfl⟩
    array_get_dec
    have hcl := cut_len (xs := ws) (lo := none) (hi := some (1 + i))
    have hsm : ∀ y ∈ cutL ws none (some (1 + i)), y.length ≤ x.length := fun y hy => (hp y (cut_sub y hy)).2
    have hj : joinLen " " (cutL ws none (some (1 + i))) ≤ 2 * x.length + 2 := by
      rw [joinl_sp, cut_toI (by omega)]
      have := sum_take ws (1 + i).toNat
      have : (ws.take (1 + i).toNat).length ≤ ws.length := by rw [List.length_take]; omega
      omega
    have hjl := join_len " " (cutL ws none (some (1 + i)))
    refine ⟨by omega, by omega, ?_⟩
    rw [hx2]
    array_get_dec
    refine ⟨by omega, q_callS rfl rfl rfl rfl (gt ds' (x.length + 1) (by omega)) ?_⟩
    rintro v fin ⟨j, ds2, rfl, h3, h4, rfl⟩
    array_get_dec
    exact ⟨ds2, _, j, rfl⟩
  rintro r ⟨ds, i, j, rfl⟩
  have ha1 : ((a : Int) + 1) = ((a + 1 : Nat) : Int) := by omega
  have hob := ho.mono (show b ≤ 3 * b + 3 by omega)
  have l1 : (ls.take a).length ≤ a := by rw [List.length_take]; omega
  have l3 : (ls.drop (a + 1)).length = ls.length - (a + 1) := by rw [List.length_drop]
  array_get_dec
  rw [hx2]
  array_get_dec
  refine q_callS rfl rfl rfl rfl (gt ds 2 (by decide)) ?_
  rintro v fin ⟨q, ds2, rfl, h3, h4, rfl⟩
  array_get_dec
  obtain ⟨p, _, hp2⟩ := at_map (f := D.int) (xs := [i, j]) h3 h4
  refine so_of hp2.2 ?_
  refine q_callS rfl rfl rfl rfl (gb ds2 x p hx.1 (by omega)) ?_
  rintro v fin ⟨u, ds3, rfl, h5, h6, rfl⟩
  array_get_dec
  rw [ha1, cut_to, cut_from]
  array_get_dec
  refine ⟨by omega, ?_, ls.take a ++ [u] ++ ls.drop (a + 1), ds3, by rw [List.map_append, List.map_append]; rfl, ((hob.take a).app (okL.one h5 (by omega))).app (hob.drop (a + 1)), ?_, rfl⟩
  · simp only [List.length_append, List.length_map, List.length_singleton]; omega
  · simp only [List.length_append, List.length_singleton]; omega
theorem w_law_written_by (n wf k : Nat) (hk : k < 3) (rows : List Row) (h : ∀ w ∈ rows, RowOk k w) (hl : rows.length ≤ 800) : callF Tk.G Tk.defs wf (n + 4) "_law_written_by" [.int (k : Nat), .tup (rows.map (encRow k))] = .ret (.str (textR k rows)) [] := by
  refine SatF.eq ?_
  rw [callF_of find_law_written_by rfl]
  show SatF (finR [] (evSs Tk.G (callF Tk.G Tk.defs wf (n + 3)) wf F_law_written_by [some (.int (k : Nat)), some (.tup (rows.map (encRow k)))])) _ _
  have g0 := fun h => w_write_holding n wf rows h hl
  have g1 := fun h => w_write_falling n wf rows h hl
  have g2 := fun h => w_write_course n wf rows h hl
  generalize callF Tk.G Tk.defs wf (n + 3) = cf at g0 g1 g2
  unfold F_law_written_by
  array_get_dec
  obtain rfl | rfl | rfl : k = 0 ∨ k = 1 ∨ k = 2 := by omega
  · exact ⟨fun _ => q_callE rfl rfl rfl rfl (g0 h) rfl rfl, fun h => absurd rfl h⟩
  · exact ⟨fun h => absurd h (by decide), fun _ => ⟨fun _ => q_callE rfl rfl rfl rfl (g1 h) rfl rfl, fun h => absurd rfl h⟩⟩
  · exact ⟨fun h => absurd h (by decide), fun _ => ⟨fun h => absurd h (by decide), fun _ => q_callE rfl rfl rfl rfl (g2 h) rfl rfl⟩⟩
end K96
set_option maxRecDepth 100000
set_option maxHeartbeats 4000000
namespace K96
open PySem PySem.Spec PyProof.Rows L2 PI
local macro_rules | `(tactic| array_get_dec) => `(tactic| try simp only [sat_ok, sat_bad, sat_exc, sat_fin, retQ_rt0, retQ_nx0, retQ_rt1, retQ_nx1, finE0, finE1, q_k, q_gl, q_s, q_cp, q_mv, q_vf, q_fz, q_tup, q_lst, q_bin, q_neg, q_cmp, q_chn, q_andv, q_orv, q_notv, q_ife, q_cal, q_cav, q_bi, q_bj, q_me, q_rpl, q_pop, q_ix, q_sl, q_isi, q_cmpr, q_es0, q_es1, q_as0, q_as1, q_as2, q_as3, q_o0, q_o1, q_c0, q_c1, q_te, q_tan, q_too, q_tno, q_it, q_itl, q_rng, q_enum, q_ss0, q_ss1, q_set, q_asgt, q_asgf, q_aug, q_dro, q_app, q_rev, q_sti, q_ifs, q_fors, q_whl, q_ret, q_retn, q_brk, q_cnt, q_pas, q_one, q_rai, q_tra, q_xf, q_isx, ty_bn, ty_bb, ty_bi, ty_bs, ty_bt, ty_bl, ty_in, ty_ib, ty_ii, ty_is, ty_it, ty_il, ty_sn, ty_sb, ty_si, ty_ss, ty_st, ty_sl, ty_tn, ty_tb, ty_ti, ty_ts, ty_tt, ty_tl, pio_nil, pio_val, pio_bor, pio_io,
  so_some, so_none, so_guard, so_bind, so_map, sl_z, sl_n, sl_s, tsQ_bl, tsQ_t, tsQ_f, nxQ_nx, nxQ_rt, nxQ_bk, nxQ_ct, lpQ_nx, lpQ_rt, lpQ_bk, lpQ_ct,
  List.set_cons_zero, List.set_cons_succ, List.getElem?_cons_zero, List.getElem?_cons_succ, List.map_cons, List.map_nil, List.length_cons, List.length_nil, List.length_map, List.length_singleton,
  c_non, c_bl, c_int, c_str, c_fn, c_tup', c_lf, c_lr, c_lb, c_nil, c_cons, c_app', c_ints, c_strs, c_dIs, f_non, f_bl, f_int, f_str, f_fn, f_tup, f_lo, f_lf, f_lr, f_nil, f_cons, f_ints, f_strs,
  b_add, b_sub, b_mul, b_fdiv, b_mod, b_pow, b_adds, b_addt, b_addl, b_mulL, b_muls, k_eq, k_ne, k_lt, k_le, k_gt, k_ge, k_in, k_notin, k_is0, k_is1, k_is2, k_is3, k_is4, k_is5, eqD_int, eqD_bl,
  i_lens, i_lent, i_lenl, i_inti, i_intb, i_ints, i_str, i_tupl, i_tupt, i_lisl, i_list, i_abs, i_sum, i_any, i_all, j_max, j_min, n_int, intsOf_map, blsOf_map, t_bl, t_non, t_int, t_tup, t_lst, m_tup, m_lst, m_str, x_tup, x_lst, x_str, at0, at1, at2, at3, at4, at5, at6, atl,
  l_tup, l_lst, l_str, cut_to1, cut_to2, cut_to3, cut_from1, cut_from2, cut_from3, cut_tol, ← List.map_take, ← List.map_drop, List.drop_succ_cons, List.drop_zero, g_nm, g_tu, g_nil, g_cons, w_nil, w_cons, e_split, e_join, cl_int, cl_str, cl_bl, cl_non, cl_nil, cl_cons,
  szl_eq, szlt_eq, Bool.and_eq_true, true_and, and_true, decide_eq_true_eq, decide_eq_false_iff_not, Bool.true_eq_false, Bool.false_eq_true, false_implies, true_implies, forall_const, Option.bind_some, Option.map_some, bne_iff_ne, ne_eq, Bool.not_eq_true', Bool.not_eq_false', reduceCtorEq, not_true_eq_false, not_false_eq_true])
local macro_rules | `(tactic| array_get_dec) => `(tactic| try simp only [sat_ok, sat_bad, sat_exc, sat_fin, retQ_rt0, retQ_nx0, retQ_rt1, retQ_nx1, finE0, finE1, q_k, q_gl, q_s, q_cp, q_mv, q_vf, q_fz, q_tup, q_lst, q_bin, q_neg, q_cmp, q_chn, q_andv, q_orv, q_notv, q_ife, q_cal, q_cav, q_bi, q_bj, q_me, q_rpl, q_pop, q_ix, q_sl, q_isi, q_cmpr, q_es0, q_es1, q_as0, q_as1, q_as2, q_as3, q_o0, q_o1, q_c0, q_c1, q_te, q_tan, q_too, q_tno, q_it, q_itl, q_rng, q_enum, q_ss0, q_ss1, q_set, q_asgt, q_asgf, q_aug, q_dro, q_app, q_rev, q_sti, q_ifs, q_fors, q_whl, q_ret, q_retn, q_brk, q_cnt, q_pas, q_one, q_rai, q_tra, q_xf, q_isx, ty_bn, ty_bb, ty_bi, ty_bs, ty_bt, ty_bl, ty_in, ty_ib, ty_ii, ty_is, ty_it, ty_il, ty_sn, ty_sb, ty_si, ty_ss, ty_st, ty_sl, ty_tn, ty_tb, ty_ti, ty_ts, ty_tt, ty_tl, pio_nil, pio_val, pio_bor, pio_io,
  so_some, so_none, so_guard, so_bind, so_map, sl_z, sl_n, sl_s, tsQ_bl, tsQ_t, tsQ_f, nxQ_nx, nxQ_rt, nxQ_bk, nxQ_ct, lpQ_nx, lpQ_rt, lpQ_bk, lpQ_ct,
  List.set_cons_zero, List.set_cons_succ, List.getElem?_cons_zero, List.getElem?_cons_succ, List.map_cons, List.map_nil, List.length_cons, List.length_nil, List.length_map, List.length_singleton,
  c_non, c_bl, c_int, c_str, c_fn, c_tup', c_lf, c_lr, c_lb, c_nil, c_cons, c_app', c_ints, c_strs, c_dIs, f_non, f_bl, f_int, f_str, f_fn, f_tup, f_lo, f_lf, f_lr, f_nil, f_cons, f_ints, f_strs,
  b_add, b_sub, b_mul, b_fdiv, b_mod, b_pow, b_adds, b_addt, b_addl, b_mulL, b_muls, k_eq, k_ne, k_lt, k_le, k_gt, k_ge, k_in, k_notin, k_is0, k_is1, k_is2, k_is3, k_is4, k_is5, eqD_int, eqD_bl,
  i_lens, i_lent, i_lenl, i_inti, i_intb, i_ints, i_str, i_tupl, i_tupt, i_lisl, i_list, i_abs, i_sum, i_any, i_all, j_max, j_min, n_int, intsOf_map, blsOf_map, t_bl, t_non, t_int, t_tup, t_lst, m_tup, m_lst, m_str, x_tup, x_lst, x_str, at0, at1, at2, at3, at4, at5, at6, atl,
  l_tup, l_lst, l_str, cut_to1, cut_to2, cut_to3, cut_from1, cut_from2, cut_from3, cut_tol, ← List.map_take, ← List.map_drop, List.drop_succ_cons, List.drop_zero, g_nm, g_tu, g_nil, g_cons, w_nil, w_cons, e_split, e_join, cl_int, cl_str, cl_bl, cl_non, cl_nil, cl_cons,
  szl_eq, szlt_eq, Bool.and_eq_true, true_and, and_true, decide_eq_true_eq, decide_eq_false_iff_not, Bool.true_eq_false, Bool.false_eq_true, false_implies, true_implies, forall_const, Option.bind_some, Option.map_some, bne_iff_ne, ne_eq, Bool.not_eq_true', Bool.not_eq_false', reduceCtorEq, not_true_eq_false, not_false_eq_true, List.cons_append, List.nil_append, List.take_succ_cons, List.take_zero, Nat.reduceAdd, Nat.reduceLeDiff, Nat.zero_add, c_mapS, f_mapS, c_mapR, f_mapR, c_encRows, c_standR, c_encRow, cut_map])
/-! ### what is read is plain -/
theorem pl_int (n : Nat) (i : Int) : plD (n + 1) (.int i) := trivial
theorem pl_tup {n : Nat} {ds : List D} (h1 : ds.length ≤ 16777216) (h2 : copyables ds = true) (h3 : ∀ x ∈ ds, plD n x) : plD (n + 1) (.tup ds) := ⟨h1, h2, h3⟩
theorem pl_dI (n : Nat) {ns : List Int} (h : ns.length ≤ 16777216) : plD (n + 2) (dI ns) := pl_tup (by rw [List.length_map]; exact h) c_ints fun x hx => by
  obtain ⟨i, _, rfl⟩ := List.mem_map.mp hx
  exact pl_int n i
theorem secL_nlen (B : Nat) : ∀ (ws : List Str) (acc s : List Sec), (∀ x ∈ acc, x.2.length + ws.length ≤ B) → ws.length ≤ B → secL acc ws = some s → ∀ x ∈ s, x.2.length ≤ B
  | [], acc, s, h, _, e => by
    cases e
    intro x hx
    exact h x hx
  | w :: ws, acc, s, h, hb, e => by
    unfold secL at e
    rw [List.length_cons] at hb
    split at e
    · split at e
      · cases e
      · rename_i hne
        refine secL_nlen B ws _ s (fun x hx => ?_) (by omega) e
        rw [addLast_eq hne] at hx
        rcases List.mem_append.mp hx with hx | hx
        · have := h x (List.dropLast_subset _ hx)
          rw [List.length_cons] at this
          omega
        · have e2 : x = ((acc.getLast hne).1, (acc.getLast hne).2 ++ [val w]) := by simpa using hx
          have := h (acc.getLast hne) (List.getLast_mem hne)
          rw [List.length_cons] at this
          rw [e2, List.length_append, List.length_singleton]
          omega
    · refine secL_nlen B ws _ s (fun x hx => ?_) (by omega) e
      rcases List.mem_append.mp hx with hx | hx
      · have := h x hx
        rw [List.length_cons] at this
        omega
      · have e2 : x = (w, []) := by simpa using hx
        rw [e2, List.length_nil]
        omega
theorem pl_stand (n : Nat) {ns : List Int} (h : ns.length ≤ 16000000) : plD (n + 3) (standD ns) := by
  refine pl_tup ?_ ?_ ?_
  · rw [List.length_append, List.length_map, List.length_take, List.length_singleton]; omega
  · rw [PI.c_app', c_ints]
    exact c_list1 _ (copy_dI _)
  · intro x hx
    rcases List.mem_append.mp hx with hx | hx
    · obtain ⟨i, _, rfl⟩ := List.mem_map.mp hx
      exact pl_int (n + 1) i
    · have : x = dI (ns.drop 3) := by simpa using hx
      rw [this]
      exact pl_dI n (by rw [List.length_drop]; omega)
theorem pl_sec2s (n : Nat) {l : List Sec} (h : l.length ≤ 16000000) (h2 : ∀ x ∈ l, x.2.length ≤ 16000000) : plD (n + 3) (.tup (l.map sec2)) := by
  refine pl_tup (by rw [List.length_map]; omega) (c_sec2s l) fun x hx => ?_
  obtain ⟨s, hs, rfl⟩ := List.mem_map.mp hx
  exact pl_dI n (by have := h2 s hs; omega)
theorem pl_rowD (n k : Nat) {s : List Sec} {d : D} (h : s.length ≤ 16000000) (h2 : ∀ x ∈ s, x.2.length ≤ 16000000) (e : rowD k s = some d) : plD (n + 4) d := by
  obtain ⟨ds, rfl, hc⟩ := rowD_tup e
  unfold rowD at e
  split at e
  · split at e
    · rename_i a l _
      cases e
      refine pl_tup (by simp) hc fun x hx => ?_
      simp only [List.mem_cons, List.not_mem_nil, or_false] at hx
      rw [List.length_cons] at h
      rcases hx with rfl | rfl
      · exact pl_stand n (h2 a (by simp))
      · exact pl_sec2s n (by omega) fun x hx => h2 x (by simp [hx])
    · cases e
  · split at e
    · rename_i a b c l _
      cases e
      refine pl_tup (by simp) hc fun x hx => ?_
      simp only [List.mem_cons, List.not_mem_nil, or_false] at hx
      simp only [List.length_cons] at h
      rcases hx with rfl | rfl | rfl | rfl
      · exact pl_stand n (h2 a (by simp))
      · exact pl_int (n + 2) _
      · exact pl_dI (n + 1) (by have := h2 c (by simp); omega)
      · exact pl_sec2s n (by omega) fun x hx => h2 x (by simp [hx])
    · cases e
  · rename_i a b c
    cases e
    refine pl_tup (by simp) hc fun x hx => ?_
    simp only [List.mem_cons, List.not_mem_nil, or_false] at hx
    rcases hx with rfl | rfl | rfl
    · exact pl_dI (n + 1) (by have := h2 a (by simp); omega)
    · exact pl_dI (n + 1) (by have := h2 b (by simp); omega)
    · exact pl_dI (n + 1) (by have := h2 c (by simp); omega)
  · cases e
theorem pl_rowOf (n k : Nat) {l : Str} {d : D} (ho : okS l) (hl : l.length ≤ 15000000) (e : rowOf k l = some d) : plD (n + 4) d := by
  unfold rowOf at e
  obtain ⟨h1, h2, h3⟩ := sp_facts ho
  cases e2 : secL [] (Txt.split l " ") with
  | none => rw [e2] at e; cases e
  | some s =>
    rw [e2] at e
    have e : rowS k s = some d := e
    unfold rowS at e
    split at e
    · have h4 := (secL_ok (P := fun _ => True) _ _ s (fun _ _ => trivial) (fun _ _ => trivial) e2).2
      rw [List.length_nil] at h4
      exact pl_rowD n k (by omega) (secL_nlen 16000000 _ [] s (fun x hx => by cases hx) (by omega) e2) e
    · cases e
theorem pl_rdL (n k : Nat) : ∀ (ls : List Str) (i : Nat) (ds : List D), (∀ l ∈ ls, okS l ∧ l.length ≤ 15000000) → rdL k ls i = .inr ds → ∀ d ∈ ds, plD (n + 4) d
  | [], _, _, _, e => by cases e; intro d hd; cases hd
  | l :: ls, i, ds, h, e => by
    unfold rdL at e
    split at e
    · cases e
    · rename_i d0 e0
      split at e
      · cases e
      · rename_i es e2
        cases e
        intro d hd
        rcases List.mem_cons.mp hd with rfl | hd
        · exact pl_rowOf n k (h l List.mem_cons_self).1 (h l List.mem_cons_self).2 e0
        · exact pl_rdL n k ls (i + 1) es (fun x hx => h x (List.mem_cons_of_mem _ hx)) e2 d hd
theorem pl_rdT (n k : Nat) {t : Str} (ho : okS t) (hl : t.length ≤ 15000000) : plD (n + 6) (rdT (rd k t)) := by
  obtain ⟨h1, h2, h3⟩ := nl_facts ho
  obtain ⟨ps, last, hp⟩ : ∃ ps last, Txt.split t "\n" = ps ++ [last] := ⟨_, _, (List.dropLast_concat_getLast h3).symm⟩
  rw [rd_of hp]
  rw [hp] at h1 h2
  rw [List.length_append, List.length_singleton] at h2
  have hj : ∀ j : Nat, plD (n + 6) (.tup [.int (j : Nat), .int 1]) := fun j => pl_tup (by simp) rfl fun x hx => by
    simp only [List.mem_cons, List.not_mem_nil, or_false] at hx
    rcases hx with rfl | rfl
    · exact pl_int (n + 4) _
    · exact pl_int (n + 4) _
  cases e : rdL k ps 0 with
  | inl j => exact hj j
  | inr ds =>
    show plD (n + 6) (rdT (if last = "" then _ else _))
    split
    · obtain ⟨h4, h5⟩ := rdL_copy k ps 0 ds e
      refine pl_tup (by simp) ?_ fun x hx => ?_
      · show (true && (copyables ds && true)) = true
        rw [h4]; rfl
      · simp only [List.mem_cons, List.not_mem_nil, or_false] at hx
        rcases hx with rfl | rfl
        · show okS "read"
          decide
        · exact pl_tup (by omega) h4 (pl_rdL n k ps 0 ds (fun l hl2 => by
            have := h1 l (List.mem_append_left _ hl2)
            exact ⟨this.1, by omega⟩) e)
    · exact hj _
end K96
set_option maxRecDepth 100000
set_option maxHeartbeats 4000000
namespace K96
open PySem PySem.Spec PyProof.Rows L2 PI
local macro_rules | `(tactic| array_get_dec) => `(tactic| try simp only [sat_ok, sat_bad, sat_exc, sat_fin, retQ_rt0, retQ_nx0, retQ_rt1, retQ_nx1, finE0, finE1, q_k, q_gl, q_s, q_cp, q_mv, q_vf, q_fz, q_tup, q_lst, q_bin, q_neg, q_cmp, q_chn, q_andv, q_orv, q_notv, q_ife, q_cal, q_cav, q_bi, q_bj, q_me, q_rpl, q_pop, q_ix, q_sl, q_isi, q_cmpr, q_es0, q_es1, q_as0, q_as1, q_as2, q_as3, q_o0, q_o1, q_c0, q_c1, q_te, q_tan, q_too, q_tno, q_it, q_itl, q_rng, q_enum, q_ss0, q_ss1, q_set, q_asgt, q_asgf, q_aug, q_dro, q_app, q_rev, q_sti, q_ifs, q_fors, q_whl, q_ret, q_retn, q_brk, q_cnt, q_pas, q_one, q_rai, q_tra, q_xf, q_isx, ty_bn, ty_bb, ty_bi, ty_bs, ty_bt, ty_bl, ty_in, ty_ib, ty_ii, ty_is, ty_it, ty_il, ty_sn, ty_sb, ty_si, ty_ss, ty_st, ty_sl, ty_tn, ty_tb, ty_ti, ty_ts, ty_tt, ty_tl, pio_nil, pio_val, pio_bor, pio_io,
  so_some, so_none, so_guard, so_bind, so_map, sl_z, sl_n, sl_s, tsQ_bl, tsQ_t, tsQ_f, nxQ_nx, nxQ_rt, nxQ_bk, nxQ_ct, lpQ_nx, lpQ_rt, lpQ_bk, lpQ_ct,
  List.set_cons_zero, List.set_cons_succ, List.getElem?_cons_zero, List.getElem?_cons_succ, List.map_cons, List.map_nil, List.length_cons, List.length_nil, List.length_map, List.length_singleton,
  c_non, c_bl, c_int, c_str, c_fn, c_tup', c_lf, c_lr, c_lb, c_nil, c_cons, c_app', c_ints, c_strs, c_dIs, f_non, f_bl, f_int, f_str, f_fn, f_tup, f_lo, f_lf, f_lr, f_nil, f_cons, f_ints, f_strs,
  b_add, b_sub, b_mul, b_fdiv, b_mod, b_pow, b_adds, b_addt, b_addl, b_mulL, b_muls, k_eq, k_ne, k_lt, k_le, k_gt, k_ge, k_in, k_notin, k_is0, k_is1, k_is2, k_is3, k_is4, k_is5, eqD_int, eqD_bl,
  i_lens, i_lent, i_lenl, i_inti, i_intb, i_ints, i_str, i_tupl, i_tupt, i_lisl, i_list, i_abs, i_sum, i_any, i_all, j_max, j_min, n_int, intsOf_map, blsOf_map, t_bl, t_non, t_int, t_tup, t_lst, m_tup, m_lst, m_str, x_tup, x_lst, x_str, at0, at1, at2, at3, at4, at5, at6, atl,
  l_tup, l_lst, l_str, cut_to1, cut_to2, cut_to3, cut_from1, cut_from2, cut_from3, cut_tol, ← List.map_take, ← List.map_drop, List.drop_succ_cons, List.drop_zero, g_nm, g_tu, g_nil, g_cons, w_nil, w_cons, e_split, e_join, cl_int, cl_str, cl_bl, cl_non, cl_nil, cl_cons,
  szl_eq, szlt_eq, Bool.and_eq_true, true_and, and_true, decide_eq_true_eq, decide_eq_false_iff_not, Bool.true_eq_false, Bool.false_eq_true, false_implies, true_implies, forall_const, Option.bind_some, Option.map_some, bne_iff_ne, ne_eq, Bool.not_eq_true', Bool.not_eq_false', reduceCtorEq, not_true_eq_false, not_false_eq_true])
local macro_rules | `(tactic| array_get_dec) => `(tactic| try simp only [sat_ok, sat_bad, sat_exc, sat_fin, retQ_rt0, retQ_nx0, retQ_rt1, retQ_nx1, finE0, finE1, q_k, q_gl, q_s, q_cp, q_mv, q_vf, q_fz, q_tup, q_lst, q_bin, q_neg, q_cmp, q_chn, q_andv, q_orv, q_notv, q_ife, q_cal, q_cav, q_bi, q_bj, q_me, q_rpl, q_pop, q_ix, q_sl, q_isi, q_cmpr, q_es0, q_es1, q_as0, q_as1, q_as2, q_as3, q_o0, q_o1, q_c0, q_c1, q_te, q_tan, q_too, q_tno, q_it, q_itl, q_rng, q_enum, q_ss0, q_ss1, q_set, q_asgt, q_asgf, q_aug, q_dro, q_app, q_rev, q_sti, q_ifs, q_fors, q_whl, q_ret, q_retn, q_brk, q_cnt, q_pas, q_one, q_rai, q_tra, q_xf, q_isx, ty_bn, ty_bb, ty_bi, ty_bs, ty_bt, ty_bl, ty_in, ty_ib, ty_ii, ty_is, ty_it, ty_il, ty_sn, ty_sb, ty_si, ty_ss, ty_st, ty_sl, ty_tn, ty_tb, ty_ti, ty_ts, ty_tt, ty_tl, pio_nil, pio_val, pio_bor, pio_io,
  so_some, so_none, so_guard, so_bind, so_map, sl_z, sl_n, sl_s, tsQ_bl, tsQ_t, tsQ_f, nxQ_nx, nxQ_rt, nxQ_bk, nxQ_ct, lpQ_nx, lpQ_rt, lpQ_bk, lpQ_ct,
  List.set_cons_zero, List.set_cons_succ, List.getElem?_cons_zero, List.getElem?_cons_succ, List.map_cons, List.map_nil, List.length_cons, List.length_nil, List.length_map, List.length_singleton,
  c_non, c_bl, c_int, c_str, c_fn, c_tup', c_lf, c_lr, c_lb, c_nil, c_cons, c_app', c_ints, c_strs, c_dIs, f_non, f_bl, f_int, f_str, f_fn, f_tup, f_lo, f_lf, f_lr, f_nil, f_cons, f_ints, f_strs,
  b_add, b_sub, b_mul, b_fdiv, b_mod, b_pow, b_adds, b_addt, b_addl, b_mulL, b_muls, k_eq, k_ne, k_lt, k_le, k_gt, k_ge, k_in, k_notin, k_is0, k_is1, k_is2, k_is3, k_is4, k_is5, eqD_int, eqD_bl,
  i_lens, i_lent, i_lenl, i_inti, i_intb, i_ints, i_str, i_tupl, i_tupt, i_lisl, i_list, i_abs, i_sum, i_any, i_all, j_max, j_min, n_int, intsOf_map, blsOf_map, t_bl, t_non, t_int, t_tup, t_lst, m_tup, m_lst, m_str, x_tup, x_lst, x_str, at0, at1, at2, at3, at4, at5, at6, atl,
  l_tup, l_lst, l_str, cut_to1, cut_to2, cut_to3, cut_from1, cut_from2, cut_from3, cut_tol, ← List.map_take, ← List.map_drop, List.drop_succ_cons, List.drop_zero, g_nm, g_tu, g_nil, g_cons, w_nil, w_cons, e_split, e_join, cl_int, cl_str, cl_bl, cl_non, cl_nil, cl_cons,
  szl_eq, szlt_eq, Bool.and_eq_true, true_and, and_true, decide_eq_true_eq, decide_eq_false_iff_not, Bool.true_eq_false, Bool.false_eq_true, false_implies, true_implies, forall_const, Option.bind_some, Option.map_some, bne_iff_ne, ne_eq, Bool.not_eq_true', Bool.not_eq_false', reduceCtorEq, not_true_eq_false, not_false_eq_true, List.cons_append, List.nil_append, List.take_succ_cons, List.take_zero, Nat.reduceAdd, Nat.reduceLeDiff, Nat.zero_add, c_mapS, f_mapS, c_mapR, f_mapR, c_encRows, c_standR, c_encRow, cut_map])
/-! ### the law -/
/-- a text that may be read -/
def okT (t : Str) : Prop := okS t ∧ t.length ≤ 14000000
structure Facts (cf : Str → List D → FR) (ns : List Int) : Prop where
  draws : SatF (cf "_law_draws" [scD ns, .int 460]) (fun v fin => ∃ ds, v = dr ds ∧ fin = []) NoF
  take : ∀ ds m, (0 : Int) < m → SatF (cf "_law_take" [dr ds, .int m]) (fun v fin => ∃ i ds', v = .int i ∧ 0 ≤ i ∧ i < m ∧ fin = [dr ds']) NoF
  row : ∀ ds (k : Nat), k < 3 → SatF (cf "_law_row" [scD ns, dr ds, .int (k : Nat)]) (fun v fin => ∃ (w : Row) (ds' : List Int), v = encRow k w ∧ RowOk k w ∧ fin = [dr ds']) NoF
  long : ∀ ds (k : Nat), k < 3 → SatF (cf "_law_long_row" [dr ds, .int (k : Nat)]) (fun v fin => ∃ (w : Row) (ds' : List Int), v = encRow k w ∧ RowOk k w ∧ fin = [dr ds']) NoF
  line : ∀ (k : Nat) (w : Row), k < 3 → RowOk k w → cf "_law_line" [.int (k : Nat), encRow k w] = .ret (.str (lineOf k w)) []
  wr : ∀ (k : Nat) (rows : List Row), k < 3 → (∀ w ∈ rows, RowOk k w) → rows.length ≤ 800 → cf "_law_written_by" [.int (k : Nat), .tup (rows.map (encRow k))] = .ret (.str (textR k rows)) []
  told : ∀ (k : Nat) (t : Str), k < 3 → okT t → cf "_law_told" [.int (k : Nat), .str t] = .ret (rdT (rd k t)) []
  read : ∀ (k : Nat) (t : Str), k < 3 → okT t → cf "_law_read" [.int (k : Nat), .str t] = .ret (rdT (rd k t)) []
  same : ∀ d, plD 6 d → cf "_law_same" [d, d] = .ret (.bl true) []
  chg : ∀ ds (ls : List Str) (b : Nat), okL b ls → b ≤ 1000000 → ls.length ≤ 1000 → SatF (cf "_law_changed" [dr ds, .lst .frz (ls.map D.str)]) (fun v fin => ∃ (ms : List Str) (ds' : List Int), v = .lst .own (ms.map D.str) ∧ okL (3 * b + 70) ms ∧ ms.length ≤ ls.length + 1 ∧ fin = [dr ds']) NoF
  sig : ∀ ds (ls : List Str) (b : Nat), okL b ls → b ≤ 1000000 → ls.length ≤ 1000 → ls ≠ [] → SatF (cf "_law_signed" [dr ds, .lst .frz (ls.map D.str)]) (fun v fin => ∃ (ms : List Str) (ds' : List Int), v = .lst .own (ms.map D.str) ∧ okL (3 * b + 3) ms ∧ ms.length ≤ ls.length + 1 ∧ fin = [dr ds']) NoF
theorem facts (n wf : Nat) (ns : List Int) (hl : ns.length ≤ 63) (hw : 60 < wf) : Facts (callF Tk.G Tk.defs wf (n + 10)) ns where
  draws := w_law_draws (n + 9) wf ns hl 460 (by decide)
  take := fun ds m hm => w_law_take (n + 9) wf ds m hm
  row := fun ds k hk => w_law_row (n + 5) wf ns ds k hk
  long := fun ds k hk => w_law_long_row (n + 8) wf ds k hk
  line := fun k w hk h => w_law_line (n + 8) wf k hk w h
  wr := fun k rows hk h h2 => w_law_written_by (n + 6) wf k hk rows h h2
  told := fun k t hk h => w_law_told (n + 3) wf k hk t (by have := h.2; omega) h.1 hw
  read := fun k t hk h => w_law_read (n + 6) wf k hk t (by have := h.2; omega) h.1
  same := fun d h => w_law_same wf 6 (n + 4) d h
  chg := fun ds ls b h1 h2 h3 => w_law_changed (n + 7) wf ds ls b h1 h2 h3
  sig := fun ds ls b h1 h2 h3 h4 => w_law_signed (n + 7) wf ds ls b h1 h2 h3 h4
/-- told and read are the same -/
theorem same_loop (cf : Str → List D → FR) (ns : List Int) (F : Facts cf ns) (wf : Nat) (k : Nat) (hk : k < 3) (t : Str) (ht : okT t) (Q : D → Rho → Prop) (E : Ex) (r : Rho) (hq : Q (.bl true) r) : Sat (callR Tk.G cf "_law_same" [.val (rdT (rd k t)), .val (rdT (rd k t))] r) Q E := by
  refine q_callE rfl rfl rfl rfl (F.same _ ?_) rfl hq
  exact pl_rdT 0 k ht.1 (by have := ht.2; omega)
theorem flat_map {α β : Type} (f : α → β) (n : Nat) (l : List α) : (List.replicate n (l.map f)).flatten = ((List.replicate n l).flatten).map f := by
  rw [List.map_flatten, List.map_replicate]
theorem flat_lenN {α : Type} (n : Nat) (l : List α) : ((List.replicate n l).flatten).length = n * l.length := by
  rw [List.length_flatten, List.map_replicate, List.sum_replicate_nat]
theorem flat_memN {α : Type} {n : Nat} {l : List α} {x : α} (h : x ∈ (List.replicate n l).flatten) : x ∈ l := by
  obtain ⟨m, h1, h2⟩ := List.mem_flatten.mp h
  rw [List.eq_of_mem_replicate h1] at h2
  exact h2
theorem intsOf_f {α : Type} (f : α → Int) (l : List α) : intsOf (l.map fun x => D.int (f x)) = some (l.map f) := by
  have e := intsOf_map (l.map f)
  rw [List.map_map] at e
  exact e
theorem c_mapI {α : Type} (f : α → Int) (l : List α) : copyables (l.map fun x => D.int (f x)) = true := c_map (f := fun x => D.int (f x)) (fun _ => rfl) l
theorem textR_ok {k : Nat} {rows : List Row} (h : ∀ w ∈ rows, RowOk k w) (hl : rows.length ≤ 72) : okS (textR k rows) ∧ (textR k rows).length ≤ 1400000 := by
  have hf : ∀ l ∈ rows.map (lineOf k), okS l ∧ l.length ≤ 18900 := fun l hl2 => by
    obtain ⟨w, hw, rfl⟩ := List.mem_map.mp hl2
    exact ⟨(line_facts (h w hw)).1, (line_facts (h w hw)).2.2⟩
  refine ⟨textL_ok fun l hl2 => (hf l hl2).1, ?_⟩
  have := textL_len (ls := rows.map (lineOf k)) (b := 18900) fun l hl2 => (hf l hl2).2
  rw [List.length_map] at this
  unfold textR
  omega
theorem lines_ok {k : Nat} {rows : List Row} (h : ∀ w ∈ rows, RowOk k w) : okL 18900 (rows.map (lineOf k)) := fun l hl2 => by
  obtain ⟨w, hw, rfl⟩ := List.mem_map.mp hl2
  exact ⟨(line_facts (h w hw)).1, (line_facts (h w hw)).2.2⟩
theorem w_law (n wf : Nat) (ns : List Int) (hl : ns.length ≤ 63) (hw : 60 < wf) : callF Tk.G Tk.defs wf (n + 11) "law" [scD ns] = .ret (.bl true) [] := by
  refine SatF.eq ?_
  rw [callF_of find_law rfl]
  show SatF (finR [] (evSs Tk.G (callF Tk.G Tk.defs wf (n + 10)) wf F_law [some (scD ns), none, none, none, none, none, none, none, none, none, none, none, none, none, none, none, none])) _ _
  have F := facts n wf ns hl hw
  generalize callF Tk.G Tk.defs wf (n + 10) = cf at F
  unfold F_law
  rw [sat_fin]
  -- draws, drawn, kind
  refine q_seq (fun r => ∃ ds, r = [some (scD ns), some (dr ds), none, none, none, none, none, none, none, none, none, none, none, none, none, none, none]) ?_ ?_
  · array_get_dec
    refine q_callS rfl rfl rfl rfl F.draws ?_
    rintro v fin ⟨ds, rfl, rfl⟩
    array_get_dec
    exact ⟨ds, rfl⟩
  rintro r ⟨d1, rfl⟩
  refine q_seq (fun r => ∃ ds, r = [some (scD ns), some (dr d1), some (dr ds), none, none, none, none, none, none, none, none, none, none, none, none, none, none]) ?_ ?_
  · unfold dr
    array_get_dec
    exact ⟨_, rfl⟩
  rintro r ⟨d2, rfl⟩
  refine q_seq (fun r => ∃ (ds : List Int) (k : Nat), k < 3 ∧ r = [some (scD ns), some (dr d1), some (dr ds), some (.int (k : Nat)), none, none, none, none, none, none, none, none, none, none, none, none, none]) ?_ ?_
  · array_get_dec
    refine q_callS rfl rfl rfl rfl (F.take d2 3 (by decide)) ?_
    rintro v fin ⟨i, ds', rfl, h1, h2, rfl⟩
    obtain ⟨k, rfl⟩ := Int.eq_ofNat_of_zero_le h1
    array_get_dec
    exact ⟨ds', k, by omega, rfl⟩
  rintro r ⟨d2, k, hk, rfl⟩
  -- rows
  refine q_seq (fun r => ∃ (e1 e2 : List Int) (rows : List Row), rows.length ≤ 5 ∧ (∀ w ∈ rows, RowOk k w) ∧ r = [some (scD ns), some (dr e1), some (dr e2), some (.int (k : Nat)), some (.lst .own (rows.map (encRow k))), none, none, none, none, none, none, none, none, none, none, none, none]) ?_ ?_
  · unfold C_law_7
    array_get_dec
    refine q_callS rfl rfl rfl rfl (F.take d2 6 (by decide)) ?_
    rintro v fin ⟨i, ds', rfl, h1, h2, rfl⟩
    array_get_dec
    refine ⟨by omega, ?_⟩
    refine q_turns (fun xs acc r => ∃ (rows : List Row) (e1 : List Int), acc = rows.map (encRow k) ∧ rows.length + xs.length ≤ 5 ∧ (∀ w ∈ rows, RowOk k w) ∧ r = [some (scD ns), some (dr e1), some (dr ds'), some (.int (k : Nat)), none, none, none, none, none, none, none, none, none, none, none, none, none]) ?_ ?_ _ _ _ ⟨[], d1, rfl, by simp; omega, (by intro w hw; cases hw), rfl⟩
    · rintro x xs acc r ⟨rows, e1, rfl, h3, h4, rfl⟩
      rw [List.length_cons] at h3
      array_get_dec
      refine q_callS rfl rfl rfl rfl (F.row e1 k hk) ?_
      rintro v fin ⟨w, e2, rfl, h5, rfl⟩
      array_get_dec
      refine ⟨by omega, rows ++ [w], e2, by rw [List.map_append]; rfl, by rw [List.length_append, List.length_singleton]; omega, ?_, rfl⟩
      intro x hx
      rcases List.mem_append.mp hx with hx | hx
      · exact h4 x hx
      · have : x = w := by simpa using hx
        rw [this]; exact h5
    · rintro acc r ⟨rows, e1, rfl, h3, h4, rfl⟩
      array_get_dec
      exact ⟨e1, ds', rows, by simpa using h3, h4, rfl⟩
  rintro r ⟨d1, d2, rows, hr1, hr2, rfl⟩
  refine q_seq (fun r => ∃ (e1 e2 : List Int) (rows : List Row), rows.length ≤ 6 ∧ (∀ w ∈ rows, RowOk k w) ∧ r = [some (scD ns), some (dr e1), some (dr e2), some (.int (k : Nat)), some (.lst .own (rows.map (encRow k))), none, none, none, none, none, none, none, none, none, none, none, none]) ?_ ?_
  · array_get_dec
    refine q_callS rfl rfl rfl rfl (F.take d2 6 (by decide)) ?_
    rintro v fin ⟨i, ds', rfl, h1, h2, rfl⟩
    array_get_dec
    refine ⟨fun _ => q_callS rfl rfl rfl rfl (F.long ds' k hk) ?_, fun _ => ⟨d1, ds', rows, by omega, hr2, rfl⟩⟩
    rintro v fin ⟨w, e2, rfl, h5, rfl⟩
    array_get_dec
    refine ⟨by omega, d1, e2, rows ++ [w], by rw [List.length_append, List.length_singleton]; omega, ?_, by rw [List.map_append]; rfl⟩
    intro x hx
    rcases List.mem_append.mp hx with hx | hx
    · exact hr2 x hx
    · have : x = w := by simpa using hx
      rw [this]; exact h5
  clear hr1 hr2
  rintro r ⟨d1, d2, rows, hr1, hr2, rfl⟩
  refine q_seq (fun r => r = [some (scD ns), some (dr d1), some (dr d2), some (.int (k : Nat)), some (.lst .frz (rows.map (encRow k))), some (.lst .frz ((rows.map (lineOf k)).map D.str)), none, none, none, none, none, none, none, none, none, none, none]) ?_ ?_
  · unfold C_law_6
    array_get_dec
    rw [fzs_copy _ (c_encRows k rows)]
    array_get_dec
    refine q_mapL (encRow k) (fun w => .str (lineOf k w)) rows (by omega) ?_ ?_
    · intro w hw
      array_get_dec
      refine q_callE rfl rfl rfl rfl (F.line k w hk (hr2 w hw)) rfl ?_
      array_get_dec
    · array_get_dec
      rw [List.map_map]
      rfl
  rintro r rfl
  refine q_seq (fun r => ∃ (m : Md) (e2 : List Int) (rows : List Row), (m = .frz ∨ m = .own) ∧ rows.length ≤ 72 ∧ (∀ w ∈ rows, RowOk k w) ∧ r = [some (scD ns), some (dr d1), some (dr e2), some (.int (k : Nat)), some (.lst m (rows.map (encRow k))), some (.lst .frz ((rows.map (lineOf k)).map D.str)), none, none, none, none, none, none, none, none, none, none, none]) ?_ ?_
  · unfold C_law_5
    array_get_dec
    refine q_callS rfl rfl rfl rfl (F.take d2 6 (by decide)) ?_
    rintro v fin ⟨i, d2, rfl, h1, h2, rfl⟩
    array_get_dec
    refine ⟨fun _ => ?_, fun _ => ⟨.frz, d2, rows, .inl rfl, by omega, hr2, rfl⟩⟩
    refine q_mapL D.str (fun l => .int (l.length : Nat)) (rows.map (lineOf k)) (by rw [List.length_map]; omega) ?_ ?_
    · intro l hl2
      obtain ⟨w, hw, rfl⟩ := List.mem_map.mp hl2
      have := (line_facts (hr2 w hw)).2.2
      array_get_dec
      omega
    · rw [intsOf_f (fun l : Str => (l.length : Int))]
      array_get_dec
      have e12 : (12 : Int).toNat = 12 := rfl
      refine ⟨fun _ => ?_, fun _ => ⟨.frz, d2, rows, .inl rfl, by omega, hr2, rfl⟩⟩
      rw [e12]
      refine ⟨⟨by decide, by omega⟩, ⟨by decide, by omega⟩, .own, d2, (List.replicate 12 rows).flatten, .inr rfl, by rw [flat_lenN]; omega, fun w hw => hr2 w (flat_memN hw), ?_⟩
      rw [flat_map, flat_map, flat_map, f_strs]
  clear hr1 hr2
  rintro r ⟨m, d2, rows, hm, hr1, hr2, rfl⟩
  have hmo : copyables (rows.map (encRow k)) = true := c_encRows k rows
  obtain ⟨ht1, ht2⟩ := textR_ok hr2 hr1
  have hto : okT (textR k rows) := ⟨ht1, by omega⟩
  have hlo := lines_ok hr2
  have hll : (rows.map (lineOf k)).length ≤ 72 := by rw [List.length_map]; exact hr1
  have hlr : (rows.map (lineOf k)).length = 0 ↔ rows.length = 0 := by rw [List.length_map]
  have hrb := rd_back hk hr2
  refine q_seq (fun r => r = [some (scD ns), some (dr d1), some (dr d2), some (.int (k : Nat)), some (.lst m (rows.map (encRow k))), some (.lst .frz ((rows.map (lineOf k)).map D.str)), some (.str (textR k rows)), none, none, none, none, none, none, none, none, none, none]) ?_ ?_
  · unfold C_law_4
    array_get_dec
    refine q_mapL D.str (fun l => .str (nlS l)) (rows.map (lineOf k)) (by omega) ?_ ?_
    · intro l hl2
      have := (hlo l hl2).2
      array_get_dec
      refine ⟨?_, rfl⟩
      rw [show ("\n" : Str).length = 1 from rfl]
      omega
    · have hj := textL_joinl (ls := rows.map (lineOf k)) (b := 18900) fun l hl2 => (hlo l hl2).2
      refine so_of (e_join2 (a := "") (ys := (rows.map (lineOf k)).map nlS) ?_ (by omega)) ?_
      · rw [List.map_map, List.map_map, List.map_map]
        rfl
      · array_get_dec
        rfl
  rintro r rfl
  refine q_seq (fun r => r = [some (scD ns), some (dr d1), some (dr d2), some (.int (k : Nat)), some (.lst m (rows.map (encRow k))), some (.lst .frz ((rows.map (lineOf k)).map D.str)), some (.str (textR k rows)), none, none, none, none, none, none, none, none, none, none]) ?_ ?_
  · array_get_dec
    refine q_callE rfl rfl rfl rfl (F.wr k rows hk hr2 (by omega)) rfl ?_
    array_get_dec
    refine q_callE rfl rfl rfl rfl (F.same _ (show plD 6 (.str (textR k rows)) from ht1)) rfl ?_
    array_get_dec
  rintro r rfl
  refine q_seq (fun r => r = [some (scD ns), some (dr d1), some (dr d2), some (.int (k : Nat)), some (.lst m (rows.map (encRow k))), some (.lst .frz ((rows.map (lineOf k)).map D.str)), some (.str (textR k rows)), none, none, none, none, none, none, none, none, none, none]) ?_ ?_
  · array_get_dec
    refine q_callE rfl rfl rfl rfl (F.told k _ hk hto) rfl ?_
    array_get_dec
    have e : D.tup [.str "read", .tup (rows.map (encRow k))] = rdT (rd k (textR k rows)) := by rw [hrb]; rfl
    rw [e]
    refine same_loop cf ns F wf k hk _ hto _ _ _ ?_
    array_get_dec
  rintro r rfl
  generalize textR k rows = T at ht1 ht2 hto hrb
  generalize rows.map (lineOf k) = L at hlo hll hlr
  refine q_seq (fun r => ∃ (d2 : List Int) (m1 : List Str), okL 56770 m1 ∧ m1.length ≤ 73 ∧ r = [some (scD ns), some (dr d1), some (dr d2), some (.int (k : Nat)), some (.lst m (rows.map (encRow k))), some (.lst .frz (L.map D.str)), some (.str T), some (strsD m1), none, none, none, none, none, none, none, none, none]) ?_ ?_
  · array_get_dec
    refine q_callS rfl rfl rfl rfl (F.chg d2 L 18900 hlo (by decide) (by omega)) ?_
    rintro v fin ⟨ms, d2, rfl, h1, h2, rfl⟩
    array_get_dec
    exact ⟨d2, ms, h1, by omega, rfl⟩
  rintro r ⟨d2, m1, g1, g2, rfl⟩
  refine q_seq (fun r => ∃ (d2 : List Int) (m2 : List Str), okL 170380 m2 ∧ m2.length ≤ 74 ∧ r = [some (scD ns), some (dr d1), some (dr d2), some (.int (k : Nat)), some (.lst m (rows.map (encRow k))), some (.lst .frz (L.map D.str)), some (.str T), some (strsD m1), some (strsD m2), none, none, none, none, none, none, none, none]) ?_ ?_
  · unfold strsD
    array_get_dec
    refine q_callS rfl rfl rfl rfl (F.chg d2 m1 56770 g1 (by decide) (by omega)) ?_
    rintro v fin ⟨ms, d2, rfl, h1, h2, rfl⟩
    array_get_dec
    exact ⟨d2, ms, h1, by omega, rfl⟩
  rintro r ⟨d2, m2, g3, g4, rfl⟩
  refine q_seq (fun r => ∃ (d2 : List Int) (m3 : List Str), okL 56770 m3 ∧ m3.length ≤ 74 ∧ r = [some (scD ns), some (dr d1), some (dr d2), some (.int (k : Nat)), some (.lst m (rows.map (encRow k))), some (.lst .frz (L.map D.str)), some (.str T), some (strsD m1), some (strsD m2), some (strsD m3), none, none, none, none, none, none, none]) ?_ ?_
  · have hx : ∀ b : Bool, (List.replicate (if b = true then (1 : Int) else 0).toNat [D.str "stand 0 0 0"]).flatten = (if b = true then [("stand 0 0 0" : Str)] else []).map D.str := fun b => by cases b <;> rfl
    obtain ⟨L2, e2, n2, o2, l2⟩ : ∃ L2 : List Str, L.map D.str ++ (List.replicate (if decide ((L.length : Int) = 0) = true then (1 : Int) else 0).toNat [D.str "stand 0 0 0"]).flatten = L2.map D.str ∧ L2 ≠ [] ∧ okL 18900 L2 ∧ L2.length ≤ 73 := by
      rw [hx]
      refine ⟨L ++ (if decide ((L.length : Int) = 0) = true then [("stand 0 0 0" : Str)] else []), by rw [List.map_append], ?_, ?_, ?_⟩
      · by_cases h0 : (L.length : Int) = 0
        · rw [decide_eq_true h0, if_pos rfl]; simp
        · intro z
          have := congrArg List.length z
          rw [List.length_append, List.length_nil] at this
          omega
      · refine hlo.app ?_
        split
        · exact okL.one (by decide) (by decide)
        · intro x hx; cases hx
      · rw [List.length_append]
        split
        · simp only [List.length_singleton]; omega
        · simp only [List.length_nil]; omega
    have hrep : (List.replicate (if decide ((L.length : Int) = 0) = true then (1 : Int) else 0).toNat [D.str "stand 0 0 0"]).flatten.length ≤ 1 := by
      rw [hx]
      split <;> simp
    have hcp : copyables (List.replicate (if decide ((L.length : Int) = 0) = true then (1 : Int) else 0).toNat [D.str "stand 0 0 0"]).flatten = true := by
      rw [hx]
      exact c_strs
    have hb : -(2 ^ 63) ≤ (if decide ((L.length : Int) = 0) = true then (1 : Int) else 0) ∧ (if decide ((L.length : Int) = 0) = true then (1 : Int) else 0) < 2 ^ 63 := by split <;> decide
    have hz : (if decide ((L.length : Int) = 0) = true then (1 : Int) else 0).toNat ≤ 1 := by split <;> decide
    generalize hq : (if decide ((L.length : Int) = 0) = true then (1 : Int) else 0) = q at e2 hrep hcp hb hz
    have hq2 : (if (L.length : Int) = 0 then (1 : Int) else 0) = q := by
      rw [← hq]
      simp
    array_get_dec
    rw [hq2, e2]
    array_get_dec
    refine ⟨⟨hb, by omega⟩, ⟨by omega, hcp⟩, q_callS rfl rfl rfl rfl (F.sig d2 L2 18900 o2 (by decide) (by omega) n2) ?_⟩
    rintro v fin ⟨ms, d2, rfl, h1, h2, rfl⟩
    array_get_dec
    exact ⟨d2, ms, h1.mono (by decide), by omega, rfl⟩
  rintro r ⟨d2, m3, g5, g6, rfl⟩
  have okm : ∀ (ms : List Str) (b : Nat), okL b ms → ms.length * (b + 1) ≤ 13000000 → okS (textL ms) ∧ (textL ms).length ≤ 13000000 := fun ms b h1 h2 => ⟨textL_ok fun l hl2 => (h1 l hl2).1, Nat.le_trans (textL_len fun l hl2 => (h1 l hl2).2) h2⟩
  have k1 := okm m1 56770 g1 (by omega)
  have k2 := okm m2 170380 g3 (by omega)
  have k3 := okm m3 56770 g5 (by omega)
  refine q_seq (fun r => ∃ a b, r = [some (scD ns), some (dr d1), some (dr d2), some (.int (k : Nat)), some (.lst m (rows.map (encRow k))), some (.lst .frz (L.map D.str)), some (.str T), some (strsD m1), some (strsD m2), some (strsD m3), some (strsD [textL m1, textL m2, textL m3]), none, none, none, none, a, b]) ?_ ?_
  · unfold C_law_3
    array_get_dec
    simp only [c_strsD, true_and, and_true, Bool.and_true]
    refine q_mapL (fun ms : List Str => strsD ms) (fun ms => .str (textL ms)) [m1, m2, m3] (by simp) ?_ ?_
    · intro ms hms
      have hb : okL 170380 ms ∧ ms.length ≤ 74 := by
        simp only [List.mem_cons, List.not_mem_nil, or_false] at hms
        rcases hms with rfl | rfl | rfl
        · exact ⟨g1.mono (by decide), by omega⟩
        · exact ⟨g3, g4⟩
        · exact ⟨g5.mono (by decide), g6⟩
      obtain ⟨b1, b2⟩ := hb
      unfold C_law_2 strsD
      array_get_dec
      refine q_mapL D.str (fun l => .str (nlS l)) ms (by omega) ?_ ?_
      · intro l hl2
        have := (b1 l hl2).2
        array_get_dec
        refine ⟨?_, rfl⟩
        rw [show ("\n" : Str).length = 1 from rfl]
        omega
      · have hj := textL_joinl (ls := ms) (b := 170380) fun l hl2 => (b1 l hl2).2
        refine so_of (e_join2 (a := "") (ys := ms.map nlS) ?_ (by omega)) ?_
        · rw [List.map_map]
          rfl
        · array_get_dec
          rfl
    · array_get_dec
      exact ⟨_, _, rfl⟩
  rintro r ⟨a, b, rfl⟩
  have okc : ∀ t : Str, okS t ∧ t.length ≤ 13000000 → okT (cutS t none (some (-1))) := fun t h => ⟨ok_cut h.1 _ _, by have := cut_le (s := t) (lo := none) (hi := some (-1)); have := h.2; omega⟩
  have oky : ∀ t : Str, okS t ∧ t.length ≤ 13000000 → okT t := fun t h => ⟨h.1, by have := h.2; omega⟩
  have n1 : ("\n" : Str).length = 1 := rfl
  refine q_seq (fun r => ∃ a b c, r = [some (scD ns), some (dr d1), some (dr d2), some (.int (k : Nat)), some (.lst m (rows.map (encRow k))), some (.lst .frz (L.map D.str)), some (.str T), some (strsD m1), some (strsD m2), some (strsD m3), some (strsD [textL m1, textL m2, textL m3]), c, none, none, none, a, b]) ?_ ?_
  · unfold strsD
    array_get_dec
    have kT := k1.2
    rw [n1]
    simp only [Nat.reduceAdd, Nat.reduceLeDiff, true_and]
    refine ⟨by omega, by omega, by omega, by omega, ?_⟩
    refine q_forN (fun xs r => ∃ (l : List Str) (a b c : Option D), xs = l.map D.str ∧ (∀ t ∈ l, okT t) ∧ r = [some (scD ns), some (dr d1), some (dr d2), some (.int (k : Nat)), some (.lst m (rows.map (encRow k))), some (.lst .frz (L.map D.str)), some (.str T), some (strsD m1), some (strsD m2), some (strsD m3), some (strsD [textL m1, textL m2, textL m3]), c, none, none, none, a, b]) ?_ ?_ _ _ ⟨[textL m1, textL m2, textL m3, cutS T none (some (-1)), cutS (textL m1) none (some (-1)), T ++ ("\n" : Str), "", ("\n" : Str) ++ T], a, b, none, rfl, ?_, rfl⟩
    · rintro x xs r ⟨l, a, b, c, h1, h2, rfl⟩
      obtain ⟨t, l, rfl⟩ : ∃ t l', l = t :: l' := by
        cases l with
        | nil => cases h1
        | cons t l => exact ⟨t, l, rfl⟩
      obtain ⟨rfl, rfl⟩ := List.cons.inj h1
      have ht := h2 t List.mem_cons_self
      unfold B_law_1
      array_get_dec
      refine q_callE rfl rfl rfl rfl (F.told k t hk ht) rfl ?_
      array_get_dec
      refine q_callE rfl rfl rfl rfl (F.read k t hk ht) rfl ?_
      array_get_dec
      refine same_loop cf ns F wf k hk t ht _ _ _ ?_
      array_get_dec
      exact ⟨l, _, _, _, rfl, fun x hx => h2 x (List.mem_cons_of_mem _ hx), rfl⟩
    · rintro r ⟨l, a, b, c, h1, h2, rfl⟩
      array_get_dec
      exact ⟨a, b, c, rfl⟩
    · intro t ht
      simp only [List.mem_cons, List.not_mem_nil, or_false] at ht
      rcases ht with rfl | rfl | rfl | rfl | rfl | rfl | rfl | rfl
      · exact oky _ k1
      · exact oky _ k2
      · exact oky _ k3
      · exact okc T ⟨ht1, by omega⟩
      · exact okc _ k1
      · exact ⟨okS_app ht1 (by decide), by rw [len_app, n1]; omega⟩
      · exact ⟨okS_e, Nat.zero_le _⟩
      · exact ⟨okS_app (by decide) ht1, by rw [len_app, n1]; omega⟩
  rintro r ⟨a, b, c, rfl⟩
  array_get_dec
  refine ⟨by decide, ?_⟩
  refine q_forN (fun xs r => ∃ (d : Option D), (∀ x ∈ xs, ∃ j : Nat, j < 3 ∧ x = .int (j : Nat)) ∧ r = [some (scD ns), some (dr d1), some (dr d2), some (.int (k : Nat)), some (.lst m (rows.map (encRow k))), some (.lst .frz (L.map D.str)), some (.str T), some (strsD m1), some (strsD m2), some (strsD m3), some (strsD [textL m1, textL m2, textL m3]), c, d, none, none, a, b]) ?_ ?_ _ _ ⟨none, ?_, rfl⟩
  · rintro x xs r ⟨d, h1, rfl⟩
    obtain ⟨j, hj, rfl⟩ := h1 x List.mem_cons_self
    unfold B_law_0
    array_get_dec
    refine q_callE rfl rfl rfl rfl (F.told j T hj hto) rfl ?_
    array_get_dec
    refine q_callE rfl rfl rfl rfl (F.read j T hj hto) rfl ?_
    array_get_dec
    refine same_loop cf ns F wf j hj T hto _ _ _ ?_
    array_get_dec
    exact ⟨_, fun x hx => h1 x (List.mem_cons_of_mem _ hx), rfl⟩
  · rintro r ⟨d, h1, rfl⟩
    array_get_dec
  · intro x hx
    obtain ⟨j, hj, rfl⟩ := List.mem_map.mp hx
    have hj : j ∈ List.range 3 := hj
    exact ⟨j, List.mem_range.mp hj, rfl⟩
end K96
set_option maxRecDepth 100000
set_option maxHeartbeats 4000000
namespace K96
open PySem PySem.Spec PyProof.Rows L2 PI
theorem g_run_end : Good Tk.G RF_run_end := ⟨⟨rfl, rfl, rfl, by decide +kernel, rfl, by decide +kernel, by decide +kernel⟩, rfl, fun _ => by kernel_rfl, fun z => absurd z (by decide +kernel), fun _ _ _ _ _ _ us hl => match us, hl with | [_, _, _], _ => rfl⟩
theorem g_is_integer : Good Tk.G RF_is_integer := ⟨⟨rfl, rfl, rfl, by decide +kernel, rfl, by decide +kernel, by decide +kernel⟩, rfl, fun _ => by kernel_rfl, fun z => absurd z (by decide +kernel), fun _ _ _ _ _ _ us hl => match us, hl with | [_], _ => rfl⟩
theorem g_lines_of : Good Tk.G RF_lines_of := ⟨⟨rfl, rfl, rfl, by decide +kernel, rfl, by decide +kernel, by decide +kernel⟩, rfl, fun _ => by kernel_rfl, fun z => absurd z (by decide +kernel), fun _ _ _ _ _ _ us hl => match us, hl with | [_], _ => rfl⟩
theorem g_sections_of : Good Tk.G RF_sections_of := ⟨⟨rfl, rfl, rfl, by decide +kernel, rfl, by decide +kernel, by decide +kernel⟩, rfl, fun _ => by kernel_rfl, fun z => absurd z (by decide +kernel), fun _ _ _ _ _ _ us hl => match us, hl with | [_, _], _ => rfl⟩
theorem g_written : Good Tk.G RF_written := ⟨⟨rfl, rfl, rfl, by decide +kernel, rfl, by decide +kernel, by decide +kernel⟩, rfl, fun _ => by kernel_rfl, fun z => absurd z (by decide +kernel), fun _ _ _ _ _ _ us hl => match us, hl with | [_, _], _ => rfl⟩
theorem g_rows_of_text : Good Tk.G RF_rows_of_text := ⟨⟨rfl, rfl, rfl, by decide +kernel, rfl, by decide +kernel, by decide +kernel⟩, rfl, fun _ => by kernel_rfl, fun z => absurd z (by decide +kernel), fun _ _ _ _ _ _ us hl => match us, hl with | [_, _], _ => rfl⟩
theorem g_stand_words : Good Tk.G RF_stand_words := ⟨⟨rfl, rfl, rfl, by decide +kernel, rfl, by decide +kernel, by decide +kernel⟩, rfl, fun _ => by kernel_rfl, fun z => absurd z (by decide +kernel), fun _ _ _ _ _ _ us hl => match us, hl with | [_], _ => rfl⟩
theorem g_text_of : Good Tk.G RF_text_of := ⟨⟨rfl, rfl, rfl, by decide +kernel, rfl, by decide +kernel, by decide +kernel⟩, rfl, fun _ => by kernel_rfl, fun z => absurd z (by decide +kernel), fun _ _ _ _ _ _ us hl => match us, hl with | [_], _ => rfl⟩
theorem g_write_holding : Good Tk.G RF_write_holding := ⟨⟨rfl, rfl, rfl, by decide +kernel, rfl, by decide +kernel, by decide +kernel⟩, rfl, fun _ => by kernel_rfl, fun z => absurd z (by decide +kernel), fun _ _ _ _ _ _ us hl => match us, hl with | [_], _ => rfl⟩
theorem g_write_falling : Good Tk.G RF_write_falling := ⟨⟨rfl, rfl, rfl, by decide +kernel, rfl, by decide +kernel, by decide +kernel⟩, rfl, fun _ => by kernel_rfl, fun z => absurd z (by decide +kernel), fun _ _ _ _ _ _ us hl => match us, hl with | [_], _ => rfl⟩
theorem g_write_course : Good Tk.G RF_write_course := ⟨⟨rfl, rfl, rfl, by decide +kernel, rfl, by decide +kernel, by decide +kernel⟩, rfl, fun _ => by kernel_rfl, fun z => absurd z (by decide +kernel), fun _ _ _ _ _ _ us hl => match us, hl with | [_], _ => rfl⟩
theorem g_are_named : Good Tk.G RF_are_named := ⟨⟨rfl, rfl, rfl, by decide +kernel, rfl, by decide +kernel, by decide +kernel⟩, rfl, fun _ => by kernel_rfl, fun z => absurd z (by decide +kernel), fun _ _ _ _ _ _ us hl => match us, hl with | [_, _, _], _ => rfl⟩
theorem g_stand_of_words : Good Tk.G RF_stand_of_words := ⟨⟨rfl, rfl, rfl, by decide +kernel, rfl, by decide +kernel, by decide +kernel⟩, rfl, fun _ => by kernel_rfl, fun z => absurd z (by decide +kernel), fun _ _ _ _ _ _ us hl => match us, hl with | [_], _ => rfl⟩
theorem g_holding_row : Good Tk.G RF_holding_row := ⟨⟨rfl, rfl, rfl, by decide +kernel, rfl, by decide +kernel, by decide +kernel⟩, rfl, fun _ => by kernel_rfl, fun z => absurd z (by decide +kernel), fun _ _ _ _ _ _ us hl => match us, hl with | [_], _ => rfl⟩
theorem g_falling_row : Good Tk.G RF_falling_row := ⟨⟨rfl, rfl, rfl, by decide +kernel, rfl, by decide +kernel, by decide +kernel⟩, rfl, fun _ => by kernel_rfl, fun z => absurd z (by decide +kernel), fun _ _ _ _ _ _ us hl => match us, hl with | [_], _ => rfl⟩
theorem g_course_row : Good Tk.G RF_course_row := ⟨⟨rfl, rfl, rfl, by decide +kernel, rfl, by decide +kernel, by decide +kernel⟩, rfl, fun _ => by kernel_rfl, fun z => absurd z (by decide +kernel), fun _ _ _ _ _ _ us hl => match us, hl with | [_], _ => rfl⟩
theorem g_read_holding : Good Tk.G RF_read_holding := ⟨⟨rfl, rfl, rfl, by decide +kernel, rfl, by decide +kernel, by decide +kernel⟩, rfl, fun _ => by kernel_rfl, fun z => absurd z (by decide +kernel), fun _ _ _ _ _ _ us hl => match us, hl with | [_], _ => rfl⟩
theorem g_read_falling : Good Tk.G RF_read_falling := ⟨⟨rfl, rfl, rfl, by decide +kernel, rfl, by decide +kernel, by decide +kernel⟩, rfl, fun _ => by kernel_rfl, fun z => absurd z (by decide +kernel), fun _ _ _ _ _ _ us hl => match us, hl with | [_], _ => rfl⟩
theorem g_read_course : Good Tk.G RF_read_course := ⟨⟨rfl, rfl, rfl, by decide +kernel, rfl, by decide +kernel, by decide +kernel⟩, rfl, fun _ => by kernel_rfl, fun z => absurd z (by decide +kernel), fun _ _ _ _ _ _ us hl => match us, hl with | [_], _ => rfl⟩
theorem g_law_draws : Good Tk.G RF_law_draws := ⟨⟨rfl, rfl, rfl, by decide +kernel, rfl, by decide +kernel, by decide +kernel⟩, rfl, fun _ => by kernel_rfl, fun z => absurd z (by decide +kernel), fun _ _ _ _ _ _ us hl => match us, hl with | [_, _], _ => rfl⟩
theorem g_law_take : Good Tk.G RF_law_take := ⟨⟨rfl, rfl, rfl, by decide +kernel, rfl, by decide +kernel, by decide +kernel⟩, rfl, fun _ => by kernel_rfl, fun z => absurd z (by decide +kernel), fun _ _ _ _ _ _ us hl => match us, hl with | [_, _], _ => rfl⟩
theorem g_law_cell : Good Tk.G RF_law_cell := ⟨⟨rfl, rfl, rfl, by decide +kernel, rfl, by decide +kernel, by decide +kernel⟩, rfl, fun _ => by kernel_rfl, fun z => absurd z (by decide +kernel), fun _ _ _ _ _ _ us hl => match us, hl with | [_, _], _ => rfl⟩
theorem g_law_same : Good Tk.G RF_law_same := ⟨⟨rfl, rfl, rfl, by decide +kernel, rfl, by decide +kernel, by decide +kernel⟩, rfl, fun _ => by kernel_rfl, fun z => absurd z (by decide +kernel), fun _ _ _ _ _ _ us hl => match us, hl with | [_, _], _ => rfl⟩
theorem g_law_which : Good Tk.G RF_law_which := ⟨⟨rfl, rfl, rfl, by decide +kernel, rfl, by decide +kernel, by decide +kernel⟩, rfl, fun z => absurd z (by decide +kernel), fun _ => by kernel_rfl, fun _ _ _ _ _ _ us hl => match us, hl with | [_], _ => rfl⟩
theorem g_law_number : Good Tk.G RF_law_number := ⟨⟨rfl, rfl, rfl, by decide +kernel, rfl, by decide +kernel, by decide +kernel⟩, rfl, fun _ => by kernel_rfl, fun z => absurd z (by decide +kernel), fun _ _ _ _ _ _ us hl => match us, hl with | [_], _ => rfl⟩
theorem g_law_any_number : Good Tk.G RF_law_any_number := ⟨⟨rfl, rfl, rfl, by decide +kernel, rfl, by decide +kernel, by decide +kernel⟩, rfl, fun _ => by kernel_rfl, fun z => absurd z (by decide +kernel), fun _ _ _ _ _ _ us hl => match us, hl with | [_, _], _ => rfl⟩
theorem g_law_some_numbers : Good Tk.G RF_law_some_numbers := ⟨⟨rfl, rfl, rfl, by decide +kernel, rfl, by decide +kernel, by decide +kernel⟩, rfl, fun _ => by kernel_rfl, fun z => absurd z (by decide +kernel), fun _ _ _ _ _ _ us hl => match us, hl with | [_, _, _], _ => rfl⟩
theorem g_law_tuples : Good Tk.G RF_law_tuples := ⟨⟨rfl, rfl, rfl, by decide +kernel, rfl, by decide +kernel, by decide +kernel⟩, rfl, fun _ => by kernel_rfl, fun z => absurd z (by decide +kernel), fun _ _ _ _ _ _ us hl => match us, hl with | [_, _, _], _ => rfl⟩
theorem g_law_row : Good Tk.G RF_law_row := ⟨⟨rfl, rfl, rfl, by decide +kernel, rfl, by decide +kernel, by decide +kernel⟩, rfl, fun _ => by kernel_rfl, fun z => absurd z (by decide +kernel), fun _ _ _ _ _ _ us hl => match us, hl with | [_, _, _], _ => rfl⟩
theorem g_law_long_row : Good Tk.G RF_law_long_row := ⟨⟨rfl, rfl, rfl, by decide +kernel, rfl, by decide +kernel, by decide +kernel⟩, rfl, fun _ => by kernel_rfl, fun z => absurd z (by decide +kernel), fun _ _ _ _ _ _ us hl => match us, hl with | [_, _], _ => rfl⟩
theorem g_law_part : Good Tk.G RF_law_part := ⟨⟨rfl, rfl, rfl, by decide +kernel, rfl, by decide +kernel, by decide +kernel⟩, rfl, fun _ => by kernel_rfl, fun z => absurd z (by decide +kernel), fun _ _ _ _ _ _ us hl => match us, hl with | [_, _], _ => rfl⟩
theorem g_law_line : Good Tk.G RF_law_line := ⟨⟨rfl, rfl, rfl, by decide +kernel, rfl, by decide +kernel, by decide +kernel⟩, rfl, fun _ => by kernel_rfl, fun z => absurd z (by decide +kernel), fun _ _ _ _ _ _ us hl => match us, hl with | [_, _], _ => rfl⟩
theorem g_law_sections : Good Tk.G RF_law_sections := ⟨⟨rfl, rfl, rfl, by decide +kernel, rfl, by decide +kernel, by decide +kernel⟩, rfl, fun _ => by kernel_rfl, fun z => absurd z (by decide +kernel), fun _ _ _ _ _ _ us hl => match us, hl with | [_], _ => rfl⟩
theorem g_law_row_of : Good Tk.G RF_law_row_of := ⟨⟨rfl, rfl, rfl, by decide +kernel, rfl, by decide +kernel, by decide +kernel⟩, rfl, fun _ => by kernel_rfl, fun z => absurd z (by decide +kernel), fun _ _ _ _ _ _ us hl => match us, hl with | [_, _], _ => rfl⟩
theorem g_law_read : Good Tk.G RF_law_read := ⟨⟨rfl, rfl, rfl, by decide +kernel, rfl, by decide +kernel, by decide +kernel⟩, rfl, fun _ => by kernel_rfl, fun z => absurd z (by decide +kernel), fun _ _ _ _ _ _ us hl => match us, hl with | [_, _], _ => rfl⟩
theorem g_law_told : Good Tk.G RF_law_told := ⟨⟨rfl, rfl, rfl, by decide +kernel, rfl, by decide +kernel, by decide +kernel⟩, rfl, fun _ => by kernel_rfl, fun z => absurd z (by decide +kernel), fun _ _ _ _ _ _ us hl => match us, hl with | [_, _], _ => rfl⟩
theorem g_law_written_by : Good Tk.G RF_law_written_by := ⟨⟨rfl, rfl, rfl, by decide +kernel, rfl, by decide +kernel, by decide +kernel⟩, rfl, fun _ => by kernel_rfl, fun z => absurd z (by decide +kernel), fun _ _ _ _ _ _ us hl => match us, hl with | [_, _], _ => rfl⟩
theorem g_law_one_sign : Good Tk.G RF_law_one_sign := ⟨⟨rfl, rfl, rfl, by decide +kernel, rfl, by decide +kernel, by decide +kernel⟩, rfl, fun _ => by kernel_rfl, fun z => absurd z (by decide +kernel), fun _ _ _ _ _ _ us hl => match us, hl with | [_, _, _], _ => rfl⟩
theorem g_law_signed : Good Tk.G RF_law_signed := ⟨⟨rfl, rfl, rfl, by decide +kernel, rfl, by decide +kernel, by decide +kernel⟩, rfl, fun _ => by kernel_rfl, fun z => absurd z (by decide +kernel), fun _ _ _ _ _ _ us hl => match us, hl with | [_, _], _ => rfl⟩
theorem g_law_bad_line : Good Tk.G RF_law_bad_line := ⟨⟨rfl, rfl, rfl, by decide +kernel, rfl, by decide +kernel, by decide +kernel⟩, rfl, fun _ => by kernel_rfl, fun z => absurd z (by decide +kernel), fun _ _ _ _ _ _ us hl => match us, hl with | [_, _], _ => rfl⟩
theorem g_law_changed : Good Tk.G RF_law_changed := ⟨⟨rfl, rfl, rfl, by decide +kernel, rfl, by decide +kernel, by decide +kernel⟩, rfl, fun _ => by kernel_rfl, fun z => absurd z (by decide +kernel), fun _ _ _ _ _ _ us hl => match us, hl with | [_, _], _ => rfl⟩
theorem g_law : Good Tk.G RF_law := ⟨⟨rfl, rfl, rfl, by decide +kernel, rfl, by decide +kernel, by decide +kernel⟩, rfl, fun _ => by kernel_rfl, fun z => absurd z (by decide +kernel), fun _ _ _ _ _ _ us hl => match us, hl with | [_], _ => rfl⟩
theorem goods : ∀ e ∈ Tk.recs, Good Tk.G e := by
  intro e he
  have he : e ∈ [RF_run_end, RF_is_integer, RF_lines_of, RF_sections_of, RF_written, RF_rows_of_text, RF_stand_words, RF_text_of, RF_write_holding, RF_write_falling, RF_write_course, RF_are_named, RF_stand_of_words, RF_holding_row, RF_falling_row, RF_course_row, RF_read_holding, RF_read_falling, RF_read_course, RF_law_draws, RF_law_take, RF_law_cell, RF_law_same, RF_law_which, RF_law_number, RF_law_any_number, RF_law_some_numbers, RF_law_tuples, RF_law_row, RF_law_long_row, RF_law_part, RF_law_line, RF_law_sections, RF_law_row_of, RF_law_read, RF_law_told, RF_law_written_by, RF_law_one_sign, RF_law_signed, RF_law_bad_line, RF_law_changed, RF_law] := he
  simp only [List.mem_cons, List.not_mem_nil, or_false] at he
  rcases he with rfl | rfl | rfl | rfl | rfl | rfl | rfl | rfl | rfl | rfl | rfl | rfl | rfl | rfl | rfl | rfl | rfl | rfl | rfl | rfl | rfl | rfl | rfl | rfl | rfl | rfl | rfl | rfl | rfl | rfl | rfl | rfl | rfl | rfl | rfl | rfl | rfl | rfl | rfl | rfl | rfl | rfl
  · exact g_run_end
  · exact g_is_integer
  · exact g_lines_of
  · exact g_sections_of
  · exact g_written
  · exact g_rows_of_text
  · exact g_stand_words
  · exact g_text_of
  · exact g_write_holding
  · exact g_write_falling
  · exact g_write_course
  · exact g_are_named
  · exact g_stand_of_words
  · exact g_holding_row
  · exact g_falling_row
  · exact g_course_row
  · exact g_read_holding
  · exact g_read_falling
  · exact g_read_course
  · exact g_law_draws
  · exact g_law_take
  · exact g_law_cell
  · exact g_law_same
  · exact g_law_which
  · exact g_law_number
  · exact g_law_any_number
  · exact g_law_some_numbers
  · exact g_law_tuples
  · exact g_law_row
  · exact g_law_long_row
  · exact g_law_part
  · exact g_law_line
  · exact g_law_sections
  · exact g_law_row_of
  · exact g_law_read
  · exact g_law_told
  · exact g_law_written_by
  · exact g_law_one_sign
  · exact g_law_signed
  · exact g_law_bad_line
  · exact g_law_changed
  · exact g_law
end K96
set_option maxRecDepth 100000
set_option maxHeartbeats 0
namespace PI
open PySem PySem.Spec PyProof.Rows L2
/-- a law whose numbers are bounded by bits: F gives the written part, the function object, the promise over every base -/
theorem walk_bits {l : PySem.W.OpenLaw} {n k : Nat} {q : Program} {loose : List Str} {XP : (Str → Option Value) → Heap → Prop} {YP : World → Heap → Prop} {d : DefRec} {CX : World → CXT} {x : Str}
    (hn : l.most = some n) (hn2 : n ≤ sizeLine) (hdf : d.params.defaults = []) (hr : Room k callerA)
    (F : ∀ (w : World) (mg : Str → Option Value) (fa : Addr) (h : Heap), YP w h → h.Ns mainGlobals mg → mg d.name = some (.ref fa) →
      ∃ (K : PySem.W.Frag) (fd : FuncData) (sp : Sp), K.In h ∧ (∀ (s : Shared) (u : Value), BindsTo s fd ⟨[u], []⟩ [(x, u)]) ∧
        (∀ (H : Hp) (a : Addr) (ns : List Int), ns.length ≤ n → (∀ z ∈ ns, Builtin.Int.intBits z ≤ 1048576) → Only H → SqL K H a (ns.map V.int) → sp [.ref a] H (fun v _ => v = .bl true) fun _ _ _ => False) ∧
        ∀ base : Heap, K.In base → base.Ns mainGlobals mg → FnOk l.prog w K mg base (CX w) k fa fd [x] sp)
    (hCX : ∀ (w : World) (H : Hp) (s : Shared) (e : Value) (s' : Shared), CX w [] H s (fun _ _ _ => False) e s' → False) : PySem.W.WalkO q loose XP YP l.row.toRowW d [] (fun f vs => PySem.call f vs) := by
  refine Att.attach_callB hn hdf fun w s₀ s₁ mg mb fa o pm cd doc a vs ns G Y ho hd hcd hmg hobj hints hlen hbits hg => ?_
  obtain ⟨K, fd, sp, kx, hbi, hsp, hF⟩ := F w mg fa _ Y G.T.g hmg
  exact law_call kx G.T.g G.T.b G.T.builtins G.T.nolimit hg hobj hints (Nat.le_trans hlen hn2) hr hF hbi (fun H hO hS => hsp H a ns hlen hbits hO hS) fun H e s' => hCX w H s₁ e s'
/-- the script, lent as it stands -/
theorem script_rep {K : PySem.W.Frag} {mg : Str → Option Value} {H : Hp} {a : Addr} {ns : List Int} (hO : Only H) (hS : SqL K H a (ns.map V.int)) : Rep (rcOf K mg) H (fun _ => False) (fun _ => False) (.lst .ro (ns.map D.int)) (.ref a) [] := by
  refine ⟨a, ns.map V.int, [], rfl, ?_, ?_, rfl⟩
  · rcases hS with (h | ⟨o, h⟩) | h
    · rcases hO a with z | ⟨o, xs, z⟩
      · rw [z] at h
        cases h
      · rw [z] at h
        cases h
    · exact .inl ⟨o, h⟩
    · exact .inr fun H' => .inr h
  · have : ∀ l : List Int, Reps (rcOf K mg) H (fun _ => False) (fun _ => False) (l.map D.int) (l.map V.int) [] := by
      intro l
      induction l with
      | nil => exact ⟨rfl, rfl⟩
      | cons i l ih => exact ⟨.int i, _, [], [], rfl, ⟨rfl, rfl⟩, ih, rfl⟩
    exact this ns
end PI
namespace K96
open PySem PySem.Spec PyProof.Rows L2 PI
/-- the plain law -/
def Plain : Prop := ∀ ns : List Int, ns.length ≤ 63 → (∀ z ∈ ns, Builtin.Int.intBits z ≤ 1048576) → ∃ wf, callF Tk.G Tk.defs wf 40 "law" [.lst .ro (ns.map D.int)] = .ret (.bl true) []
end K96
open PySem PySem.W PySem.Calls PyProof.Rows
theorem k96_of (plain : ∀ ns : List Int, ns.length ≤ 63 → (∀ z ∈ ns, Builtin.Int.intBits z ≤ 1048576) → PI.callF K96.Tk.G K96.Tk.defs 1000 40 "law" [.lst .ro (ns.map PI.D.int)] = .ret (.bl true) []) : PySem.Challenge.rw_shiftshold_k96_texts_of_papers.Holds := by
  w_on; o_law
  refine HandSHeadRun.head_any (r := OpenLaw.row PySem.Challenge.rw_shiftshold_k96_texts_of_papers) (q := view (OpenLaw.row PySem.Challenge.rw_shiftshold_k96_texts_of_papers).prog [K96.lawAt]) (H := K96.hk) (ob := K96.ob) (M := 6000) (loose := K96.looseL) (d := HandSHeadRun.topDef (OpenLaw.row PySem.Challenge.rw_shiftshold_k96_texts_of_papers).prog K96.lawAt) (kwd := []) K96.ob_eq
    (by kernel_rfl) (fun s => by kernel_rfl) K96.run (by kernel_rfl) (by kernel_rfl) (by kernel_rfl) (by rfl) (by first | assumption | decide +kernel) (by decide +kernel) ⟨rfl, rfl, rfl, rfl, rfl, by decide +kernel⟩ ?hw ?hc
  case hw => w_witness2
  case hc =>
    refine PI.walk_bits (l := PySem.Challenge.rw_shiftshold_k96_texts_of_papers) (n := 63) (k := 43) (x := "script") (CX := fun w => L2N.CX (PySem.Challenge.rw_shiftshold_k96_texts_of_papers).prog w) rfl (by decide) (by kernel_rfl) ⟨rfl, by decide, by decide⟩ ?F (fun w H s e s' ⟨_, _, _, _, _, _, _, _, _, _, _, _, z⟩ => z)
    intro w mg fa h Y G hmg0
    obtain ⟨K, KX, hcb, c⟩ := Y
    have hmg : mg ("law" : PySem.Str) = some (.ref fa) := by
      have e : (HandSHeadRun.topDef (OpenLaw.row PySem.Challenge.rw_shiftshold_k96_texts_of_papers).prog K96.lawAt).name = ("law" : PySem.Str) := by kernel_rfl
      rw [← e]
      exact hmg0
    have R := PI.rowF_of (T := K96.Tk) KX G hcb c K96.goods ⟨rfl, rfl, rfl, by decide +kernel, rfl, by decide +kernel, by decide +kernel⟩ (fun _ _ _ _ _ _ us hl => match us, hl with | [_, _, _], _ => rfl) ⟨_, _, _, _, _, _, _, _, rfl⟩
    have hfind : K96.Tk.find "law" = some K96.RF_law := by kernel_rfl
    have hi2 : K96.Tk.fn[(K96.Tk.recs.length - 1)]? = some K96.RF_law.d := by kernel_rfl
    obtain ⟨fd, FD⟩ := He.SaysD.def_ c _ hi2
    have hga : fa = He.ga K "law" := by
      have q : mg ("law" : PySem.Str) = some (.ref (He.ga K "law")) := PI.mg_rec (T := K96.Tk) KX G hcb (e := K96.RF_law) (List.mem_of_find?_eq_some hfind)
      rw [hmg] at q
      cases q
      rfl
    subst hga
    refine ⟨K, fd, _, KX, fun s u => L2.FunD.bindsA FD (ps := ["script"]) (fun _ _ _ _ _ _ us hl => match us, hl with | [_], _ => rfl) s [u] rfl, fun H a ns hl hbits hO hS => ?_, fun base hb hn => PI.law_ok (w := w) (wf := 1000) R (e := K96.RF_law) hfind K96.g_law (by kernel_rfl) 39 FD⟩
    refine ⟨[.lst .ro (ns.map PI.D.int)], fun _ => False, fun _ => False, [], [], ⟨_, _, [], [], rfl, PI.script_rep hO hS, ⟨rfl, rfl⟩, rfl⟩, List.nodup_nil, fun _ z => absurd z (by simp), fun _ z => absurd z (by simp), fun _ z => z.elim, fun _ z => z.elim, rfl, ?_⟩
    have e := plain ns hl hbits
    show PI.GoalF _ _ _ _ _ _ _ _ (PI.callF K96.Tk.G K96.Tk.defs 1000 40 "law" [.lst .ro (ns.map PI.D.int)])
    rw [e]
    intro v H' F' fq fo hv _ _ _ _ _ _
    exact hv.1
open PySem PySem.W PyProof.Rows
set_option maxRecDepth 100000 in
set_option maxHeartbeats 0 in
theorem PySem.Challenge.cw_shiftshold_k96_texts_of_papers_holds : PySem.Challenge.rw_shiftshold_k96_texts_of_papers.Holds := by
  exact k96_of fun ns h _ => K96.w_law 29 1000 ns h (by decide)
