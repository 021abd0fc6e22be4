import PyProof.Rows.All
import HandS.ForMost
import HandS.CallSlots
import HandS.WordsExc
import HandS.Defaults
import HandS.Deep
import HandS.Dict
import HandS.Comp
import HandS.IsInst
import HandS.Text
import HandS.Style
import HandS.OwnIter
import HandS.SlotsOwn
import HandS.ClsMeth
import HandS.Property
import HandS.DictSub
import HandS.MakeKw
import KE.KFmtOwn
import KE.KOpsOwn
import KE.KOwnIter
import KE.GoesMore
import KE.KDictZip
import HandS.Zip
import HandS.HeadNt
import HandS.HeadEnd
import HandS.HeadHook3
import HandS.Head0
import HandS.Head1
import HandS.Head2
import HandS.Ends
import KE.KStateDown
import PySem.Challenge.RW_toldalong_k01_web_pairs
set_option Elab.async false
set_option linter.all false
set_option maxRecDepth 100000
set_option maxHeartbeats 0
/-! Ta.D: deep data D, how it lies in the abstract heap (Rp), with its own cells (footprint) and a stable part S. -/
namespace Ta
open PySem L2

/-- deep data; the flag of a mutable thing: true, it is one's own (its cell is in the footprint) -/
inductive D where
  | non | bl (b : Bool) | int (i : Int) | str (x : Str)
  /-- the n-th global object -/
  | gl (n : Nat)
  /-- the script -/
  | scr (ns : List Int)
  | lst (o : Bool) (xs : List D)
  | tup (xs : List D)
  | dk (o : Bool) (ks : List Key) (xs : List D)
  | dt (o : Bool) (ks : List (List Key)) (xs : List D)
  | ins (o : Bool) (c : Nat) (fs : List Str) (xs : List D)

/-- the global side: the written part, the values of the global objects, the classes' addresses -/
structure Glo where
  K : PySem.W.Frag
  gv : Nat → V
  ca : Nat → Addr

mutual
def D.deep : D → D
  | .non => .non
  | .bl b => .bl b
  | .int i => .int i
  | .str x => .str x
  | .gl n => .gl n
  | .scr ns => .scr ns
  | .lst _ xs => .lst false (deepL xs)
  | .tup xs => .tup (deepL xs)
  | .dk _ ks xs => .dk false ks (deepL xs)
  | .dt _ ks xs => .dt false ks (deepL xs)
  | .ins _ c fs xs => .ins false c fs (deepL xs)
def deepL : List D → List D
  | [] => []
  | d :: ds => d.deep :: deepL ds
end
mutual
/-- nothing of it is one's own -/
def D.cl : D → Bool
  | .non => true
  | .bl _ => true
  | .int _ => true
  | .str _ => true
  | .gl _ => true
  | .scr _ => true
  | .lst o xs => !o && clL xs
  | .tup xs => clL xs
  | .dk o _ xs => !o && clL xs
  | .dt o _ xs => !o && clL xs
  | .ins o _ _ xs => !o && clL xs
def clL : List D → Bool
  | [] => true
  | d :: ds => d.cl && clL ds
end
mutual
/-- no mutable thing of it is anybody else's -/
def D.imm : D → Bool
  | .non => true
  | .bl _ => true
  | .int _ => true
  | .str _ => true
  | .gl _ => true
  | .scr _ => false
  | .lst o xs => o && immL xs
  | .tup xs => immL xs
  | .dk o _ xs => o && immL xs
  | .dt o _ xs => o && immL xs
  | .ins o _ _ xs => o && immL xs
def immL : List D → Bool
  | [] => true
  | d :: ds => d.imm && immL ds
end

theorem deepL_length : ∀ ds : List D, (deepL ds).length = ds.length
  | [] => rfl
  | _ :: ds => congrArg (· + 1) (deepL_length ds)
/-- a tuple: tracked; an empty one may be of the written part -/
def TupAt (K : PySem.W.Frag) (S : Hp) (a : Addr) (n : Nat) (vs : List V) : Prop := S a = some (.tup vs) ∨ (n = 0 ∧ SqT K S a vs)
theorem TupAt.sq {K : PySem.W.Frag} {S : Hp} {a : Addr} {n : Nat} {vs : List V} (h : TupAt K S a n vs) : SqT K S a vs := by
  rcases h with h | h
  · exact .of h
  · exact h.2
def RdK (H : Hp) (a : Addr) (kvs : List (Key × V)) : Prop := Rd H a (.dK kvs)
mutual
def Rp (G : Glo) (S H : Hp) : D → V → List Addr → Prop
  | .non, v, fp => v = .non ∧ fp = []
  | .bl b, v, fp => v = .bl b ∧ fp = []
  | .int i, v, fp => v = .int i ∧ fp = []
  | .str x, v, fp => v = .str x ∧ fp = []
  | .gl n, v, fp => v = G.gv n ∧ fp = []
  | .scr ns, v, fp => ∃ a, v = .ref a ∧ fp = [] ∧ SqL G.K S a (ns.map V.int)
  | .lst o ds, v, fp => ∃ a vs, v = .ref a ∧ match o with
    | true => ∃ fp', fp = a :: fp' ∧ H a = some (.lst vs) ∧ RpL G S H ds vs fp'
    | false => fp = [] ∧ Rd S a (.lst vs) ∧ RpL G S H ds vs []
  | .tup ds, v, fp => ∃ a vs, v = .ref a ∧ fp = [] ∧ TupAt G.K S a ds.length vs ∧ RpL G S H ds vs []
  | .dk o ks ds, v, fp => ∃ a vs, v = .ref a ∧ ks.length = ds.length ∧ match o with
    | true => ∃ fp', fp = a :: fp' ∧ H a = some (.dK (ks.zip vs)) ∧ RpL G S H ds vs fp'
    | false => fp = [] ∧ Rd S a (.dK (ks.zip vs)) ∧ RpL G S H ds vs []
  | .dt o ks ds, v, fp => ∃ a vs, v = .ref a ∧ ks.length = ds.length ∧ match o with
    | true => ∃ fp', fp = a :: fp' ∧ H a = some (.dT (ks.zip vs)) ∧ RpL G S H ds vs fp'
    | false => fp = [] ∧ Rd S a (.dT (ks.zip vs)) ∧ RpL G S H ds vs []
  | .ins o c fs ds, v, fp => ∃ a dx vs, v = .ref a ∧ fs.length = ds.length ∧ match o with
    | true => ∃ fp', fp = a :: fp' ∧ H a = some (.ins (G.ca c) dx (fs.zip vs)) ∧ RpL G S H ds vs fp'
    | false => fp = [] ∧ S a = some (.ins (G.ca c) dx (fs.zip vs)) ∧ RpL G S H ds vs []
def RpL (G : Glo) (S H : Hp) : List D → List V → List Addr → Prop
  | [], vs, fp => vs = [] ∧ fp = []
  | d :: ds, vs, fp => ∃ v vs' fp1 fp2, vs = v :: vs' ∧ fp = fp1 ++ fp2 ∧ Rp G S H d v fp1 ∧ RpL G S H ds vs' fp2
end

theorem Same.rd {H H' : Hp} (e : Same H H') {a : Addr} {u : HO} (h : Rd H a u) : Rd H' a u := by
  rcases h with h | ⟨o, h⟩
  · exact .inl (e _ _ h)
  · exact .inr ⟨o, e _ _ h⟩
theorem Same.sqT {K : PySem.W.Frag} {H H' : Hp} (e : Same H H') {a : Addr} {xs : List V} (h : SqT K H a xs) : SqT K H' a xs := by
  rcases h with h | h
  · exact .inl (Same.rd e h)
  · exact .inr h

theorem TupAt.mono {K : PySem.W.Frag} {S S' : Hp} (e : Same S S') {a : Addr} {n : Nat} {vs : List V} (h : TupAt K S a n vs) : TupAt K S' a n vs := by
  rcases h with h | ⟨h1, h2⟩
  · exact .inl (e _ _ h)
  · exact .inr ⟨h1, Same.sqT e h2⟩
section
variable {G : Glo} {S S' H H' : Hp}
mutual
theorem Rp.mono (e : Same S S') : ∀ {d : D} {v : V} {fp : List Addr}, (∀ b ∈ fp, H' b = H b) → Rp G S H d v fp → Rp G S' H' d v fp
  | .non, _, _, _, h => h
  | .bl _, _, _, _, h => h
  | .int _, _, _, _, h => h
  | .str _, _, _, _, h => h
  | .gl _, _, _, _, h => h
  | .scr ns, _, _, _, h => by
    obtain ⟨a, rfl, rfl, h⟩ := h
    exact ⟨a, rfl, rfl, e.seq h⟩
  | .lst true ds, v, fp, k, h => by
    obtain ⟨a, vs, rfl, fp', rfl, h1, h2⟩ := h
    exact ⟨a, vs, rfl, fp', rfl, by rw [k a (by simp)]; exact h1, RpL.mono e (fun b hb => k b (by simp [hb])) h2⟩
  | .lst false ds, v, fp, k, h => by
    obtain ⟨a, vs, rfl, rfl, h1, h2⟩ := h
    exact ⟨a, vs, rfl, rfl, Same.rd e h1, RpL.mono e k h2⟩
  | .tup ds, v, fp, k, h => by
    obtain ⟨a, vs, rfl, rfl, h1, h2⟩ := h
    exact ⟨a, vs, rfl, rfl, TupAt.mono e h1, RpL.mono e k h2⟩
  | .dk true ks ds, v, fp, k, h => by
    obtain ⟨a, vs, rfl, hl, fp', rfl, h1, h2⟩ := h
    exact ⟨a, vs, rfl, hl, fp', rfl, by rw [k a (by simp)]; exact h1, RpL.mono e (fun b hb => k b (by simp [hb])) h2⟩
  | .dk false ks ds, v, fp, k, h => by
    obtain ⟨a, vs, rfl, hl, rfl, h1, h2⟩ := h
    exact ⟨a, vs, rfl, hl, rfl, Same.rd e h1, RpL.mono e k h2⟩
  | .dt true ks ds, v, fp, k, h => by
    obtain ⟨a, vs, rfl, hl, fp', rfl, h1, h2⟩ := h
    exact ⟨a, vs, rfl, hl, fp', rfl, by rw [k a (by simp)]; exact h1, RpL.mono e (fun b hb => k b (by simp [hb])) h2⟩
  | .dt false ks ds, v, fp, k, h => by
    obtain ⟨a, vs, rfl, hl, rfl, h1, h2⟩ := h
    exact ⟨a, vs, rfl, hl, rfl, Same.rd e h1, RpL.mono e k h2⟩
  | .ins true c fs ds, v, fp, k, h => by
    obtain ⟨a, dx, vs, rfl, hl, fp', rfl, h1, h2⟩ := h
    exact ⟨a, dx, vs, rfl, hl, fp', rfl, by rw [k a (by simp)]; exact h1, RpL.mono e (fun b hb => k b (by simp [hb])) h2⟩
  | .ins false c fs ds, v, fp, k, h => by
    obtain ⟨a, dx, vs, rfl, hl, rfl, h1, h2⟩ := h
    exact ⟨a, dx, vs, rfl, hl, rfl, e _ _ h1, RpL.mono e k h2⟩
theorem RpL.mono (e : Same S S') : ∀ {ds : List D} {vs : List V} {fp : List Addr}, (∀ b ∈ fp, H' b = H b) → RpL G S H ds vs fp → RpL G S' H' ds vs fp
  | [], _, _, _, h => h
  | d :: ds, vs, fp, k, h => by
    obtain ⟨v, vs', fp1, fp2, rfl, rfl, h1, h2⟩ := h
    exact ⟨v, vs', fp1, fp2, rfl, rfl, Rp.mono e (fun b hb => k b (by simp [hb])) h1, RpL.mono e (fun b hb => k b (by simp [hb])) h2⟩
end

mutual
/-- what is all known stands still: S' holds its cells, too -/
theorem Rp.close (e : Same S S') : ∀ {d : D} {v : V} {fp : List Addr}, (∀ b ∈ fp, S' b = H b) → Rp G S H d v fp → Rp G S' H' d.deep v []
  | .non, _, _, _, h => ⟨h.1, rfl⟩
  | .bl _, _, _, _, h => ⟨h.1, rfl⟩
  | .int _, _, _, _, h => ⟨h.1, rfl⟩
  | .str _, _, _, _, h => ⟨h.1, rfl⟩
  | .gl _, _, _, _, h => ⟨h.1, rfl⟩
  | .scr ns, _, _, _, h => by
    obtain ⟨a, rfl, rfl, h⟩ := h
    exact ⟨a, rfl, rfl, e.seq h⟩
  | .lst true ds, v, fp, k, h => by
    obtain ⟨a, vs, rfl, fp', rfl, h1, h2⟩ := h
    exact ⟨a, vs, rfl, rfl, .inl (by rw [k a (by simp)]; exact h1), RpL.close e (fun b hb => k b (by simp [hb])) h2⟩
  | .lst false ds, v, fp, k, h => by
    obtain ⟨a, vs, rfl, rfl, h1, h2⟩ := h
    exact ⟨a, vs, rfl, rfl, Same.rd e h1, RpL.close e k h2⟩
  | .tup ds, v, fp, k, h => by
    obtain ⟨a, vs, rfl, rfl, h1, h2⟩ := h
    exact ⟨a, vs, rfl, rfl, by rw [deepL_length]; exact TupAt.mono e h1, RpL.close e k h2⟩
  | .dk true ks ds, v, fp, k, h => by
    obtain ⟨a, vs, rfl, hl, fp', rfl, h1, h2⟩ := h
    exact ⟨a, vs, rfl, by rw [hl, deepL_length], rfl, .inl (by rw [k a (by simp)]; exact h1), RpL.close e (fun b hb => k b (by simp [hb])) h2⟩
  | .dk false ks ds, v, fp, k, h => by
    obtain ⟨a, vs, rfl, hl, rfl, h1, h2⟩ := h
    exact ⟨a, vs, rfl, by rw [hl, deepL_length], rfl, Same.rd e h1, RpL.close e k h2⟩
  | .dt true ks ds, v, fp, k, h => by
    obtain ⟨a, vs, rfl, hl, fp', rfl, h1, h2⟩ := h
    exact ⟨a, vs, rfl, by rw [hl, deepL_length], rfl, .inl (by rw [k a (by simp)]; exact h1), RpL.close e (fun b hb => k b (by simp [hb])) h2⟩
  | .dt false ks ds, v, fp, k, h => by
    obtain ⟨a, vs, rfl, hl, rfl, h1, h2⟩ := h
    exact ⟨a, vs, rfl, by rw [hl, deepL_length], rfl, Same.rd e h1, RpL.close e k h2⟩
  | .ins true c fs ds, v, fp, k, h => by
    obtain ⟨a, dx, vs, rfl, hl, fp', rfl, h1, h2⟩ := h
    exact ⟨a, dx, vs, rfl, by rw [hl, deepL_length], rfl, by rw [k a (by simp)]; exact h1, RpL.close e (fun b hb => k b (by simp [hb])) h2⟩
  | .ins false c fs ds, v, fp, k, h => by
    obtain ⟨a, dx, vs, rfl, hl, rfl, h1, h2⟩ := h
    exact ⟨a, dx, vs, rfl, by rw [hl, deepL_length], rfl, e _ _ h1, RpL.close e k h2⟩
theorem RpL.close (e : Same S S') : ∀ {ds : List D} {vs : List V} {fp : List Addr}, (∀ b ∈ fp, S' b = H b) → RpL G S H ds vs fp → RpL G S' H' (deepL ds) vs []
  | [], _, _, _, h => ⟨h.1, rfl⟩
  | d :: ds, vs, fp, k, h => by
    obtain ⟨v, vs', fp1, fp2, rfl, rfl, h1, h2⟩ := h
    exact ⟨v, vs', [], [], rfl, rfl, Rp.close e (fun b hb => k b (by simp [hb])) h1, RpL.close e (fun b hb => k b (by simp [hb])) h2⟩
end
end
end Ta

/-! Ta.S: the state's bookkeeping: Ok, Step, the slots' relation RpE, the frame. -/
namespace Ta
open PySem L2

/-- the kinds of what may be one's own -/
def Mk : HO → Prop
  | .lst _ => True
  | .dK _ => True
  | .dT _ => True
  | .ins _ _ _ => True
  | _ => False

section
variable {G : Glo} {S S' H H' : Hp}
mutual
theorem Rp.imm (e : ∀ a o, S' a = some o → S a = some o ∨ Mk o) : ∀ {d : D} {v : V} {fp : List Addr}, d.imm = true → Rp G S' H d v fp → Rp G S H d v fp
  | .non, _, _, _, h => h
  | .bl _, _, _, _, h => h
  | .int _, _, _, _, h => h
  | .str _, _, _, _, h => h
  | .gl _, _, _, _, h => h
  | .scr _, _, _, k, h => by simp [D.imm] at k
  | .lst true ds, v, fp, k, h => by
    obtain ⟨a, vs, rfl, fp', rfl, h1, h2⟩ := h
    exact ⟨a, vs, rfl, fp', rfl, h1, RpL.imm e (by simpa [D.imm] using k) h2⟩
  | .lst false ds, v, fp, k, h => by simp [D.imm] at k
  | .tup ds, v, fp, k, h => by
    obtain ⟨a, vs, rfl, rfl, h1, h2⟩ := h
    refine ⟨a, vs, rfl, rfl, ?_, RpL.imm e (by simpa [D.imm] using k) h2⟩
    rcases h1 with h1 | ⟨h0, (h1 | ⟨o, h1⟩) | h1⟩
    · exact .inl ((e _ _ h1).resolve_right fun z => z)
    · exact .inl ((e _ _ h1).resolve_right fun z => z)
    · exact .inr ⟨h0, .inl (.inr ⟨o, (e _ _ h1).resolve_right fun z => z⟩)⟩
    · exact .inr ⟨h0, .inr h1⟩
  | .dk true ks ds, v, fp, k, h => by
    obtain ⟨a, vs, rfl, hl, fp', rfl, h1, h2⟩ := h
    exact ⟨a, vs, rfl, hl, fp', rfl, h1, RpL.imm e (by simpa [D.imm] using k) h2⟩
  | .dk false ks ds, v, fp, k, h => by simp [D.imm] at k
  | .dt true ks ds, v, fp, k, h => by
    obtain ⟨a, vs, rfl, hl, fp', rfl, h1, h2⟩ := h
    exact ⟨a, vs, rfl, hl, fp', rfl, h1, RpL.imm e (by simpa [D.imm] using k) h2⟩
  | .dt false ks ds, v, fp, k, h => by simp [D.imm] at k
  | .ins true c fs ds, v, fp, k, h => by
    obtain ⟨a, dx, vs, rfl, hl, fp', rfl, h1, h2⟩ := h
    exact ⟨a, dx, vs, rfl, hl, fp', rfl, h1, RpL.imm e (by simpa [D.imm] using k) h2⟩
  | .ins false c fs ds, v, fp, k, h => by simp [D.imm] at k
theorem RpL.imm (e : ∀ a o, S' a = some o → S a = some o ∨ Mk o) : ∀ {ds : List D} {vs : List V} {fp : List Addr}, immL ds = true → RpL G S' H ds vs fp → RpL G S H ds vs fp
  | [], _, _, _, h => h
  | d :: ds, vs, fp, k, h => by
    obtain ⟨v, vs', fp1, fp2, rfl, rfl, h1, h2⟩ := h
    simp only [immL, Bool.and_eq_true] at k
    exact ⟨v, vs', fp1, fp2, rfl, rfl, Rp.imm e k.1 h1, RpL.imm e k.2 h2⟩
end
mutual
theorem Rp.fp_nil : ∀ {d : D} {v : V} {fp : List Addr}, d.cl = true → Rp G S H d v fp → fp = []
  | .non, _, _, _, h => h.2
  | .bl _, _, _, _, h => h.2
  | .int _, _, _, _, h => h.2
  | .str _, _, _, _, h => h.2
  | .gl _, _, _, _, h => h.2
  | .scr _, _, _, _, h => by obtain ⟨a, rfl, rfl, h⟩ := h; rfl
  | .lst true ds, v, fp, k, h => by simp [D.cl] at k
  | .lst false ds, v, fp, k, h => by obtain ⟨a, vs, rfl, rfl, h1, h2⟩ := h; rfl
  | .tup ds, v, fp, k, h => by obtain ⟨a, vs, rfl, rfl, h1, h2⟩ := h; rfl
  | .dk true ks ds, v, fp, k, h => by simp [D.cl] at k
  | .dk false ks ds, v, fp, k, h => by obtain ⟨a, vs, rfl, hl, rfl, h1, h2⟩ := h; rfl
  | .dt true ks ds, v, fp, k, h => by simp [D.cl] at k
  | .dt false ks ds, v, fp, k, h => by obtain ⟨a, vs, rfl, hl, rfl, h1, h2⟩ := h; rfl
  | .ins true c fs ds, v, fp, k, h => by simp [D.cl] at k
  | .ins false c fs ds, v, fp, k, h => by obtain ⟨a, dx, vs, rfl, hl, rfl, h1, h2⟩ := h; rfl
theorem RpL.fp_nil : ∀ {ds : List D} {vs : List V} {fp : List Addr}, clL ds = true → RpL G S H ds vs fp → fp = []
  | [], _, _, _, h => h.2
  | d :: ds, vs, fp, k, h => by
    obtain ⟨v, vs', fp1, fp2, rfl, rfl, h1, h2⟩ := h
    simp only [clL, Bool.and_eq_true] at k
    rw [Rp.fp_nil k.1 h1, RpL.fp_nil k.2 h2]; rfl
end
theorem RpL.length : ∀ {ds : List D} {vs : List V} {fp : List Addr}, RpL G S H ds vs fp → vs.length = ds.length
  | [], _, _, h => by rw [h.1]; rfl
  | d :: ds, vs, fp, h => by
    obtain ⟨v, vs', fp1, fp2, rfl, rfl, h1, h2⟩ := h
    simp [RpL.length h2]
theorem RpL.app : ∀ {ds es : List D} {vs ws : List V} {fp fq : List Addr}, RpL G S H ds vs fp → RpL G S H es ws fq → RpL G S H (ds ++ es) (vs ++ ws) (fp ++ fq)
  | [], es, vs, ws, fp, fq, h, h' => by rw [h.1, h.2]; exact h'
  | d :: ds, es, vs, ws, fp, fq, h, h' => by
    obtain ⟨v, vs', fp1, fp2, rfl, rfl, h1, h2⟩ := h
    exact ⟨v, vs' ++ ws, fp1, fp2 ++ fq, rfl, by rw [List.append_assoc], h1, RpL.app h2 h'⟩
theorem RpL.one {d : D} {v : V} {fp : List Addr} (h : Rp G S H d v fp) : RpL G S H [d] [v] fp := ⟨v, [], fp, [], rfl, by simp, h, rfl, rfl⟩
/-- the i-th of a list that stands still -/
theorem RpL.get : ∀ {ds : List D} {vs : List V} {i : Nat} {d : D}, RpL G S H ds vs [] → ds[i]? = some d → ∃ v, vs[i]? = some v ∧ Rp G S H d v []
  | [], _, _, _, _, e => by simp at e
  | d :: ds, vs, i, d', h, e => by
    obtain ⟨v, vs', fp1, fp2, rfl, q, h1, h2⟩ := h
    obtain ⟨rfl, rfl⟩ := List.append_eq_nil_iff.mp q.symm
    cases i with
    | zero => simp at e; subst e; exact ⟨v, rfl, h1⟩
    | succ i => exact RpL.get (i := i) h2 (by simpa using e)
end

/-! ### the state -/
structure Ok (S H : Hp) (FP : List Addr) : Prop where
  sub : Same S H
  nd : FP.Nodup
  off : ∀ b ∈ FP, S b = none
  there : ∀ b ∈ FP, ∃ o, H b = some o ∧ Mk o
structure Step (S H : Hp) (FP : List Addr) (S' H' : Hp) (FP' : List Addr) : Prop where
  ok : Ok S' H' FP'
  stay : Same S S'
  keep : ∀ b o, H b = some o → b ∉ FP → H' b = some o
  frm : ∀ b o, S' b = some o → S b = some o ∨ b ∈ FP ∨ H b = none
  fps : ∀ b ∈ FP', b ∈ FP ∨ H b = none
section
variable {S S1 S2 H H1 H2 : Hp} {A A1 A2 B B1 F F1 F2 t : List Addr}
theorem Ok.sublist (h : Ok S H A) (s : A1.Sublist A) : Ok S H A1 := ⟨h.sub, h.nd.sublist s, fun b hb => h.off b (s.subset hb), fun b hb => h.there b (s.subset hb)⟩
theorem Ok.perm (h : Ok S H A) (s : A.Perm A1) : Ok S H A1 := ⟨h.sub, s.nodup h.nd, fun b hb => h.off b (s.symm.subset hb), fun b hb => h.there b (s.symm.subset hb)⟩
theorem Ok.left (h : Ok S H (A ++ B)) : Ok S H A := h.sublist (List.sublist_append_left _ _)
theorem Ok.right (h : Ok S H (A ++ B)) : Ok S H B := h.sublist (List.sublist_append_right _ _)
theorem Ok.disj (h : Ok S H (A ++ B)) : ∀ b ∈ A, b ∉ B := fun b h1 h2 => (List.nodup_append.mp h.nd).2.2 b h1 b h2 rfl
theorem Step.refl (h : Ok S H A) : Step S H A S H A := ⟨h, Same.refl _, fun _ _ e _ => e, fun _ _ e => .inl e, fun _ e => .inl e⟩
theorem Step.sublist (h : Step S H A S1 H1 A1) (s : A2.Sublist A1) : Step S H A S1 H1 A2 := ⟨h.ok.sublist s, h.stay, h.keep, h.frm, fun b hb => h.fps b (s.subset hb)⟩
theorem Step.left (h : Step S H A S1 H1 (F ++ A1)) : Step S H A S1 H1 F := h.sublist (List.sublist_append_left _ _)
theorem Step.right (h : Step S H A S1 H1 (F ++ A1)) : Step S H A S1 H1 A1 := h.sublist (List.sublist_append_right _ _)
theorem Step.perm (h : Step S H A S1 H1 A1) (s : A1.Perm A2) : Step S H A S1 H1 A2 := ⟨h.ok.perm s, h.stay, h.keep, h.frm, fun b hb => h.fps b (s.symm.subset hb)⟩
theorem Step.permL (h : Step S H A S1 H1 A1) (s : A.Perm A2) : Step S H A2 S1 H1 A1 := ⟨h.ok, h.stay, fun b o e n => h.keep b o e fun z => n (s.subset z), fun b o e => (h.frm b o e).imp_right (Or.imp_left fun z => s.subset z), fun b hb => (h.fps b hb).imp_left fun z => s.subset z⟩
theorem Step.trans (x : Step S H A S1 H1 A1) (y : Step S1 H1 A1 S2 H2 A2) : Step S H A S2 H2 A2 := by
  have nin : ∀ b o, H b = some o → b ∉ A → b ∉ A1 := fun b o e n z => by
    rcases x.fps b z with q | q
    · exact n q
    · rw [e] at q; cases q
  have back : ∀ b, H1 b = none → b ∈ A ∨ H b = none := fun b e => by
    cases q : H b with
    | none => exact .inr rfl
    | some o =>
      refine .inl (Classical.byContradiction fun n => ?_)
      rw [x.keep b o q n] at e; cases e
  refine ⟨y.ok, x.stay.trans y.stay, fun b o e n => y.keep b o (x.keep b o e n) (nin b o e n), fun b o e => ?_, fun b hb => ?_⟩
  · rcases y.frm b o e with q | q | q
    · exact x.frm b o q
    · exact .inr (x.fps b q)
    · exact .inr (back b q)
  · rcases y.fps b hb with q | q
    · exact x.fps b q
    · exact back b q
/-- a cell of one's own is written -/
theorem Step.mut {a : Addr} {o : HO} (k : Ok S H A) (h : a ∈ A) (m : Mk o) : Step S H A S (upd H a o) A := by
  have nS : ∀ b u, S b = some u → b ≠ a := fun b u e z => by subst z; rw [k.off b h] at e; cases e
  refine ⟨⟨fun b u e => by rw [upd_ne (nS b u e)]; exact k.sub b u e, k.nd, k.off, fun b hb => ?_⟩, Same.refl _, fun b u e n => by rw [upd_ne (fun z => n (by rw [z]; exact h))]; exact e, fun b u e => .inl e, fun b hb => .inl hb⟩
  by_cases z : b = a
  · subst z; exact ⟨o, upd_same, m⟩
  · rw [upd_ne z]; exact k.there b hb
/-- what is held while a part runs -/
theorem Step.frame (o : Ok S H (t ++ A)) (y : Step S H A S1 H1 A1) : Step S H (t ++ A) S1 H1 (t ++ A1) := by
  have dj := o.disj
  have old : ∀ b ∈ t, ∃ o, H b = some o ∧ Mk o := fun b hb => o.there b (List.mem_append_left _ hb)
  refine ⟨⟨y.ok.sub, ?_, fun b hb => ?_, fun b hb => ?_⟩, y.stay, fun b u e n => y.keep b u e fun z => n (List.mem_append_right _ z), fun b u e => ?_, fun b hb => ?_⟩
  · refine List.nodup_append.mpr ⟨(List.nodup_append.mp o.nd).1, y.ok.nd, fun b hb c hc e => ?_⟩
    subst e
    rcases y.fps b hc with q | q
    · exact dj b hb q
    · obtain ⟨u, e, _⟩ := old b hb
      rw [e] at q; cases q
  · rcases List.mem_append.mp hb with hb | hb
    · cases q : S1 b with
      | none => rfl
      | some u =>
        rcases y.frm b u q with z | z | z
        · rw [o.off b (List.mem_append_left _ hb)] at z; cases z
        · exact absurd z (dj b hb)
        · obtain ⟨u, e, _⟩ := old b hb
          rw [e] at z; cases z
    · exact y.ok.off b hb
  · rcases List.mem_append.mp hb with hb | hb
    · obtain ⟨u, e, m⟩ := old b hb
      exact ⟨u, y.keep b u e (dj b hb), m⟩
    · exact y.ok.there b hb
  · rcases y.frm b u e with z | z | z
    · exact .inl z
    · exact .inr (.inl (List.mem_append_right _ z))
    · exact .inr (.inr z)
  · rcases List.mem_append.mp hb with hb | hb
    · exact .inl (List.mem_append_left _ hb)
    · exact (y.fps b hb).imp_left (List.mem_append_right _)
/-- .. on the right -/
theorem Step.frameR (o : Ok S H (A ++ t)) (y : Step S H A S1 H1 A1) : Step S H (A ++ t) S1 H1 (A1 ++ t) :=
  ((y.frame (o.perm List.perm_append_comm)).permL List.perm_append_comm).perm List.perm_append_comm
theorem Step.seq (x : Step S H A S1 H1 (t ++ A1)) (y : Step S1 H1 A1 S2 H2 A2) : Step S H A S2 H2 (t ++ A2) := x.trans (y.frame x.ok)
theorem Step.seqR (x : Step S H A S1 H1 (A1 ++ t)) (y : Step S1 H1 A1 S2 H2 A2) : Step S H A S2 H2 (A2 ++ t) := x.trans (y.frameR x.ok)
/-- what is held is the same behind a step -/
theorem Step.same (o : Ok S H (t ++ A)) (y : Step S H A S1 H1 A1) : ∀ b ∈ t, H1 b = H b := fun b hb => by
  obtain ⟨u, e, _⟩ := o.there b (List.mem_append_left _ hb)
  rw [e, y.keep b u e (o.disj b hb)]
theorem Step.sameR (o : Ok S H (A ++ t)) (y : Step S H A S1 H1 A1) : ∀ b ∈ t, H1 b = H b := y.same (o.perm List.perm_append_comm)
theorem Step.asc (x : Step S H A S1 H1 (t ++ (F ++ A1))) : Step S H A S1 H1 ((t ++ F) ++ A1) := by rw [List.append_assoc]; exact x
theorem Rp.step {G : Glo} {d : D} {v : V} (o : Ok S H (t ++ A)) (y : Step S H A S1 H1 A1) (h : Rp G S H d v t) : Rp G S1 H1 d v t := h.mono y.stay (y.same o)
theorem RpL.step {G : Glo} {d : List D} {v : List V} (o : Ok S H (t ++ A)) (y : Step S H A S1 H1 A1) (h : RpL G S H d v t) : RpL G S1 H1 d v t := h.mono y.stay (y.same o)
theorem Step.seq0 (x : Step S H A S1 H1 t) (y : Step S1 H1 [] S2 H2 A2) : Step S H A S2 H2 (t ++ A2) := Step.seq (A1 := []) (by rw [List.append_nil]; exact x) y
theorem Step.seq00 (x : Step S H A S1 H1 t) (y : Step S1 H1 [] S2 H2 []) : Step S H A S2 H2 t := by have := x.seq0 y; rwa [List.append_nil] at this
theorem RpL.stepN {G : Glo} {d : List D} {v : List V} (o : Ok S H t) (y : Step S H [] S1 H1 A1) (h : RpL G S H d v t) : RpL G S1 H1 d v t := h.step (A := []) (by rw [List.append_nil]; exact o) y
theorem Rp.step0 {G : Glo} {d : D} {v : V} (y : Step S H A S1 H1 A1) (h : Rp G S H d v []) : Rp G S1 H1 d v [] := h.mono y.stay (by simp)
theorem RpL.step0 {G : Glo} {d : List D} {v : List V} (y : Step S H A S1 H1 A1) (h : RpL G S H d v []) : RpL G S1 H1 d v [] := h.mono y.stay (by simp)
end

/-! ### the slots -/
abbrev Rho := List (Option D)
def RpE (G : Glo) (S H : Hp) : St → Rho → List Addr → Prop
  | [], [], fp => fp = []
  | _ :: σ, none :: ρ, fp => RpE G S H σ ρ fp
  | some v :: σ, some d :: ρ, fp => ∃ fp1 fp2, fp = fp1 ++ fp2 ∧ Rp G S H d v fp1 ∧ RpE G S H σ ρ fp2
  | _, _, _ => False
section
variable {G : Glo} {S S' H H' : Hp}
theorem RpE.mono (e : Same S S') : ∀ {σ : St} {ρ : Rho} {fp : List Addr}, (∀ b ∈ fp, H' b = H b) → RpE G S H σ ρ fp → RpE G S' H' σ ρ fp
  | [], [], _, _, h => h
  | _ :: σ, none :: ρ, _, k, h => RpE.mono (σ := σ) (ρ := ρ) e k h
  | some v :: σ, some d :: ρ, fp, k, h => by
    obtain ⟨fp1, fp2, rfl, h1, h2⟩ := h
    exact ⟨fp1, fp2, rfl, h1.mono e (fun b hb => k b (by simp [hb])), RpE.mono e (fun b hb => k b (by simp [hb])) h2⟩
  | [], _ :: _, _, _, h => (h : False).elim
  | none :: _, some _ :: _, _, _, h => (h : False).elim
  | some _ :: _, [], _, _, h => (h : False).elim
  | none :: _, [], _, _, h => (h : False).elim
theorem RpE.length : ∀ {σ : St} {ρ : Rho} {fp : List Addr}, RpE G S H σ ρ fp → σ.length = ρ.length
  | [], [], _, h => rfl
  | _ :: σ, none :: ρ, fp, h => congrArg (· + 1) (RpE.length (σ := σ) (ρ := ρ) (fp := fp) h)
  | some v :: σ, some d :: ρ, fp, h => by
    obtain ⟨fp1, fp2, rfl, h1, h2⟩ := h
    exact congrArg (· + 1) (RpE.length h2)
  | [], _ :: _, _, h => (h : False).elim
  | none :: _, some _ :: _, _, h => (h : False).elim
  | some _ :: _, [], _, h => (h : False).elim
  | none :: _, [], _, h => (h : False).elim
/-- a slot is read and its cells are apart -/
theorem RpE.split : ∀ {σ : St} {ρ : Rho} {fp : List Addr} {i : Nat} {d : D}, RpE G S H σ ρ fp → ρ[i]? = some (some d) →
    ∃ v fp1 fp2, σ[i]? = some (some v) ∧ Rp G S H d v fp1 ∧ fp.Perm (fp1 ++ fp2) ∧ RpE G S H σ (ρ.set i none) fp2
  | [], [], _, _, _, h, e => by simp at e
  | _ :: σ, none :: ρ, fp, 0, d, h, e => by simp at e
  | s :: σ, none :: ρ, fp, i + 1, d, h, e => by
    obtain ⟨v, fp1, fp2, h1, h2, h3, h4⟩ := RpE.split (σ := σ) (ρ := ρ) (fp := fp) (i := i) (d := d) h (by simpa using e)
    exact ⟨v, fp1, fp2, by simpa using h1, h2, h3, h4⟩
  | some v :: σ, some d :: ρ, fp, 0, d', h, e => by
    obtain ⟨fp1, fp2, rfl, h1, h2⟩ := h
    simp at e
    subst e
    exact ⟨v, fp1, fp2, rfl, h1, .refl _, h2⟩
  | some v :: σ, some d :: ρ, fp, i + 1, d', h, e => by
    obtain ⟨fp1, fp2, rfl, h1, h2⟩ := h
    obtain ⟨v', fq1, fq2, g1, g2, g3, g4⟩ := RpE.split (i := i) (d := d') h2 (by simpa using e)
    refine ⟨v', fq1, fp1 ++ fq2, by simpa using g1, g2, ?_, ⟨fp1, fq2, rfl, h1, g4⟩⟩
    refine (g3.append_left fp1).trans ?_
    rw [← List.append_assoc, ← List.append_assoc]
    exact List.perm_append_comm.append_right fq2
  | [], _ :: _, _, _, _, h, _ => (h : False).elim
  | none :: _, some _ :: _, _, _, _, h, _ => (h : False).elim
  | some _ :: _, [], _, _, _, h, _ => (h : False).elim
  | none :: _, [], _, _, _, h, _ => (h : False).elim
/-- a slot is filled -/
theorem RpE.put : ∀ {σ : St} {ρ : Rho} {fp fq : List Addr} {i : Nat} {d : D} {v : V}, RpE G S H σ (ρ.set i none) fp → Rp G S H d v fq → i < ρ.length → ∃ fr, fr.Perm (fq ++ fp) ∧ RpE G S H (σ.set i (some v)) (ρ.set i (some d)) fr
  | [], [], _, _, _, _, _, h, _, e => by simp at e
  | _ :: σ, _ :: ρ, fp, fq, 0, d, v, h, g, e => ⟨fq ++ fp, .refl _, fq, fp, rfl, g, h⟩
  | s :: σ, none :: ρ, fp, fq, i + 1, d, v, h, g, e => by
    obtain ⟨fr, p, q⟩ := RpE.put (σ := σ) (ρ := ρ) (fp := fp) (fq := fq) (i := i) (d := d) (v := v) h g (by simpa using e)
    exact ⟨fr, p, q⟩
  | some u :: σ, some d' :: ρ, fp, fq, i + 1, d, v, h, g, e => by
    obtain ⟨fp1, fp2, rfl, h1, h2⟩ := h
    obtain ⟨fr, p, q⟩ := RpE.put (σ := σ) (ρ := ρ) (fp := fp2) (fq := fq) (i := i) (d := d) (v := v) h2 g (by simpa using e)
    refine ⟨fp1 ++ fr, ?_, fp1, fr, rfl, h1, q⟩
    refine (p.append_left fp1).trans ?_
    rw [← List.append_assoc, ← List.append_assoc]
    exact List.perm_append_comm.append_right fp2
  | [], _ :: _, _, _, 0, _, _, h, _, _ => (h : False).elim
  | [], _ :: _, _, _, _ + 1, _, _, h, _, _ => by
    exfalso
    rename_i d ρ fp fq i d' v x
    cases d <;> exact h
  | none :: _, some _ :: _, _, _, _ + 1, _, _, h, _, _ => (h : False).elim
  | some _ :: _, [], _, _, _, _, _, h, _, e => by simp at e
  | none :: _, [], _, _, _, _, _, h, _, e => by simp at e
/-- forgetting a slot -/
theorem RpE.forget : ∀ {σ : St} {ρ : Rho} {fp : List Addr} {i : Nat}, RpE G S H σ ρ fp → ∃ fq, fq.Sublist fp ∧ RpE G S H σ (ρ.set i none) fq
  | [], [], fp, i, h => ⟨fp, .refl _, h⟩
  | _ :: σ, none :: ρ, fp, 0, h => ⟨fp, .refl _, h⟩
  | s :: σ, none :: ρ, fp, i + 1, h => by
    obtain ⟨fq, p, q⟩ := RpE.forget (σ := σ) (ρ := ρ) (fp := fp) (i := i) h
    exact ⟨fq, p, q⟩
  | some v :: σ, some d :: ρ, fp, 0, h => by
    obtain ⟨fp1, fp2, rfl, h1, h2⟩ := h
    exact ⟨fp2, List.sublist_append_right _ _, h2⟩
  | some v :: σ, some d :: ρ, fp, i + 1, h => by
    obtain ⟨fp1, fp2, rfl, h1, h2⟩ := h
    obtain ⟨fq, p, q⟩ := RpE.forget (σ := σ) (ρ := ρ) (fp := fp2) (i := i) h2
    exact ⟨fp1 ++ fq, p.append_left fp1, fp1, fq, rfl, h1, q⟩
  | [], _ :: _, _, _, h => (h : False).elim
  | none :: _, some _ :: _, _, _, h => (h : False).elim
  | some _ :: _, [], _, _, h => (h : False).elim
  | none :: _, [], _, _, h => (h : False).elim
/-- all slots closed -/
def deepE (ρ : Rho) : Rho := ρ.map fun o => o.map D.deep
theorem RpE.close (e : Same S S') : ∀ {σ : St} {ρ : Rho} {fp : List Addr}, (∀ b ∈ fp, S' b = H b) → RpE G S H σ ρ fp → RpE G S' H' σ (deepE ρ) []
  | [], [], _, _, h => rfl
  | _ :: σ, none :: ρ, _, k, h => RpE.close (σ := σ) (ρ := ρ) e k h
  | some v :: σ, some d :: ρ, fp, k, h => by
    obtain ⟨fp1, fp2, rfl, h1, h2⟩ := h
    exact ⟨[], [], rfl, h1.close e (fun b hb => k b (by simp [hb])), RpE.close e (fun b hb => k b (by simp [hb])) h2⟩
  | [], _ :: _, _, _, h => (h : False).elim
  | none :: _, some _ :: _, _, _, h => (h : False).elim
  | some _ :: _, [], _, _, h => (h : False).elim
  | none :: _, [], _, _, h => (h : False).elim
theorem RpE.step {G : Glo} {S H S1 H1 : Hp} {A A1 t : List Addr} {σ : St} {ρ : Rho} (o : Ok S H (A ++ t)) (y : Step S H A S1 H1 A1) (h : RpE G S H σ ρ t) : RpE G S1 H1 σ ρ t := h.mono y.stay (y.sameR o)
end
/-- what is known for the time of a look: the stable part and all cells of one's own -/
def plus (S H : Hp) (FP : List Addr) : Hp := fun a => if a ∈ FP then H a else S a
section
variable {S H : Hp} {FP : List Addr}
theorem plus_off {a : Addr} (h : a ∉ FP) : plus S H FP a = S a := by simp [plus, h]
theorem plus_on {a : Addr} (h : a ∈ FP) : plus S H FP a = H a := by simp [plus, h]
theorem Ok.plus (o : Ok S H FP) : Same S (plus S H FP) := fun b u e => by
  by_cases h : b ∈ FP
  · rw [o.off b h] at e; cases e
  · rw [plus_off h]; exact e
theorem Ok.plusH (o : Ok S H FP) : Same (Ta.plus S H FP) H := fun b u e => by
  by_cases h : b ∈ FP
  · rw [plus_on h] at e; exact e
  · rw [plus_off h] at e; exact o.sub b u e
theorem Ok.plusOk (o : Ok S H FP) : Ok (Ta.plus S H FP) H [] := ⟨o.plusH, .nil, fun _ h => (nomatch h), fun _ h => (nomatch h)⟩
end
end Ta

/-! Ta.G: the judgement: an expression, a test, a list of arguments, a statement does what a function of the slots' data says. -/
namespace Ta
open PySem PySem.Spec L2

/-- an exception: its class, its own fields -/
structure Exc where
  c : Nat
  fs : List Str
  xs : List D
abbrev Rs (α : Type) := Option (Except Exc α × Rho)
abbrev M (α : Type) := Rho → Rs α
def M.ok {α : Type} (a : α) : M α := fun ρ => some (.ok a, ρ)
def M.bind {α β : Type} (m : M α) (f : α → M β) : M β := fun ρ => match m ρ with
  | none => none
  | some (.error e, ρ') => some (.error e, ρ')
  | some (.ok a, ρ') => f a ρ'
def M.opt {α : Type} (o : Option α) : M α := fun ρ => match o with
  | none => none
  | some a => some (.ok a, ρ)
def ExcAt (G : Glo) (S H : Hp) (e : Exc) : Option Addr → Prop
  | none => e.fs = [] ∧ e.xs = []
  | some dx => ∃ vs, e.fs.length = e.xs.length ∧ H dx = some (.xd (e.fs.zip vs)) ∧ RpL G S H e.xs vs []
def PostE {α : Type} (G : Glo) (W : WX) (σ : L2.St) (S H : Hp) (FP : List Addr) (r : Rs α) (K : α → Rho → Prop) : Prop := match r with
  | none => False
  | some (.ok a, ρ') => K a ρ'
  | some (.error e, ρ') => ∀ d S' H' FP', Step S H FP S' H' FP' → RpE G S' H' σ ρ' FP' → ExcAt G S' H' e d → W (.ref (G.ca e.c)) d σ H'
def tOf (G : Glo) (W : WX) (m : M D) : TE := fun σ H Q => ∃ ρ S FP, Ok S H FP ∧ RpE G S H σ ρ FP ∧
  PostE G W σ S H FP (m ρ) fun d ρ' => ∀ v S' H' fp FP', Step S H FP S' H' (fp ++ FP') → Rp G S' H' d v fp → RpE G S' H' σ ρ' FP' → Q v H'
def tAOf (G : Glo) (W : WX) (m : M (List D)) : TA := fun σ H Q => ∃ ρ S FP, Ok S H FP ∧ RpE G S H σ ρ FP ∧
  PostE G W σ S H FP (m ρ) fun ds ρ' => ∀ vs S' H' fp FP', Step S H FP S' H' (fp ++ FP') → RpL G S' H' ds vs fp → RpE G S' H' σ ρ' FP' → Q vs H'
def tTOf (G : Glo) (W : WX) (m : M Bool) : TT := fun σ H Q => ∃ ρ S FP, Ok S H FP ∧ RpE G S H σ ρ FP ∧
  PostE G W σ S H FP (m ρ) fun b ρ' => ∀ S' H' FP', Step S H FP S' H' FP' → RpE G S' H' σ ρ' FP' → Q b H'

/-! ### the judgements -/
abbrev GE (G : Glo) (W : WX) (X : Cx) (e : Expr) (m : M D) : Prop := PE X e (tOf G W m)
abbrev GA (G : Glo) (W : WX) (X : Cx) (es : List Expr) (m : M (List D)) : Prop := PA X es (tAOf G W m)
abbrev GT (G : Glo) (W : WX) (X : Cx) (e : Expr) (m : M Bool) : Prop := PT X e (tTOf G W m)
theorem PE.imp {X : Cx} {e : Expr} {t u : TE} (h : PE X e t) (k : ∀ σ H Q, u σ H Q → t σ H Q) : PE X e u := ⟨fun p s σ H Q I q => h.run p s σ H Q I (k σ H Q q)⟩
theorem PA.imp {X : Cx} {e : List Expr} {t u : TA} (h : PA X e t) (k : ∀ σ H Q, u σ H Q → t σ H Q) : PA X e u := ⟨fun o p s σ H Q I q => h.run o p s σ H Q I (k σ H Q q)⟩
theorem PT.imp {X : Cx} {e : Expr} {t u : TT} (h : PT X e t) (k : ∀ σ H Q, u σ H Q → t σ H Q) : PT X e u := ⟨fun p s σ H Q I q => h.run p s σ H Q I (k σ H Q q)⟩
theorem PS.imp {X : Cx} {e : Stmt} {t u : TS} (h : PS X e t) (k : ∀ D σ H, u D σ H → t D σ H) : PS X e u := ⟨fun p s σ H D I q => h.run p s σ H D I (k D σ H q)⟩
theorem PSs.imp {X : Cx} {e : List Stmt} {t u : TS} (h : PSs X e t) (k : ∀ D σ H, u D σ H → t D σ H) : PSs X e u := ⟨fun p s σ H D I q => h.run p s σ H D I (k D σ H q)⟩

section
variable {α β : Type} {G : Glo} {W : WX} {σ : L2.St} {S S1 S2 H H1 H2 : Hp} {FP FP1 FP2 : List Addr} {r : Rs α} {K K' : α → Rho → Prop} {ρ : Rho}
theorem PostE.step (p : PostE G W σ S H FP r K) (st : Step S H FP S1 H1 FP1) : PostE G W σ S1 H1 FP1 r K := by
  match r, p with
  | some (.ok a, ρ'), p => exact p
  | some (.error e, ρ'), p => exact fun d S' H' FP' st' => p d S' H' FP' (st.trans st')
theorem PostE.mono (p : PostE G W σ S H FP r K) (h : ∀ a ρ', r = some (.ok a, ρ') → K a ρ' → K' a ρ') : PostE G W σ S H FP r K' := by
  match r, p, h with
  | some (.ok a, ρ'), p, h => exact h a ρ' rfl p
  | some (.error e, ρ'), p, h => exact p
theorem PostE.bind {m : M α} {f : α → M β} {K : β → Rho → Prop} (p : PostE G W σ S H FP (M.bind m f ρ) K) : PostE G W σ S H FP (m ρ) fun a ρ' => PostE G W σ S H FP (f a ρ') K := by
  unfold M.bind at p
  cases q : m ρ with
  | none => rw [q] at p; exact p
  | some x =>
    obtain ⟨x, ρ'⟩ := x
    cases x with
    | error e => rw [q] at p; exact p
    | ok a => rw [q] at p; exact p
/-- .. the end told from an earlier state -/
theorem tOf_from {S0 H0 : Hp} {F0 : List Addr} {m : M D} {f : D → M β} {K : β → Rho → Prop} {R : V → Hp → Prop} (z : Step S0 H0 F0 S H FP) (r : RpE G S H σ ρ FP) (p : PostE G W σ S0 H0 F0 (M.bind m f ρ) K)
    (c : ∀ d ρ1 v S1 H1 fp FP1, Step S H FP S1 H1 (fp ++ FP1) → Rp G S1 H1 d v fp → RpE G S1 H1 σ ρ1 FP1 → PostE G W σ S0 H0 F0 (f d ρ1) K → R v H1) : tOf G W m σ H R :=
  ⟨ρ, S, FP, z.ok, r, (p.bind.step z).mono fun d ρ1 _ p1 v S1 H1 fp FP1 st rp re => c d ρ1 v S1 H1 fp FP1 st rp re p1⟩
theorem tAOf_from {S0 H0 : Hp} {F0 : List Addr} {m : M (List D)} {f : List D → M β} {K : β → Rho → Prop} {R : List V → Hp → Prop} (z : Step S0 H0 F0 S H FP) (r : RpE G S H σ ρ FP) (p : PostE G W σ S0 H0 F0 (M.bind m f ρ) K)
    (c : ∀ d ρ1 v S1 H1 fp FP1, Step S H FP S1 H1 (fp ++ FP1) → RpL G S1 H1 d v fp → RpE G S1 H1 σ ρ1 FP1 → PostE G W σ S0 H0 F0 (f d ρ1) K → R v H1) : tAOf G W m σ H R :=
  ⟨ρ, S, FP, z.ok, r, (p.bind.step z).mono fun d ρ1 _ p1 v S1 H1 fp FP1 st rp re => c d ρ1 v S1 H1 fp FP1 st rp re p1⟩
/-- one expression, then the rest -/
theorem tOf_step {m : M D} {f : D → M β} {K : β → Rho → Prop} {R : V → Hp → Prop} (o : Ok S H FP) (r : RpE G S H σ ρ FP) (p : PostE G W σ S H FP (M.bind m f ρ) K)
    (c : ∀ d ρ1 v S1 H1 fp FP1, Step S H FP S1 H1 (fp ++ FP1) → Rp G S1 H1 d v fp → RpE G S1 H1 σ ρ1 FP1 → PostE G W σ S1 H1 FP1 (f d ρ1) K → R v H1) : tOf G W m σ H R :=
  ⟨ρ, S, FP, o, r, p.bind.mono fun d ρ1 _ p1 v S1 H1 fp FP1 st rp re => c d ρ1 v S1 H1 fp FP1 st rp re (p1.step st.right)⟩
theorem tAOf_step {m : M (List D)} {f : List D → M β} {K : β → Rho → Prop} {R : List V → Hp → Prop} (o : Ok S H FP) (r : RpE G S H σ ρ FP) (p : PostE G W σ S H FP (M.bind m f ρ) K)
    (c : ∀ ds ρ1 vs S1 H1 fp FP1, Step S H FP S1 H1 (fp ++ FP1) → RpL G S1 H1 ds vs fp → RpE G S1 H1 σ ρ1 FP1 → PostE G W σ S1 H1 FP1 (f ds ρ1) K → R vs H1) : tAOf G W m σ H R :=
  ⟨ρ, S, FP, o, r, p.bind.mono fun d ρ1 _ p1 v S1 H1 fp FP1 st rp re => c d ρ1 v S1 H1 fp FP1 st rp re (p1.step st.right)⟩
theorem tTOf_step {m : M Bool} {f : Bool → M β} {K : β → Rho → Prop} {R : Bool → Hp → Prop} (o : Ok S H FP) (r : RpE G S H σ ρ FP) (p : PostE G W σ S H FP (M.bind m f ρ) K)
    (c : ∀ b ρ1 S1 H1 FP1, Step S H FP S1 H1 FP1 → RpE G S1 H1 σ ρ1 FP1 → PostE G W σ S1 H1 FP1 (f b ρ1) K → R b H1) : tTOf G W m σ H R :=
  ⟨ρ, S, FP, o, r, p.bind.mono fun d ρ1 _ p1 S1 H1 FP1 st re => c d ρ1 S1 H1 FP1 st re (p1.step st)⟩
end

/-! ### by values: what a function of data says of values -/
def rN (G : Glo) (f : List D → Option D) : List V → Hp → VK → Prop := fun vs H Q => ∃ S ds FP d, Ok S H FP ∧ RpL G S H ds vs FP ∧ f ds = some d ∧
  ∀ v S' H' fp, Step S H FP S' H' fp → Rp G S' H' d v fp → Q v H'
def f1 (f : D → Option D) : List D → Option D
  | [a] => f a
  | _ => none
def f2 (f : D → D → Option D) : List D → Option D
  | [a, b] => f a b
  | _ => none
abbrev r2 (G : Glo) (f : D → D → Option D) : R2 := fun x y H Q => rN G (f2 f) [x, y] H Q
abbrev r1 (G : Glo) (f : D → Option D) : V → Hp → VK → Prop := fun x H Q => rN G (f1 f) [x] H Q

/-! ### borrowing -/
def minus (S : Hp) (FP : List Addr) : Hp := fun a => if a ∈ FP then none else S a
section
variable {S H S1 H1 : Hp} {FP F1 : List Addr}
theorem minus_off {a : Addr} (h : a ∉ FP) : minus S FP a = S a := by simp [minus, h]
theorem minus_on {a : Addr} (h : a ∈ FP) : minus S FP a = none := by simp [minus, h]
theorem minus_sub : Same (minus S FP) S := fun b u e => by
  by_cases h : b ∈ FP
  · rw [minus_on h] at e; cases e
  · rw [minus_off h] at e; exact e
/-- behind a look -/
theorem bor_step (o : Ok S H FP) (st : Step (plus S H FP) H [] S1 H1 F1) : Step S H FP (minus S1 FP) H1 (F1 ++ FP) := by
  have dj : ∀ b ∈ F1, b ∉ FP := fun b hb hf => by
    rcases st.fps b hb with q | q
    · cases q
    · obtain ⟨u, e, _⟩ := o.there b hf
      rw [e] at q; cases q
  refine ⟨⟨minus_sub.trans st.ok.sub, List.nodup_append.mpr ⟨st.ok.nd, o.nd, fun b hb c hc e => by subst e; exact dj b hb hc⟩, fun b hb => ?_, fun b hb => ?_⟩, fun b u e => ?_, fun b u e _ => st.keep b u e (by simp), fun b u e => ?_, fun b hb => ?_⟩
  · rcases List.mem_append.mp hb with hb | hb
    · rw [minus_off (dj b hb)]; exact st.ok.off b hb
    · exact minus_on hb
  · rcases List.mem_append.mp hb with hb | hb
    · exact st.ok.there b hb
    · obtain ⟨u, e, m⟩ := o.there b hb
      exact ⟨u, st.keep b u e (by simp), m⟩
  · have n : b ∉ FP := fun z => by rw [o.off b z] at e; cases e
    rw [minus_off n]
    exact st.stay b u (by rw [plus_off n]; exact e)
  · by_cases n : b ∈ FP
    · rw [minus_on n] at e; cases e
    · rw [minus_off n] at e
      rcases st.frm b u e with z | z | z
      · rw [plus_off n] at z; exact .inl z
      · cases z
      · exact .inr (.inr z)
  · rcases List.mem_append.mp hb with hb | hb
    · exact (st.fps b hb).imp_left fun z => nomatch z
    · exact .inl hb
theorem bor_imm (o : Ok S H FP) (st : Step (plus S H FP) H [] S1 H1 F1) : ∀ a u, S1 a = some u → minus S1 FP a = some u ∨ Mk u := fun a u e => by
  by_cases n : a ∈ FP
  · obtain ⟨u', e', m⟩ := o.there a n
    have := st.stay a u' (by rw [plus_on n]; exact e')
    rw [this] at e; cases e
    exact .inr m
  · exact .inl (by rw [minus_off n]; exact e)
end

/-! ### expressions -/
def mVar (i : Nat) : M D := fun ρ => match ρ[i]? with
  | some (some d) => if d.cl then some (.ok d, ρ) else none
  | _ => none
/-- the slot gives its thing away -/
def mMv (i : Nat) : M D := fun ρ => match ρ[i]? with
  | some (some d) => some (.ok d, ρ.set i none)
  | _ => none
def mC (d : D) : M D := M.ok d
/-- looked at: all slots stand still the while -/
def mBor {α : Type} (im : α → Bool) (m : M α) : M α := fun ρ => match m (deepE ρ) with
  | none => none
  | some (.error e, _) => if immL e.xs then some (.error e, ρ) else none
  | some (.ok a, _) => if im a then some (.ok a, ρ) else none
def mOp (f : D → D → Option D) (ma mb : M D) : M D := M.bind ma fun a => M.bind mb fun b => M.opt (f a b)
def mUn (f : D → Option D) (ma : M D) : M D := M.bind ma fun a => M.opt (f a)
def mNil : M (List D) := M.ok []
def mCons (ma : M D) (ms : M (List D)) : M (List D) := M.bind ma fun a => M.bind ms fun as => M.ok (a :: as)
def mIf {α : Type} (mt : M Bool) (ma mb : M α) : M α := M.bind mt fun b => if b then ma else mb
def mAnd (ma mb : M Bool) : M Bool := M.bind ma fun a => if a then mb else M.ok false
def mOr (ma mb : M Bool) : M Bool := M.bind ma fun a => if a then M.ok true else mb
def mNot (ma : M Bool) : M Bool := M.bind ma fun a => M.ok (!a)
def D.bool? : D → Option Bool
  | .bl b => some b
  | _ => none
/-- a value that is a truth value, as a test -/
def mB (ma : M D) : M Bool := M.bind ma fun a => M.opt a.bool?

section
variable {G : Glo} {W : WX} {X : Cx} {a b c : Expr} {es : List Expr} {ma mb : M D} {ms : M (List D)} {mt mu : M Bool} {pos : Pos}
theorem ge_var (i : Nat) {x : Str} (hN : X.N[i]? = some x := by rfl) (hv : Vis X.env.scope x := by first | exact Or.inl rfl | exact Or.inr (Or.inl rfl) | exact Or.inr (Or.inr rfl)) (hd : (x == ("__debug__" : Str)) = false := by decide)
    (hcd : (x == ("__classdict__" : Str)) = false := by decide) : GE G W X (.Name x pos) (mVar i) := by
  refine PE.imp (pe_var hN hv hd hcd) fun σ H Q h => ?_
  obtain ⟨ρ, S, FP, o, r, p⟩ := h
  unfold mVar at p
  split at p
  next d e =>
    split at p
    next hc =>
      obtain ⟨v, fp1, fp2, h1, h2, h3, h4⟩ := r.split e
      obtain rfl := h2.fp_nil hc
      exact ⟨v, h1, p v S H [] FP (Step.refl o) h2 r⟩
    next => exact p.elim
  next => exact p.elim
theorem ge_mv (i : Nat) {x : Str} (hN : X.N[i]? = some x := by rfl) (hv : Vis X.env.scope x := by first | exact Or.inl rfl | exact Or.inr (Or.inl rfl) | exact Or.inr (Or.inr rfl)) (hd : (x == ("__debug__" : Str)) = false := by decide)
    (hcd : (x == ("__classdict__" : Str)) = false := by decide) : GE G W X (.Name x pos) (mMv i) := by
  refine PE.imp (pe_var hN hv hd hcd) fun σ H Q h => ?_
  obtain ⟨ρ, S, FP, o, r, p⟩ := h
  unfold mMv at p
  split at p
  next d e =>
    obtain ⟨v, fp1, fp2, h1, h2, h3, h4⟩ := r.split e
    exact ⟨v, h1, p v S H fp1 fp2 ((Step.refl o).perm h3) h2 h4⟩
  next => exact p.elim
/-- a constant of any rule tC -/
theorem ge_c {d : D} {v : V} (h : PE X a (tC v)) (hr : ∀ S H, Rp G S H d v []) : GE G W X a (mC d) := by
  refine PE.imp h fun σ H Q h => ?_
  obtain ⟨ρ, S, FP, o, r, p⟩ := h
  exact p v S H [] FP (Step.refl o) (hr S H) r
theorem ge_int {i j} : GE G W X (.Constant (.int i) j pos) (mC (.int i)) := ge_c pe_int fun _ _ => ⟨rfl, rfl⟩
theorem ge_bl {i j} : GE G W X (.Constant (.bool i) j pos) (mC (.bl i)) := ge_c pe_bl fun _ _ => ⟨rfl, rfl⟩
theorem ge_non {j} : GE G W X (.Constant .none j pos) (mC .non) := ge_c pe_non fun _ _ => ⟨rfl, rfl⟩
theorem ge_str {i j} : GE G W X (.Constant (.str i) j pos) (mC (.str i)) := ge_c pe_str fun _ _ => ⟨rfl, rfl⟩
theorem ge_gl (n : Nat) {x : Str} {u : Value} (hm : X.mg x = some u) (r : RelV (G.gv n) u) (hg : Gl X x := by rfl) (hd : (x == ("__debug__" : Str)) = false := by decide) : GE G W X (.Name x pos) (mC (.gl n)) := ge_c (pe_glob hg hm r hd) fun _ _ => ⟨rfl, rfl⟩

/-- borrowing -/
theorem bor_post {α : Type} {im : α → Bool} {m : M α} {σ : L2.St} {S H : Hp} {FP : List Addr} {ρ : Rho} {K : α → Rho → Prop} {K' : α → Rho → Prop} (o : Ok S H FP) (r : RpE G S H σ ρ FP) (p : PostE G W σ S H FP (mBor im m ρ) K)
    (h : ∀ a ρ', im a = true → K a ρ → K' a ρ') : PostE G W σ (plus S H FP) H [] (m (deepE ρ)) K' := by
  unfold mBor at p
  cases q : m (deepE ρ) with
  | none => rw [q] at p; exact p
  | some x =>
    obtain ⟨x, ρ'⟩ := x
    rw [q] at p
    cases x with
    | ok a =>
      dsimp only at p
      split at p
      next hi => exact h a ρ' hi p
      next => exact p.elim
    | error e =>
      dsimp only at p
      split at p
      next hi =>
        intro d S' H' FP' st re ex
        have s2 := (bor_step o st).right
        refine p d _ _ FP s2 (r.mono s2.stay (fun b hb => by obtain ⟨u, e', _⟩ := o.there b hb; rw [e', st.keep b u e' (by simp)])) ?_
        cases d with
        | none => exact ex
        | some dx =>
          obtain ⟨vs, e1, e2, e3⟩ := ex
          exact ⟨vs, e1, e2, e3.imm (bor_imm o st) hi⟩
      next => exact p.elim
theorem ge_bor (h : GE G W X a ma) : GE G W X a (mBor D.imm ma) := by
  refine PE.imp h fun σ H Q h => ?_
  obtain ⟨ρ, S, FP, o, r, p⟩ := h
  refine ⟨deepE ρ, plus S H FP, [], o.plusOk, r.close o.plus (fun b hb => plus_on hb), bor_post o r p fun d ρ' hi k v S' H' fp FP' st rp re => ?_⟩
  have s2 := bor_step o st.left
  exact k v _ _ fp FP s2 (rp.imm (bor_imm o st.left) hi) (r.mono s2.stay (fun b hb => by obtain ⟨u, e', _⟩ := o.there b hb; rw [e', st.keep b u e' (by simp)]))
theorem gt_bor (h : GT G W X a mt) : GT G W X a (mBor (fun _ => true) mt) := by
  refine PT.imp h fun σ H Q h => ?_
  obtain ⟨ρ, S, FP, o, r, p⟩ := h
  refine ⟨deepE ρ, plus S H FP, [], o.plusOk, r.close o.plus (fun b hb => plus_on hb), bor_post o r p fun d ρ' hi k S' H' FP' st re => ?_⟩
  have s2 := (bor_step o st).right
  exact k _ _ FP s2 (r.mono s2.stay (fun b hb => by obtain ⟨u, e', _⟩ := o.there b hb; rw [e', st.keep b u e' (by simp)]))
theorem ga_bor (h : GA G W X es ms) : GA G W X es (mBor immL ms) := by
  refine PA.imp h fun σ H Q h => ?_
  obtain ⟨ρ, S, FP, o, r, p⟩ := h
  refine ⟨deepE ρ, plus S H FP, [], o.plusOk, r.close o.plus (fun b hb => plus_on hb), bor_post o r p fun d ρ' hi k v S' H' fp FP' st rp re => ?_⟩
  have s2 := bor_step o st.left
  exact k v _ _ fp FP s2 (rp.imm (bor_imm o st.left) hi) (r.mono s2.stay (fun b hb => by obtain ⟨u, e', _⟩ := o.there b hb; rw [e', st.keep b u e' (by simp)]))

theorem opt_post {α : Type} {x : Option α} {σ : L2.St} {S H : Hp} {FP : List Addr} {ρ : Rho} {K : α → Rho → Prop} (p : PostE G W σ S H FP (M.opt x ρ) K) : ∃ a, x = some a ∧ K a ρ := by
  cases x with
  | none => exact p.elim
  | some a => exact ⟨a, rfl, p⟩
theorem ge_op {op : Operator} {f : D → D → Option D} (ho : OpR X (binaryOp op) (r2 G f)) (ha : GE G W X a ma) (hb : GE G W X b mb) : GE G W X (.BinOp a op b pos) (mOp f ma mb) := by
  refine PE.imp (pe_op ho ha hb) fun σ H Q h => ?_
  obtain ⟨ρ, S, FP, o, r, p⟩ := h
  refine tOf_step o r p fun d1 ρ1 x S1 H1 fp1 FP1 st1 rp1 re1 p1 => ?_
  refine tOf_step st1.ok.right re1 p1 fun d2 ρ2 y S2 H2 fp2 FP2 st2 rp2 re2 p2 => ?_
  obtain ⟨d, e, k⟩ := opt_post p2
  have s12 := (st1.trans (st2.frame st1.ok)).asc
  refine ⟨S2, [d1, d2], fp1 ++ fp2, d, s12.ok.left, ⟨x, [y], fp1, fp2, rfl, rfl, rp1.step st1.ok st2, .one rp2⟩, e, fun v S' H' fp st3 rp => ?_⟩
  exact k v S' H' fp FP2 (s12.trans (st3.frameR s12.ok)) rp (re2.step s12.ok st3)
theorem ge_un {op : UnaryOp} {f : D → Option D} (ho : UnR X (unaryOp op) (r1 G f)) (ha : GE G W X a ma) : GE G W X (.UnaryOp op a pos) (mUn f ma) := by
  refine PE.imp (pe_un ho ha) fun σ H Q h => ?_
  obtain ⟨ρ, S, FP, o, r, p⟩ := h
  refine tOf_step o r p fun d1 ρ1 x S1 H1 fp1 FP1 st1 rp1 re1 p1 => ?_
  obtain ⟨d, e, k⟩ := opt_post p1
  refine ⟨S1, [d1], fp1, d, st1.ok.left, .one rp1, e, fun v S' H' fp st3 rp => ?_⟩
  exact k v S' H' fp FP1 (st1.trans (st3.frameR st1.ok)) rp (re1.step st1.ok st3)
theorem ga_nil : GA G W X [] mNil := by
  refine PA.imp pa_nil fun σ H Q h => ?_
  obtain ⟨ρ, S, FP, o, r, p⟩ := h
  exact p [] S H [] FP (Step.refl o) ⟨rfl, rfl⟩ r
theorem ga_cons (ha : GE G W X a ma) (hs : GA G W X es ms) (hst : starEach (a :: es) X.env = (false, eval a X.env) :: starEach es X.env := by rfl) : GA G W X (a :: es) (mCons ma ms) := by
  refine PA.imp (pa_cons ha hs hst) fun σ H Q h => ?_
  obtain ⟨ρ, S, FP, o, r, p⟩ := h
  refine tOf_step o r p fun d1 ρ1 x S1 H1 fp1 FP1 st1 rp1 re1 p1 => ?_
  refine tAOf_step st1.ok.right re1 p1 fun d2 ρ2 y S2 H2 fp2 FP2 st2 rp2 re2 p2 => ?_
  exact p2 (x :: y) S2 H2 (fp1 ++ fp2) FP2 (st1.trans (st2.frame st1.ok)).asc ⟨x, y, fp1, fp2, rfl, rfl, rp1.step st1.ok st2, rp2⟩ re2
/-- a test -/
theorem gt_b (ha : GE G W X a ma) (he : ∀ whole, isTrue a X.env whole = (do let v ← whole; standAt a.pos; holding [v] (truthy v)) := by intro _; rfl) : GT G W X a (mB ma) := by
  refine PT.imp (pt_val ha he) fun σ H Q h => ?_
  obtain ⟨ρ, S, FP, o, r, p⟩ := h
  refine tOf_step o r p fun d1 ρ1 x S1 H1 fp1 FP1 st1 rp1 re1 p1 => ?_
  obtain ⟨d, e, k⟩ := opt_post p1
  cases d1 <;> cases e
  exact ⟨d, rp1.1, k S1 H1 FP1 st1.right re1⟩
theorem gt_not (ha : GT G W X a mt) : GT G W X (.UnaryOp .Not a pos) (mNot mt) := by
  refine PT.imp (pt_not ha) fun σ H Q h => ?_
  obtain ⟨ρ, S, FP, o, r, p⟩ := h
  exact tTOf_step o r p fun d1 ρ1 S1 H1 FP1 st1 re1 p1 => p1 S1 H1 FP1 st1 re1
theorem ge_ifExp (hc : GT G W X c mt) (ha : GE G W X a ma) (hb : GE G W X b mb) : GE G W X (.IfExp c a b pos) (mIf mt ma mb) := by
  refine PE.imp (pe_ifExp hc ha hb) fun σ H Q h => ?_
  obtain ⟨ρ, S, FP, o, r, p⟩ := h
  refine tTOf_step o r p fun d1 ρ1 S1 H1 FP1 st1 re1 p1 => ?_
  cases d1 with
  | true => exact ⟨ρ1, S1, FP1, st1.ok, re1, PostE.mono p1 fun d ρ' _ k v S' H' fp FP' st => k v S' H' fp FP' (st1.trans st)⟩
  | false => exact ⟨ρ1, S1, FP1, st1.ok, re1, PostE.mono p1 fun d ρ' _ k v S' H' fp FP' st => k v S' H' fp FP' (st1.trans st)⟩
end
end Ta

/-! Ta.H: comparisons, and | or, displays, attributes, subscripts by values. -/
namespace Ta
open PySem PySem.Spec L2
abbrev GW (G : Glo) (W : WX) (X : Cx) (e : Expr) (m : M Bool) : Prop := PW X e (tTOf G W m)
theorem PW.imp {X : Cx} {e : Expr} {t u : TT} (h : PW X e t) (k : ∀ σ H Q, u σ H Q → t σ H Q) : PW X e u := ⟨fun w p s σ H Q I q => h.run w p s σ H Q I (k σ H Q q)⟩

def mChain (f g : D → D → Option D) (ma mb mc : M D) : M D := M.bind ma fun a => M.bind mb fun b => M.bind (M.opt (if b.cl then f a b else none)) fun k => M.bind (M.opt k.bool?) fun k => if k then M.bind mc fun c => M.opt (g b c) else M.ok (.bl false)
def mAndV (ma mb : M D) : M D := M.bind ma fun a => M.bind (M.opt a.bool?) fun k => if k then mb else M.ok (.bl false)
def mOrV (ma mb : M D) : M D := M.bind ma fun a => M.bind (M.opt a.bool?) fun k => if k then M.ok (.bl true) else mb
def mNotV (ma : M D) : M D := M.bind ma fun a => M.bind (M.opt a.bool?) fun k => M.ok (.bl (!k))

section
variable {G : Glo} {W : WX} {X : Cx} {a b c : Expr} {es rest : List Expr} {ma mb mc : M D} {ms : M (List D)} {mt mu : M Bool} {pos : Pos}
theorem bool_of {S H : Hp} {d : D} {v : V} {fp : List Addr} {k : Bool} (h : Rp G S H d v fp) (e : d.bool? = some k) : v = .bl k ∧ fp = [] ∧ d = .bl k := by
  cases d <;> cases e
  exact ⟨h.1, h.2, rfl⟩
theorem ge_cmp {op : CmpOp} {f : D → D → Option D} (ho : OpR X (compareOp op) (r2 G f)) (ha : GE G W X a ma) (hb : GE G W X b mb) (hm : behindInMarks op b = false := by first | exact nomark _ | rfl) : GE G W X (.Compare a [op] [b] pos) (mOp f ma mb) := by
  refine PE.imp (pe_cmpR ho ha hb hm) fun σ H Q h => ?_
  obtain ⟨ρ, S, FP, o, r, p⟩ := h
  refine tOf_step o r p fun d1 ρ1 x S1 H1 fp1 FP1 st1 rp1 re1 p1 => ?_
  refine tOf_step st1.ok.right re1 p1 fun d2 ρ2 y S2 H2 fp2 FP2 st2 rp2 re2 p2 => ?_
  obtain ⟨d, e, k⟩ := opt_post p2
  have s12 := (st1.trans (st2.frame st1.ok)).asc
  refine ⟨S2, [d1, d2], fp1 ++ fp2, d, s12.ok.left, ⟨x, [y], fp1, fp2, rfl, rfl, rp1.step st1.ok st2, .one rp2⟩, e, fun v S' H' fp st3 rp => ?_⟩
  exact k v S' H' fp FP2 (s12.trans (st3.frameR s12.ok)) rp (re2.step s12.ok st3)
theorem gt_cmp {op : CmpOp} {f : D → D → Option D} (ho : OpR X (compareOp op) (r2 G f)) (ha : GE G W X a ma) (hb : GE G W X b mb) (hm : behindInMarks op b = false := by first | exact nomark _ | rfl) : GT G W X (.Compare a [op] [b] pos) (mB (mOp f ma mb)) := by
  refine PT.imp (pt_cmpR ho ha hb hm) fun σ H Q h => ?_
  obtain ⟨ρ, S, FP, o, r, p⟩ := h
  have p' := p.bind
  refine tOf_step o r p' fun d1 ρ1 x S1 H1 fp1 FP1 st1 rp1 re1 p1 => ?_
  refine tOf_step st1.ok.right re1 p1 fun d2 ρ2 y S2 H2 fp2 FP2 st2 rp2 re2 p2 => ?_
  obtain ⟨d, e, k⟩ := opt_post p2
  have s12 := (st1.trans (st2.frame st1.ok)).asc
  refine ⟨S2, [d1, d2], fp1 ++ fp2, d, s12.ok.left, ⟨x, [y], fp1, fp2, rfl, rfl, rp1.step st1.ok st2, .one rp2⟩, e, fun v S' H' fp st3 rp => ?_⟩
  obtain ⟨q, e2, k2⟩ := opt_post k
  obtain ⟨rfl, rfl, rfl⟩ := bool_of rp e2
  have s3 := s12.trans (st3.frameR s12.ok)
  exact ⟨q, rfl, k2 S' H' FP2 s3 (re2.step s12.ok st3)⟩
theorem gw_and1 (ha : GT G W X a mt) : GW G W X (.BoolOp .And [a] pos) mt := pw_and1 ha
theorem gw_or1 (ha : GT G W X a mt) : GW G W X (.BoolOp .Or [a] pos) mt := pw_or1 ha
theorem gw_and (ha : GT G W X a mt) (hb : GW G W X (.BoolOp .And (b :: rest) pos) mu) : GW G W X (.BoolOp .And (a :: b :: rest) pos) (mAnd mt mu) := by
  refine PW.imp (pw_and ha hb) fun σ H Q h => ?_
  obtain ⟨ρ, S, FP, o, r, p⟩ := h
  refine tTOf_step o r p fun d1 ρ1 S1 H1 FP1 st1 re1 p1 => ?_
  cases d1 with
  | true => exact ⟨ρ1, S1, FP1, st1.ok, re1, PostE.mono p1 fun d ρ' _ k S' H' FP' st => k S' H' FP' (st1.trans st)⟩
  | false => exact p1 S1 H1 FP1 st1 re1
theorem gw_or (ha : GT G W X a mt) (hb : GW G W X (.BoolOp .Or (b :: rest) pos) mu) : GW G W X (.BoolOp .Or (a :: b :: rest) pos) (mOr mt mu) := by
  refine PW.imp (pw_or ha hb) fun σ H Q h => ?_
  obtain ⟨ρ, S, FP, o, r, p⟩ := h
  refine tTOf_step o r p fun d1 ρ1 S1 H1 FP1 st1 re1 p1 => ?_
  cases d1 with
  | false => exact ⟨ρ1, S1, FP1, st1.ok, re1, PostE.mono p1 fun d ρ' _ k S' H' FP' st => k S' H' FP' (st1.trans st)⟩
  | true => exact p1 S1 H1 FP1 st1 re1
theorem gt_w (h : GW G W X a mt) : GT G W X a mt := h.pt
theorem ge_one {op : BoolOp} (ha : GE G W X a ma) : GE G W X (.BoolOp op [a] pos) ma := pe_one ha
theorem ge_and (ha : GE G W X a ma) (hb : GE G W X (.BoolOp .And (b :: rest) pos) mb) : GE G W X (.BoolOp .And (a :: b :: rest) pos) (mAndV ma mb) := by
  refine PE.imp (pe_and ha hb) fun σ H Q h => ?_
  obtain ⟨ρ, S, FP, o, r, p⟩ := h
  refine tOf_step o r p fun d1 ρ1 x S1 H1 fp1 FP1 st1 rp1 re1 p1 => ?_
  obtain ⟨q, e, p2⟩ := opt_post p1.bind
  obtain ⟨rfl, rfl, rfl⟩ := bool_of rp1 e
  refine ⟨q, rfl, ?_⟩
  cases q with
  | true =>
    rw [if_pos rfl]
    exact ⟨ρ1, S1, FP1, st1.ok, re1, PostE.mono p2 fun d ρ' _ k v S' H' fp FP' st => k v S' H' fp FP' (st1.trans st)⟩
  | false =>
    rw [if_neg Bool.false_ne_true]
    exact p2 (.bl false) S1 H1 [] FP1 st1 ⟨rfl, rfl⟩ re1
theorem ge_or (ha : GE G W X a ma) (hb : GE G W X (.BoolOp .Or (b :: rest) pos) mb) : GE G W X (.BoolOp .Or (a :: b :: rest) pos) (mOrV ma mb) := by
  refine PE.imp (pe_or ha hb) fun σ H Q h => ?_
  obtain ⟨ρ, S, FP, o, r, p⟩ := h
  refine tOf_step o r p fun d1 ρ1 x S1 H1 fp1 FP1 st1 rp1 re1 p1 => ?_
  obtain ⟨q, e, p2⟩ := opt_post p1.bind
  obtain ⟨rfl, rfl, rfl⟩ := bool_of rp1 e
  refine ⟨q, rfl, ?_⟩
  cases q with
  | false =>
    rw [if_neg Bool.false_ne_true]
    exact ⟨ρ1, S1, FP1, st1.ok, re1, PostE.mono p2 fun d ρ' _ k v S' H' fp FP' st => k v S' H' fp FP' (st1.trans st)⟩
  | true =>
    rw [if_pos rfl]
    exact p2 (.bl true) S1 H1 [] FP1 st1 ⟨rfl, rfl⟩ re1
theorem ge_not (ha : GE G W X a ma) : GE G W X (.UnaryOp .Not a pos) (mNotV ma) := by
  refine PE.imp (pe_not ha) fun σ H Q h => ?_
  obtain ⟨ρ, S, FP, o, r, p⟩ := h
  refine tOf_step o r p fun d1 ρ1 x S1 H1 fp1 FP1 st1 rp1 re1 p1 => ?_
  obtain ⟨q, e, p2⟩ := opt_post p1.bind
  obtain ⟨rfl, rfl, rfl⟩ := bool_of rp1 e
  exact ⟨q, rfl, p2 (.bl (!q)) S1 H1 [] FP1 st1 ⟨rfl, rfl⟩ re1⟩
theorem ge_chain {op op' : CmpOp} {f g : D → D → Option D} (ho : OpR X (compareOp op) (r2 G f)) (ho' : OpR X (compareOp op') (r2 G g)) (ha : GE G W X a ma) (hb : GE G W X b mb) (hc : GE G W X c mc)
    (hm : lastMarks [op, op'] [b, c] = false := by with_unfolding_all rfl) : GE G W X (.Compare a [op, op'] [b, c] pos) (mChain f g ma mb mc) := by
  refine PE.imp (pe_chain ho ho' ha hb hc hm) fun σ H Q h => ?_
  obtain ⟨ρ, S, FP, o, r, p⟩ := h
  refine tOf_from (Step.refl o) r p fun d1 ρ1 x S1 H1 fp1 FP1 st1 rp1 re1 p1 => ?_
  refine tOf_from st1.right re1 p1 fun d2 ρ2 y S2 H2 fp2 FP2 st2 rp2 re2 p2 => ?_
  obtain ⟨d, e, p3⟩ := opt_post p2.bind
  split at e
  next hcl =>
    obtain rfl := rp2.fp_nil hcl
    have s12 := (st1.trans (st2.frame st1.ok)).asc
    refine ⟨S2, [d1, d2], fp1 ++ [], d, s12.ok.left, ⟨x, [y], fp1, [], rfl, rfl, rp1.step st1.ok st2, .one rp2⟩, e, fun v S' H' fp st3 rp => ?_⟩
    obtain ⟨q, e2, k2⟩ := opt_post p3.bind
    obtain ⟨rfl, rfl, rfl⟩ := bool_of rp e2
    have s3 := s12.trans (st3.frameR s12.ok)
    refine ⟨q, rfl, ?_⟩
    cases q with
    | false =>
      rw [if_neg Bool.false_ne_true]
      exact k2 (.bl false) S' H' [] FP2 s3 ⟨rfl, rfl⟩ (re2.step s12.ok st3)
    | true =>
      rw [if_pos rfl]
      refine tOf_from (S0 := S) (H0 := H) (F0 := FP) s3 (re2.step s12.ok st3) k2 fun d3 ρ3 w S4 H4 fp4 FP4 st4 rp4 re4 k4 => ?_
      obtain ⟨d, e, k5⟩ := opt_post k4
      have rp2' := (rp2.step0 st3).step0 st4
      refine ⟨S4, [d2, d3], [] ++ fp4, d, st4.ok.left, ⟨y, [w], [], fp4, rfl, rfl, rp2', .one rp4⟩, e, fun v S5 H5 fp5 st5 rp5 => ?_⟩
      have s45 : Step S4 H4 (fp4 ++ FP4) S5 H5 (fp5 ++ FP4) := st5.frameR st4.ok
      exact k5 v S5 H5 fp5 FP4 ((s3.trans st4).trans s45) rp5 (re4.step st4.ok st5)
  next => cases e

/-! ### displays -/
def mLst (ms : M (List D)) : M D := M.bind ms fun ds => M.opt (if ds.length ≤ sizeLine then some (.lst true ds) else none)
def mTup (ms : M (List D)) : M D := M.bind ms fun ds => M.opt (if ds.length ≤ sizeLine then some (.tup (deepL ds)) else none)
theorem Mk.lst {xs : List V} : Mk (.lst xs) := trivial
/-- a new cell of one's own -/
theorem Step.new {S H : Hp} {FP : List Addr} {a : Addr} {o : HO} (k : Ok S H FP) (n : H a = none) (m : Mk o) : Step S H FP S (upd H a o) (a :: FP) := by
  have ne : ∀ b u, H b = some u → b ≠ a := fun b u e => ne_of_none e n
  refine ⟨⟨fun b u e => ?_, ?_, fun b hb => ?_, fun b hb => ?_⟩, Same.refl _, fun b u e _ => by rw [upd_ne (ne b u e)]; exact e, fun b u e => .inl e, fun b hb => ?_⟩
  · rw [upd_ne (ne b u (k.sub b u e))]; exact k.sub b u e
  · exact List.nodup_cons.mpr ⟨fun hb => (by obtain ⟨u, e, _⟩ := k.there a hb; rw [n] at e; cases e), k.nd⟩
  · rcases List.mem_cons.mp hb with rfl | hb
    · cases q : S b with
      | none => rfl
      | some u => rw [k.sub b u q] at n; cases n
    · exact k.off b hb
  · rcases List.mem_cons.mp hb with rfl | hb
    · exact ⟨o, upd_same, m⟩
    · obtain ⟨u, e, m⟩ := k.there b hb
      exact ⟨u, by rw [upd_ne (ne b u e)]; exact e, m⟩
  · rcases List.mem_cons.mp hb with rfl | hb
    · exact .inr n
    · exact .inl hb
theorem upd_same_of {H : Hp} {a : Addr} {o : HO} {FP : List Addr} (n : H a = none) (h : ∀ b ∈ FP, ∃ u, H b = some u ∧ Mk u) : ∀ b ∈ FP, upd H a o b = H b := fun b hb => by
  obtain ⟨u, e, _⟩ := h b hb
  exact upd_ne (ne_of_none e n)
theorem ge_lst (hs : GA G W X es ms) : GE G W X (.List es pos) (mLst ms) := by
  refine PE.imp (pe_lst hs) fun σ H Q h => ?_
  obtain ⟨ρ, S, FP, o, r, p⟩ := h
  refine tAOf_step o r p fun ds ρ1 vs S1 H1 fp1 FP1 st1 rp1 re1 p1 => ?_
  obtain ⟨d, e, k⟩ := opt_post p1
  split at e
  next hl =>
    cases e
    refine ⟨by rw [rp1.length]; exact hl, fun q hq => ?_⟩
    have sn := Step.new (o := .lst vs) st1.ok hq trivial
    refine k (.ref q) _ _ (q :: fp1) FP1 (st1.trans sn) ⟨q, vs, rfl, fp1, rfl, upd_same, rp1.mono (Same.refl _) (upd_same_of hq st1.ok.left.there)⟩ (re1.mono (Same.refl _) (upd_same_of hq st1.ok.right.there))
  next => cases e
/-- cells of one's own are given to the stable part -/
theorem Step.give {S H : Hp} {A B : List Addr} (k : Ok S H (A ++ B)) : Step S H (A ++ B) (plus S H A) H B := by
  have oa := k.left
  refine ⟨⟨oa.plusH, k.right.nd, fun b hb => ?_, k.right.there⟩, oa.plus, fun b u e _ => e, fun b u e => ?_, fun b hb => .inl (List.mem_append_right _ hb)⟩
  · rw [plus_off fun z => k.disj b z hb]; exact k.right.off b hb
  · by_cases z : b ∈ A
    · exact .inr (.inl (List.mem_append_left _ z))
    · rw [plus_off z] at e; exact .inl e
/-- a new cell that stands still -/
theorem Step.newS {S H : Hp} {FP : List Addr} {a : Addr} {o : HO} (k : Ok S H FP) (n : H a = none) : Step S H FP (upd S a o) (upd H a o) FP := by
  have ne : ∀ b u, H b = some u → b ≠ a := fun b u e => ne_of_none e n
  have neS : ∀ b u, S b = some u → b ≠ a := fun b u e => ne b u (k.sub b u e)
  refine ⟨⟨fun b u e => ?_, k.nd, fun b hb => ?_, fun b hb => ?_⟩, fun b u e => ?_, fun b u e _ => by rw [upd_ne (ne b u e)]; exact e, fun b u e => ?_, fun b hb => .inl hb⟩
  · by_cases q : b = a
    · subst q; rw [upd_same] at e ⊢; exact e
    · rw [upd_ne q] at e ⊢; exact k.sub b u e
  · obtain ⟨u, e, _⟩ := k.there b hb
    rw [upd_ne (ne b u e)]; exact k.off b hb
  · obtain ⟨u, e, m⟩ := k.there b hb
    exact ⟨u, by rw [upd_ne (ne b u e)]; exact e, m⟩
  · rw [upd_ne (neS b u e)]; exact e
  · by_cases q : b = a
    · subst q; exact .inr (.inr n)
    · rw [upd_ne q] at e; exact .inl e
theorem ge_tup {x1} (hs : GA G W X es ms) : GE G W X (.Tuple es x1 pos) (mTup ms) := by
  refine PE.imp (pe_tup hs) fun σ H Q h => ?_
  obtain ⟨ρ, S, FP, o, r, p⟩ := h
  refine tAOf_step o r p fun ds ρ1 vs S1 H1 fp1 FP1 st1 rp1 re1 p1 => ?_
  obtain ⟨d, e, k⟩ := opt_post p1
  split at e
  next hl =>
    cases e
    refine ⟨by rw [rp1.length]; exact hl, fun q hq => ?_⟩
    have sg := Step.give st1.ok
    have rp2 : RpL G (plus S1 H1 fp1) H1 (deepL ds) vs [] := rp1.close sg.stay (fun b hb => plus_on hb)
    have sn := Step.newS (o := .tup vs) sg.ok hq
    refine k (.ref q) _ _ [] FP1 (st1.trans (sg.trans sn)) ⟨q, vs, rfl, rfl, .inl upd_same, rp2.mono sn.stay (by simp)⟩ (re1.mono (sg.trans sn).stay (upd_same_of hq st1.ok.right.there))
  next => cases e
end
end Ta

/-! Ta.T: statements. -/
namespace Ta
open PySem PySem.Spec L2

/-- how a statement ends -/
inductive Fl where
  | nx | ret (d : D) | bk | ct
abbrev MS := M Fl
def Keep (μ : List Nat) (σ σ' : L2.St) : Prop := ∀ i ∈ μ, σ'[i]? = σ[i]?
theorem Keep.refl {μ : List Nat} {σ : L2.St} : Keep μ σ σ := fun _ _ => rfl
theorem Keep.trans {μ : List Nat} {σ σ1 σ2 : L2.St} (a : Keep μ σ σ1) (b : Keep μ σ1 σ2) : Keep μ σ σ2 := fun i h => (b i h).trans (a i h)
theorem Keep.set {μ : List Nat} {σ : L2.St} {i : Nat} {v : Option V} (h : i ∉ μ) : Keep μ σ (σ.set i v) := fun j hj => List.getElem?_set_ne fun e => h (by rw [e]; exact hj)
def PostS (G : Glo) (W : WX) (μ : List Nat) (D : Ends) (σ : L2.St) (S H : Hp) (FP : List Addr) : Rs Fl → Prop
  | none => False
  | some (.error e, ρ') => ∀ d σ' S' H' FP', Step S H FP S' H' FP' → RpE G S' H' σ' ρ' FP' → Keep μ σ σ' → ExcAt G S' H' e d → W (.ref (G.ca e.c)) d σ' H'
  | some (.ok .nx, ρ') => ∀ σ' S' H' FP', Step S H FP S' H' FP' → RpE G S' H' σ' ρ' FP' → Keep μ σ σ' → D.nx σ' H'
  | some (.ok .bk, ρ') => ∀ σ' S' H' FP', Step S H FP S' H' FP' → RpE G S' H' σ' ρ' FP' → Keep μ σ σ' → D.bk σ' H'
  | some (.ok .ct, ρ') => ∀ σ' S' H' FP', Step S H FP S' H' FP' → RpE G S' H' σ' ρ' FP' → Keep μ σ σ' → D.ct σ' H'
  | some (.ok (.ret d), ρ') => ∀ v σ' S' H' fp FP', Step S H FP S' H' (fp ++ FP') → Rp G S' H' d v fp → RpE G S' H' σ' ρ' FP' → Keep μ σ σ' → D.rt v H'
def tSOf (G : Glo) (W : WX) (μ : List Nat) (m : MS) : TS := fun D σ H => ∃ ρ S FP, Ok S H FP ∧ RpE G S H σ ρ FP ∧ PostS G W μ D σ S H FP (m ρ)
abbrev GS (G : Glo) (W : WX) (μ : List Nat) (X : Cx) (st : Stmt) (m : MS) : Prop := PS X st (tSOf G W μ m)
abbrev GSs (G : Glo) (W : WX) (μ : List Nat) (X : Cx) (st : List Stmt) (m : MS) : Prop := PSs X st (tSOf G W μ m)

section
variable {G : Glo} {W : WX} {μ : List Nat} {D D' : Ends} {σ σ1 : L2.St} {S S1 H H1 : Hp} {FP FP1 : List Addr} {r : Rs Fl}
theorem PostS.step (p : PostS G W μ D σ S H FP r) (st : Step S H FP S1 H1 FP1) (k : Keep μ σ σ1) : PostS G W μ D σ1 S1 H1 FP1 r := by
  match r, p with
  | some (.error e, ρ'), p => exact fun d σ' S' H' FP' st' re k' => p d σ' S' H' FP' (st.trans st') re (k.trans k')
  | some (.ok .nx, ρ'), p => exact fun σ' S' H' FP' st' re k' => p σ' S' H' FP' (st.trans st') re (k.trans k')
  | some (.ok .bk, ρ'), p => exact fun σ' S' H' FP' st' re k' => p σ' S' H' FP' (st.trans st') re (k.trans k')
  | some (.ok .ct, ρ'), p => exact fun σ' S' H' FP' st' re k' => p σ' S' H' FP' (st.trans st') re (k.trans k')
  | some (.ok (.ret d), ρ'), p => exact fun v σ' S' H' fp FP' st' rp re k' => p v σ' S' H' fp FP' (st.trans st') rp re (k.trans k')
/-- one step's end: an error, or a value and the rest -/
theorem PostS.bind {α : Type} {m : M α} {f : α → MS} {ρ : Rho} (p : PostS G W μ D σ S H FP (M.bind m f ρ)) : PostE G W σ S H FP (m ρ) fun a ρ' => PostS G W μ D σ S H FP (f a ρ') := by
  unfold M.bind at p
  cases q : m ρ with
  | none => rw [q] at p; exact p
  | some x =>
    obtain ⟨x, ρ'⟩ := x
    cases x with
    | error e =>
      rw [q] at p
      exact fun d S' H' FP' st re ex => p d σ S' H' FP' st re Keep.refl ex
    | ok a => rw [q] at p; exact p
theorem tOf_s {m : M Ta.D} {f : Ta.D → MS} {ρ : Rho} {R : V → Hp → Prop} (o : Ok S H FP) (r : RpE G S H σ ρ FP) (p : PostS G W μ D σ S H FP (M.bind m f ρ))
    (c : ∀ d ρ1 v S1 H1 fp FP1, Step S H FP S1 H1 (fp ++ FP1) → Rp G S1 H1 d v fp → RpE G S1 H1 σ ρ1 FP1 → PostS G W μ D σ S H FP (f d ρ1) → R v H1) : tOf G W m σ H R :=
  ⟨ρ, S, FP, o, r, p.bind.mono fun d ρ1 _ p1 v S1 H1 fp FP1 st rp re => c d ρ1 v S1 H1 fp FP1 st rp re p1⟩
theorem tTOf_s {m : M Bool} {f : Bool → MS} {ρ : Rho} {R : Bool → Hp → Prop} (o : Ok S H FP) (r : RpE G S H σ ρ FP) (p : PostS G W μ D σ S H FP (M.bind m f ρ))
    (c : ∀ b ρ1 S1 H1 FP1, Step S H FP S1 H1 FP1 → RpE G S1 H1 σ ρ1 FP1 → PostS G W μ D σ S H FP (f b ρ1) → R b H1) : tTOf G W m σ H R :=
  ⟨ρ, S, FP, o, r, p.bind.mono fun d ρ1 _ p1 S1 H1 FP1 st re => c d ρ1 S1 H1 FP1 st re p1⟩
end

/-! ### the statements -/
def sSeq (m n : MS) : MS := M.bind m fun f => match f with
  | .nx => n
  | f => M.ok f
def sNx : MS := M.ok .nx
def sBk : MS := M.ok .bk
def sCt : MS := M.ok .ct
def sRetN : MS := M.ok (.ret .non)
def sRet (ma : M D) : MS := M.bind ma fun d => M.ok (.ret d)
def sExpr (ma : M D) : MS := M.bind ma fun _ => M.ok .nx
def sIf (mt : M Bool) (m n : MS) : MS := M.bind mt fun b => if b then m else n
def putM (i : Nat) (d : D) : MS := fun ρ => if i < ρ.length then some (.ok .nx, ρ.set i (some d)) else none
def sAsg (i : Nat) (ma : M D) : MS := M.bind ma fun d => putM i d
/-- what is one's own of it is given away: it stands still from now on -/
def mCls (ma : M D) : M D := M.bind ma fun d => M.ok d.deep
section
variable {G : Glo} {W : WX} {μ : List Nat} {X : Cx} {a b c : Expr} {es : List Expr} {ma mb : M D} {ms : M (List D)} {mt : M Bool} {pos : Pos} {st : Stmt} {sts sts' : List Stmt} {m n : MS}
theorem gss_nil : GSs G W μ X [] sNx := by
  refine PSs.imp pss_nil fun D σ H h => ?_
  obtain ⟨ρ, S, FP, o, r, p⟩ := h
  exact p σ S H FP (Step.refl o) r Keep.refl
theorem seq_post {D : Ends} {σ : L2.St} {S H : Hp} {FP : List Addr} {ρ : Rho} (p : PostS G W μ D σ S H FP (sSeq m n ρ)) : PostS G W μ { D with nx := tSOf G W μ n D } σ S H FP (m ρ) := by
  unfold sSeq M.bind at p
  cases q : m ρ with
  | none => rw [q] at p; exact p
  | some x =>
    obtain ⟨x, ρ'⟩ := x
    rw [q] at p
    cases x with
    | error e => exact p
    | ok f =>
      cases f with
      | nx => exact fun σ' S' H' FP' st re k => ⟨ρ', S', FP', st.ok, re, PostS.step p st k⟩
      | bk => exact p
      | ct => exact p
      | ret d => exact p
theorem gss_cons (h1 : GS G W μ X st m) (h2 : GSs G W μ X sts n) : GSs G W μ X (st :: sts) (sSeq m n) := by
  refine PSs.imp (pss_cons h1 h2) fun D σ H h => ?_
  obtain ⟨ρ, S, FP, o, r, p⟩ := h
  exact ⟨ρ, S, FP, o, r, seq_post p⟩
theorem gss_one (h1 : GS G W μ X st m) : GSs G W μ X [st] m := pss_one h1
theorem gs_pass : GS G W μ X (.Pass pos) sNx := by
  refine PS.imp ps_pass fun D σ H h => ?_
  obtain ⟨ρ, S, FP, o, r, p⟩ := h
  exact p σ S H FP (Step.refl o) r Keep.refl
theorem gs_break : GS G W μ X (.Break pos) sBk := by
  refine PS.imp ps_break fun D σ H h => ?_
  obtain ⟨ρ, S, FP, o, r, p⟩ := h
  exact p σ S H FP (Step.refl o) r Keep.refl
theorem gs_continue : GS G W μ X (.Continue pos) sCt := by
  refine PS.imp ps_continue fun D σ H h => ?_
  obtain ⟨ρ, S, FP, o, r, p⟩ := h
  exact p σ S H FP (Step.refl o) r Keep.refl
theorem gs_never : GS G W μ X st (fun _ => none) := by
  refine PS.imp ps_never fun D σ H h => ?_
  obtain ⟨ρ, S, FP, o, r, p⟩ := h
  exact p.elim
theorem gss_never : GSs G W μ X sts (fun _ => none) := by
  refine PSs.imp pss_never fun D σ H h => ?_
  obtain ⟨ρ, S, FP, o, r, p⟩ := h
  exact p.elim
theorem gs_doc {x j pos'} : GS G W μ X (.Expr (.Constant (.str x) j pos') pos) sNx := by
  refine PS.imp ps_doc fun D σ H h => ?_
  obtain ⟨ρ, S, FP, o, r, p⟩ := h
  exact p σ S H FP (Step.refl o) r Keep.refl
theorem gs_retN : GS G W μ X (.Return none pos) sRetN := by
  refine PS.imp ps_retN fun D σ H h => ?_
  obtain ⟨ρ, S, FP, o, r, p⟩ := h
  exact p .non σ S H [] FP (Step.refl o) ⟨rfl, rfl⟩ r Keep.refl
theorem gs_ret (ha : GE G W X a ma) : GS G W μ X (.Return (some a) pos) (sRet ma) := by
  refine PS.imp (ps_ret ha) fun D σ H h => ?_
  obtain ⟨ρ, S, FP, o, r, p⟩ := h
  exact tOf_s o r p fun d1 ρ1 x S1 H1 fp1 FP1 st1 rp1 re1 p1 => p1 x σ S1 H1 fp1 FP1 st1 rp1 re1 Keep.refl
theorem gs_expr (ha : GE G W X a ma) (hs : swapsWith a none pos.line X.env = pure false := by rfl) : GS G W μ X (.Expr a pos) (sExpr ma) := by
  refine PS.imp (ps_expr ha hs) fun D σ H h => ?_
  obtain ⟨ρ, S, FP, o, r, p⟩ := h
  exact tOf_s o r p fun d1 ρ1 x S1 H1 fp1 FP1 st1 rp1 re1 p1 => p1 σ S1 H1 FP1 st1.right re1 Keep.refl
theorem gs_if (hc : GT G W X c mt) (h1 : GSs G W μ X sts m) (h2 : GSs G W μ X sts' n) : GS G W μ X (.If c sts sts' pos) (sIf mt m n) := by
  refine PS.imp (ps_if hc h1 h2) fun D σ H h => ?_
  obtain ⟨ρ, S, FP, o, r, p⟩ := h
  refine tTOf_s o r p fun b ρ1 S1 H1 FP1 st1 re1 p1 => ?_
  cases b with
  | true => rw [if_pos rfl]; exact ⟨ρ1, S1, FP1, st1.ok, re1, PostS.step p1 st1 Keep.refl⟩
  | false => rw [if_neg Bool.false_ne_true]; exact ⟨ρ1, S1, FP1, st1.ok, re1, PostS.step p1 st1 Keep.refl⟩
/-- a slot takes a value -/
theorem put_post {D : Ends} {σ : L2.St} {S H S1 H1 : Hp} {FP FP1 fp : List Addr} {ρ : Rho} {i : Nat} {d : Ta.D} {v : V} (hi : i ∉ μ) (p : PostS G W μ D σ S H FP (putM i d ρ)) (st : Step S H FP S1 H1 (fp ++ FP1)) (rp : Rp G S1 H1 d v fp) (re : RpE G S1 H1 σ ρ FP1) :
    D.nx (σ.set i (some v)) H1 := by
  unfold putM at p
  split at p
  next hl =>
    obtain ⟨fq, sl, re2⟩ := re.forget (i := i)
    obtain ⟨fr, pm, re3⟩ := re2.put rp hl
    exact p _ _ _ fr ((st.sublist (sl.append_left fp)).perm pm.symm) re3 (Keep.set hi)
  next => exact p.elim
theorem gs_asg (i : Nat) {x : Str} {pos' : Pos} (hN : X.N.Nodup) (ha : GE G W X a ma) (hi : X.N[i]? = some x := by rfl) (hx : Loc X.env.scope x := by first | exact .inl rfl | exact .inr rfl) (hμ : i ∉ μ := by decide) (hs : swapsWith a (some (.Name x pos')) pos.line X.env = pure false := by rfl)
    (hf : X.fn x = true ∨ X.env.scope.names.lookup x = some .local := by first | exact .inl rfl | exact .inr rfl | assumption) : GS G W μ X (.Assign [.Name x pos'] a pos) (sAsg i ma) := by
  refine PS.imp (ps_set hN hi hx ha hs hf) fun D σ H h => ?_
  obtain ⟨ρ, S, FP, o, r, p⟩ := h
  exact tOf_s o r p fun d1 ρ1 x S1 H1 fp1 FP1 st1 rp1 re1 p1 => put_post hμ p1 st1 rp1 re1
theorem ge_cls (ha : GE G W X a ma) : GE G W X a (mCls ma) := by
  refine PE.imp ha fun σ H Q h => ?_
  obtain ⟨ρ, S, FP, o, r, p⟩ := h
  refine tOf_step o r p fun d1 ρ1 x S1 H1 fp1 FP1 st1 rp1 re1 p1 => ?_
  have sg := Step.give st1.ok
  exact p1 x _ H1 [] FP1 (st1.trans sg) (rp1.close sg.stay fun b hb => plus_on hb) (re1.mono sg.stay fun _ _ => rfl)
end
end Ta

/-! Ta.F: defs: what a def does as a function of data; the def's rule; calls. -/
namespace Ta
open PySem PySem.Spec L2

abbrev Fn := List D → Option (Except Exc D × List D)
/-- the slots that the def's callers see again, taken out one after another -/
def pick : List Nat → Rho → Option (List D)
  | [], _ => some []
  | i :: μ, ρ => match ρ[i]? with
    | some (some d) => (pick μ (ρ.set i none)).map (d :: ·)
    | _ => none
def outM (μ : List Nat) : Rs Fl → Option (Except Exc D × List D)
  | some (.error e, ρ) => (pick μ ρ).map ((Except.error e), ·)
  | some (.ok .nx, ρ) => (pick μ ρ).map ((Except.ok .non), ·)
  | some (.ok (.ret d), ρ) => (pick μ ρ).map ((Except.ok d), ·)
  | _ => none
/-- a def of n slots, np parameters -/
def runDef (np n : Nat) (μ : List Nat) (m : MS) : Fn := fun ds => if ds.length = np then outM μ (m (ds.map some ++ List.replicate (n - ds.length) none)) else none

def RpM (G : Glo) (S H : Hp) (vs : List V) : List Nat → List D → List Addr → Prop
  | [], ds, fp => ds = [] ∧ fp = []
  | i :: μ, ds, fp => ∃ d ds' v fp1 fp2, ds = d :: ds' ∧ vs[i]? = some v ∧ fp = fp1 ++ fp2 ∧ Rp G S H d v fp1 ∧ RpM G S H vs μ ds' fp2
/-- what a def promises that does as f says -/
def spOf (G : Glo) (np : Nat) (μ : List Nat) (f : Fn) : Sp := fun vs H Q E => ∃ S ds FP, Ok S H FP ∧ RpL G S H ds vs FP ∧ ds.length = np ∧ match f ds with
  | none => False
  | some (.ok d, es) => ∀ v S' H' fp FQ, Step S H FP S' H' (fp ++ FQ) → Rp G S' H' d v fp → RpM G S' H' vs μ es FQ → Q v H'
  | some (.error e, es) => ∀ x S' H' FQ, Step S H FP S' H' FQ → RpM G S' H' vs μ es FQ → ExcAt G S' H' e x → E (.ref (G.ca e.c)) x H'
theorem spOf.len {G : Glo} {np : Nat} {μ : List Nat} {f : Fn} {ps : List Str} (h : ps.length = np) : ∀ vs H Q E, spOf G np μ f vs H Q E → vs.length = ps.length := fun vs H Q E ⟨S, ds, FP, _, rp, hl, _⟩ => by rw [rp.length, hl, h]

section
variable {G : Glo} {S H : Hp}
theorem pick_ok : ∀ {μ : List Nat} {σ : L2.St} {vs : List V} {ρ : Rho} {FP : List Addr} {es : List D}, pick μ ρ = some es → RpE G S H σ ρ FP → (∀ i ∈ μ, σ[i]? = (vs[i]?).map some) → ∃ FQ FR, FP.Perm (FQ ++ FR) ∧ RpM G S H vs μ es FQ
  | [], σ, vs, ρ, FP, es, e, re, hv => by
    cases e
    exact ⟨[], FP, .refl _, rfl, rfl⟩
  | i :: μ, σ, vs, ρ, FP, es, e, re, hv => by
    unfold pick at e
    split at e
    next d q =>
      cases q2 : pick μ (ρ.set i none) with
      | none => rw [q2] at e; cases e
      | some es' =>
        rw [q2] at e
        cases e
        obtain ⟨v, fp1, fp2, h1, h2, h3, h4⟩ := re.split q
        obtain ⟨FQ, FR, p, h⟩ := pick_ok (μ := μ) q2 h4 fun j hj => hv j (List.mem_cons_of_mem _ hj)
        refine ⟨fp1 ++ FQ, FR, (h3.trans (p.append_left fp1)).trans (by rw [List.append_assoc]), d, es', v, fp1, FQ, rfl, ?_, rfl, h2, h⟩
        have := hv i List.mem_cons_self
        rw [h1] at this
        cases q3 : vs[i]? with
        | none => rw [q3] at this; cases this
        | some u => rw [q3] at this; cases this; rfl
    next => cases e
theorem RpE.nones : ∀ (n : Nat) , RpE G S H (List.replicate n none) (List.replicate n none) []
  | 0 => rfl
  | n + 1 => RpE.nones n
theorem RpE.start : ∀ {ds : List D} {vs : List V} {fp : List Addr} (n : Nat), RpL G S H ds vs fp → RpE G S H (vs.map some ++ List.replicate n none) (ds.map some ++ List.replicate n none) fp
  | [], vs, fp, n, h => by rw [h.1, h.2]; exact RpE.nones n
  | d :: ds, vs, fp, n, h => by
    obtain ⟨v, vs', fp1, fp2, rfl, rfl, h1, h2⟩ := h
    exact ⟨fp1, fp2, rfl, h1, RpE.start n h2⟩
end

section
variable {P : Program} {w : World} {K : PySem.W.Frag} {mg : Str → Option Value} {base : Heap} {x qual : Str} {params : Arguments} {body : List Stmt} {scope : Scope} {dvs : List V} {kws : List (Str × V)} {f : Addr} {fd : FuncData}
/-- THE RULE for a def -/
theorem def_ok {G : Glo} {N ps : List Str} {k np n : Nat} {μ : List Nat} {m : MS} (F : FunD K x qual params body scope dvs kws f fd) (S : FnScope N ps scope) (hp : ps.length = np) (hn : N.length = n) (hμ : ∀ i ∈ μ, i < np)
    (hbody : ∀ (X : Cx) (W : WX), (∃ (cdv : Value) (A : Around) (outer : List Env) (s : Shared) (H : Hp) (E : XK), X = cxOf (L2.CX P w) P w K mg base N qual scope f cdv A outer s H E) → Room k X.A → Takes X W → PassesOwn (model X.prog X.w) X.A X.env X.xe → GSs G W μ X body m) :
    FnOk P w K mg base (L2.CX P w) (k + 1) f fd ps (spOf G np μ (runDef np n μ m)) := by
  refine F.ok S (spOf.len hp) fun cdv A outer s H vs Q E hr hsp => ?_
  refine ⟨_, hbody _ (fun cls d _ H => E cls d H) ⟨cdv, A, outer, s, H, E, rfl⟩ hr (takes_of rfl rfl rfl rfl) (passes_of rfl), ?_⟩
  obtain ⟨S0, ds, FP, o, rp, hl, h⟩ := hsp
  have hvl : vs.length = ds.length := rp.length
  have start_eq : L2.start N vs = vs.map some ++ List.replicate (n - ds.length) none := by unfold L2.start; rw [hn, hvl]
  rw [start_eq]
  refine ⟨_, S0, FP, o, RpE.start _ rp, ?_⟩
  unfold runDef at h
  rw [if_pos hl] at h
  have sl : ∀ {σ' : L2.St}, Keep μ (vs.map some ++ List.replicate (n - ds.length) none) σ' → ∀ i ∈ μ, σ'[i]? = (vs[i]?).map some := fun kp i hi => by
    rw [kp i hi]
    have := hμ i hi
    rw [List.getElem?_append_left (by rw [List.length_map]; omega), List.getElem?_map]
  generalize hm : m (List.map some ds ++ List.replicate (n - ds.length) none) = r at h
  match r, h with
  | some (.error e, ρ), h =>
    intro d σ' S' H' FP' st re kp ex
    unfold outM at h; dsimp only at h
    cases q : pick μ ρ with
    | none => rw [q] at h; exact h.elim
    | some es =>
      rw [q] at h
      obtain ⟨FQ, FR, pm, hM⟩ := pick_ok q re (sl kp)
      exact h d S' H' FQ (st.perm pm).left hM ex
  | some (.ok .nx, ρ), h =>
    intro σ' S' H' FP' st re kp
    unfold outM at h; dsimp only at h
    cases q : pick μ ρ with
    | none => rw [q] at h; exact h.elim
    | some es =>
      rw [q] at h
      obtain ⟨FQ, FR, pm, hM⟩ := pick_ok q re (sl kp)
      exact h .non S' H' [] FQ (st.perm pm).left ⟨rfl, rfl⟩ hM
  | some (.ok (.ret d), ρ), h =>
    intro v σ' S' H' fp FP' st rpv re kp
    unfold outM at h; dsimp only at h
    cases q : pick μ ρ with
    | none => rw [q] at h; exact h.elim
    | some es =>
      rw [q] at h
      obtain ⟨FQ, FR, pm, hM⟩ := pick_ok q re (sl kp)
      exact h v S' H' fp FQ (((st.perm (pm.append_left fp)).asc).left) rpv hM
end

/-! ### calls -/
def callM (np : Nat) (f : Fn) (ds : List D) : M D := fun ρ => if ds.length = np then match f ds with
  | none => none
  | some (.ok d, _) => some (.ok d, ρ)
  | some (.error e, _) => some (.error e, ρ) else none
def mCall (np : Nat) (f : Fn) (dd : List D) (ms : M (List D)) : M D := M.bind ms fun ds => callM np f (ds ++ dd)
section
variable {G : Glo} {W : WX} {X : Cx} {σ : L2.St} {S0 S H0 H : Hp} {F0 A B : List Addr} {np : Nat} {μ : List Nat} {f : Fn} {ds : List D} {vs : List V} {ρ : Rho} {Q : VK}
/-- the callee's promise, asked -/
theorem call_sp {K : D → Rho → Prop} (z : Step S0 H0 F0 S H (A ++ B)) (rp : RpL G S H ds vs A) (re : RpE G S H σ ρ B) (p : PostE G W σ S0 H0 F0 (callM np f ds ρ) K)
    (k : ∀ d v S' H' fp, K d ρ → Step S0 H0 F0 S' H' (fp ++ B) → Rp G S' H' d v fp → RpE G S' H' σ ρ B → Q v H') : spOf G np μ f vs H Q (WE W σ) := by
  unfold callM at p
  split at p
  next hl =>
    refine ⟨S, ds, A, z.ok.left, rp, hl, ?_⟩
    cases q : f ds with
    | none => rw [q] at p; exact p
    | some x =>
      obtain ⟨x, es⟩ := x
      rw [q] at p
      cases x with
      | error e =>
        intro d S' H' FQ st hM ex
        have s2 := z.trans (st.frameR z.ok)
        exact p d S' H' B s2.right (re.step z.ok st) ex
      | ok d =>
        intro v S' H' fp FQ st rpv hM
        have st' := st.left
        exact k d v S' H' fp p (z.trans (st'.frameR z.ok)) rpv (re.step z.ok st')
  next => exact p.elim
theorem RpL.cl (h : RpL G S H ds vs []) : RpL G S H ds vs [] := h
theorem ge_call {k : Nat} {fa : Addr} {fd : FuncData} {ps : List Str} {x : Str} {dd : List D} {dvs : List V} {dus : List Value} {p pos : Pos} {e : Expr} {es : List Expr} {ms : M (List D)} (F : FnOk X.prog X.w X.K X.mg X.base (L2.CX X.prog X.w) k fa fd ps (spOf G np μ f)) (hr : Room k X.A) (hm : X.mg x = some (.ref fa)) (hk : PySem.W.keepIn X.K (.ref fa) = true)
    (hb : Binds X.K fd ps dus) (hd : Vals dvs dus) (hdd : ∀ S H, RpL G S H dd dvs []) (tk : Takes X W) (ha : GA G W X (e :: es) ms) (hg : Gl X x := by rfl)
    (hdb : (x == ("__debug__" : Str)) = false := by decide) (he : starEach (e :: es) X.env = (false, eval e X.env) :: starEach es X.env := by rfl) (hpl : (backTo pos (starEach es X.env)).any (·.1) = false := by rfl) :
    GE G W X (.Call (.Name x p) (e :: es) [] pos) (mCall np f dd ms) := by
  refine PE.imp (pe_callSD F hr hg hm hk hb hd (fun σ => passAt tk σ) ha hdb he hpl) fun σ H Q h => ?_
  obtain ⟨ρ, S, FP, o, r, p⟩ := h
  refine tAOf_from (Step.refl o) r p fun ds ρ1 vs S1 H1 fp1 FP1 st1 rp1 re1 p1 => ?_
  exact call_sp (A := fp1) (B := FP1) st1 (by have := rp1.app (hdd S1 H1); rwa [List.append_nil] at this) re1 p1 fun d v S' H' fp k st rp re => k v S' H' fp FP1 st rp re
end
end Ta

/-! Ta.C: operators, comparisons, subscripts, built-ins as functions of data. -/
namespace Ta
open PySem PySem.Spec L2

theorem OpR.imp {X : Cx} {f : Value → Value → Sem Value} {r r' : R2} (h : OpR X f r) (k : ∀ x y H Q, r' x y H Q → r x y H Q) : OpR X f r' := fun p s σ H x y v u Q I a b q => h p s σ H x y v u Q I a b (k x y H Q q)
theorem OpR.or {X : Cx} {f : Value → Value → Sem Value} {r r' : R2} (h : OpR X f r) (h' : OpR X f r') : OpR X f (fun x y H Q => r x y H Q ∨ r' x y H Q) := fun p s σ H x y v u Q I a b q => q.elim (h p s σ H x y v u Q I a b) (h' p s σ H x y v u Q I a b)
theorem CallR.imp {X : Cx} {f : Value} {r r' : List V → Hp → VK → Prop} (h : CallR X f r) (k : ∀ x H Q, r' x H Q → r x H Q) : CallR X f r' := fun p s σ H x u Q I a q => h p s σ H x u Q I a (k x H Q q)
theorem CallR.or {X : Cx} {f : Value} {r r' : List V → Hp → VK → Prop} (h : CallR X f r) (h' : CallR X f r') : CallR X f (fun x H Q => r x H Q ∨ r' x H Q) := fun p s σ H x u Q I a q => q.elim (h p s σ H x u Q I a) (h' p s σ H x u Q I a)
theorem IxR.imp {X : Cx} {r r' : R2} (h : IxR X r) (k : ∀ x y H Q, r' x y H Q → r x y H Q) : IxR X r' := fun a b p s σ H x y v u Q I e1 e2 q => h a b p s σ H x y v u Q I e1 e2 (k x y H Q q)

/-! ### data as the library's -/
mutual
def D.py : D → Option PyData
  | .non => some .none
  | .bl b => some (.bool b)
  | .int i => some (.int i)
  | .str x => some (.str x)
  | .gl _ => none
  | .scr _ => none
  | .lst _ xs => (pyL xs).map .list
  | .tup xs => (pyL xs).map .tuple
  | .dk _ _ _ => none
  | .dt _ _ _ => none
  | .ins _ _ _ _ => none
def pyL : List D → Option (List PyData)
  | [] => some []
  | d :: ds => match d.py, pyL ds with
    | some p, some ps => some (p :: ps)
    | _, _ => none
end
section
variable {G : Glo} {S H : Hp}
mutual
theorem Rp.dp (e : Same S H) : ∀ {d : D} {v : V} {fp : List Addr} {p : PyData}, d.py = some p → Rp G S H d v fp → Dp G.K H v p
  | .non, _, _, _, q, h => by cases q; rw [h.1]; exact .non
  | .bl _, _, _, _, q, h => by cases q; rw [h.1]; exact .bl _
  | .int _, _, _, _, q, h => by cases q; rw [h.1]; exact .int _
  | .str _, _, _, _, q, h => by cases q; rw [h.1]; exact .str _
  | .gl _, _, _, _, q, h => by cases q
  | .scr _, _, _, _, q, h => by cases q
  | .lst true ds, v, fp, p, q, h => by
    obtain ⟨a, vs, rfl, fp', rfl, h1, h2⟩ := h
    unfold D.py at q
    cases q2 : pyL ds with
    | none => rw [q2] at q; cases q
    | some ps => rw [q2] at q; cases q; exact .lst (.of h1) (RpL.dp e q2 h2)
  | .lst false ds, v, fp, p, q, h => by
    obtain ⟨a, vs, rfl, rfl, h1, h2⟩ := h
    unfold D.py at q
    cases q2 : pyL ds with
    | none => rw [q2] at q; cases q
    | some ps => rw [q2] at q; cases q; exact .lst (.inl (Same.rd e h1)) (RpL.dp e q2 h2)
  | .tup ds, v, fp, p, q, h => by
    obtain ⟨a, vs, rfl, rfl, h1, h2⟩ := h
    unfold D.py at q
    cases q2 : pyL ds with
    | none => rw [q2] at q; cases q
    | some ps => rw [q2] at q; cases q; exact .tup (Same.sqT e h1.sq) (RpL.dp e q2 h2)
  | .dk _ _ _, _, _, _, q, h => by cases q
  | .dt _ _ _, _, _, _, q, h => by cases q
  | .ins _ _ _ _, _, _, _, q, h => by cases q
theorem RpL.dp (e : Same S H) : ∀ {ds : List D} {vs : List V} {fp : List Addr} {ps : List PyData}, pyL ds = some ps → RpL G S H ds vs fp → DpAll G.K H vs ps
  | [], _, _, _, q, h => by cases q; rw [h.1]; exact .nil
  | d :: ds, vs, fp, ps, q, h => by
    obtain ⟨v, vs', fp1, fp2, rfl, rfl, h1, h2⟩ := h
    unfold pyL at q
    cases q1 : d.py with
    | none => rw [q1] at q; cases q
    | some p =>
      cases q2 : pyL ds with
      | none => rw [q1, q2] at q; cases q
      | some ps' => rw [q1, q2] at q; cases q; exact .cons (Rp.dp e q1 h1) (RpL.dp e q2 h2)
end
end
def D.shp (d : D) : Option PyData := match d.py with
  | some p => if SeqAt.shaped p then some p else none
  | none => none
theorem shp_ok {d : D} {p : PyData} (h : d.shp = some p) : d.py = some p ∧ SeqAt.shaped p = true := by
  unfold D.shp at h
  split at h
  next q e =>
    split at h
    next k => cases h; exact ⟨e, k⟩
    next => cases h
  next => cases h

/-! ### the operators -/
def addD : D → D → Option D
  | .int i, .int j => some (.int (i + j))
  | .str x, .str y => if x.length + y.length ≤ sizeLine then some (.str (x ++ y)) else none
  | .lst _ xs, .lst _ ys => if xs.length + ys.length ≤ sizeLine then some (.lst true (xs ++ ys)) else none
  | _, _ => none
def subD : D → D → Option D
  | .int i, .int j => some (.int (i - j))
  | _, _ => none
def mulD : D → D → Option D
  | .int i, .int j => if (-(2 ^ 64) < i ∧ i < 2 ^ 64) ∨ (-(2 ^ 64) < j ∧ j < 2 ^ 64) then some (.int (i * j)) else none
  | _, _ => none
def fdivD : D → D → Option D
  | .int i, .int j => if j ≠ 0 ∧ j.natAbs < 1073741824 then some (.int (i.fdiv j)) else none
  | _, _ => none
def modD : D → D → Option D
  | .int i, .int j => if j ≠ 0 then some (.int (i.fmod j)) else none
  | _, _ => none
def powD : D → D → Option D
  | .int i, .int j => if 0 ≤ j ∧ j ≤ 1000000 ∧ i.natAbs < 2 ^ 64 then some (.int (i ^ j.toNat)) else none
  | _, _ => none
def cmpD (f : Int → Int → Bool) : D → D → Option D
  | .int i, .int j => some (.bl (f i j))
  | _, _ => none
def eqB : D → D → Option Bool
  | .str x, .str y => some (decide (x = y))
  | .int i, .int j => some (decide (i = j))
  | a, b => match a.shp, b.shp with
    | some p, some q => some (PyData.eqv p q)
    | _, _ => none
def eqD (a b : D) : Option D := (eqB a b).map .bl
def neD (a b : D) : Option D := (eqB a b).map fun k => .bl (!k)
def keyD : D → Option Key
  | .int i => some (.inl i)
  | .str x => some (.inr x)
  | _ => none
def keyL : List D → Option (List Key)
  | [] => some []
  | d :: ds => match keyD d, keyL ds with
    | some k, some ks => some (k :: ks)
    | _, _ => none
def getK {κ : Type} [DecidableEq κ] (ks : List κ) (xs : List D) (k : κ) : Option D := ((ks.zip xs).find? fun kv => decide (kv.1 = k)).map (·.2)
/-- a dict's look-up -/
def keyT : D → Option (List Key)
  | .tup (c :: ys) => keyL (c :: ys)
  | _ => none
def dgetD (d y : D) : Option (Option D) := match d with
  | .dk _ ks xs => (keyD y).map (getK ks xs)
  | .dt _ ks xs => (keyT y).map (getK ks xs)
  | _ => none
def inB (x : D) : D → Option Bool
  | .lst o ys => match x.shp, (D.lst o ys).shp with
    | some p, some (.list qs) => some (qs.any fun z => PyData.eqv z p)
    | _, _ => none
  | .tup ys => match x.shp, (D.tup ys).shp with
    | some p, some (.tuple qs) => some (qs.any fun z => PyData.eqv z p)
    | _, _ => none
  | d => (dgetD d x).map (·.isSome)
def inD (x y : D) : Option D := (inB x y).map .bl
def ninD (x y : D) : Option D := (inB x y).map fun k => .bl (!k)
def D.isNon : D → Bool
  | .non => true
  | _ => false
def D.isGl : D → Bool
  | .gl _ => true
  | _ => false
def isN (a : D) : D → Option D
  | .non => if a.isGl then none else some (.bl a.isNon)
  | _ => none
def isnN (a : D) : D → Option D
  | .non => if a.isGl then none else some (.bl (!a.isNon))
  | _ => none

section
variable {G : Glo} {X : Cx}
theorem two {S H : Hp} {ds : List D} {FP : List Addr} {x y : V} {d : D} {f : D → D → Option D} (e : f2 f ds = some d) (rp : RpL G S H ds [x, y] FP) : ∃ a b fp1 fp2, ds = [a, b] ∧ FP = fp1 ++ fp2 ∧ f a b = some d ∧ Rp G S H a x fp1 ∧ Rp G S H b y fp2 := by
  match ds, e, rp with
  | [a, b], e, rp =>
    obtain ⟨v, vs', fp1, fp2, h0, rfl, h1, h2⟩ := rp
    cases h0
    obtain ⟨v, vs', fp3, fp4, h0, rfl, h3, h4⟩ := h2
    cases h0
    obtain ⟨_, rfl⟩ := h4
    exact ⟨a, b, fp1, fp3, rfl, by simp, e, h1, h3⟩
/-- an operation that makes nothing -/
theorem flat_op {op : Value → Value → Sem Value} {f : D → D → Option D} {r : R2} (h : OpR X op r)
    (k : ∀ (S H : Hp) (a b : D) (x y : V) (fp1 fp2 : List Addr) (d : D) (Q : VK), Same S H → Rp G S H a x fp1 → Rp G S H b y fp2 → f a b = some d → (∀ v, (∀ S' H', Rp G S' H' d v []) → Q v H) → r x y H Q) : OpR X op (r2 G f) := by
  refine OpR.imp h fun x y H Q q => ?_
  obtain ⟨S, ds, FP, d, o, rp, e, c⟩ := q
  obtain ⟨a, b, fp1, fp2, rfl, rfl, e, h1, h2⟩ := two e rp
  exact k S H a b x y fp1 fp2 d Q o.sub h1 h2 e fun v hv => c v S H [] ((Step.refl o).sublist (List.nil_sublist _)) (hv S H)
theorem od_sub : OpR X (binaryOp .Sub) (r2 G subD) := flat_op op_sub fun S H a b x y fp1 fp2 d Q o h1 h2 e c => by
  unfold subD at e
  split at e <;> cases e
  exact ⟨_, _, h1.1, h2.1, c _ fun _ _ => ⟨rfl, rfl⟩⟩
theorem od_mulI : OpR X (binaryOp .Mult) (r2 G mulD) := flat_op op_mul fun S H a b x y fp1 fp2 d Q o h1 h2 e c => by
  unfold mulD at e
  split at e
  next i j =>
    split at e
    next hc => cases e; exact ⟨_, _, h1.1, h2.1, hc, c _ fun _ _ => ⟨rfl, rfl⟩⟩
    next => cases e
  next => cases e
theorem od_fdiv : OpR X (binaryOp .FloorDiv) (r2 G fdivD) := flat_op op_fdivN fun S H a b x y fp1 fp2 d Q o h1 h2 e c => by
  unfold fdivD at e
  split at e
  next i j =>
    split at e
    next hc => cases e; exact ⟨_, _, h1.1, h2.1, hc, c _ fun _ _ => ⟨rfl, rfl⟩⟩
    next => cases e
  next => cases e
theorem od_mod : OpR X (binaryOp .Mod) (r2 G modD) := flat_op op_modN fun S H a b x y fp1 fp2 d Q o h1 h2 e c => by
  unfold modD at e
  split at e
  next i j =>
    split at e
    next hc => cases e; exact ⟨_, _, h1.1, h2.1, hc, c _ fun _ _ => ⟨rfl, rfl⟩⟩
    next => cases e
  next => cases e
theorem od_pow : OpR X (binaryOp .Pow) (r2 G powD) := flat_op op_pow fun S H a b x y fp1 fp2 d Q o h1 h2 e c => by
  unfold powD at e
  split at e
  next i j =>
    split at e
    next hc => cases e; exact ⟨_, _, h1.1, h2.1, hc, c _ fun _ _ => ⟨rfl, rfl⟩⟩
    next => cases e
  next => cases e
abbrev ltD := cmpD fun i j => decide (i < j)
abbrev leD := cmpD fun i j => decide (i ≤ j)
abbrev gtD := cmpD fun i j => decide (j < i)
abbrev geD := cmpD fun i j => decide (j ≤ i)
theorem od_cmp {op : CmpOp} {p : Int → Int → Bool} (h : OpR X (compareOp op) (rI0 fun i j => .bl (p i j))) : OpR X (compareOp op) (r2 G (cmpD p)) := flat_op h fun S H a b x y fp1 fp2 d Q o h1 h2 e c => by
  unfold cmpD at e
  split at e <;> cases e
  exact ⟨_, _, h1.1, h2.1, c _ fun _ _ => ⟨rfl, rfl⟩⟩
theorem od_lt : OpR X (compareOp .Lt) (r2 G ltD) := od_cmp op_lt
theorem od_le : OpR X (compareOp .LtE) (r2 G leD) := od_cmp op_le
theorem od_gt : OpR X (compareOp .Gt) (r2 G gtD) := od_cmp op_gt
theorem od_ge : OpR X (compareOp .GtE) (r2 G geD) := od_cmp op_ge
theorem decS {i j : Str} : decide (V.str i = V.str j) = decide (i = j) := decide_eq_decide.mpr ⟨fun e => V.str.inj e, fun e => by rw [e]⟩
theorem decI {i j : Int} : decide (V.int i = V.int j) = decide (i = j) := decide_eq_decide.mpr ⟨fun e => V.int.inj e, fun e => by rw [e]⟩
theorem od_eq (hK : G.K = X.K) (hu : X.A.units + 64 < cLine) : OpR X (compareOp .Eq) (r2 G eqD) := flat_op (OpR.or op_eq (op_eqD hu)) fun S H a b x y fp1 fp2 d Q o h1 h2 e c => by
  unfold eqD at e
  cases q : eqB a b with
  | none => rw [q] at e; cases e
  | some k =>
    rw [q] at e
    cases e
    unfold eqB at q
    split at q
    · cases q
      refine .inl ⟨by rw [h1.1, h2.1]; rfl, ?_⟩
      rw [h1.1, h2.1]
      rw [decS]
      exact c _ fun _ _ => ⟨rfl, rfl⟩
    · cases q
      refine .inl ⟨by rw [h1.1, h2.1]; rfl, ?_⟩
      rw [h1.1, h2.1]
      rw [decI]
      exact c _ fun _ _ => ⟨rfl, rfl⟩
    · split at q
      next p p' e1 e2 =>
        cases q
        refine .inr ⟨p, p', ?_, ?_, (shp_ok e1).2, (shp_ok e2).2, c _ fun _ _ => ⟨rfl, rfl⟩⟩
        · rw [← hK]; exact h1.dp o (shp_ok e1).1
        · rw [← hK]; exact h2.dp o (shp_ok e2).1
      next => cases q
theorem od_ne (hK : G.K = X.K) (hu : X.A.units + 64 < cLine) : OpR X (compareOp .NotEq) (r2 G neD) := flat_op (OpR.or op_ne (op_neD hu)) fun S H a b x y fp1 fp2 d Q o h1 h2 e c => by
  unfold neD at e
  cases q : eqB a b with
  | none => rw [q] at e; cases e
  | some k =>
    rw [q] at e
    cases e
    unfold eqB at q
    split at q
    · cases q
      refine .inl ⟨by rw [h1.1, h2.1]; rfl, ?_⟩
      rw [h1.1, h2.1]
      rw [decS]
      exact c _ fun _ _ => ⟨rfl, rfl⟩
    · cases q
      refine .inl ⟨by rw [h1.1, h2.1]; rfl, ?_⟩
      rw [h1.1, h2.1]
      rw [decI]
      exact c _ fun _ _ => ⟨rfl, rfl⟩
    · split at q
      next p p' e1 e2 =>
        cases q
        refine .inr ⟨p, p', ?_, ?_, (shp_ok e1).2, (shp_ok e2).2, c _ fun _ _ => ⟨rfl, rfl⟩⟩
        · rw [← hK]; exact h1.dp o (shp_ok e1).1
        · rw [← hK]; exact h2.dp o (shp_ok e2).1
      next => cases q
end
end Ta

/-! Ta.C2: in, is None, +, subscripts. -/
namespace Ta
open PySem PySem.Spec L2
theorem dshape {d : PyData} (h : SeqAt.shaped d = true) : d.depth ≤ 64 := SeqAt.depth_of_shaped h
theorem roomIn {A : Around} {qs : List PyData} {d : PyData} (sd : SeqAt.shaped d = true) (hu : A.units + 65 < cLine) : A.units + 1 + min (PyData.depthAll qs) d.depth < cLine := by
  have h1 := dshape sd
  have h2 : min (PyData.depthAll qs) d.depth ≤ d.depth := Nat.min_le_right _ _
  omega
section
variable {G : Glo} {X : Cx}
def rInT (K : PySem.W.Frag) : R2 := fun x y H Q => ∃ d ds, Dp K H x d ∧ Dp K H y (.tuple ds) ∧ SeqAt.shaped d = true ∧ SeqAt.shaped (.tuple ds) = true ∧ Q (.bl (ds.any fun z => PyData.eqv z d)) H
def rNotInT (K : PySem.W.Frag) : R2 := fun x y H Q => ∃ d ds, Dp K H x d ∧ Dp K H y (.tuple ds) ∧ SeqAt.shaped d = true ∧ SeqAt.shaped (.tuple ds) = true ∧ Q (.bl (!ds.any fun z => PyData.eqv z d)) H
theorem op_inT (hu : X.A.units + 65 < cLine) : OpR X (compareOp .In) (rInT X.K) := by
  intro pins s σ H x y v u Q I rx ry h
  obtain ⟨d, ds, hd, he, sd, se, q⟩ := h
  obtain ⟨as, r1⟩ := Dp.reads I d x v hd rx
  obtain ⟨bs, r2⟩ := Dp.reads I (.tuple ds) y u he ry
  exact SeqAt.in_tuple_reads r2 r1 (SeqAt.canLay_of_shaped se) (SeqAt.canLay_of_shaped sd) (roomIn sd hu) ⟨.bl _, H, I, rfl, q⟩
theorem op_notInT (hu : X.A.units + 65 < cLine) : OpR X (compareOp .NotIn) (rNotInT X.K) := by
  intro pins s σ H x y v u Q I rx ry h
  obtain ⟨d, ds, hd, he, sd, se, q⟩ := h
  obtain ⟨as, r1⟩ := Dp.reads I d x v hd rx
  obtain ⟨bs, r2⟩ := Dp.reads I (.tuple ds) y u he ry
  exact SeqAt.notIn_tuple_reads r2 r1 (SeqAt.canLay_of_shaped se) (SeqAt.canLay_of_shaped sd) (roomIn sd hu) ⟨.bl _, H, I, rfl, q⟩
theorem op_inK (hu : X.A.units + 1 < cLine) : OpR X (compareOp .In) (fun x y H Q => ∃ a o, y = .ref a ∧ DGet H a x o ∧ Q (.bl o.isSome) H) := by
  intro pins s σ H x y v u Q I rx ry h
  obtain ⟨a, o, rfl, g, q⟩ := h
  cases ry
  exact d_in hu I g rx fun s' I' => ⟨.bl _, H, I', rfl, q⟩
theorem op_notInK (hu : X.A.units + 1 < cLine) : OpR X (compareOp .NotIn) (fun x y H Q => ∃ a o, y = .ref a ∧ DGet H a x o ∧ Q (.bl (!o.isSome)) H) := by
  intro pins s σ H x y v u Q I rx ry h
  obtain ⟨a, o, rfl, g, q⟩ := h
  cases ry
  exact d_notIn hu I g rx fun s' I' => ⟨.bl _, H, I', rfl, q⟩
end

/-! ### a dict's look-up -/
theorem keyD_v {G : Glo} {S H : Hp} {d : D} {k : Key} {v : V} {fp : List Addr} (e : keyD d = some k) (h : Rp G S H d v fp) : v = kV k := by
  cases d <;> cases e
  · exact h.1
  · exact h.1
theorem keyL_v {G : Glo} {S H : Hp} : ∀ {ds : List D} {ks : List Key} {vs : List V} {fp : List Addr}, keyL ds = some ks → RpL G S H ds vs fp → vs = ks.map kV
  | [], ks, vs, fp, e, h => by cases e; rw [h.1]; rfl
  | d :: ds, ks, vs, fp, e, h => by
    obtain ⟨v, vs', fp1, fp2, rfl, rfl, h1, h2⟩ := h
    unfold keyL at e
    cases q1 : keyD d with
    | none => rw [q1] at e; cases e
    | some k =>
      cases q2 : keyL ds with
      | none => rw [q1, q2] at e; cases e
      | some ks' =>
        rw [q1, q2] at e; cases e
        rw [keyD_v q1 h1, keyL_v q2 h2]; rfl
theorem getK_v {κ : Type} [DecidableEq κ] {G : Glo} {S H : Hp} : ∀ {ks : List κ} {xs : List D} {vs : List V} {fp : List Addr} {k : κ}, RpL G S H xs vs fp → match getK ks xs k with
    | none => valV (ks.zip vs) k = none
    | some d => ∃ v fq, valV (ks.zip vs) k = some v ∧ Rp G S H d v fq ∧ fq.Sublist fp
  | [], xs, vs, fp, k, h => by simp [getK, valV]
  | _ :: _, [], vs, fp, k, h => by rw [h.1]; simp [getK, valV]
  | c :: ks, d :: xs, vs, fp, k, h => by
    obtain ⟨v, vs', fp1, fp2, rfl, rfl, h1, h2⟩ := h
    by_cases e : c = k
    · have : getK (c :: ks) (d :: xs) k = some d := by simp [getK, e]
      rw [this]
      exact ⟨v, fp1, by simp [valV, e], h1, List.sublist_append_left _ _⟩
    · have : getK (c :: ks) (d :: xs) k = getK ks xs k := by simp [getK, e]
      rw [this]
      have ih := getK_v (k := k) (ks := ks) h2
      have e2 : valV ((c :: ks).zip (v :: vs')) k = valV (ks.zip vs') k := by simp [valV, e]
      rw [e2]
      cases q : getK ks xs k with
      | none => rw [q] at ih; exact ih
      | some d' =>
        rw [q] at ih
        obtain ⟨v', fq, g1, g2, g3⟩ := ih
        exact ⟨v', fq, g1, g2, g3.trans (List.sublist_append_right _ _)⟩
theorem keyT_v {G : Glo} {S H : Hp} {y : D} {k : List Key} {v : V} {fp : List Addr} (e : keyT y = some k) (h : Rp G S H y v fp) : ∃ b, v = .ref b ∧ S b = some (.tup (k.map kV)) := by
  unfold keyT at e
  split at e
  next c ys =>
    obtain ⟨b, ws, rfl, rfl, hb, hw⟩ := h
    have hk := keyL_v e hw
    subst hk
    rcases hb with hb | ⟨h0, _⟩
    · exact ⟨b, rfl, hb⟩
    · cases h0
  next => cases e
theorem dget_v {G : Glo} {S H : Hp} (e0 : Same S H) {d y : D} {x v : V} {fp fq : List Addr} {r : Option D} (e : dgetD d y = some r) (h : Rp G S H d x fp) (hy : Rp G S H y v fq) : ∃ a o, x = .ref a ∧ DGet H a v o ∧ (r = none → o = none) ∧ ∀ c, r = some c → ∃ u fr, o = some u ∧ Rp G S H c u fr ∧ fr.Sublist fp := by
  cases d with
  | dk ob ks xs =>
    unfold dgetD at e
    cases ek : keyD y with
    | none => rw [ek] at e; cases e
    | some k =>
      rw [ek] at e; cases e
      have hk := keyD_v ek hy
      have main : ∀ {a : Addr} {vs : List V} {fp' : List Addr}, Rd H a (.dK (ks.zip vs)) → RpL G S H xs vs fp' → ∃ a' o, V.ref a = .ref a' ∧ DGet H a' v o ∧ (getK ks xs k = none → o = none) ∧ ∀ c, getK ks xs k = some c → ∃ u fr, o = some u ∧ Rp G S H c u fr ∧ fr.Sublist fp' := fun {a vs fp'} h1 h2 => by
        refine ⟨a, _, rfl, .inl ⟨_, k, h1, hk, rfl⟩, ?_⟩
        have := getK_v (k := k) (ks := ks) h2
        cases q : getK ks xs k with
        | none => rw [q] at this; exact ⟨fun _ => this, fun c z => (nomatch z)⟩
        | some c =>
          rw [q] at this
          obtain ⟨u, fr, g1, g2, g3⟩ := this
          exact ⟨fun z => (nomatch z), fun c' z => by cases z; exact ⟨u, fr, g1, g2, g3⟩⟩
      cases ob with
      | true =>
        obtain ⟨a, vs, rfl, hl, fp', rfl, h1, h2⟩ := h
        obtain ⟨a', o, q1, q2, q3, q4⟩ := main (.inl h1) h2
        exact ⟨a', o, q1, q2, q3, fun c z => by obtain ⟨u, fr, g1, g2, g3⟩ := q4 c z; exact ⟨u, fr, g1, g2, g3.cons _⟩⟩
      | false =>
        obtain ⟨a, vs, rfl, hl, rfl, h1, h2⟩ := h
        exact main (Same.rd e0 h1) h2
  | dt ob ks xs =>
    unfold dgetD at e
    cases ek : keyT y with
    | none => rw [ek] at e; cases e
    | some k =>
      rw [ek] at e; cases e
      obtain ⟨b, rfl, hb⟩ := keyT_v ek hy
      have main : ∀ {a : Addr} {vs : List V} {fp' : List Addr}, Rd H a (.dT (ks.zip vs)) → RpL G S H xs vs fp' → ∃ a' o, V.ref a = .ref a' ∧ DGet H a' (.ref b) o ∧ (getK ks xs k = none → o = none) ∧ ∀ c, getK ks xs k = some c → ∃ u fr, o = some u ∧ Rp G S H c u fr ∧ fr.Sublist fp' := fun {a vs fp'} h1 h2 => by
        refine ⟨a, _, rfl, .inr ⟨_, k, b, h1, rfl, e0 _ _ hb, rfl⟩, ?_⟩
        have := getK_v (k := k) (ks := ks) h2
        cases q : getK ks xs k with
        | none => rw [q] at this; exact ⟨fun _ => this, fun c z => (nomatch z)⟩
        | some c =>
          rw [q] at this
          obtain ⟨u, fr, g1, g2, g3⟩ := this
          exact ⟨fun z => (nomatch z), fun c' z => by cases z; exact ⟨u, fr, g1, g2, g3⟩⟩
      cases ob with
      | true =>
        obtain ⟨a, vs, rfl, hl, fp', rfl, h1, h2⟩ := h
        obtain ⟨a', o, q1, q2, q3, q4⟩ := main (.inl h1) h2
        exact ⟨a', o, q1, q2, q3, fun c z => by obtain ⟨u, fr, g1, g2, g3⟩ := q4 c z; exact ⟨u, fr, g1, g2, g3.cons _⟩⟩
      | false =>
        obtain ⟨a, vs, rfl, hl, rfl, h1, h2⟩ := h
        exact main (Same.rd e0 h1) h2
  | _ => cases e

/-! ### in, not in -/
section
variable {G : Glo} {X : Cx}
theorem in_any (hK : G.K = X.K) {S H : Hp} {a b : D} {x y : V} {fp1 fp2 : List Addr} {k : Bool} {Q : Bool → Prop} (o : Same S H) (h1 : Rp G S H a x fp1) (h2 : Rp G S H b y fp2) (e : inB a b = some k) (c : Q k) :
    (∃ d ds, Dp X.K H x d ∧ Dp X.K H y (.list ds) ∧ SeqAt.shaped d = true ∧ SeqAt.shaped (.list ds) = true ∧ Q (ds.any fun z => PyData.eqv z d)) ∨
    (∃ d ds, Dp X.K H x d ∧ Dp X.K H y (.tuple ds) ∧ SeqAt.shaped d = true ∧ SeqAt.shaped (.tuple ds) = true ∧ Q (ds.any fun z => PyData.eqv z d)) ∨ ∃ a o, y = .ref a ∧ DGet H a x o ∧ Q o.isSome := by
  unfold inB at e
  split at e
  next ob ys =>
    split at e
    next p qs e1 e2 =>
      cases e
      refine .inl ⟨p, qs, ?_, ?_, (shp_ok e1).2, (shp_ok e2).2, c⟩
      · rw [← hK]; exact h1.dp o (shp_ok e1).1
      · rw [← hK]; exact h2.dp o (shp_ok e2).1
    next => cases e
  next ys =>
    split at e
    next p qs e1 e2 =>
      cases e
      refine .inr (.inl ⟨p, qs, ?_, ?_, (shp_ok e1).2, (shp_ok e2).2, c⟩)
      · rw [← hK]; exact h1.dp o (shp_ok e1).1
      · rw [← hK]; exact h2.dp o (shp_ok e2).1
    next => cases e
  next =>
    cases q : dgetD b a with
    | none => rw [q] at e; cases e
    | some r =>
      rw [q] at e; cases e
      obtain ⟨a', o', rfl, g, g1, g2⟩ := dget_v o q h2 h1
      refine .inr (.inr ⟨a', o', rfl, g, ?_⟩)
      cases r with
      | none => rw [g1 rfl]; exact c
      | some d =>
        obtain ⟨u, fr, rfl, _⟩ := g2 d rfl
        exact c
theorem od_in (hK : G.K = X.K) (hu : X.A.units + 65 < cLine) : OpR X (compareOp .In) (r2 G inD) := flat_op (OpR.or (op_inD hu) (OpR.or (op_inT hu) (op_inK (by omega)))) fun S H a b x y fp1 fp2 d Q o h1 h2 e c => by
  unfold inD at e
  cases q : inB a b with
  | none => rw [q] at e; cases e
  | some k => rw [q] at e; cases e; exact in_any (Q := fun k => Q (.bl k) H) hK o h1 h2 q (c _ fun _ _ => ⟨rfl, rfl⟩)
theorem od_nin (hK : G.K = X.K) (hu : X.A.units + 65 < cLine) : OpR X (compareOp .NotIn) (r2 G ninD) := flat_op (OpR.or (op_notInD hu) (OpR.or (op_notInT hu) (op_notInK (by omega)))) fun S H a b x y fp1 fp2 d Q o h1 h2 e c => by
  unfold ninD at e
  cases q : inB a b with
  | none => rw [q] at e; cases e
  | some k => rw [q] at e; cases e; exact in_any (Q := fun k => Q (.bl (!k)) H) hK o h1 h2 q (c _ fun _ _ => ⟨rfl, rfl⟩)
theorem non_iff {S H : Hp} {d : D} {v : V} {fp : List Addr} (h : Rp G S H d v fp) (hg : d.isGl = false) : decide (v = .non) = d.isNon := by
  cases d with
  | non => obtain ⟨rfl, _⟩ := h; rfl
  | gl n => cases hg
  | bl _ => obtain ⟨rfl, _⟩ := h; rfl
  | int _ => obtain ⟨rfl, _⟩ := h; rfl
  | str _ => obtain ⟨rfl, _⟩ := h; rfl
  | scr _ => obtain ⟨a, rfl, _⟩ := h; rfl
  | lst o _ => obtain ⟨a, vs, rfl, _⟩ := h; rfl
  | tup _ => obtain ⟨a, vs, rfl, _⟩ := h; rfl
  | dk o _ _ => obtain ⟨a, vs, rfl, _⟩ := h; rfl
  | dt o _ _ => obtain ⟨a, vs, rfl, _⟩ := h; rfl
  | ins o _ _ _ => obtain ⟨a, dx, vs, rfl, _⟩ := h; rfl
theorem od_isN : OpR X (compareOp .Is) (r2 G isN) := flat_op op_isN fun S H a b x y fp1 fp2 d Q o h1 h2 e c => by
  unfold isN at e
  split at e
  · cases q : a.isGl with
    | true => rw [q] at e; cases e
    | false =>
      rw [q] at e; cases e
      exact ⟨h2.1, by rw [non_iff h1 q]; exact c _ fun _ _ => ⟨rfl, rfl⟩⟩
  · cases e
theorem od_isnN : OpR X (compareOp .IsNot) (r2 G isnN) := flat_op op_notN fun S H a b x y fp1 fp2 d Q o h1 h2 e c => by
  unfold isnN at e
  split at e
  · cases q : a.isGl with
    | true => rw [q] at e; cases e
    | false =>
      rw [q] at e; cases e
      exact ⟨h2.1, by rw [non_iff h1 q]; exact c _ fun _ _ => ⟨rfl, rfl⟩⟩
  · cases e

/-! ### + -/
def rCatQ : R2 := fun x y H Q => ∃ l b xs zs, x = .ref l ∧ y = .ref b ∧ Rd H l (.lst xs) ∧ Rd H b (.lst zs) ∧ xs.length + zs.length ≤ sizeLine ∧ ∀ p, H p = none → Q (.ref p) (upd H p (.lst (xs ++ zs)))
theorem op_catQ : OpR X (binaryOp .Add) rCatQ := by
  intro pins s σ H x y v u Q I rx ry h
  obtain ⟨l, b, xs, zs, rfl, rfl, hH, hB, hz, q⟩ := h
  cases rx
  cases ry
  obtain ⟨z, its, n, r, e⟩ := hH.ok I.hok
  obtain ⟨z2, its2, n2, r2, e2⟩ := hB.ok I.hok
  have hl := r.length
  have hl2 := r2.length
  refine PySem.P.add_list e e2 ?_ (by rw [List.size_toArray, List.size_toArray]; omega)
  have ea : its.toArray ++ its2.toArray = (its ++ its2).toArray := by simp
  rw [ea]
  exact ⟨.ref _, _, I.lnew (t' := s.toks) (r.append r2) (by rw [List.length_append]; omega), rfl, q _ I.fresh⟩
theorem lst_at {S H : Hp} {o : Bool} {xs : List D} {v : V} {fp : List Addr} (e : Same S H) (h : Rp G S H (.lst o xs) v fp) : ∃ a vs fq, v = .ref a ∧ Rd H a (.lst vs) ∧ RpL G S H xs vs fq ∧ fq.Sublist fp := by
  cases o with
  | true =>
    obtain ⟨a, vs, rfl, fp', rfl, h1, h2⟩ := h
    exact ⟨a, vs, fp', rfl, .inl h1, h2, List.sublist_cons_self _ _⟩
  | false =>
    obtain ⟨a, vs, rfl, rfl, h1, h2⟩ := h
    exact ⟨a, vs, [], rfl, Same.rd e h1, h2, .refl _⟩
theorem od_add : OpR X (binaryOp .Add) (r2 G addD) := by
  refine OpR.imp (OpR.or op_add (OpR.or op_add_str op_catQ)) fun x y H Q q => ?_
  obtain ⟨S, ds, FP, d, o, rp, e, c⟩ := q
  obtain ⟨a, b, fp1, fp2, rfl, rfl, e, h1, h2⟩ := two e rp
  have flat : ∀ v, (∀ S' H', Rp G S' H' d v []) → Q v H := fun v hv => c v S H [] ((Step.refl o).sublist (List.nil_sublist _)) (hv S H)
  unfold addD at e
  split at e
  · cases e
    exact .inl ⟨_, _, h1.1, h2.1, flat _ fun _ _ => ⟨rfl, rfl⟩⟩
  · split at e
    next hl => cases e; exact .inr (.inl ⟨_, _, h1.1, h2.1, hl, flat _ fun _ _ => ⟨rfl, rfl⟩⟩)
    next => cases e
  · split at e
    next xs _ ys hl =>
      cases e
      obtain ⟨l, vs, f1, rfl, g1, g2, g3⟩ := lst_at o.sub h1
      obtain ⟨l2, ws, f2, rfl, k1, k2, k3⟩ := lst_at o.sub h2
      refine .inr (.inr ⟨l, l2, vs, ws, rfl, rfl, g1, k1, by rw [g2.length, k2.length]; exact hl, fun p hp => ?_⟩)
      have sl := (Step.refl o).sublist (g3.append k3)
      have sn := Step.new (o := .lst (vs ++ ws)) sl.ok hp trivial
      refine c (.ref p) _ _ (p :: (f1 ++ f2)) (sl.trans sn) ⟨p, vs ++ ws, rfl, f1 ++ f2, rfl, upd_same, ?_⟩
      exact (g2.app k2).mono (Same.refl _) (upd_same_of hp sl.ok.there)
    next => cases e
  · cases e
end
end Ta

/-! Ta.L: targets, what is walked, for, while, list comprehensions. -/
namespace Ta
open PySem PySem.Spec L2

/-! ### targets -/
inductive Tg where
  | nm (i : Nat) | tp (is : List Nat)
def putAll : List Nat → List D → Rho → Option Rho
  | [], [], ρ => some ρ
  | i :: is, d :: ds, ρ => if i < ρ.length then putAll is ds (ρ.set i (some d)) else none
  | _, _, _ => none
def Tg.put : Tg → D → Rho → Option Rho
  | .nm i, d, ρ => putAll [i] [d] ρ
  | .tp is, .tup ds, ρ => putAll is ds ρ
  | _, _, _ => none
def Tg.slots : Tg → List Nat
  | .nm i => [i]
  | .tp is => is
def setAll : List Nat → List V → L2.St → L2.St
  | i :: is, v :: vs, σ => setAll is vs (σ.set i (some v))
  | _, _, σ => σ
theorem Keep.setAll {μ : List Nat} : ∀ {is : List Nat} {vs : List V} {σ : L2.St}, (∀ i ∈ is, i ∉ μ) → Keep μ σ (setAll is vs σ)
  | [], vs, σ, h => by unfold Ta.setAll; exact Keep.refl
  | i :: is, [], σ, h => by unfold Ta.setAll; exact Keep.refl
  | i :: is, v :: vs, σ, h => (Keep.set (h i List.mem_cons_self)).trans (Keep.setAll fun j hj => h j (List.mem_cons_of_mem _ hj))
theorem wipe_setC : ∀ {vs : List Nat} {σ : L2.St} {i : Nat} {v : Option V}, i ∉ vs → wipe (σ.set i v) vs = (wipe σ vs).set i v
  | [], _, _, _, h => rfl
  | j :: vs, σ, i, v, h => by
    show (wipe (σ.set i v) vs).set j none = ((wipe σ vs).set j none).set i v
    rw [wipe_setC fun z => h (List.mem_cons_of_mem _ z), List.set_comm _ _ fun z => h (by rw [z]; exact List.mem_cons_self)]
theorem wipe_set : ∀ {vs : List Nat} {σ : L2.St} {i : Nat} {v : Option V}, i ∈ vs → wipe (σ.set i v) vs = wipe σ vs
  | [], _, _, _, h => nomatch h
  | j :: vs, σ, i, v, h => by
    show (wipe (σ.set i v) vs).set j none = (wipe σ vs).set j none
    by_cases e : i ∈ vs
    · rw [wipe_set e]
    · have e' : i = j := (List.mem_cons.mp h).resolve_right e
      subst e'
      rw [wipe_setC e, List.set_set]
theorem wipe_setAll : ∀ {is : List Nat} {vs : List V} {σ : L2.St} {own : List Nat}, (∀ i ∈ is, i ∈ own) → wipe (setAll is vs σ) own = wipe σ own
  | [], vs, σ, own, h => by unfold setAll; rfl
  | i :: is, [], σ, own, h => by unfold setAll; rfl
  | i :: is, v :: vs, σ, own, h => by
    show wipe (setAll is vs (σ.set i (some v))) own = wipe σ own
    rw [wipe_setAll fun j hj => h j (List.mem_cons_of_mem _ hj), wipe_set (h i List.mem_cons_self)]
theorem Sub.perm {α : Type} {l l' : List α} (h : l.Sublist l') : ∃ r, l'.Perm (l ++ r) := by
  induction h with
  | slnil => exact ⟨[], .refl _⟩
  | cons a h ih =>
    obtain ⟨r, p⟩ := ih
    exact ⟨a :: r, (p.cons a).trans List.perm_middle.symm⟩
  | cons_cons a h ih =>
    obtain ⟨r, p⟩ := ih
    exact ⟨r, p.cons a⟩
section
variable {G : Glo} {S H : Hp}
/-- closed things go to slots -/
theorem RpE.putAll : ∀ {is : List Nat} {ds : List D} {vs : List V} {σ : L2.St} {ρ ρ' : Rho} {FP : List Addr}, putAll is ds ρ = some ρ' → RpL G S H ds vs [] → RpE G S H σ ρ FP → ∃ FQ FR, FP.Perm (FQ ++ FR) ∧ RpE G S H (setAll is vs σ) ρ' FQ
  | [], [], vs, σ, ρ, ρ', FP, e, rp, re => by cases e; exact ⟨FP, [], by rw [List.append_nil], by unfold setAll; exact re⟩
  | i :: is, d :: ds, vs, σ, ρ, ρ', FP, e, rp, re => by
    obtain ⟨v, vs', fp1, fp2, rfl, q, h1, h2⟩ := rp
    obtain ⟨rfl, rfl⟩ := List.append_eq_nil_iff.mp q.symm
    unfold Ta.putAll at e
    split at e
    next hl =>
      obtain ⟨FQ, sl, re2⟩ := re.forget (i := i)
      obtain ⟨F0, p0⟩ := Sub.perm sl
      obtain ⟨fr, pm, re3⟩ := re2.put h1 hl
      obtain ⟨FR, F1, p1, re4⟩ := RpE.putAll (FP := fr) e h2 re3
      refine ⟨FR, F1 ++ F0, ?_, re4⟩
      rw [← List.append_assoc]
      exact p0.trans ((pm.symm.trans p1).append_right F0)
    next => cases e
  | [], _ :: _, _, _, _, _, _, e, _, _ => by cases e
  | _ :: _, [], _, _, _, _, _, e, _, _ => by cases e
theorem putAll_len : ∀ {is : List Nat} {ds : List D} {ρ ρ' : Rho}, putAll is ds ρ = some ρ' → ds.length = is.length
  | [], [], _, _, _ => rfl
  | i :: is, d :: ds, ρ, ρ', e => by
    unfold Ta.putAll at e
    split at e
    next => simp [putAll_len e]
    next => cases e
  | [], _ :: _, _, _, e => by cases e
  | _ :: _, [], _, _, e => by cases e
end

/-- a target's reading: the slots take the values -/
def gOf (K : PySem.W.Frag) : Tg → TG
  | .nm i => fun v σ H Q => Q (setAll [i] [v] σ) H
  | .tp is => fun v σ H Q => ∃ a xs, v = .ref a ∧ SqT K H a xs ∧ xs.length = is.length ∧ Q (setAll is xs σ) H
abbrev GG (X : Cx) (e : Expr) (t : Tg) : Prop := PG X e (gOf X.K t)
abbrev GGs (X : Cx) (es : List Expr) (is : List Nat) : Prop := PGs X es (fun vs σ H Q => vs.length = is.length ∧ Q (setAll is vs σ) H)
section
variable {X : Cx} {pos : Pos} {es : List Expr} {is : List Nat}
theorem gg_nm (i : Nat) {x : Str} (hN : X.N.Nodup) (hi : X.N[i]? = some x := by rfl) (hx : Loc X.env.scope x := by first | exact .inl rfl | exact .inr rfl) (hf : X.fn x = true ∨ X.env.scope.names.lookup x = some .local := by first | exact .inl rfl | exact .inr rfl | assumption) : GG X (.Name x pos) (.nm i) :=
  pg_name hN hi hx hf
theorem ggs_nil : GGs X [] [] := by
  have h := @pgs_nil X
  exact ⟨fun p s σ H vs us Q I r q => h.run p s σ H vs us Q I r (by
    obtain ⟨q1, q2⟩ := q
    cases vs with
    | nil => exact ⟨rfl, q2⟩
    | cons _ _ => cases q1)⟩
theorem ggs_cons (i : Nat) {x : Str} (hN : X.N.Nodup) (h2 : GGs X es is) (hi : X.N[i]? = some x := by rfl) (hx : Loc X.env.scope x := by first | exact .inl rfl | exact .inr rfl) (hf : X.fn x = true ∨ X.env.scope.names.lookup x = some .local := by first | exact .inl rfl | exact .inr rfl | assumption)
    (hs : (assignEach (.Name x pos :: es) X.env).map (·.2) = assign (.Name x pos) X.env :: (assignEach es X.env).map (·.2) := by rfl) : GGs X (.Name x pos :: es) (i :: is) := by
  have h := pgs_cons (pg_name (pos := pos) hN hi hx hf) h2 hs
  exact ⟨fun p s σ H vs us Q I r q => h.run p s σ H vs us Q I r (by
    obtain ⟨q1, q2⟩ := q
    cases vs with
    | nil => cases q1
    | cons v vs => exact ⟨v, vs, rfl, by simpa using q1, q2⟩)⟩
theorem gg_tp {k : Nat} (hc : X.calm = true) (h : GGs X es is) (hn : (assignEach es X.env).length = is.length := by rfl) (hst : (assignEach es X.env).findIdx? (·.1) = none := by rfl) : GG X (.Tuple es k pos) (.tp is) := by
  have h2 := pg_tup (n := is.length) hc h hn hst (k := k) (pos := pos)
  exact ⟨fun p s σ H v u Q I r q => h2.run p s σ H v u Q I r (by
    obtain ⟨a, xs, q1, q2, q3, q4⟩ := q
    exact ⟨a, xs, q1, q2, q3, q3, q4⟩)⟩
end

/-! ### what is walked -/
/-- the iterator J serves the data ds, that lies in S -/
def Serves (G : Glo) (J : It) (S : Hp) (ds : List D) : Prop := ∀ i S' H', Same S S' → Ok S' H' [] →
  (∀ d, ds[i]? = some d → J.go i H' ∧ ∀ x H2, J.yld i H' x H2 → ∃ S2, Step S' H' [] S2 H2 [] ∧ Rp G S2 H2 d x []) ∧ (ds.length ≤ i → J.stop i H')
def tIOf (G : Glo) (W : WX) (m : M (List D)) : TI := fun σ H R => ∃ ρ S FP, Ok S H FP ∧ RpE G S H σ ρ FP ∧
  PostE G W σ S H FP (m ρ) fun ds ρ' => ∀ J S' H' FP', Step S H FP S' H' FP' → RpE G S' H' σ ρ' FP' → Serves G J S' ds → R J H'
abbrev GI (G : Glo) (W : WX) (X : Cx) (tg e : Expr) (m : M (List D)) : Prop := PI X tg e (tIOf G W m)
theorem PI.imp {X : Cx} {tg e : Expr} {t u : TI} (h : PI X tg e t) (k : ∀ σ H Q, u σ H Q → t σ H Q) : PI X tg e u := ⟨fun p s σ H Q I q => h.run p s σ H Q I (k σ H Q q)⟩
theorem PI.or {X : Cx} {tg e : Expr} {t u : TI} (h : PI X tg e t) (h' : PI X tg e u) : PI X tg e (fun σ H Q => t σ H Q ∨ u σ H Q) := ⟨fun p s σ H Q I q => q.elim (h.run p s σ H Q I) (h'.run p s σ H Q I)⟩
/-- lists and tuples that stand still -/
def seqD : D → Option (List D)
  | .lst false xs => some xs
  | .tup xs => some xs
  | _ => none
def mSeq (ma : M D) : M (List D) := M.bind ma fun d => M.opt (seqD d)
def rngL (lo : Int) (n : Nat) : List D := (List.range n).map fun (k : Nat) => .int (lo + (k : Int))
def mRng1 (ma : M (List D)) : M (List D) := M.bind ma fun ds => M.opt (match ds with
  | [.int j] => if -(2 ^ 62) ≤ j ∧ j < 2 ^ 62 then some (rngL 0 j.toNat) else none
  | _ => none)
def mRng2 (ma : M (List D)) : M (List D) := M.bind ma fun ds => M.opt (match ds with
  | [.int i, .int j] => if -(2 ^ 62) ≤ i ∧ i < 2 ^ 62 ∧ -(2 ^ 62) ≤ j ∧ j < 2 ^ 62 then some (rngL i (j - i).toNat) else none
  | _ => none)
section
variable {G : Glo} {W : WX} {X : Cx} {tg e : Expr} {ma : M D}
theorem serves_list {S H : Hp} {a : Addr} {ds : List D} {vs : List V} (h : Rd S a (.lst vs)) (rp : RpL G S H ds vs []) : Serves G (Itl G.K a) S ds := by
  intro i S' H' sm ok
  have h' : SqL G.K H' a vs := .inl (Same.rd (sm.trans ok.sub) h)
  refine ⟨fun d hd => ?_, fun hl => ⟨vs, h', by rw [rp.length]; exact hl⟩⟩
  obtain ⟨v, hv, r⟩ := rp.get hd
  refine ⟨⟨vs, v, h', hv⟩, fun x H2 y => ?_⟩
  obtain ⟨rfl, y⟩ := y
  have := y vs h'
  rw [hv] at this; cases this
  exact ⟨S', Step.refl ok, r.mono sm (by simp)⟩
theorem serves_tup {S H : Hp} {a : Addr} {ds : List D} {vs : List V} (h : SqT G.K S a vs) (rp : RpL G S H ds vs []) : Serves G (Itt G.K a) S ds := by
  intro i S' H' sm ok
  have h' : SqT G.K H' a vs := Same.sqT (sm.trans ok.sub) h
  refine ⟨fun d hd => ?_, fun hl => ⟨vs, h', by rw [rp.length]; exact hl⟩⟩
  obtain ⟨v, hv, r⟩ := rp.get hd
  refine ⟨⟨vs, v, h', hv⟩, fun x H2 y => ?_⟩
  obtain ⟨rfl, y⟩ := y
  have := y vs h'
  rw [hv] at this; cases this
  exact ⟨S', Step.refl ok, r.mono sm (by simp)⟩
theorem serves_rng (lo : Int) (n : Nat) (S : Hp) : Serves G (Itr lo n) S (rngL lo n) := by
  intro i S' H' sm ok
  refine ⟨fun d hd => ?_, fun hl => show n ≤ i from by simpa [rngL] using hl⟩
  have hi : i < n := by
    have := (List.getElem?_eq_some_iff.mp hd).1
    simpa [rngL] using this
  have e : d = .int (lo + i) := by
    unfold rngL at hd
    rw [List.getElem?_map, List.getElem?_range hi] at hd
    cases hd; rfl
  subst e
  refine ⟨hi, fun x H2 y => ?_⟩
  obtain ⟨rfl, rfl⟩ := y
  exact ⟨S', Step.refl ok, rfl, rfl⟩
theorem gi_seq (hK : G.K = X.K) (ha : GE G W X e ma) : GI G W X tg e (mSeq ma) := by
  refine PI.imp (PI.or (pi_list ha) (pi_tup ha)) fun σ H R h => ?_
  obtain ⟨ρ, S, FP, o, r, p⟩ := h
  have hp := p.bind
  cases q : ma ρ with
  | none => rw [q] at hp; exact hp.elim
  | some x =>
    obtain ⟨x, ρ1⟩ := x
    cases x with
    | error e =>
      refine .inl ⟨ρ, S, FP, o, r, ?_⟩
      rw [q] at hp ⊢
      exact hp
    | ok d =>
      rw [q] at hp
      obtain ⟨xs, e, k⟩ := opt_post hp
      unfold seqD at e
      split at e
      next xs =>
        cases e
        refine .inl ⟨ρ, S, FP, o, r, ?_⟩
        rw [q]
        intro v S' H' fp FP' st rp re
        obtain ⟨a, vs, rfl, rfl, h1, h2⟩ := rp
        refine ⟨a, rfl, ⟨vs, .inl (Same.rd st.ok.sub h1)⟩, ?_⟩
        rw [← hK]
        exact k _ S' H' FP' st re (serves_list h1 h2)
      next xs =>
        cases e
        refine .inr ⟨ρ, S, FP, o, r, ?_⟩
        rw [q]
        intro v S' H' fp FP' st rp re
        obtain ⟨a, vs, rfl, rfl, h1, h2⟩ := rp
        refine ⟨a, rfl, ⟨vs, by rw [← hK]; exact Same.sqT st.ok.sub h1.sq⟩, ?_⟩
        rw [← hK]
        exact k _ S' H' FP' st re (serves_tup h1.sq h2)
      next => cases e
theorem gi_rng1 {a : Expr} {ms : M (List D)} {p pos : Pos} (hm : X.mg "range" = none) (ha : GA G W X [a] ms) (hg : Gl X "range" := by rfl) (hs : starEach [a] X.env = [(false, eval a X.env)] := by rfl) : GI G W X tg (.Call (.Name "range" p) [a] [] pos) (mRng1 ms) := by
  refine PI.imp (pi_range1 hg hm ha hs) fun σ H R h => ?_
  obtain ⟨ρ, S, FP, o, r, p⟩ := h
  refine tAOf_from (Step.refl o) r p fun ds ρ1 vs S1 H1 fp1 FP1 st1 rp1 re1 p1 => ?_
  obtain ⟨xs, e, k⟩ := opt_post p1
  split at e
  next j =>
    split at e
    next hj =>
      cases e
      obtain ⟨v, vs', fp1, fp2, rfl, rfl, h1, h2⟩ := rp1
      obtain ⟨rfl, rfl⟩ := h2
      obtain ⟨rfl, rfl⟩ := h1
      exact ⟨j, rfl, hj.1, hj.2, k _ S1 H1 FP1 st1 re1 (serves_rng 0 _ _)⟩
    next => cases e
  next => cases e
theorem gi_rng2 {a b : Expr} {ms : M (List D)} {p pos : Pos} (hm : X.mg "range" = none) (ha : GA G W X [a, b] ms) (hg : Gl X "range" := by rfl) (hs : starEach [a, b] X.env = [(false, eval a X.env), (false, eval b X.env)] := by rfl) (hs2 : starEach [b] X.env = [(false, eval b X.env)] := by rfl) : GI G W X tg (.Call (.Name "range" p) [a, b] [] pos) (mRng2 ms) := by
  refine PI.imp (pi_range2 hg hm ha hs hs2) fun σ H R h => ?_
  obtain ⟨ρ, S, FP, o, r, p⟩ := h
  refine tAOf_from (Step.refl o) r p fun ds ρ1 vs S1 H1 fp1 FP1 st1 rp1 re1 p1 => ?_
  obtain ⟨xs, e, k⟩ := opt_post p1
  split at e
  next i j =>
    split at e
    next hj =>
      cases e
      obtain ⟨v, vs', fp1, fp2, rfl, rfl, h1, h2⟩ := rp1
      obtain ⟨v2, vs2, fp3, fp4, rfl, rfl, h3, h4⟩ := h2
      obtain ⟨rfl, rfl⟩ := h4
      obtain ⟨rfl, rfl⟩ := h1
      obtain ⟨rfl, rfl⟩ := h3
      exact ⟨i, j, rfl, hj, k _ S1 H1 FP1 st1 re1 (serves_rng i _ _)⟩
    next => cases e
  next => cases e
end

/-! ### for -/
def sLoop (t : Tg) (m : MS) : List D → MS
  | [] => sNx
  | d :: ds => fun ρ => match t.put d ρ with
    | none => none
    | some ρ1 => match m ρ1 with
      | none => none
      | some (.error e, ρ2) => some (.error e, ρ2)
      | some (.ok .nx, ρ2) => sLoop t m ds ρ2
      | some (.ok .ct, ρ2) => sLoop t m ds ρ2
      | some (.ok .bk, ρ2) => some (.ok .nx, ρ2)
      | some (.ok (.ret r), ρ2) => some (.ok (.ret r), ρ2)
def sFor (t : Tg) (mi : M (List D)) (m : MS) : MS := M.bind mi fun ds => sLoop t m ds
section
variable {G : Glo} {W : WX} {μ : List Nat} {X : Cx}
/-- a target takes what stands still -/
theorem put_gOf {K : PySem.W.Frag} {S H : Hp} {FP : List Addr} {σ : L2.St} {ρ ρ1 : Rho} {t : Tg} {d : D} {v : V} {Q : L2.St → Hp → Prop} (hK : G.K = K) (o : Ok S H FP) (re : RpE G S H σ ρ FP) (rp : Rp G S H d v []) (e : t.put d ρ = some ρ1)
    (k : ∀ is vs FQ, is = t.slots → Step S H FP S H FQ → RpE G S H (setAll is vs σ) ρ1 FQ → Q (setAll is vs σ) H) : gOf K t v σ H Q := by
  cases t with
  | nm i =>
    obtain ⟨FQ, FR, pm, re2⟩ := RpE.putAll e (.one rp) re
    exact k [i] [v] FQ rfl (((Step.refl o).perm pm).left) re2
  | tp is =>
    cases d with
    | tup ds =>
      obtain ⟨a, vs, rfl, _, h1, h2⟩ := rp
      obtain ⟨FQ, FR, pm, re2⟩ := RpE.putAll e h2 re
      refine ⟨a, vs, rfl, by rw [← hK]; exact Same.sqT o.sub h1.sq, ?_, k is vs FQ rfl (((Step.refl o).perm pm).left) re2⟩
      rw [h2.length]
      exact putAll_len e
    | _ => cases e
theorem gs_for {tg iter : Expr} {body : List Stmt} {pos : Pos} {mi : M (List D)} {m : MS} {t : Tg} (hK : G.K = X.K) (hp : PassesOwn (model X.prog X.w) X.A X.env X.xe) (hc : X.calm = true) (hi : GI G W X tg iter mi) (hg : GG X tg t) (hb : GSs G W μ X body m) (hμ : ∀ i ∈ t.slots, i ∉ μ := by decide)
    (hs : ∀ x, foldedSetIterable iter X.env x = pure x := by intro _; rfl) : GS G W μ X (.For tg iter body [] pos) (sFor t mi m) := by
  refine PS.imp (ps_for hp hc hi hg hb hs) fun D σ H h => ?_
  obtain ⟨ρ, S, FP, o, r, p⟩ := h
  refine ⟨ρ, S, FP, o, r, p.bind.mono fun ds ρ1 _ p1 J S1 H1 FP1 st1 re1 sv => ?_⟩
  refine ⟨fun i n σ' H' => n = ds.length - i ∧ i ≤ ds.length ∧ ∃ ρ' S' FP', Step S1 H1 FP1 S' H' FP' ∧ RpE G S' H' σ' ρ' FP' ∧ PostS G W μ D σ' S' H' FP' (sLoop t m (ds.drop i) ρ'), ⟨ds.length, by simp, Nat.zero_le _, ρ1, S1, FP1, Step.refl st1.ok, re1, PostS.step p1 st1 Keep.refl⟩, ?_⟩
  rintro i n σ' H' ⟨rfl, hi, ρ', S', FP', st', re', p'⟩
  obtain ⟨sv1, sv2⟩ := sv i S' H' st'.stay (st'.ok.sublist (List.nil_sublist _))
  by_cases hlt : i < ds.length
  · rw [List.drop_eq_getElem_cons hlt] at p'
    obtain ⟨go, yl⟩ := sv1 ds[i] (List.getElem?_eq_getElem hlt)
    refine .inr ⟨go, fun σ2 H2 => i + 1 ≤ ds.length ∧ ∃ ρ2 S2 FP2, Step S1 H1 FP1 S2 H2 FP2 ∧ RpE G S2 H2 σ2 ρ2 FP2 ∧ PostS G W μ D σ2 S2 H2 FP2 (sLoop t m (ds.drop (i + 1)) ρ2), fun σ2 H2 q => ⟨ds.length - (i + 1), by omega, rfl, q⟩, fun x H2 y => ?_⟩
    obtain ⟨S2, st2, rp2⟩ := yl x H2 y
    have st2' : Step S' H' FP' S2 H2 FP' := by
      have := st2.frame (t := FP') (by rw [List.append_nil]; exact st'.ok)
      rwa [List.append_nil] at this
    have re2 : RpE G S2 H2 σ' ρ' FP' := re'.mono st2.stay (st2.sameR (t := FP') (by simpa using st'.ok))
    have p2 := PostS.step p' st2' Keep.refl
    unfold sLoop at p2
    cases q : t.put ds[i] ρ' with
    | none => rw [q] at p2; exact p2.elim
    | some ρ2 =>
      rw [q] at p2
      dsimp only at p2
      refine put_gOf hK st2'.ok re2 rp2 q fun is vs FQ his st3 re3 => ?_
      have kp : Keep μ σ' (setAll is vs σ') := Keep.setAll (by rw [his]; exact hμ)
      refine ⟨ρ2, S2, FQ, st3.ok, re3, ?_⟩
      have p3 := PostS.step p2 st3 kp
      have s13 : Step S1 H1 FP1 S2 H2 FQ := st'.trans (st2'.trans st3)
      cases q2 : m ρ2 with
      | none => rw [q2] at p3; exact p3
      | some z =>
        obtain ⟨z, ρ3⟩ := z
        rw [q2] at p3
        cases z with
        | error e => exact p3
        | ok f =>
          cases f with
          | nx => exact fun σ3 S3 H3 F3 st4 re4 k4 => ⟨hlt, ρ3, S3, F3, s13.trans st4, re4, PostS.step p3 st4 k4⟩
          | ct => exact fun σ3 S3 H3 F3 st4 re4 k4 => ⟨hlt, ρ3, S3, F3, s13.trans st4, re4, PostS.step p3 st4 k4⟩
          | bk => exact p3
          | ret d => exact p3
  · have e : i = ds.length := by omega
    subst e
    rw [List.drop_length] at p'
    exact .inl ⟨sv2 (Nat.le_refl _), p' σ' S' H' FP' (Step.refl st'.ok) re' Keep.refl⟩
end
end Ta

/-! Ta.L2: list comprehensions, while. -/
namespace Ta
open PySem PySem.Spec L2

/-- the closed slots alone -/
def clE (ρ : Rho) : Rho := ρ.map fun o => match o with
  | some d => if d.cl then some d else none
  | none => none
def wipeE (ρ : Rho) : List Nat → Rho
  | [] => ρ
  | v :: vs => (wipeE ρ vs).set v none
def lcLoop (t : Tg) (mt : M Bool) (me : M D) (ρc : Rho) : List D → Option (List D)
  | [] => some []
  | d :: ds => match t.put d ρc with
    | none => none
    | some ρ1 => match mt ρ1 with
      | some (.ok true, ρ2) => match me ρ2 with
        | some (.ok y, _) => (lcLoop t mt me ρc ds).map (y :: ·)
        | _ => none
      | some (.ok false, _) => lcLoop t mt me ρc ds
      | _ => none
/-- the block runs over the closed slots; it lets no exception out -/
def mLc (own : List Nat) (t : Tg) (mi : M (List D)) (mt : M Bool) (me : M D) : M D := M.bind mi fun ds => fun ρ => match lcLoop t mt me (wipeE (clE ρ) own) ds with
  | some ys => if ds.length ≤ 16777000 then some (.ok (.lst true ys), ρ) else none
  | none => none
theorem lcLoop_len {t : Tg} {mt : M Bool} {me : M D} {ρc : Rho} : ∀ {ds ys : List D}, lcLoop t mt me ρc ds = some ys → ys.length ≤ ds.length
  | [], ys, e => by cases e; exact Nat.le_refl _
  | d :: ds, ys, e => by
    unfold lcLoop at e
    split at e
    · cases e
    · split at e
      · split at e
        · cases q : lcLoop t mt me ρc ds with
          | none => rw [q] at e; cases e
          | some zs => rw [q] at e; cases e; have := lcLoop_len q; simp; omega
        · cases e
      · have := lcLoop_len e; simp; omega
      · cases e
section
variable {G : Glo} {S H : Hp}
theorem RpE.clE : ∀ {σ : L2.St} {ρ : Rho} {FP : List Addr}, RpE G S H σ ρ FP → RpE G S H σ (clE ρ) []
  | [], [], fp, h => rfl
  | s :: σ, none :: ρ, fp, h => RpE.clE (σ := σ) (ρ := ρ) h
  | some v :: σ, some d :: ρ, fp, h => by
    obtain ⟨fp1, fp2, rfl, h1, h2⟩ := h
    by_cases hc : d.cl = true
    · have e : Ta.clE (some d :: ρ) = some d :: Ta.clE ρ := by unfold Ta.clE; simp [hc]
      rw [e]
      obtain rfl := h1.fp_nil hc
      exact ⟨[], [], rfl, h1, RpE.clE h2⟩
    · have e : Ta.clE (some d :: ρ) = none :: Ta.clE ρ := by unfold Ta.clE; simp [hc]
      rw [e]
      exact RpE.clE h2
  | [], _ :: _, _, h => (h : False).elim
  | none :: _, some _ :: _, _, h => (h : False).elim
  | some _ :: _, [], _, h => (h : False).elim
  | none :: _, [], _, h => (h : False).elim
theorem RpE.wipe1 : ∀ {σ : L2.St} {ρ : Rho} {i : Nat}, RpE G S H σ ρ [] → RpE G S H (σ.set i none) (ρ.set i none) []
  | [], [], i, h => rfl
  | s :: σ, none :: ρ, 0, h => h
  | s :: σ, none :: ρ, i + 1, h => RpE.wipe1 (σ := σ) (ρ := ρ) (i := i) h
  | some v :: σ, some d :: ρ, 0, h => by
    obtain ⟨fp1, fp2, q, h1, h2⟩ := h
    obtain ⟨rfl, rfl⟩ := List.append_eq_nil_iff.mp q.symm
    exact h2
  | some v :: σ, some d :: ρ, i + 1, h => by
    obtain ⟨fp1, fp2, q, h1, h2⟩ := h
    obtain ⟨rfl, rfl⟩ := List.append_eq_nil_iff.mp q.symm
    exact ⟨[], [], rfl, h1, RpE.wipe1 (i := i) h2⟩
  | [], _ :: _, _, h => (h : False).elim
  | none :: _, some _ :: _, _, h => (h : False).elim
  | some _ :: _, [], _, h => (h : False).elim
  | none :: _, [], _, h => (h : False).elim
theorem RpE.wipeE {σ : L2.St} {ρ : Rho} (h : RpE G S H σ ρ []) : ∀ vs : List Nat, RpE G S H (L2.wipe σ vs) (Ta.wipeE ρ vs) []
  | [] => h
  | v :: vs => RpE.wipe1 (RpE.wipeE h vs)
end
abbrev W0 : WX := fun _ _ _ _ => False
section
variable {G : Glo} {W : WX} {X : Cx} {pos : Pos}
abbrev GTs (G : Glo) (W : WX) (X : Cx) (es : List Expr) (m : M Bool) : Prop := PTs X es (tTOf G W m)
theorem PTs.imp {X : Cx} {e : List Expr} {t u : TT} (h : PTs X e t) (k : ∀ σ H Q, u σ H Q → t σ H Q) : PTs X e u := ⟨fun p s σ H Q I q => h.run p s σ H Q I (k σ H Q q)⟩
def mYes : M Bool := M.ok true
theorem gts_nil : GTs G W X [] mYes := by
  refine PTs.imp pts_nil fun σ H Q h => ?_
  obtain ⟨ρ, S, FP, o, r, p⟩ := h
  exact p S H FP (Step.refl o) r
theorem gts_one {c : Expr} {mt : M Bool} (h : GT G W X c mt) : GTs G W X [c] mt := pts_one h
theorem wipe_none : ∀ {vs : List Nat} {σ : L2.St} {i : Nat}, i ∈ vs → (L2.wipe σ vs).set i none = L2.wipe σ vs
  | [], _, _, h => nomatch h
  | j :: vs, σ, i, h => by
    show ((L2.wipe σ vs).set j none).set i none = (L2.wipe σ vs).set j none
    by_cases e : i = j
    · subst e; rw [List.set_set]
    · rw [List.set_comm _ _ fun z => e z.symm, wipe_none ((List.mem_cons.mp h).resolve_left e)]
theorem wipe_wipe : ∀ {own vs : List Nat} {σ : L2.St}, (∀ i ∈ own, i ∈ vs) → L2.wipe (L2.wipe σ vs) own = L2.wipe σ vs
  | [], vs, σ, h => rfl
  | j :: own, vs, σ, h => by
    show (L2.wipe (L2.wipe σ vs) own).set j none = L2.wipe σ vs
    rw [wipe_wipe fun i hi => h i (List.mem_cons_of_mem _ hi), wipe_none (h j List.mem_cons_self)]
theorem wipe_idem {own : List Nat} {σ : L2.St} : L2.wipe (L2.wipe σ own) own = L2.wipe σ own := wipe_wipe fun _ h => h
/-- the loop of a comprehension, from what is walked -/
theorem lc_read {J : It} {t : Tg} {mt : M Bool} {me : M D} {own : List Nat} {ds ys : List D} {σ : L2.St} {S H : Hp} {FP : List Addr} {ρ : Rho} {Qd : V → Hp → Prop} {g : TG} (hg : g = gOf G.K t) (hown : ∀ i ∈ t.slots, i ∈ own) (o : Ok S H FP) (re : RpE G S H σ ρ FP) (sv : Serves G J S ds)
    (e : lcLoop t mt me (wipeE (clE ρ) own) ds = some ys) (hl : ds.length ≤ 16777000) (k : ∀ v S' H' fp, Step S H FP S' H' (fp ++ FP) → Rp G S' H' (.lst true ys) v fp → RpE G S' H' σ ρ FP → Qd v H') :
    ∀ D, H D = none → ∃ W : Nat → Nat → Hp → Prop, (∃ m, W 0 m (upd H D (.lst []))) ∧ ∀ i m H, W i m H →
      (J.stop i H ∧ Qd (.ref D) H) ∨ (J.go i H ∧ ∃ Nx : Hp → Prop, (∀ H', Nx H' → ∃ m', m' < m ∧ W (i + 1) m' H') ∧ ∀ x H', J.yld i H x H' → g x (L2.wipe σ own) H' fun σ2 H2 => L2.wipe σ2 own = L2.wipe σ own ∧ tTOf G W0 mt σ2 H2 fun b H3 =>
        if b = true then tOf G W0 me σ2 H3 fun y H4 => ∃ acc, H4 D = some (.lst acc) ∧ acc.length < sizeLine ∧ Nx (upd H4 D (.lst (acc ++ [y]))) else Nx H3) := by
  subst hg
  intro D hD
  have o0 : Ok S H ([] ++ FP) := o
  have sn := Step.new (o := .lst []) o0.left hD trivial
  refine ⟨fun i n H' => n = ds.length - i ∧ i ≤ ds.length ∧ ∃ S' acc vs fp, Step S H [] S' H' (D :: fp) ∧ H' D = some (.lst vs) ∧ RpL G S' H' acc vs fp ∧ acc.length ≤ i ∧ (∃ zs, lcLoop t mt me (wipeE (clE ρ) own) (ds.drop i) = some zs ∧ ys = acc ++ zs), ⟨ds.length, by simp, Nat.zero_le _, S, [], [], [], sn, upd_same, ⟨rfl, rfl⟩, Nat.le_refl _, ys, e, rfl⟩, ?_⟩
  rintro i n H' ⟨rfl, hi, S', acc, vs, fp, st, hv, rl, hacc, zs, ez, ey⟩
  obtain ⟨sv1, sv2⟩ := sv i S' H' st.stay (st.ok.sublist (List.nil_sublist _))
  by_cases hlt : i < ds.length
  · rw [List.drop_eq_getElem_cons hlt] at ez
    obtain ⟨go, yl⟩ := sv1 ds[i] (List.getElem?_eq_getElem hlt)
    -- what a turn's end asks
    refine .inr ⟨go, fun H2 => i + 1 ≤ ds.length ∧ ∃ S2 acc2 vs2 fp2, Step S H [] S2 H2 (D :: fp2) ∧ H2 D = some (.lst vs2) ∧ RpL G S2 H2 acc2 vs2 fp2 ∧ acc2.length ≤ i + 1 ∧ (∃ zs, lcLoop t mt me (wipeE (clE ρ) own) (ds.drop (i + 1)) = some zs ∧ ys = acc2 ++ zs), fun H2 q => ⟨ds.length - (i + 1), by omega, rfl, q⟩, fun x H2 y => ?_⟩
    obtain ⟨S2, st2, rp2⟩ := yl x H2 y
    have s02 : Step S H [] S2 H2 (D :: fp) := st.seq00 st2
    have reC : RpE G S2 H2 (L2.wipe σ own) (Ta.wipeE (Ta.clE ρ) own) [] := (re.clE.mono s02.stay (by simp)).wipeE own
    unfold lcLoop at ez
    split at ez
    · cases ez
    next ρ1 eput =>
      refine put_gOf rfl st2.ok reC rp2 eput fun is ws FQ his st3 re3 => ?_
      have fq : FQ = [] := by
        cases FQ with
        | nil => rfl
        | cons b _ => rcases st3.fps b List.mem_cons_self with z | z
                      · cases z
                      · obtain ⟨u, hu, _⟩ := st3.ok.there b List.mem_cons_self
                        rw [z] at hu; cases hu
      subst fq
      refine ⟨by rw [wipe_setAll (by rw [his]; exact hown), wipe_idem], ?_⟩
      refine ⟨ρ1, S2, [], st3.ok, re3, ?_⟩
      split at ez
      next ρ2 emt =>
        rw [emt]
        intro S3 H3 FP3 st4 re4
        rw [if_pos rfl]
        refine ⟨ρ2, S3, FP3, st4.ok, re4, ?_⟩
        split at ez
        next yv ρ3 eme =>
          rw [eme]
          intro v S4 H4 fp4 FP4 st5 rp5 re5
          have s24 : Step S2 H2 [] S4 H4 fp4 := (st4.trans st5).left
          have s04 : Step S H [] S4 H4 ((D :: fp) ++ fp4) := s02.seq0 s24
          have hD2 : H2 D = some (.lst vs) := by rw [st2.keep D _ hv (by simp)]
          have hD4 : H4 D = some (.lst vs) := s24.keep D _ hD2 (by simp)
          have rl2 : RpL G S2 H2 acc vs fp := rl.stepN (st.ok.sublist (List.sublist_cons_self _ _)) st2
          have rl4 : RpL G S4 H4 acc vs fp := rl2.stepN (s02.ok.sublist (List.sublist_cons_self _ _)) s24
          cases q : lcLoop t mt me (wipeE (clE ρ) own) (ds.drop (i + 1)) with
          | none => rw [q] at ez; cases ez
          | some zs' =>
            rw [q] at ez; cases ez
            have hl4 : vs.length < sizeLine := by
              rw [rl.length, sizeLine_eq]
              omega
            have sm := Step.mut (o := .lst (vs ++ [v])) s04.ok (List.mem_append_left _ List.mem_cons_self) trivial
            have ne : ∀ b ∈ fp ++ fp4, b ≠ D := fun b hb z => by
              have nd := s04.ok.nd
              rw [List.cons_append] at nd
              exact (List.nodup_cons.mp nd).1 (z ▸ hb)
            refine ⟨vs, hD4, hl4, hlt, S4, acc ++ [yv], vs ++ [v], fp ++ fp4, ?_, upd_same, ?_, by simp; omega, zs', rfl, by rw [ey, List.append_assoc]; rfl⟩
            · have := s04.trans sm
              rwa [List.cons_append] at this
            · exact (rl4.app (.one rp5)).mono (Same.refl _) fun b hb => upd_ne (ne b hb)
        next => cases ez
      next ρ2 emt =>
        rw [emt]
        intro S3 H3 FP3 st4 re4
        rw [if_neg Bool.false_ne_true]
        have s23 : Step S2 H2 [] S3 H3 [] := st4.sublist (List.nil_sublist _)
        have s03 : Step S H [] S3 H3 (D :: fp) := s02.seq00 s23
        have hD2 : H2 D = some (.lst vs) := by rw [st2.keep D _ hv (by simp)]
        have rl2 : RpL G S2 H2 acc vs fp := rl.stepN (st.ok.sublist (List.sublist_cons_self _ _)) st2
        have rl3 : RpL G S3 H3 acc vs fp := rl2.stepN (s02.ok.sublist (List.sublist_cons_self _ _)) s23
        exact ⟨hlt, S3, acc, vs, fp, s03, s23.keep D _ hD2 (by simp), rl3, by omega, zs, ez, ey⟩
      next => cases ez
  · have e2 : i = ds.length := by omega
    subst e2
    rw [List.drop_length] at ez
    cases ez
    rw [List.append_nil] at ey
    subst ey
    have sF : Step S H ([] ++ FP) S' H' ((D :: fp) ++ FP) := st.frameR o0
    exact .inl ⟨sv2 (Nat.le_refl _), k (.ref D) S' H' (D :: fp) sF ⟨D, vs, rfl, fp, rfl, hv, rl⟩ (re.mono st.stay (st.sameR o0))⟩
theorem ge_lc {elt tg iter : Expr} {ifs : List Expr} {scope : Scope} {own : List (Str × Nat)} {mi : M (List D)} {mt : M Bool} {me : M D} {t : Tg} (hK : G.K = X.K) (hc : X.calm = true) (hN : X.N.Nodup) (hi : GI G W X tg iter mi) (ok : BlkOk X.N X.env.scope scope own) (hown : ∀ i ∈ t.slots, i ∈ own.map (·.2))
    (hg : ∀ (s : Shared) (H : Hp) (C : Addr) (cl : List (Str × Addr)) (fp : List Addr), GG (X.blk s H scope (compEnvC scope cl C X.env) fp) tg t) (ht : ∀ (s : Shared) (H : Hp) (C : Addr) (cl : List (Str × Addr)) (fp : List Addr), GTs G W0 (X.blk s H scope (compEnvC scope cl C X.env) fp) ifs mt)
    (he : ∀ (s : Shared) (H : Hp) (C : Addr) (cl : List (Str × Addr)) (fp : List Addr), GE G W0 (X.blk s H scope (compEnvC scope cl C X.env) fp) elt me) (hs : ∀ x, foldedSetIterable iter X.env x = pure x := by intro _; rfl) :
    GE G W X (.ListComp elt [⟨tg, iter, ifs, 0⟩] scope pos) (mLc (own.map (·.2)) t mi mt me) := by
  refine PE.imp (pe_lc (g := gOf X.K t) hc hN hi ok hg ht he hs) fun σ H Q h => ?_
  obtain ⟨ρ, S, FP, o, r, p⟩ := h
  refine ⟨ρ, S, FP, o, r, p.bind.mono fun ds ρ1 _ p1 J S1 H1 FP1 st1 re1 sv => ?_⟩
  split at p1
  next ys ely =>
    split at p1
    next hl => exact lc_read (g := gOf X.K t) (by rw [hK]) hown st1.ok re1 sv ely hl fun v S' H' fp st rp re => p1 v S' H' fp FP1 (st1.trans st) rp re
    next => exact p1.elim
  next => exact p1.elim
theorem gs_setLc {μ : List Nat} (i : Nat) {y : Str} {py spos : Pos} {elt tg iter : Expr} {ifs : List Expr} {scope : Scope} {own : List (Str × Nat)} {mi : M (List D)} {mt : M Bool} {me : M D} {t : Tg} (hK : G.K = X.K) (hc : X.calm = true) (hN : X.N.Nodup) (hyl : X.env.scope.names.lookup y = some .local)
    (hsw : swapsWith (.ListComp elt [⟨tg, iter, ifs, 0⟩] scope pos) (some (.Name y py)) spos.line X.env = pure true) (hi : GI G W X tg iter mi) (ok : BlkOk X.N X.env.scope scope own) (hown : ∀ i ∈ t.slots, i ∈ own.map (·.2))
    (hg : ∀ (s : Shared) (H : Hp) (C : Addr) (cl : List (Str × Addr)) (fp : List Addr), GG (X.blk s H scope (compEnvC scope cl C X.env) fp) tg t) (ht : ∀ (s : Shared) (H : Hp) (C : Addr) (cl : List (Str × Addr)) (fp : List Addr), GTs G W0 (X.blk s H scope (compEnvC scope cl C X.env) fp) ifs mt)
    (he : ∀ (s : Shared) (H : Hp) (C : Addr) (cl : List (Str × Addr)) (fp : List Addr), GE G W0 (X.blk s H scope (compEnvC scope cl C X.env) fp) elt me) (hy : X.N[i]? = some y := by rfl) (hμ : i ∉ μ := by decide) (hs : ∀ x, foldedSetIterable iter X.env x = pure x := by intro _; rfl) :
    GS G W μ X (.Assign [.Name y py] (.ListComp elt [⟨tg, iter, ifs, 0⟩] scope pos) spos) (sAsg i (mLc (own.map (·.2)) t mi mt me)) := by
  refine PS.imp (ps_setLc (g := gOf X.K t) hc hN hy hyl hsw hi ok hg ht he hs) fun D σ H h => ?_
  obtain ⟨ρ, S, FP, o, r, p⟩ := h
  have p0 : PostS G W μ D σ S H FP (M.bind mi (fun ds => fun ρ => M.bind (fun ρ => match lcLoop t mt me (wipeE (clE ρ) (own.map (·.2))) ds with
    | some ys => if ds.length ≤ 16777000 then some (.ok (.lst true ys), ρ) else none
    | none => none) (fun d => putM i d) ρ) ρ) := by
    unfold sAsg mLc M.bind at p
    unfold M.bind
    cases q : mi ρ with
    | none => rw [q] at p; exact p
    | some x =>
      obtain ⟨x, ρ1⟩ := x
      rw [q] at p
      cases x with
      | error e => exact p
      | ok ds => exact p
  refine ⟨ρ, S, FP, o, r, p0.bind.mono fun ds ρ1 _ p1 J S1 H1 FP1 st1 re1 sv => ?_⟩
  have p2 := p1.bind
  split at p2
  next ys ely =>
    split at p2
    next hl =>
      exact lc_read (g := gOf X.K t) (Qd := fun x H1 => gName i x σ H1 D.nx) (by rw [hK]) hown st1.ok re1 sv ely hl fun v S' H' fp st rp re => put_post hμ p2 (st1.trans st) rp re
    next => exact p2.elim
  next => exact p2.elim
end

/-! ### while, with fuel -/
def sWhile (mt : M Bool) (m : MS) : Nat → MS
  | 0 => fun _ => none
  | n + 1 => M.bind mt fun b => if b then fun ρ1 => match m ρ1 with
      | none => none
      | some (.error e, ρ2) => some (.error e, ρ2)
      | some (.ok .nx, ρ2) => sWhile mt m n ρ2
      | some (.ok .ct, ρ2) => sWhile mt m n ρ2
      | some (.ok .bk, ρ2) => some (.ok .nx, ρ2)
      | some (.ok (.ret r), ρ2) => some (.ok (.ret r), ρ2) else sNx
section
variable {G : Glo} {W : WX} {μ : List Nat} {X : Cx} {pos : Pos}
theorem gs_while (n : Nat) {c : Expr} {body : List Stmt} {mt : M Bool} {m : MS} (hp : PassesOwn (model X.prog X.w) X.A X.env X.xe) (hc : GT G W X c mt) (hb : GSs G W μ X body m) : GS G W μ X (.While c body [] pos) (sWhile mt m n) := by
  refine PS.imp (ps_while hp hc hb) fun D σ H h => ?_
  obtain ⟨ρ, S, FP, o, r, p⟩ := h
  refine ⟨fun n σ' H' => ∃ ρ' S' FP', Ok S' H' FP' ∧ RpE G S' H' σ' ρ' FP' ∧ PostS G W μ D σ' S' H' FP' (sWhile mt m n ρ'), ⟨n, ρ, S, FP, o, r, p⟩, ?_⟩
  rintro n σ' H' ⟨ρ', S', FP', o', r', p'⟩
  cases n with
  | zero => exact p'.elim
  | succ n =>
    unfold sWhile at p'
    refine tTOf_s o' r' p' fun b ρ1 S1 H1 FP1 st1 re1 p1 => ?_
    cases b with
    | false =>
      rw [if_neg Bool.false_ne_true] at p1 ⊢
      exact p1 σ' S1 H1 FP1 st1 re1 Keep.refl
    | true =>
      rw [if_pos rfl] at p1 ⊢
      refine ⟨fun σ2 H2 => ∃ ρ2 S2 FP2, Ok S2 H2 FP2 ∧ RpE G S2 H2 σ2 ρ2 FP2 ∧ PostS G W μ D σ2 S2 H2 FP2 (sWhile mt m n ρ2), fun σ2 H2 q => ⟨n, Nat.lt_succ_self _, q⟩, ρ1, S1, FP1, st1.ok, re1, ?_⟩
      have p3 := PostS.step p1 st1 Keep.refl
      cases q2 : m ρ1 with
      | none => rw [q2] at p3; exact p3
      | some z =>
        obtain ⟨z, ρ3⟩ := z
        rw [q2] at p3
        cases z with
        | error e => exact p3
        | ok f =>
          cases f with
          | nx => exact fun σ3 S3 H3 F3 st4 re4 k4 => ⟨ρ3, S3, F3, st4.ok, re4, PostS.step p3 st4 k4⟩
          | ct => exact fun σ3 S3 H3 F3 st4 re4 k4 => ⟨ρ3, S3, F3, st4.ok, re4, PostS.step p3 st4 k4⟩
          | bk => exact p3
          | ret d => exact p3
end
end Ta

/-! Ta.M: things of one's own are changed: append, clear, pop, x[i] = e, d[k] = e, o.f = e. -/
namespace Ta
open PySem PySem.Spec L2
section
variable {G : Glo} {S H : Hp}
theorem RpL.split : ∀ {ds es : List D} {vs : List V} {fp : List Addr}, RpL G S H (ds ++ es) vs fp → ∃ ws us f1 f2, vs = ws ++ us ∧ fp = f1 ++ f2 ∧ RpL G S H ds ws f1 ∧ RpL G S H es us f2
  | [], es, vs, fp, h => ⟨[], vs, [], fp, rfl, rfl, ⟨rfl, rfl⟩, h⟩
  | d :: ds, es, vs, fp, h => by
    obtain ⟨v, vs', fp1, fp2, rfl, rfl, h1, h2⟩ := h
    obtain ⟨ws, us, f1, f2, rfl, rfl, g1, g2⟩ := RpL.split h2
    exact ⟨v :: ws, us, fp1 ++ f1, f2, rfl, by rw [List.append_assoc], ⟨v, ws, fp1, f1, rfl, rfl, h1, g1⟩, g2⟩
theorem RpL.set : ∀ {ds : List D} {vs : List V} {fp fq : List Addr} {i : Nat} {d : D} {v : V}, RpL G S H ds vs fp → Rp G S H d v fq → i < ds.length → ∃ fr FR, (fq ++ fp).Perm (fr ++ FR) ∧ RpL G S H (ds.set i d) (vs.set i v) fr
  | [], _, _, _, _, _, _, _, _, h => by simp at h
  | c :: ds, vs, fp, fq, 0, d, v, h, g, _ => by
    obtain ⟨u, vs', fp1, fp2, rfl, rfl, h1, h2⟩ := h
    refine ⟨fq ++ fp2, fp1, ?_, v, vs', fq, fp2, rfl, rfl, g, h2⟩
    rw [List.append_assoc]
    exact List.perm_append_comm.append_left fq
  | c :: ds, vs, fp, fq, i + 1, d, v, h, g, hl => by
    obtain ⟨u, vs', fp1, fp2, rfl, rfl, h1, h2⟩ := h
    obtain ⟨fr, FR, pm, r⟩ := RpL.set (i := i) h2 g (by simpa using hl)
    refine ⟨fp1 ++ fr, FR, ?_, u, vs'.set i v, fp1, fr, rfl, rfl, h1, r⟩
    rw [List.append_assoc]
    refine List.Perm.trans ?_ (pm.append_left fp1)
    rw [← List.append_assoc, ← List.append_assoc]
    exact List.perm_append_comm.append_right fp2
/-- the slot's thing is another one now: its cell a has been written -/
theorem slot_back {σ : L2.St} {ρ : Rho} {i : Nat} {a : Addr} {A A' AR F2 : List Addr} {v : V} {d : D} {o' : HO} (o : Ok S H ((a :: A) ++ F2)) (re : RpE G S H σ (ρ.set i none) F2) (hv : σ[i]? = some (some v)) (hl : i < ρ.length) (m : Mk o') (pm : A.Perm (A' ++ AR))
    (rp : ∀ H', (∀ b ∈ A', H' b = H b) → H' a = some o' → Rp G S H' d v (a :: A')) : ∃ FQ, Step S H ((a :: A) ++ F2) S (upd H a o') FQ ∧ RpE G S (upd H a o') σ (ρ.set i (some d)) FQ := by
  have nd := o.nd
  rw [List.cons_append] at nd
  have nA : ∀ b ∈ A ++ F2, b ≠ a := fun b hb z => (List.nodup_cons.mp nd).1 (z ▸ hb)
  have sm := Step.mut (a := a) (o := o') o (by simp) m
  have rp2 := rp (upd H a o') (fun b hb => upd_ne (nA b (List.mem_append_left _ (pm.symm.subset (List.mem_append_left _ hb))))) upd_same
  have re2 : RpE G S (upd H a o') σ (ρ.set i none) F2 := re.mono (Same.refl _) fun b hb => upd_ne (nA b (List.mem_append_right _ hb))
  obtain ⟨fr, p3, re3⟩ := re2.put rp2 hl
  have es : σ.set i (some v) = σ := by
    refine List.ext_getElem? fun j => ?_
    by_cases e : i = j
    · subst e
      have hi : i < σ.length := (List.getElem?_eq_some_iff.mp hv).1
      rw [List.getElem?_set_self hi, hv]
    · rw [List.getElem?_set_ne e]
  rw [es] at re3
  have pm2 : ((a :: A) ++ F2).Perm (((a :: A') ++ F2) ++ AR) := by
    rw [List.append_assoc]
    have h1 : (a :: A).Perm ((a :: A') ++ AR) := pm.cons a
    refine (h1.append_right F2).trans ?_
    rw [List.append_assoc]
    exact List.perm_append_comm.append_left (a :: A')
  exact ⟨fr, ((sm.perm pm2).left).perm p3.symm, re3⟩
end

/-! ### list methods of a slot -/
/-- the list of the slot i takes a value at its end -/
def appS (i : Nat) (d : D) : M D := fun ρ => match ρ[i]? with
  | some (some (.lst true xs)) => if xs.length < sizeLine then some (.ok .non, ρ.set i (some (.lst true (xs ++ [d])))) else none
  | _ => none
def ownL (i : Nat) : M D := fun ρ => match ρ[i]? with
  | some (some (.lst true xs)) => some (.ok .non, ρ)
  | _ => none
def mApp (i : Nat) (ma : M D) : M D := M.bind (ownL i) fun _ => M.bind ma fun d => appS i d
def mClear (i : Nat) : M D := fun ρ => match ρ[i]? with
  | some (some (.lst true xs)) => some (.ok .non, ρ.set i (some (.lst true [])))
  | _ => none
def mPop (i : Nat) : M D := fun ρ => match ρ[i]? with
  | some (some (.lst true xs)) => match xs.getLast? with
    | some d => some (.ok d, ρ.set i (some (.lst true xs.dropLast)))
    | none => none
  | _ => none
section
variable {G : Glo} {W : WX} {X : Cx} {e : Expr} {ma : M D} {pos cpos apos npos : Pos}
theorem lt_of_get {ρ : Rho} {i : Nat} {o : Option D} (h : ρ[i]? = some o) : i < ρ.length := (List.getElem?_eq_some_iff.mp h).1
theorem own_lst {σ : L2.St} {ρ : Rho} {S H : Hp} {FP : List Addr} {i : Nat} {xs : List D} (o : Ok S H FP) (re : RpE G S H σ ρ FP) (h : ρ[i]? = some (some (.lst true xs))) :
    ∃ a vs A F2, σ[i]? = some (some (.ref a)) ∧ H a = some (.lst vs) ∧ RpL G S H xs vs A ∧ FP.Perm ((a :: A) ++ F2) ∧ RpE G S H σ (ρ.set i none) F2 := by
  obtain ⟨v, fp1, F2, h1, h2, h3, h4⟩ := re.split h
  obtain ⟨a, vs, rfl, A, rfl, h5, h6⟩ := h2
  exact ⟨a, vs, A, F2, h1, h5, h6, h3, h4⟩
theorem ge_app (i : Nat) {x : Str} (ha : GE G W X e ma) (hN : X.N[i]? = some x := by rfl) (hv : Vis X.env.scope x := by first | exact Or.inl rfl | exact Or.inr (Or.inl rfl) | exact Or.inr (Or.inr rfl)) (hd : (x == ("__debug__" : Str)) = false := by decide)
    (hcd : (x == ("__classdict__" : Str)) = false := by decide) (hbase : attributeBase (.Name x npos) "append" X.env (eval (.Name x npos) X.env) = eval (.Name x npos) X.env := by rfl)
    (hfew : ((backTo cpos (starEach [e] X.env)).all (fun x => !x.1) && (backToKw cpos (keywordEach [] X.env)).all (fun x => x.1.isSome)
      && decide (([e] : List Expr).length + ([] : List Keyword).length + (if ([] : List Keyword).isEmpty then 0 else 1) < 30)) = true := by rfl)
    (hline : (apos.endLine == cpos.line) = true := by rfl) (hs : starEach [e] X.env = (false, eval e X.env) :: starEach [] X.env := by rfl) :
    GE G W X (.Call (.Attribute (.Name x npos) "append" apos) [e] [] cpos) (mApp i ma) := by
  refine PE.imp (pe_bm PySem.F.plainAttrs_list PySem.F.slot_list_append PySem.F.type_list_append mt_append (pe_var hN hv hd hcd) (pa_cons ha pa_nil hs) hbase hfew hline hs rfl) fun σ H Q h => ?_
  obtain ⟨ρ, S, FP, o, r, p⟩ := h
  have p1 := p.bind
  unfold ownL at p1
  split at p1
  next xs0 q0 =>
    obtain ⟨a0, vs0, A0, F0, h1, h2, _⟩ := own_lst o r q0
    refine ⟨.ref a0, h1, .inl ⟨rfl, vs0, .of h2⟩, ?_⟩
    refine tOf_from (Step.refl o) r p1 fun d ρ1 y S1 H1 fp1 FP1 st1 rp1 re1 p2 => ?_
    unfold appS at p2
    split at p2
    next xs q =>
      split at p2
      next hl =>
        obtain ⟨a, vs, A, F2, g1, g2, g3, g4, g5⟩ := own_lst st1.ok.right re1 q
        rw [h1] at g1; cases g1
        refine ⟨a0, vs, y, rfl, rfl, g2, by rw [g3.length]; exact hl, ?_⟩
        -- cells: a0, the value's, the list's, the others
        have st2 : Step S H FP S1 H1 ((a0 :: (fp1 ++ A)) ++ F2) := st1.perm (by
          refine (g4.append_left fp1).trans ?_
          rw [← List.append_assoc]
          refine List.Perm.append_right F2 ?_
          exact List.perm_middle.trans (by simp))
        have rl : RpL G S1 H1 (xs ++ [d]) (vs ++ [y]) (A ++ fp1) := g3.app (.one rp1)
        obtain ⟨FQ, s3, re3⟩ := slot_back (d := .lst true (xs ++ [d])) (v := .ref a0) (o' := .lst (vs ++ [y])) (A' := A ++ fp1) (AR := []) st2.ok g5 h1 (lt_of_get q) trivial (by rw [List.append_nil]; exact List.perm_append_comm)
          (fun H' k e => ⟨a0, vs ++ [y], rfl, A ++ fp1, rfl, e, rl.mono (Same.refl _) k⟩)
        exact p2 .non S1 _ [] FQ (st2.trans s3) ⟨rfl, rfl⟩ re3
      next => exact p2.elim
    next => exact p2.elim
  next => exact p1.elim
theorem ge_clear (i : Nat) {x : Str} (hN : X.N[i]? = some x := by rfl) (hv : Vis X.env.scope x := by first | exact Or.inl rfl | exact Or.inr (Or.inl rfl) | exact Or.inr (Or.inr rfl)) (hd : (x == ("__debug__" : Str)) = false := by decide)
    (hcd : (x == ("__classdict__" : Str)) = false := by decide) (hbase : attributeBase (.Name x npos) "clear" X.env (eval (.Name x npos) X.env) = eval (.Name x npos) X.env := by rfl)
    (hline : (apos.endLine == cpos.line) = true := by rfl) :
    GE G W X (.Call (.Attribute (.Name x npos) "clear" apos) [] [] cpos) (mClear i) := by
  refine PE.imp (pe_bm0 PySem.F.plainAttrs_list PySem.F.slot_list_clear PySem.F.type_list_clear mt_clear (pe_var hN hv hd hcd) hbase hline) fun σ H Q h => ?_
  obtain ⟨ρ, S, FP, o, r, p⟩ := h
  unfold mClear at p
  split at p
  next xs q =>
    obtain ⟨a, vs, A, F2, g1, g2, g3, g4, g5⟩ := own_lst o r q
    refine ⟨.ref a, g1, .inl ⟨rfl, vs, .of g2⟩, a, vs, rfl, rfl, g2, ?_⟩
    have st := (Step.refl o).perm g4
    obtain ⟨FQ, s3, re3⟩ := slot_back (d := .lst true []) (v := .ref a) (o' := .lst []) (A' := []) (AR := A) st.ok g5 g1 (lt_of_get q) trivial (by simp) (fun H' k e => ⟨a, [], rfl, [], rfl, e, rfl, rfl⟩)
    exact p .non S _ [] FQ (st.trans s3) ⟨rfl, rfl⟩ re3
  next => exact p.elim
end
end Ta

/-! Ta.B: built-ins called, subscripts, slices, isinstance. -/
namespace Ta
open PySem PySem.Spec L2

def mCallN (f : List D → Option D) (ms : M (List D)) : M D := M.bind ms fun ds => M.opt (f ds)
section
variable {G : Glo} {W : WX} {X : Cx} {e : Expr} {es : List Expr} {ms : M (List D)} {p pos : Pos} {x : Str} {f : List D → Option D}
theorem rn_of {t : TA} {σ : L2.St} {H : Hp} {Q : VK} {r : List V → Hp → VK → Prop} (hr : ∀ xs H Q, rN G f xs H Q → r xs H Q) (h : tOf G W (mCallN f ms) σ H Q) (ht : t = tAOf G W ms) : t σ H fun vs H1 => r vs H1 Q := by
  subst ht
  obtain ⟨ρ, S, FP, o, r, p⟩ := h
  refine tAOf_from (Step.refl o) r p fun ds ρ1 vs S1 H1 fp1 FP1 st1 rp1 re1 p1 => ?_
  obtain ⟨d, e, k⟩ := opt_post p1
  refine hr _ _ _ ⟨S1, ds, fp1, d, st1.ok.left, rp1, e, fun v S' H' fp st3 rp => ?_⟩
  exact k v S' H' fp FP1 (st1.trans (st3.frameR st1.ok)) rp (re1.step st1.ok st3)
theorem ge_callB {id : String} (hc : CallR X (.builtin id) (rN G f)) (hm : X.mg x = none) (hv : bootBuiltins x = some (.builtin id)) (ha : GA G W X (e :: es) ms) (hg : Gl X x := by rfl) (hn : x ≠ "__name__" := by decide) (hdb : (x == ("__debug__" : Str)) = false := by decide)
    (he : starEach (e :: es) X.env = (false, eval e X.env) :: starEach es X.env := by rfl) (hpl : (backTo pos (starEach es X.env)).any (·.1) = false := by rfl) : GE G W X (.Call (.Name x p) (e :: es) [] pos) (mCallN f ms) :=
  PE.imp (pe_callB hc hg hm hv ha hn hdb he hpl) fun σ H Q h => rn_of (fun _ _ _ z => z) h rfl
theorem ge_callTy {T : String} (hc : CallR X (.type T) (rN G f)) (hm : X.mg x = none) (hv : bootBuiltins x = some (.type T)) (ha : GA G W X (e :: es) ms) (hg : Gl X x := by rfl) (hn : x ≠ "__name__" := by decide) (hdb : (x == ("__debug__" : Str)) = false := by decide)
    (he : starEach (e :: es) X.env = (false, eval e X.env) :: starEach es X.env := by rfl) (hpl : (backTo pos (starEach es X.env)).any (·.1) = false := by rfl) : GE G W X (.Call (.Name x p) (e :: es) [] pos) (mCallN f ms) :=
  PE.imp (pe_callTy hc hg hm hv ha hn hdb he hpl) fun σ H Q h => rn_of (fun _ _ _ z => z) h rfl
end

/-! ### functions of data -/
def lenD : List D → Option D
  | [.lst _ xs] => some (.int xs.length)
  | [.tup xs] => some (.int xs.length)
  | [.scr ns] => some (.int ns.length)
  | [.str z] => if z.length ≤ sizeLine then some (.int z.length) else none
  | _ => none
def intD : List D → Option D
  | [.int i] => some (.int i)
  | _ => none
def strD : List D → Option D
  | [.int i] => if i.natAbs.log2 < 1920 then some (.str (toString i)) else none
  | _ => none
def listD : List D → Option D
  | [.lst _ xs] => some (.lst true xs)
  | [.tup xs] => some (.lst true xs)
  | _ => none
def tupleD : List D → Option D
  | [.lst _ xs] => some (.tup (deepL xs))
  | [.tup xs] => some (.tup xs)
  | _ => none
def blsD : List D → Option (List Bool)
  | [] => some []
  | .bl b :: ds => (blsD ds).map (b :: ·)
  | _ => none
def allD : List D → Option D
  | [.lst _ xs] => (blsD xs).map fun bs => .bl (bs.all id)
  | _ => none
def anyD : List D → Option D
  | [.lst _ xs] => (blsD xs).map fun bs => .bl (bs.any id)
  | _ => none
section
variable {G : Glo} {X : Cx}
theorem one {S H : Hp} {d : D} {x : List V} {FP : List Addr} (rp : RpL G S H [d] x FP) : ∃ v, x = [v] ∧ Rp G S H d v FP := by
  obtain ⟨v, vs', fp1, fp2, rfl, rfl, h1, h2⟩ := rp
  obtain ⟨rfl, rfl⟩ := h2
  exact ⟨v, rfl, by simpa using h1⟩
theorem flat_call {u : Value} {f : List D → Option D} {r : List V → Hp → VK → Prop} (h : CallR X u r)
    (k : ∀ (S H : Hp) (ds : List D) (xs : List V) (FP : List Addr) (d : D) (Q : VK), Same S H → RpL G S H ds xs FP → f ds = some d → (∀ v, (∀ S' H', Rp G S' H' d v []) → Q v H) → r xs H Q) : CallR X u (rN G f) := by
  refine CallR.imp h fun xs H Q q => ?_
  obtain ⟨S, ds, FP, d, o, rp, e, c⟩ := q
  exact k S H ds xs FP d Q o.sub rp e fun v hv => c v S H [] ((Step.refl o).sublist (List.nil_sublist _)) (hv S H)
theorem cd_len (hK : G.K = X.K) : CallR X (.builtin "len") (rN G lenD) := flat_call (CallR.or call_len_seq call_len_str) fun S H ds xs FP d Q o rp e c => by
  unfold lenD at e
  split at e
  · cases e
    obtain ⟨v, rfl, h⟩ := one rp
    obtain ⟨a, vs, f1, rfl, g1, g2, g3⟩ := lst_at o h
    refine .inl ⟨a, vs, rfl, .inl (.inl g1), ?_⟩
    rw [g2.length]
    exact c _ fun _ _ => ⟨rfl, rfl⟩
  · cases e
    obtain ⟨v, rfl, h⟩ := one rp
    obtain ⟨a, vs, rfl, rfl, h1, h2⟩ := h
    refine .inl ⟨a, vs, rfl, .inr (by rw [← hK]; exact Same.sqT o h1.sq), ?_⟩
    rw [h2.length]
    exact c _ fun _ _ => ⟨rfl, rfl⟩
  · cases e
    obtain ⟨v, rfl, h⟩ := one rp
    obtain ⟨a, rfl, rfl, h1⟩ := h
    refine .inl ⟨a, _, rfl, .inl (by rw [← hK]; exact o.seq h1), ?_⟩
    rw [List.length_map]
    exact c _ fun _ _ => ⟨rfl, rfl⟩
  · split at e
    next hl =>
      cases e
      obtain ⟨v, rfl, h⟩ := one rp
      obtain ⟨rfl, rfl⟩ := h
      exact .inr ⟨_, rfl, hl, c _ fun _ _ => ⟨rfl, rfl⟩⟩
    next => cases e
  · cases e
theorem cd_int : CallR X (.type "int") (rN G intD) := flat_call call_int1 fun S H ds xs FP d Q o rp e c => by
  unfold intD at e
  split at e <;> cases e
  obtain ⟨v, rfl, h⟩ := one rp
  obtain ⟨rfl, rfl⟩ := h
  exact .inl ⟨_, rfl, c _ fun _ _ => ⟨rfl, rfl⟩⟩
theorem cd_str : CallR X (.type "str") (rN G strD) := flat_call call_str_int fun S H ds xs FP d Q o rp e c => by
  unfold strD at e
  split at e
  · split at e
    next hl =>
      cases e
      obtain ⟨v, rfl, h⟩ := one rp
      obtain ⟨rfl, rfl⟩ := h
      exact ⟨_, rfl, hl, c _ fun _ _ => ⟨rfl, rfl⟩⟩
    next => cases e
  · cases e
theorem bls_v {S H : Hp} : ∀ {ds : List D} {bs : List Bool} {vs : List V} {fp : List Addr}, blsD ds = some bs → RpL G S H ds vs fp → vs = bs.map V.bl
  | [], bs, vs, fp, e, h => by cases e; exact h.1
  | d :: ds, bs, vs, fp, e, h => by
    cases d with
    | bl b =>
      unfold blsD at e
      obtain ⟨v, vs', fp1, fp2, rfl, rfl, h1, h2⟩ := h
      cases q : blsD ds with
      | none => rw [q] at e; cases e
      | some bs' =>
        rw [q] at e; cases e
        rw [h1.1, bls_v q h2]; rfl
    | _ => cases e
theorem cd_all (hc : X.calm = true) : CallR X (.builtin "all") (rN G allD) := flat_call (cr_all hc) fun S H ds xs FP d Q o rp e c => by
  unfold allD at e
  split at e
  next ob ys =>
    cases q : blsD ys with
    | none => rw [q] at e; cases e
    | some bs =>
      rw [q] at e; cases e
      obtain ⟨v, rfl, h⟩ := one rp
      obtain ⟨a, vs, f1, rfl, g1, g2, g3⟩ := lst_at o h
      refine ⟨a, bs, rfl, by rw [← bls_v q g2]; exact .inl g1, c _ fun _ _ => ⟨rfl, rfl⟩⟩
  next => cases e
theorem cd_any (hc : X.calm = true) : CallR X (.builtin "any") (rN G anyD) := flat_call (cr_any hc) fun S H ds xs FP d Q o rp e c => by
  unfold anyD at e
  split at e
  next ob ys =>
    cases q : blsD ys with
    | none => rw [q] at e; cases e
    | some bs =>
      rw [q] at e; cases e
      obtain ⟨v, rfl, h⟩ := one rp
      obtain ⟨a, vs, f1, rfl, g1, g2, g3⟩ := lst_at o h
      refine ⟨a, bs, rfl, by rw [← bls_v q g2]; exact .inl g1, c _ fun _ _ => ⟨rfl, rfl⟩⟩
  next => cases e
/-- a new list of what lies there -/
theorem new_lst {S H : Hp} {FP A : List Addr} {ds : List D} {vs : List V} {Q : VK} (o : Ok S H FP) (g2 : RpL G S H ds vs A) (g3 : A.Sublist FP) (c : ∀ v S' H' fp, Step S H FP S' H' fp → Rp G S' H' (.lst true ds) v fp → Q v H') : ∀ l, H l = none → Q (.ref l) (upd H l (.lst vs)) := by
  intro l hl
  have sl := (Step.refl o).sublist g3
  have sn := Step.new (o := .lst vs) sl.ok hl trivial
  exact c (.ref l) _ _ (l :: A) (sl.trans sn) ⟨l, vs, rfl, A, rfl, upd_same, g2.mono (Same.refl _) (upd_same_of hl sl.ok.there)⟩
theorem cd_list (hK : G.K = X.K) : CallR X (.type "list") (rN G listD) := by
  refine CallR.imp call_list_of fun xs H Q q => ?_
  obtain ⟨S, ds, FP, d, o, rp, e, c⟩ := q
  unfold listD at e
  split at e
  · cases e
    obtain ⟨v, rfl, h⟩ := one rp
    obtain ⟨a, vs, A, rfl, g1, g2, g3⟩ := lst_at o.sub h
    exact ⟨a, vs, rfl, .inl (.inl g1), new_lst o g2 g3 c⟩
  · cases e
    obtain ⟨v, rfl, h⟩ := one rp
    obtain ⟨a, vs, rfl, rfl, h1, h2⟩ := h
    exact ⟨a, vs, rfl, .inr (by rw [← hK]; exact Same.sqT o.sub h1.sq), new_lst o h2 (.refl _) c⟩
  · cases e
theorem cd_tuple (hK : G.K = X.K) : CallR X (.type "tuple") (rN G tupleD) := by
  refine CallR.imp call_tuple_of fun xs H Q q => ?_
  obtain ⟨S, ds, FP, d, o, rp, e, c⟩ := q
  unfold tupleD at e
  split at e
  · cases e
    obtain ⟨v, rfl, h⟩ := one rp
    obtain ⟨a, vs, A, rfl, g1, g2, g3⟩ := lst_at o.sub h
    refine ⟨a, vs, rfl, .inl ⟨.inl g1, fun l hl => ?_⟩⟩
    have sl := (Step.refl o).sublist g3
    have sg := Step.give (A := A) (B := []) (by rw [List.append_nil]; exact sl.ok)
    have sg' := sg.permL (A2 := A) (by rw [List.append_nil])
    have sn := Step.newS (o := .tup vs) sg.ok hl
    have r2 := g2.close sg.stay (fun b hb => plus_on hb) (H' := H)
    exact c (.ref l) _ _ [] (sl.trans (sg'.trans sn)) ⟨l, vs, rfl, rfl, .inl upd_same, r2.mono sn.stay (by simp)⟩
  · cases e
    obtain ⟨v, rfl, h⟩ := one rp
    obtain ⟨a, vs, rfl, rfl, h1, h2⟩ := id h
    exact ⟨a, vs, rfl, .inr ⟨by rw [← hK]; exact Same.sqT o.sub h1.sq, c _ S H [] (Step.refl o) h⟩⟩
  · cases e

/-! ### subscripts -/
def idxD : D → D → Option D
  | .lst _ xs, .int i => atI xs i
  | .tup xs, .int i => atI xs i
  | .scr ns, .int i => (atI ns i).map .int
  | .str z, .int i => if z.length ≤ sizeLine then (atI z.cps.toList i).map fun c => .str ⟨#[c]⟩ else none
  | d, y => (dgetD d y).bind id
theorem RpL.getS {S H : Hp} : ∀ {ds : List D} {vs : List V} {fp : List Addr} {i : Nat} {d : D}, RpL G S H ds vs fp → ds[i]? = some d → ∃ v fq, vs[i]? = some v ∧ Rp G S H d v fq ∧ fq.Sublist fp
  | [], _, _, _, _, _, e => by simp at e
  | c :: ds, vs, fp, 0, d, h, e => by
    obtain ⟨v, vs', fp1, fp2, rfl, rfl, h1, h2⟩ := h
    simp at e; subst e
    exact ⟨v, fp1, rfl, h1, List.sublist_append_left _ _⟩
  | c :: ds, vs, fp, i + 1, d, h, e => by
    obtain ⟨v, vs', fp1, fp2, rfl, rfl, h1, h2⟩ := h
    obtain ⟨u, fq, g1, g2, g3⟩ := RpL.getS (i := i) h2 (by simpa using e)
    exact ⟨u, fq, by simpa using g1, g2, g3.trans (List.sublist_append_right _ _)⟩
theorem at_v {S H : Hp} {ds : List D} {vs : List V} {fp : List Addr} {i : Int} {d : D} (h : RpL G S H ds vs fp) (e : atI ds i = some d) : ∃ v fq, atI vs i = some v ∧ Rp G S H d v fq ∧ fq.Sublist fp := by
  unfold atI at e ⊢
  rw [h.length]
  cases q : ixN ds.length i with
  | none => rw [q] at e; cases e
  | some j => rw [q] at e; exact h.getS e
theorem atI_map {α β : Type} (f : α → β) (xs : List α) (i : Int) : atI (xs.map f) i = (atI xs i).map f := by
  unfold atI
  rw [List.length_map]
  cases ixN xs.length i with
  | none => rfl
  | some j => show (xs.map f)[j]? = (xs[j]?).map f; rw [List.getElem?_map]
open PyProof.Rows in
theorem tail_D {prog : Program} {w : World} {A : Around} {E : Value → Shared → Prop} {s₂ : Shared} {value slice : Expr} {o i : Value} {T id : String} {Q : Value → Shared → Prop} (hT : s₂.TypeIs o T)
    (hl : typeLookup (.type T) "__getitem__" = pure (some (.builtin id))) (hs : subscripted slice false o i = operate [o, i] (getItem o i)) (h₂ : wpAny (model prog w) A (getItem o i) Q E s₂) : wpAny (model prog w) A (subscriptTail value slice o i) Q E s₂ := by
  unfold subscriptTail
  refine wpAny_bind ?_
  rw [getitemInPython_of_ne hT.not_modules]
  refine wpAny_bind (wpAny_specialOf hT hl ?_)
  have fin : wpAny (model prog w) A (subscripted slice false o i) (fun r s₃ => wpAny (model prog w) A (letTemporaryGo value o r >>= fun _ => pure r) Q E s₃) E s₂ := by
    rw [hs]
    exact wpAny_operating (wpAny_mono h₂ (fun r s₃ h₃ => wpAny_bind (wpAny_letTemporaryGo (wpAny_pure h₃))) fun _ _ x => x)
  first
    | exact wpAny_pure (wpAny_bind fin)
    | exact wpAny_bind (wpAny_pure (wpAny_bind fin))
    | exact wpAny_bind fin
theorem ix_dict (hu : X.A.units + 1 < cLine) : IxR X (fun x y H Q => ∃ a v, x = .ref a ∧ DGet H a y (some v) ∧ Q v H) := by
  intro value slice pins s σ H x y v u Q I rx ry h hs
  obtain ⟨a, z, rfl, g, q⟩ := h
  cases rx
  exact tail_D (dict_typeIs I g) PySem.F.slot_dict_getitem.lookup hs (d_getItem hu I g ry fun w' s' I' r' => ⟨z, H, I', r', q⟩)
theorem IxR.any {r : R2} (h : IxR X r) (k : ∀ x y H Q, r2 G idxD x y H Q → r x y H Q) : IxR X (r2 G idxD) := IxR.imp h k
theorem ix_D (hK : G.K = X.K) (hu : X.A.units + 1 < cLine) : IxR X (r2 G idxD) := by
  refine IxR.imp (IxR.or ix_seq (ix_dict hu)) fun x y H Q q => ?_
  obtain ⟨S, ds, FP, d, o, rp, e, c⟩ := q
  obtain ⟨a, b, fp1, fp2, rfl, rfl, e1, h1, h2⟩ := two e rp
  clear e
  have e := e1
  clear e1
  have fin : ∀ {v : V} {fq : List Addr}, Rp G S H d v fq → fq.Sublist (fp1 ++ fp2) → Q v H := fun {v fq} h s => c v S H fq ((Step.refl o).sublist s) h
  unfold idxD at e
  split at e
  next ob xs i =>
    obtain ⟨p, vs, f1, rfl, g1, g2, g3⟩ := lst_at o.sub h1
    obtain ⟨v, fq, k1, k2, k3⟩ := at_v g2 e
    exact .inl (.inl ⟨p, vs, i, v, rfl, h2.1, .inl g1, k1, fin k2 ((k3.trans g3).trans (List.sublist_append_left _ _))⟩)
  next xs i =>
    obtain ⟨p, vs, rfl, rfl, g1, g2⟩ := h1
    obtain ⟨v, fq, k1, k2, k3⟩ := at_v g2 e
    exact .inl (.inr (.inl ⟨p, vs, i, v, rfl, h2.1, by rw [← hK]; exact Same.sqT o.sub g1.sq, k1, fin k2 (k3.trans (List.nil_sublist _))⟩))
  next ns i =>
    obtain ⟨p, rfl, rfl, g1⟩ := h1
    cases q : atI ns i with
    | none => rw [q] at e; cases e
    | some n =>
      rw [q] at e; cases e
      exact .inl (.inl ⟨p, _, i, .int n, rfl, h2.1, by rw [← hK]; exact o.sub.seq g1, by rw [atI_map, q]; rfl, fin ⟨rfl, rfl⟩ (List.nil_sublist _)⟩)
  next z i =>
    split at e
    next hz =>
      cases q : atI z.cps.toList i with
      | none => rw [q] at e; cases e
      | some n =>
        rw [q] at e; cases e
        exact .inl (.inr (.inr ⟨z, i, n, h1.1, h2.1, hz, q, fin ⟨rfl, rfl⟩ (List.nil_sublist _)⟩))
    next => cases e
  next =>
    cases q : dgetD a b with
    | none => rw [q] at e; cases e
    | some r =>
      rw [q] at e
      have e' : r = some d := e
      subst e'
      obtain ⟨p, o', rfl, g, _, g2⟩ := dget_v o.sub q h1 h2
      obtain ⟨u, fr, rfl, k2, k3⟩ := g2 d rfl
      exact .inr ⟨p, u, rfl, g, fin k2 (k3.trans (List.sublist_append_left _ _))⟩
end
section
variable {G : Glo} {W : WX} {X : Cx} {a b : Expr} {ma mb : M D} {pos : Pos}
theorem ge_ix {f : D → D → Option D} (ho : IxR X (r2 G f)) (ha : GE G W X a ma) (hb : GE G W X b mb) (hs : PlainIx b := by exact fun _ _ => rfl) : GE G W X (.Subscript a b pos) (mOp f ma mb) := by
  refine PE.imp (pe_ix ho ha hb hs) fun σ H Q h => ?_
  obtain ⟨ρ, S, FP, o, r, p⟩ := h
  refine tOf_step o r p fun d1 ρ1 x S1 H1 fp1 FP1 st1 rp1 re1 p1 => ?_
  refine tOf_step st1.ok.right re1 p1 fun d2 ρ2 y S2 H2 fp2 FP2 st2 rp2 re2 p2 => ?_
  obtain ⟨d, e, k⟩ := opt_post p2
  have s12 := (st1.trans (st2.frame st1.ok)).asc
  refine ⟨S2, [d1, d2], fp1 ++ fp2, d, s12.ok.left, ⟨x, [y], fp1, fp2, rfl, rfl, rp1.step st1.ok st2, .one rp2⟩, e, fun v S' H' fp st3 rp => ?_⟩
  exact k v S' H' fp FP2 (s12.trans (st3.frameR s12.ok)) rp (re2.step s12.ok st3)
end
end Ta

/-! Ta.B2: isinstance, slices, text * int. -/
namespace Ta
open PySem PySem.Spec L2

/-! ### isinstance -/
inductive Tag where
  | ty (n : String) | cls (c : Nat)
  deriving DecidableEq
def D.tag : D → Option Tag
  | .non => some (.ty "NoneType")
  | .bl _ => some (.ty "bool")
  | .int _ => some (.ty "int")
  | .str _ => some (.ty "str")
  | .lst _ _ => some (.ty "list")
  | .tup _ => some (.ty "tuple")
  | .dk _ _ _ => some (.ty "dict")
  | .ins _ c _ _ => some (.cls c)
  | _ => none
def Tag.v (G : Glo) : Tag → Value
  | .ty n => .type n
  | .cls c => .ref (G.ca c)
/-- what of the text a class must have, for isinstance -/
structure ClsI (K : PySem.W.Frag) (C : Addr) : Prop where
  cl : Cls K C
  ca : PySem.W.findIn K (.ref C) "__class__" = some (some (.builtin "object.__class__"))
  cn : PySem.W.specialIn K (.builtin "object.__class__") "__get__" = some (some (.builtin "getset_descriptor.__get__"))
  ct : PySem.W.takesIn K (.builtin "object.__class__") = some true
  cm : PySem.W.mroIn K C (.type "object") = some true
def getA {α β : Type} [DecidableEq α] (l : List (α × β)) (a : α) : Option β := (l.find? fun p => decide (p.1 = a)).map (·.2)
/-- isinstance: a table of the answers, by the thing's type and the number of the class asked for -/
def isiD (tb : List ((Tag × Nat) × Bool)) : List D → Option D
  | [d, .gl n] => match d.tag with
    | some t => (getA tb (t, n)).map .bl
    | none => none
  | _ => none
/-- the table is right -/
def IsiOk (K : PySem.W.Frag) (G : Glo) (tb : List ((Tag × Nat) × Bool)) : Prop := ∀ t n b, ((t, n), b) ∈ tb → (∃ u, ClsV (G.gv n) u ∧ PySem.W.kitOne K (t.v G) u = some b) ∧ ∀ c, t = .cls c → ClsI K (G.ca c)
theorem mem_of_lookup {α β : Type} [DecidableEq α] {l : List (α × β)} {a : α} {b : β} (h : getA l a = some b) : (a, b) ∈ l := by
  unfold getA at h
  cases q : l.find? (fun p => decide (p.1 = a)) with
  | none => rw [q] at h; cases h
  | some p =>
    rw [q] at h
    cases h
    have h1 := List.find?_some q
    have h2 := List.mem_of_find?_eq_some q
    have e : p.1 = a := of_decide_eq_true h1
    rw [← e]
    exact h2
section
variable {G : Glo} {X : Cx}
theorem cd_isi (hK : G.K = X.K) {tb : List ((Tag × Nat) × Bool)} (ht : IsiOk X.K G tb) : CallR X (.builtin "isinstance") (rN G (isiD tb)) := flat_call call_isi fun S H ds xs FP d Q o rp e c => by
  unfold isiD at e
  split at e
  next a n =>
    split at e
    next t et =>
      cases q : getA tb (t, n) with
      | none => rw [q] at e; cases e
      | some b =>
        rw [q] at e; cases e
        obtain ⟨v, vs', fp1, fp2, rfl, rfl, h1, h2⟩ := rp
        obtain ⟨w, rfl, h3⟩ := one h2
        obtain ⟨⟨u, hu, hk⟩, hc⟩ := ht t n b (mem_of_lookup q)
        refine ⟨v, w, t.v G, u, b, rfl, by rw [h3.1]; exact hu, ?_, hk, c _ fun _ _ => ⟨rfl, rfl⟩⟩
        cases a with
        | non => cases et; rw [h1.1]; exact .base .non
        | bl _ => cases et; rw [h1.1]; exact .base (.bl _)
        | int _ => cases et; rw [h1.1]; exact .base (.int _)
        | str _ => cases et; rw [h1.1]; exact .base (.str _)
        | gl _ => cases et
        | scr _ => cases et
        | lst ob ys =>
          cases et
          obtain ⟨l, us, f1, rfl, g1, g2, g3⟩ := lst_at o h1
          rcases g1 with g1 | ⟨oo, g1⟩
          · exact .base (.lst g1)
          · exact .base (.frz g1)
        | tup ys =>
          cases et
          obtain ⟨l, us, rfl, rfl, g1, g2⟩ := h1
          rcases g1.sq with (g1 | ⟨oo, g1⟩) | ⟨oo, its, k, g1, g3, _⟩
          · exact .base (.tup (o _ _ g1))
          · exact .fTuple (o _ _ g1)
          · exact .kTuple (by rw [← hK]; exact g1) g3
        | dk ob ks ys =>
          cases et
          cases ob with
          | true => obtain ⟨l, us, rfl, hl, fp', rfl, g1, g2⟩ := h1; exact .base (.dK g1)
          | false =>
            obtain ⟨l, us, rfl, hl, rfl, g1, g2⟩ := h1
            rcases Same.rd o g1 with g1 | ⟨oo, g1⟩
            · exact .base (.dK g1)
            · exact .fDict g1
        | dt _ _ _ => cases et
        | ins ob k fs ys =>
          cases et
          obtain ⟨h1c, h2c, h3c, h4c, h5c⟩ := hc k rfl
          cases ob with
          | true => obtain ⟨l, dx, us, rfl, hl, fp', rfl, g1, g2⟩ := h1; exact .base (.ins g1 h1c h2c h3c h4c h5c)
          | false => obtain ⟨l, dx, us, rfl, hl, rfl, g1, g2⟩ := h1; exact .base (.ins (o _ _ g1) h1c h2c h3c h4c h5c)
    next => cases e
  next => cases e
/-! ### text * int -/
def repS (z : Str) (n : Nat) : Str := ⟨(List.replicate n z.cps.toList).flatten.toArray⟩
theorem foldl_arr (x : Array Nat) : ∀ (n : Nat) (acc : List Nat), (List.replicate n x).foldl (· ++ ·) acc.toArray = (acc ++ (List.replicate n x.toList).flatten).toArray
  | 0, acc => by simp
  | n + 1, acc => by
    rw [List.replicate_succ, List.foldl_cons]
    have : acc.toArray ++ x = (acc ++ x.toList).toArray := by simp
    rw [this, foldl_arr x n, List.replicate_succ, List.flatten_cons, List.append_assoc]
theorem op_repS : OpR X (binaryOp .Mult) (fun x y H Q => ∃ z n, x = .str z ∧ y = .int n ∧ z.length ≤ 1000 ∧ -1000 ≤ n ∧ n ≤ 1000 ∧ Q (.str (repS z n.toNat)) H) := by
  intro pins s σ H x y v u Q I rx ry h
  obtain ⟨z, n, rfl, rfl, hz, h0, h1, q⟩ := h
  obtain ⟨t, rfl⟩ := rx
  obtain ⟨t', rfl⟩ := ry
  have hc : z.cps.toList.length = z.length := by simp [Str.length]
  have e1 : decide (n < -(2 ^ 63 : Int)) = false := decide_eq_false (by omega)
  have e2 : decide (n ≥ 2 ^ 63) = false := decide_eq_false (by omega)
  have hm : z.length * n.toNat ≤ 1000 * 1000 := Nat.mul_le_mul hz (by omega)
  refine PySem.P.mul_str (by rw [e1, e2]; rfl) (fun hn _ => ?_) (fun hn _ => ?_) ?_
  · have : (1000 : Int) ≤ (2 ^ 63 - 1) / n := by
      have h2 : n * 1000 ≤ 2 ^ 63 - 1 := by omega
      exact Int.le_ediv_of_mul_le (by omega) (by rw [Int.mul_comm]; exact h2)
    omega
  · show decide (z.length * n.toNat > sizeLine) = false
    rw [sizeLine_eq]
    exact decide_eq_false (by omega)
  · by_cases hn : n < 1
    · rw [if_pos hn]
      have e3 : repS z n.toNat = Str.empty := by
        have : n.toNat = 0 := by omega
        unfold repS; rw [this]; rfl
      rw [e3] at q
      exact ⟨by decide, ⟨.str Str.empty, H, I.tok _, ⟨_, rfl⟩, q⟩⟩
    · rw [if_neg hn]
      by_cases hb : (n == 1 || z.length == 0) = true
      · rw [if_pos hb]
        have e3 : repS z n.toNat = z := by
          rcases Bool.or_eq_true_iff.mp hb with h2 | h2
          · have : n.toNat = 1 := by have := beq_iff_eq.mp h2; omega
            unfold repS; rw [this]; simp
          · have h3 : z.cps.toList = [] := List.length_eq_zero_iff.mp (by rw [hc]; exact beq_iff_eq.mp h2)
            unfold repS
            rw [h3]
            have h4 : z.cps = #[] := by simpa using h3
            cases z with
            | mk c => simp at h4; subst h4; simp
        rw [e3] at q
        exact ⟨.str z, H, I, ⟨_, rfl⟩, q⟩
      · rw [if_neg hb]
        have e3 : (⟨(List.replicate n.toNat z.cps).foldl (· ++ ·) #[]⟩ : Str) = repS z n.toNat := by
          have := foldl_arr z.cps n.toNat []
          unfold repS
          rw [List.nil_append] at this
          rw [← this]
        rw [e3]
        exact ⟨by
          show (repS z n.toNat).length ≤ sizeLine
          have h5 : (repS z n.toNat).length = n.toNat * z.length := by
            unfold repS Str.length
            simp
          rw [h5, sizeLine_eq, Nat.mul_comm]; omega, ⟨.str _, H, I.tok _, ⟨_, rfl⟩, q⟩⟩
def mulSD : D → D → Option D
  | .int i, .int j => if (-(2 ^ 64) < i ∧ i < 2 ^ 64) ∨ (-(2 ^ 64) < j ∧ j < 2 ^ 64) then some (.int (i * j)) else none
  | .str z, .int n => if z.length ≤ 1000 ∧ -1000 ≤ n ∧ n ≤ 1000 then some (.str (repS z n.toNat)) else none
  | _, _ => none
theorem od_mul : OpR X (binaryOp .Mult) (r2 G mulSD) := flat_op (OpR.or op_mul op_repS) fun S H a b x y fp1 fp2 d Q o h1 h2 e c => by
  unfold mulSD at e
  split at e
  next i j =>
    split at e
    next hc => cases e; exact .inl ⟨_, _, h1.1, h2.1, hc, c _ fun _ _ => ⟨rfl, rfl⟩⟩
    next => cases e
  next z n =>
    split at e
    next hc => cases e; exact .inr ⟨_, _, h1.1, h2.1, hc.1, hc.2.1, hc.2.2, c _ fun _ _ => ⟨rfl, rfl⟩⟩
    next => cases e
  next => cases e
end

/-! ### slices -/
def cutD (xs : List D) (lo hi : Option Int) : List D := (xs.drop (HT.sIx xs.length 0 lo)).take (HT.sIx xs.length xs.length hi - HT.sIx xs.length 0 lo)
def slD : D → Option Int → Option Int → Option D
  | .lst _ xs, lo, hi => some (.lst true (cutD xs lo hi))
  | .tup xs, lo, hi => if HT.sIx xs.length 0 lo = 0 ∧ HT.sIx xs.length xs.length hi = xs.length then none else some (.tup (deepL (cutD xs lo hi)))
  | .str z, lo, hi => if z.length ≤ sizeLine then some (.str (cutS z lo hi)) else none
  | _, _, _ => none
def revD : D → Option D
  | .lst _ xs => some (.lst true xs.reverse)
  | _ => none
section
variable {G : Glo} {S H : Hp}
theorem RpL.dropS {ds : List D} {vs : List V} {fp : List Addr} (n : Nat) (h : RpL G S H ds vs fp) : ∃ fq, fq.Sublist fp ∧ RpL G S H (ds.drop n) (vs.drop n) fq := by
  have h' : RpL G S H (ds.take n ++ ds.drop n) vs fp := by rw [List.take_append_drop]; exact h
  obtain ⟨ws, us, f1, f2, rfl, rfl, h1, h2⟩ := RpL.split h'
  refine ⟨f2, List.sublist_append_right _ _, ?_⟩
  have hl := h1.length
  by_cases q : n ≤ ds.length
  · rw [List.length_take, Nat.min_eq_left q] at hl
    rw [List.drop_left' hl]; exact h2
  · have e1 : ds.drop n = [] := List.drop_of_length_le (by omega)
    rw [e1] at h2 ⊢
    have := h.length
    rw [List.drop_of_length_le (by rw [this]; omega)]
    exact ⟨rfl, h2.2⟩
theorem RpL.takeS {ds : List D} {vs : List V} {fp : List Addr} (n : Nat) (h : RpL G S H ds vs fp) : ∃ fq, fq.Sublist fp ∧ RpL G S H (ds.take n) (vs.take n) fq := by
  have h' : RpL G S H (ds.take n ++ ds.drop n) vs fp := by rw [List.take_append_drop]; exact h
  obtain ⟨ws, us, f1, f2, rfl, rfl, h1, h2⟩ := RpL.split h'
  refine ⟨f1, List.sublist_append_left _ _, ?_⟩
  have hl := h1.length
  by_cases q : n ≤ ds.length
  · rw [List.length_take, Nat.min_eq_left q] at hl
    rw [List.take_left' hl]; exact h1
  · have e1 : ds.drop n = [] := List.drop_of_length_le (by omega)
    have e2 : ds.take n = ds := List.take_of_length_le (by omega)
    rw [e1] at h2
    obtain ⟨rfl, rfl⟩ := h2
    rw [e2] at h1 ⊢
    have := h1.length
    rw [List.append_nil, List.take_of_length_le (by omega)]
    exact h1
theorem cut_v {ds : List D} {vs : List V} {fp : List Addr} (lo hi : Option Int) (h : RpL G S H ds vs fp) : ∃ fq, fq.Sublist fp ∧ RpL G S H (cutD ds lo hi) (cutV vs lo hi) fq := by
  unfold cutD cutV
  rw [h.length]
  obtain ⟨f1, s1, h1⟩ := h.dropS (HT.sIx ds.length 0 lo)
  obtain ⟨f2, s2, h2⟩ := h1.takeS (HT.sIx ds.length ds.length hi - HT.sIx ds.length 0 lo)
  exact ⟨f2, s2.trans s1, h2⟩
theorem RpL.rev : ∀ {ds : List D} {vs : List V} {fp : List Addr}, RpL G S H ds vs fp → ∃ fq, fp.Perm fq ∧ RpL G S H ds.reverse vs.reverse fq
  | [], vs, fp, h => by
    obtain ⟨rfl, rfl⟩ := h
    exact ⟨[], .refl _, rfl, rfl⟩
  | d :: ds, vs, fp, h => by
    obtain ⟨v, vs', fp1, fp2, rfl, rfl, h1, h2⟩ := h
    obtain ⟨fq, p, r⟩ := h2.rev
    refine ⟨fq ++ fp1, (p.append_left fp1).trans List.perm_append_comm, ?_⟩
    rw [List.reverse_cons, List.reverse_cons]
    exact r.app (.one h1)
end
def tOOf (G : Glo) (W : WX) (m : M (Option Int)) : TO := fun σ H Q => ∃ ρ S FP, Ok S H FP ∧ RpE G S H σ ρ FP ∧
  PostE G W σ S H FP (m ρ) fun b ρ' => ∀ S' H' FP', Step S H FP S' H' FP' → RpE G S' H' σ ρ' FP' → Q b H'
abbrev GO (G : Glo) (W : WX) (X : Cx) (e : Option Expr) (m : M (Option Int)) : Prop := PO X e (tOOf G W m)
theorem PO.imp {X : Cx} {e : Option Expr} {t u : TO} (h : PO X e t) (k : ∀ σ H Q, u σ H Q → t σ H Q) : PO X e u := ⟨fun p s σ H Q I q => h.run p s σ H Q I (k σ H Q q)⟩
def D.int? : D → Option Int
  | .int i => some i
  | _ => none
def mNo : M (Option Int) := M.ok none
def mPart (ma : M D) : M (Option Int) := M.bind ma fun d => M.bind (M.opt d.int?) fun i => M.ok (some i)
def mSl (f : D → Option Int → Option Int → Option D) (ma : M D) (ml mh : M (Option Int)) : M D := M.bind ma fun d => M.bind ml fun lo => M.bind mh fun hi => M.opt (f d lo hi)
section
variable {G : Glo} {W : WX} {X : Cx} {a : Expr} {lo hi : Option Expr} {ma : M D} {ml mh : M (Option Int)} {p2 pos : Pos}
theorem go_none : GO G W X none mNo := by
  refine PO.imp po_none fun σ H Q h => ?_
  obtain ⟨ρ, S, FP, o, r, p⟩ := h
  exact p S H FP (Step.refl o) r
theorem go_some (ha : GE G W X a ma) : GO G W X (some a) (mPart ma) := by
  refine PO.imp (po_some ha) fun σ H Q h => ?_
  obtain ⟨ρ, S, FP, o, r, p⟩ := h
  refine tOf_step o r p fun d1 ρ1 x S1 H1 fp1 FP1 st1 rp1 re1 p1 => ?_
  obtain ⟨i, e, k⟩ := opt_post p1.bind
  cases d1 <;> cases e
  exact ⟨i, rp1.1, k S1 H1 FP1 st1.right re1⟩
theorem tOOf_from {β : Type} {σ : L2.St} {S H S0 H0 : Hp} {FP F0 : List Addr} {ρ : Rho} {m : M (Option Int)} {f : Option Int → M β} {K : β → Rho → Prop} {R : Option Int → Hp → Prop} (z : Step S0 H0 F0 S H FP) (r : RpE G S H σ ρ FP) (p : PostE G W σ S0 H0 F0 (M.bind m f ρ) K)
    (c : ∀ b ρ1 S1 H1 FP1, Step S H FP S1 H1 FP1 → RpE G S1 H1 σ ρ1 FP1 → PostE G W σ S0 H0 F0 (f b ρ1) K → R b H1) : tOOf G W m σ H R :=
  ⟨ρ, S, FP, z.ok, r, (p.bind.step z).mono fun d ρ1 _ p1 S1 H1 FP1 st re => c d ρ1 S1 H1 FP1 st re p1⟩
theorem ge_slice (hK : G.K = X.K) (ha : GE G W X a ma) (hl : GO G W X lo ml) (hh : GO G W X hi mh) : GE G W X (.Subscript a (.Slice lo hi none p2) pos) (mSl slD ma ml mh) := by
  refine PE.imp (pe_slice (SlR.or sl_list (SlR.or sl_tup sl_str)) ha hl hh) fun σ H Q h => ?_
  obtain ⟨ρ, S, FP, o, r, p⟩ := h
  refine tOf_from (Step.refl o) r p fun d1 ρ1 x S1 H1 fp1 FP1 st1 rp1 re1 p1 => ?_
  refine tOOf_from st1.right re1 p1 fun l ρ2 S2 H2 FP2 st2 re2 p2 => ?_
  have s12 : Step S H FP S2 H2 (fp1 ++ FP2) := st1.trans (st2.frame st1.ok)
  refine tOOf_from s12.right re2 p2 fun u ρ3 S3 H3 FP3 st3 re3 p3 => ?_
  obtain ⟨d, e, k⟩ := opt_post p3
  have s13 : Step S H FP S3 H3 (fp1 ++ FP3) := s12.trans (st3.frame s12.ok)
  have rp3 := (rp1.step st1.ok st2).step s12.ok st3
  have fin : ∀ {v : V} {S' H' : Hp} {fp : List Addr}, Step S3 H3 fp1 S' H' fp → Rp G S' H' d v fp → Q v H' := fun {v S' H' fp} st rp => k v S' H' fp FP3 (s13.trans (st.frameR s13.ok)) rp (re3.step s13.ok st)
  unfold slD at e
  split at e
  next ob xs =>
    cases e
    obtain ⟨q, vs, f1, rfl, g1, g2, g3⟩ := lst_at s13.ok.sub rp3
    obtain ⟨fq, s4, r4⟩ := cut_v l u g2
    exact .inl ⟨q, vs, rfl, .inl g1, new_lst s13.ok.left r4 (s4.trans g3) fun v S' H' fp st rp => fin st rp⟩
  next xs =>
    split at e
    next => cases e
    next hw =>
      cases e
      obtain ⟨q, vs, rfl, rfl, g1, g2⟩ := rp3
      obtain ⟨fq, s4, r4⟩ := cut_v l u g2
      have hfq : fq = [] := List.sublist_nil.mp s4
      subst hfq
      refine .inr (.inl ⟨q, vs, rfl, by rw [← hK]; exact Same.sqT s13.ok.sub g1.sq, by rw [g2.length]; exact hw, fun l' hl' => ?_⟩)
      have sn := Step.newS (o := .tup (cutV vs l u)) s13.ok.left hl'
      have r5 := r4.close (Same.refl _) (by simp) (S' := S3) (H' := H3)
      exact fin sn ⟨l', _, rfl, rfl, .inl upd_same, r5.mono sn.stay (by simp)⟩
  next z =>
    split at e
    next hz =>
      cases e
      obtain ⟨rfl, rfl⟩ := rp3
      exact .inr (.inr ⟨z, rfl, hz, fin (Step.refl s13.ok.left) ⟨rfl, rfl⟩⟩)
    next => cases e
  next => cases e
theorem ge_rev {k : Nat} {p1 p2' p3 : Pos} (ha : GE G W X a ma) : GE G W X (.Subscript a (.Slice none none (some (.UnaryOp .USub (.Constant (.int 1) k p1) p2')) p3) pos) (mUn revD ma) := by
  refine PE.imp (pe_revL ha) fun σ H Q h => ?_
  obtain ⟨ρ, S, FP, o, r, p⟩ := h
  refine tOf_step o r p fun d1 ρ1 x S1 H1 fp1 FP1 st1 rp1 re1 p1 => ?_
  obtain ⟨d, e, kk⟩ := opt_post p1
  unfold revD at e
  split at e
  next ob xs =>
    cases e
    obtain ⟨q, vs, f1, rfl, g1, g2, g3⟩ := lst_at st1.ok.sub rp1
    obtain ⟨fq, pm, r4⟩ := g2.rev
    refine ⟨q, vs, rfl, .inl g1, fun l hl => ?_⟩
    have sl := (Step.refl st1.ok.left).sublist g3
    have s2 := sl.perm pm
    exact new_lst s2.ok r4 (.refl _) (fun v S' H' fp st rp => kk v S' H' fp FP1 (st1.trans ((s2.trans st).frameR st1.ok)) rp (re1.step st1.ok (s2.trans st))) l hl
  next => cases e
end
end Ta

/-! Ta.K: own classes, below the expressions: a method's call, len, !=, iteration, in. -/
namespace Ta
open PySem PySem.Spec L2

/-- a def that keeps the promise f -/
structure MD (P : Program) (w : World) (K : PySem.W.Frag) (mg : Str → Option Value) (base : Heap) (G : Glo) (fa : Addr) (k np : Nat) (dd : List D) (μ : List Nat) (F : Fn) : Prop where
  ex : ∃ fd ps dvs dus, FnOk P w K mg base (L2.CX P w) k fa fd ps (spOf G np μ F) ∧ Binds K fd ps dus ∧ Vals dvs dus ∧ ∀ S H, RpL G S H dd dvs []
abbrev MDx (X : Cx) (G : Glo) (fa : Addr) (k np : Nat) (dd : List D) (μ : List Nat) (F : Fn) : Prop := MD X.prog X.w X.K X.mg X.base G fa k np dd μ F

section
variable {X : Cx} {G : Glo} {pins : List (Addr × Obj)} {σ : L2.St} {H S : Hp} {s : Shared} {A : Around} {k np : Nat} {fa : Addr} {dd ds es : List D} {μ : List Nat} {F : Fn} {us : List Value} {vs : List V} {FP : List Addr} {dr : D} {Q : VK}
theorem env0_at (I : Inv X pins σ H s) (hA : A.frames = X.A.frames) : Env0 X.prog X.w X.K X.mg X.base A X.stack s H := by
  have e := I.env0
  exact ⟨by rw [hA]; exact e.frames, e.mod, e.bs, e.bsz, e.funs, e.frf, e.hok, e.bare⟩
theorem cx_false {outer : List Env} {e : Value} {s' : Shared} {P : Program} {w : World} (c : L2.CX P w outer H s (fun _ _ _ => False) e s') : False := by
  obtain ⟨a, B, H', cls, d, e1, fl, hok, ub, na, os, ag, hE⟩ := c
  exact hE
theorem MD.call {E' : Value → Shared → Prop} (d : MDx X G fa k np dd μ F) (I : Inv X pins σ H s) (hA : Sub X k A) (r : Vals vs us) (o : Ok S H FP) (rp : RpL G S H ds vs FP) (hl : (ds ++ dd).length = np) (e : F (ds ++ dd) = some (.ok dr, es))
    (q : ∀ v S' H' fp FQ dvs, Step S H FP S' H' (fp ++ FQ) → Rp G S' H' dr v fp → RpM G S' H' (vs ++ dvs) μ es FQ → Q v H') : wpAny (model X.prog X.w) A (call (.ref fa) us) (EP X pins σ Q) E' s := by
  obtain ⟨fd, ps, dvs, dus, FO, hb, hd, hdd⟩ := d.ex
  have hsp : spOf G np μ F (vs ++ dvs) H Q (fun _ _ _ => False) := by
    refine ⟨S, ds ++ dd, FP, o, by have := rp.app (hdd S H); rwa [List.append_nil] at this, hl, ?_⟩
    rw [e]
    exact fun v S' H' fp FQ st rpv rm => q v S' H' fp FQ dvs st rpv rm
  have r2 : Vals (vs ++ dvs) (us ++ dus) := r.append hd
  have hl2 : (us ++ dus).length = ps.length := by rw [← r2.length]; exact FO.len _ _ _ _ hsp
  refine wpAny_call (codeAny_mono (FO.run A X.stack s H ⟨us, []⟩ (us ++ dus) (vs ++ dvs) Q (fun _ _ _ => False) hA.room (env0_at I hA.fr) (hb s us I.kIn hl2) r2 hsp) fun r s' hq => ?_)
  cases r with
  | error e => exact (cx_false hq).elim
  | ok fl =>
    cases fl with
    | ret u => exact I.after hq
    | next => exact False.elim hq
    | brk => exact False.elim hq
    | cont => exact False.elim hq
end

/-! ### the model, own classes -/
section
open PySem.W PyProof.Rows
variable {prog : Program} {w : World} {M : Model} {A : Around} {E : Value → Shared → Prop} {s : Shared} {K : Frag} {x C L f : Addr} {h₀ : Heap} {m : Str → Option Value} {ox : Obj} {od : Option Obj} {name : Str} {b : Value}
/-- len(x) -/
theorem own_len {Q : Value → Shared → Prop} (X : K.In s.heap) (I : InstAt s.heap x ox C od) (hs : findIn K (.ref C) "__len__" = some (some (.ref f))) (hf : isFn K (.ref f) = true)
    (h : wpAny (model prog w) A.in1 (call (.ref f) [.ref x]) (fun r s' => ∃ n t, r = Value.int n t ∧ 0 ≤ n ∧ n < 2 ^ 63 ∧ ∀ t' tk, Q (.int n t') { s' with toks := tk }) E s) : wpAny (model prog w) A (call (.builtin "len") [.ref x]) Q E s := by
  refine Calls.call_function_entry PySem.kind_len PySem.plain_len PySem.entry_len (PySem.args_len1 _) ?_
  unfold Builtin.«len»
  refine wpAny_bind (m := oneArg "len" _) (wpAny_pure ?_)
  refine wpAny_bind (m := callSpecial? (.ref x) (Str.ofString "__len__")) (special_fn X I hs (beq_iff_eq.mp hf) (wpAny_mono h (fun r s' hr => ?_) fun _ _ y => y))
  obtain ⟨n, t, rfl, h0, h1, q⟩ := hr
  refine wpAny_bind (wpAny_holding (wpAny_pure ?_))
  refine wpAny_bind (wpAny_letGo ?_)
  show wpAny _ _ (if n < 0 then _ else _) _ _ _
  rw [if_neg (by omega)]
  show wpAny _ _ (if n ≥ 2 ^ 63 then _ else _) _ _ _
  rw [if_neg (by omega)]
  exact wpAny_bind (wpAny_mkInt (wpAny_pure ⟨_, rfl, q _ _⟩))
/-- a special method that is a built-in -/
theorem ifBound_bi {id : String} {args : List Value} {Q : Option Value → Shared → Prop} (X : K.In s.heap) (I : InstAt s.heap x ox C od) (hs : findIn K (.ref C) name = some (some (.builtin id)))
    (hb : ∀ self, bindSpecial (.builtin id) self = pure (.builtin id, [self])) (h : wpAny M A (call (.builtin id) (.ref x :: args)) (fun v => Q (some v)) E s) : wpAny M A (callSpecialIfBound? (.ref x) name args) Q E s := by
  simp only [callSpecialIfBound?, bindSpecialIfBound?]
  refine wpAny_holding (wpAny_bind (wpAny_bind (wpAny_bind (I.type.here ((looks_findIn X hs).here ?_)))))
  refine wpAny_bind (wpAny_askSetting (wpAny_ite ?_))
  have fin : wpAny M A (call (.builtin id) ([.ref x] ++ args) >>= fun v => pure (some v)) Q E s := wpAny_bind (wpAny_mono h (fun v s' h' => wpAny_pure h') fun _ _ h' => h')
  split
  · exact wpAny_bind ((Looks.of_pure (hb _)).here (wpAny_pure (by exact fin)))
  · exact wpAny_tryCatch (wpAny_bind ((Looks.of_pure (hb _)).here (wpAny_pure (by exact fin))))
/-- x != y, x with an own ==, y of the same class -/
theorem own_ne {Q : Value → Shared → Prop} {oy : Obj} {ody : Option Obj} {y : Addr} (hu : A.units + 1 < cLine) (X : K.In s.heap) (I : InstAt s.heap x ox C od) (J : InstAt s.heap y oy C ody) (hne : findIn K (.ref C) "__ne__" = some (some (.builtin "object.__ne__")))
    (hm : mroIn K C (.type "object") = some true) (hs : findIn K (.ref C) "__eq__" = some (some (.ref f))) (hf : isFn K (.ref f) = true)
    (h : wpAny (model prog w) A.in1 (call (.ref f) [.ref x, .ref y]) (fun r s' => ∃ b, r = .bool b ∧ Q (.bool (!b)) s') E s) : wpAny (model prog w) A (compareOp .NotEq (.ref x) (.ref y)) Q E s := by
  have one : wpAny (model prog w) A (tryCompare (.ref x) "__ne__" (.ref y)) (fun r s' => ∃ b, r = some (.bool b) ∧ Q (.bool b) s') E s := by
    unfold tryCompare
    refine wpAny_bind (ifBound_bi X I hne PySem.F.slot_object_ne.bind (wpAny_mono (wpAny_call (codeAny_call_builtin PySem.F.slot_object_ne.plain F.cmpEntry_ne (check_slot (i := "object.__ne__") (owner := "object") (n := "__ne__") F.cmpKind_ne F.cmpSplit_ne (I.type.andThen (looks_mroIn X hm)) (F.cmpArgs_ne _ _) ?_))) (Q := fun v s' => ∃ b, v = .bool b ∧ Q (.bool b) s') (fun v s' hv => ?_) fun _ _ e => e))
    rotate_left
    · obtain ⟨b, rfl, hq⟩ := hv
      first | exact wpAny_pure ⟨b, rfl, hq⟩ | exact wpAny_pure (wpAny_pure ⟨b, rfl, hq⟩)
    unfold Builtin.«object.__ne__»
    repeat (first
      | with_reducible refine wpAny_cRoomFor (show A.in1.units < cLine from hu) ?_
      | (refine wpAny_bind (m := callSpecialIfBound? (.ref x) (Str.ofString "__eq__") [.ref y]) (ifBound_K X I hs hf (wpAny_mono h (fun r s' hr => by
            obtain ⟨b, rfl, hq⟩ := hr
            have hq2 : ∃ b', Value.bool (!b) = .bool b' ∧ Q (.bool b') s' := ⟨_, rfl, hq⟩
            repeat (first | exact hq2 | exact wpAny_pure hq2 | exact wpAny_truthy_bool hq2 | (refine wpAny_bind (m := truthy (.bool _)) (wpAny_truthy_bool ?_)) | wp_step)) fun _ _ e => e)))
      | wp_step)
  show wpAny _ _ (richCompare .NotEq (.ref x) (.ref y)) Q E s
  unfold richCompare
  simp only [oneThing_ref]
  refine wpAny_holding (wpAny_bind (wpAny_cRoomFor (by omega) ?_))
  rw [cmpInfo_NotEq]
  dsimp only
  refine wpAny_bind (I.type.here (wpAny_bind (J.type.here ?_)))
  rw [show (Value.ref C != Value.ref C) = false from by simp]
  simp only [Bool.false_eq_true, if_false]
  refine wpAny_bind (wpAny_pure ?_)
  simp only [Bool.false_eq_true, if_false]
  refine wpAny_bind (wpAny_mono one (fun r s' z => ?_) fun _ _ e => e)
  obtain ⟨b, rfl, hq⟩ := z
  first | exact wpAny_pure hq | exact wpAny_pure (wpAny_pure hq)
end
end Ta

/-! Ta.K2: instances that are walked over through a list of theirs. -/
namespace Ta
open PySem PySem.Spec L2

/-- what __iter__ promises: iter(self.f) -/
def spIter (K : PySem.W.Frag) (C : Addr) (f : Str) : Sp := fun vs H Q _ => ∃ a dx fs l zs, vs = [.ref a] ∧ H a = some (.ins C dx fs) ∧ fs.lookup f = some (.ref l) ∧ SqL K H l zs ∧ ∀ it, H it = none → Q (.ref it) (upd H it (ItO l it 0))
structure ItCls (P : Program) (w : World) (K : PySem.W.Frag) (mg : Str → Option Value) (base : Heap) (k : Nat) (C : Addr) (f : Str) : Prop where
  ex : ∃ fi fd ps, FnOk P w K mg base (L2.CX P w) k fi fd ps (spIter K C f) ∧ Binds K fd ps [] ∧ PySem.W.findIn K (.ref C) "__iter__" = some (some (.ref fi)) ∧ PySem.W.isFn K (.ref fi) = true
  nocon : PySem.W.findIn K (.ref C) "__contains__" = some none
abbrev ItClsx (X : Cx) (k : Nat) (C : Addr) (f : Str) : Prop := ItCls X.prog X.w X.K X.mg X.base k C f

section
variable {X : Cx} {pins : List (Addr × Obj)} {σ : L2.St} {H : Hp} {s : Shared} {A : Around} {E : Value → Shared → Prop} {k : Nat} {C a dx l it : Addr} {f : Str} {fs : List (Str × V)} {zs : List V}
theorem own_iter {Q : Value → Shared → Prop} (c : ItClsx X k C f) (I : Inv X pins σ H s) (hA : Sub X k A) (ha : H a = some (.ins C dx fs)) (hl : fs.lookup f = some (.ref l)) (hq : SqL X.K H l zs)
    (q : ∀ it s', H it = none → Inv X pins σ (upd H it (ItO l it 0)) s' → Q (.ref it) s') : wpAny (model X.prog X.w) A (pyIter (.ref a)) Q E s := by
  obtain ⟨fi, fd, ps, FI, bI, hs, hf⟩ := c.ex
  obtain ⟨mA, J, _⟩ := ins_get I.hok ha
  obtain ⟨od, J, _⟩ := J.look
  obtain ⟨m0, hF⟩ := I.fr
  refine PySem.W.owit_iter hF I.ok.mod.kin J hs hf ?_
  have hsp : spIter X.K C f [.ref a] H (fun v H' => ∃ it, v = .ref it ∧ H it = none ∧ H' = upd H it (ItO l it 0)) (fun _ _ _ => False) := ⟨a, dx, fs, l, zs, rfl, ha, hl, hq, fun it hn => ⟨it, rfl, hn, rfl⟩⟩
  have hlen := FI.len _ _ _ _ hsp
  refine wpAny_call (codeAny_mono (FI.run A X.stack s H ⟨[.ref a], []⟩ [.ref a] [.ref a] _ (fun _ _ _ => False) hA.room (env0_at I hA.fr) (by
    have := bI s [.ref a] I.kIn (by simpa using hlen)
    simpa using this) (.cons rfl .nil) hsp) fun r s' hq' => ?_)
  cases r with
  | error e => exact (cx_false hq').elim
  | ok fl =>
    cases fl with
    | next => exact False.elim hq'
    | brk => exact False.elim hq'
    | cont => exact False.elim hq'
    | ret u =>
      obtain ⟨v, H', I', rv, it, ev, hn, eH⟩ := I.after hq'
      subst ev eH
      cases rv
      have eo := itO_get I' upd_same
      unfold PySem.W.OwitIt
      exact wpAny_specialOf (name := Str.ofString "__next__") (⟨_, eo, rfl⟩ : s'.TypeIs (.ref it) "list_iterator") slot_listiter_next.lookup (q it s' hn I')

/-- the iterator goes on -/
theorem it_item {i : Nat} {v : V} {Q : Option Value → Shared → Prop} (I : Inv X pins σ H s) (hi : H it = some (ItO l it i)) (hq : SqL X.K H l zs) (hv : zs[i]? = some v)
    (q : ∀ u s', RelV v u → Inv X pins σ (upd H it (ItO l it (i + 1))) s' → Q (some u) s') : wpAny (model X.prog X.w) A (pyNext (.ref it)) Q E s := by
  obtain ⟨its, rv, pl, hz⟩ := I.list hq
  obtain ⟨u, hu, ru⟩ := rv.get hv
  have mu : Mut (H it) := by rw [hi]; exact True.intro
  refine DSub.py_item (itO_get I hi) pl.isList (by rw [List.getElem?_toArray]; exact hu) fun h' e' sb => ?_
  exact q u _ ru (I.write (x := it) (e := it) (t' := s.toks) mu (.inl rfl) (fun b o nb z => (sb.2 b nb).trans z) ⟨_, e'⟩ (itO_ok e'))
theorem it_end {i : Nat} {Q : Option Value → Shared → Prop} (hh : A.handled = none) (I : Inv X pins σ H s) (hi : H it = some (ItO l it i)) (hq : SqL X.K H l zs) (hv : zs.length ≤ i)
    (q : ∀ s', Inv X pins σ (upd H it (ItE it i)) s' → Q none s') : wpAny (model X.prog X.w) A (pyNext (.ref it)) Q E s := by
  obtain ⟨its, rv, pl, hz⟩ := I.list hq
  have mu : Mut (H it) := by rw [hi]; exact True.intro
  refine DSub.py_end hh (itO_get I hi) pl.isList (by rw [List.getElem?_toArray]; exact List.getElem?_eq_none (by rw [← rv.length]; exact hv)) fun h' e' sb => ?_
  exact q _ (I.write (x := it) (e := it) (t' := s.toks) mu (.inl rfl) (fun b o nb z => sb b o nb z) ⟨_, e'⟩ (itE_ok e'))
end

theorem Step.junk {S H : Hp} {FP : List Addr} {a : Addr} {o : HO} (k : Ok S H FP) (n : H a = none) : Step S H FP S (upd H a o) FP := by
  have ne : ∀ b u, H b = some u → b ≠ a := fun b u e => ne_of_none e n
  refine ⟨⟨fun b u e => ?_, k.nd, k.off, fun b hb => ?_⟩, Same.refl _, fun b u e _ => by rw [upd_ne (ne b u e)]; exact e, fun b u e => .inl e, fun b hb => .inl hb⟩
  · rw [upd_ne (ne b u (k.sub b u e))]; exact k.sub b u e
  · obtain ⟨u, e, m⟩ := k.there b hb
    exact ⟨u, by rw [upd_ne (ne b u e)]; exact e, m⟩
theorem junk_sub {S H : Hp} {FP : List Addr} {a : Addr} {o : HO} (k : Ok S H FP) (n : H a = none) : Same S (upd H a o) := (Step.junk (o := o) k n).ok.sub
/-- the fields of an instance -/
def fldL (f : Str) : List Str → List D → Option D
  | g :: gs, d :: ds => if f == g then some d else fldL f gs ds
  | _, _ => none
section
variable {G : Glo} {S H : Hp}
theorem fld_v {f : Str} : ∀ {fs : List Str} {ds : List D} {vs : List V} {fp : List Addr} {d : D}, fldL f fs ds = some d → RpL G S H ds vs fp → ∃ v f1 f2, (fs.zip vs).lookup f = some v ∧ fp.Perm (f1 ++ f2) ∧ Rp G S H d v f1
  | [], ds, vs, fp, d, e, h => by cases ds <;> cases e
  | g :: gs, [], vs, fp, d, e, h => by cases e
  | g :: gs, c :: ds, vs, fp, d, e, h => by
    obtain ⟨v, vs', fp1, fp2, rfl, rfl, h1, h2⟩ := h
    unfold fldL at e
    split at e
    next q =>
      cases e
      exact ⟨v, fp1, fp2, by simp [List.lookup, q], .refl _, h1⟩
    next q =>
      obtain ⟨u, f1, f2, g1, g2, g3⟩ := fld_v e h2
      refine ⟨u, f1, fp1 ++ f2, ?_, ?_, g3⟩
      · have q' : (f == g) = false := by simpa using q
        simp [List.lookup, q', g1]
      · rw [← List.append_assoc]
        refine (g2.append_left fp1).trans ?_
        rw [← List.append_assoc]
        exact List.perm_append_comm.append_right f2
theorem fldN_v {f : Str} : ∀ {fs : List Str} {ds : List D} {vs : List V} {fp : List Addr}, fs.length = ds.length → fldL f fs ds = none → RpL G S H ds vs fp → (fs.zip vs).lookup f = none
  | [], ds, vs, fp, l, e, h => rfl
  | g :: gs, [], vs, fp, l, e, h => by cases l
  | g :: gs, c :: ds, vs, fp, l, e, h => by
    obtain ⟨v, vs', fp1, fp2, rfl, rfl, h1, h2⟩ := h
    unfold fldL at e
    split at e
    next q => cases e
    next q =>
      have q' : (f == g) = false := by simpa using q
      have := fldN_v (f := f) (fs := gs) (by simpa using l) e h2
      simp [List.lookup, q', this]
end

/-- the list that stands still and is walked over -/
def itL (c : Nat) (f : Str) : D → Option (List D)
  | .ins false c' fs xs => if c' = c then match fldL f fs xs with
    | some (.lst false ys) => some ys
    | _ => none else none
  | _ => none
theorem itL_v {G : Glo} {S H : Hp} {c : Nat} {f : Str} {d : D} {ys : List D} {v : V} {fp : List Addr} (e : itL c f d = some ys) (h : Rp G S H d v fp) : ∃ a dx fs l zs, v = .ref a ∧ fp = [] ∧ S a = some (.ins (G.ca c) dx fs) ∧ fs.lookup f = some (.ref l) ∧ Rd S l (.lst zs) ∧ RpL G S H ys zs [] := by
  unfold itL at e
  split at e
  next c' fs xs =>
    split at e
    next hc =>
      subst hc
      split at e
      next ys' q =>
        cases e
        obtain ⟨a, dx, vs, rfl, hl, rfl, h1, h2⟩ := h
        obtain ⟨v, f1, f2, g1, g2, g3⟩ := fld_v q h2
        obtain ⟨l, zs, rfl, rfl, g4, g5⟩ := g3
        exact ⟨a, dx, _, l, zs, rfl, rfl, h1, g1, g4, g5⟩
      next => cases e
    next => cases e
  next => cases e
def pyAll (x : D) (ys : List D) : Option Bool := match x.shp, (D.lst false ys).shp with
  | some p, some (.list qs) => some (qs.any fun z => PyData.eqv z p)
  | _, _ => none
/-- x in y, y an instance of the class c, walked over through its list f -/
def inO (c : Nat) (f : Str) (x y : D) : Option Bool := match itL c f y with
  | some ys => pyAll x ys
  | none => none
section
variable {X : Cx} {G : Glo} {pins : List (Addr × Obj)} {σ : L2.St} {k c : Nat} {f : Str}
open PyProof.Rows in
theorem entry_ci : entryFor table "proto.contains_iter" = some Builtin.«proto.contains_iter» := entryFor_of_tree (by kernel_rfl)
theorem plain_ci : plainId "proto.contains_iter" = true := by decide +kernel
theorem dpAll_get {K : PySem.W.Frag} {H : Hp} : ∀ {zs : List V} {qs : List PyData} {i : Nat}, DpAll K H zs qs → (h1 : i < zs.length) → (h2 : i < qs.length) → Dp K H zs[i] qs[i]
  | [], _, _, _, h1, _ => by simp at h1
  | _ :: _, _, 0, .cons h _, _, _ => h
  | _ :: _, _, i + 1, .cons _ h, h1, h2 => dpAll_get (i := i) h (by simpa using h1) (by simpa using h2)
theorem lay_get : ∀ {qs : List PyData} {i : Nat}, PyData.canLayAll0 qs = true → (h : i < qs.length) → (qs[i]).canLay0 = true
  | [], _, _, h => by simp at h
  | q :: qs, 0, e, _ => (Bool.and_eq_true_iff.mp (by simpa [PyData.canLayAll0] using e)).1
  | q :: qs, i + 1, e, h => lay_get (i := i) (Bool.and_eq_true_iff.mp (by simpa [PyData.canLayAll0] using e)).2 (by simpa using h)
/-- the walk -/
theorem in_loop {A1 : Around} {S H : Hp} {it l : Addr} {zs : List V} {ys : List D} {qs : List PyData} {p : PyData} {x : D} {xv : V} {xu : Value} {fp : List Addr} {Rs : Result → Shared → Prop} (hK : G.K = X.K) (hh : A1.in1.handled = none) (hu : A1.units + 65 < cLine)
    (o : Ok S H fp) (hn : H it = none) (hz : Rd S l (.lst zs)) (hy : RpL G S H ys zs []) (hx : Rp G S H x xv fp) (rx : RelV xv xu) (ep : x.py = some p) (eq : pyL ys = some qs) (sp : SeqAt.shaped p = true) (sq : PyData.canLayAll0 qs = true)
    (hR : ∀ o' s', Inv X pins σ (upd H it o') s' → Rs (.ok (.ret (.bool (qs.any fun z => PyData.eqv z p)))) s') :
    ∀ (n i : Nat) (s : Shared), zs.length - i = n → i ≤ zs.length → (qs.take i).any (fun z => PyData.eqv z p) = false → Inv X pins σ (upd H it (ItO l it i)) s → codeAny (model X.prog X.w) A1 (.builtin "proto.contains_iter" ⟨[.ref it, xu], []⟩) Rs s := by
  have hsq : ∀ o' , SqL X.K (upd H it o') l zs := fun o' => .inl (Same.rd (junk_sub o hn) hz)
  have hlen : ∀ {ys : List D} {qs : List PyData}, pyL ys = some qs → qs.length = ys.length := fun {ys} => by
    induction ys with
    | nil => intro qs e; cases e; rfl
    | cons y ys ih =>
      intro qs e
      unfold pyL at e
      cases q1 : y.py with
      | none => rw [q1] at e; cases e
      | some p1 =>
        cases q2 : pyL ys with
        | none => rw [q1, q2] at e; cases e
        | some ps => rw [q1, q2] at e; cases e; simp [ih q2]
  have hql : qs.length = zs.length := by rw [hlen eq, hy.length]
  intro n
  induction n with
  | zero =>
    intro i s hi hle ht I
    have hi' : zs.length ≤ i := by omega
    refine codeAny_builtin entry_ci ?_
    rw [Around.under_plainId plain_ci _]
    show wpAny _ A1.in1 (pyNext (.ref it) >>= _) _ _ s
    refine wpAny_bind (it_end hh I upd_same (hsq _) hi' fun s' I' => ?_)
    rw [upd_upd] at I'
    have hq := hR _ s' I'
    rw [List.take_of_length_le (by omega)] at ht
    rw [ht] at hq
    first
      | exact wpAny_bind (wpAny_rule (wpAny_pure hq))
      | exact wpAny_bind (wpAny_rule (wpAny_pure (wpAny_pure hq)))
  | succ n ih =>
    intro i s hi hle ht I
    have hlt : i < zs.length := by omega
    refine codeAny_builtin entry_ci ?_
    rw [Around.under_plainId plain_ci _]
    show wpAny _ A1.in1 (pyNext (.ref it) >>= _) _ _ s
    refine wpAny_bind (it_item I upd_same (hsq _) (List.getElem?_eq_getElem hlt) fun u s' ru I' => ?_)
    rw [upd_upd] at I'
    have hsm : Same S (upd H it (ItO l it (i + 1))) := junk_sub o hn
    have hd : DpAll X.K (upd H it (ItO l it (i + 1))) zs qs := by rw [← hK]; exact (hy.mono (H' := upd H it (ItO l it (i + 1))) (Same.refl S) (by simp)).dp hsm eq
    have hdx : Dp X.K (upd H it (ItO l it (i + 1))) xv p := by
      rw [← hK]
      exact (hx.mono (H' := upd H it (ItO l it (i + 1))) (Same.refl S) fun b hb => by
        obtain ⟨u, e, _⟩ := o.there b hb
        exact upd_ne (ne_of_none e hn)).dp hsm ep
    have hlq : i < qs.length := by omega
    have hdi : Dp X.K (upd H it (ItO l it (i + 1))) zs[i] qs[i] := dpAll_get hd hlt hlq
    obtain ⟨as, r1⟩ := Dp.reads I' _ _ _ hdi ru
    obtain ⟨bs, r2⟩ := Dp.reads I' _ _ _ hdx rx
    have e1 := SeqAt.eqAt_reads qs[i] p A1.in1 s' u xu as bs r1 r2 (lay_get sq hlq) (SeqAt.canLay_of_shaped sp) (by
      have := dshape sp
      have h2 : min (qs[i]).depth p.depth ≤ p.depth := Nat.min_le_right _ _
      have h3 : A1.in1.units = A1.units + 1 := rfl
      omega)
    refine wpAny_bind (e1 X.prog X.w _ _ ?_)
    cases hb : PyData.eqv qs[i] p with
    | true =>
      have hq := hR _ s' I'
      have ha : (qs.any fun z => PyData.eqv z p) = true := List.any_eq_true.mpr ⟨_, List.getElem_mem hlq, hb⟩
      rw [ha] at hq
      rw [if_pos rfl]
      first
        | exact wpAny_bind (wpAny_rule (wpAny_pure hq))
        | exact wpAny_bind (wpAny_rule (wpAny_pure (wpAny_pure hq)))
    | false =>
      rw [if_neg Bool.false_ne_true]
      refine wpAny_pure ⟨plainId_quiet plain_ci _, ih (i + 1) s' (by omega) hlt ?_ I'⟩
      rw [List.take_add_one, List.any_append, ht, List.getElem?_eq_getElem hlq]
      simp [hb]
end
end Ta

/-! Ta.K3: x in o, list(o), len(o) as operators. -/
namespace Ta
open PySem PySem.Spec L2
section
open PySem.W PyProof.Rows
variable {prog : Program} {w : World} {M : Model} {A : Around} {E : Value → Shared → Prop} {s : Shared} {K : Frag} {x C L f : Addr} {h₀ : Heap} {m : Str → Option Value} {ox : Obj} {od : Option Obj} {name : Str} {b : Value}
theorem own_contains {v : Value} {Q : Bool → Shared → Prop} (X : K.In s.heap) (I : InstAt s.heap x ox C od) (hs : findIn K (.ref C) "__contains__" = some none)
    (h : wpAny (model prog w) A (pyIter (.ref x)) (fun it s' => codeAny (model prog w) A (.builtin "proto.contains_iter" ⟨[it, v], []⟩) (fun r s2 => match r with | .ok (.ret (.bool b)) => Q b s2 | _ => False) s') (fun _ _ => False) s) : wpAny (model prog w) A (contains (.ref x) v) Q E s := by
  unfold contains
  refine wpAny_holding (wpAny_bind (wpAny_bind (I.type.here ((looks_findIn X hs).here ?_))))
  rw [if_neg (by simp)]
  refine wpAny_bind (m := callSpecialUnlessNone? _ _ _ _) ?_
  unfold callSpecialUnlessNone?
  refine wpAny_bind (wpAny_bind (I.type.here ((looks_findIn X hs).here ?_)))
  refine wpAny_pure ?_
  refine wpAny_bind (wpAny_rule ?_)
  refine wpAny_bind (wpAny_tryCatch (wpAny_mono h (fun it s' hc => ?_) fun _ _ z => z.elim))
  refine wpAny_bind (wpAny_runValue (codeAny_mono hc fun r s2 hq => ?_))
  cases r with
  | error e => exact hq.elim
  | ok fl =>
    cases fl with
    | ret u =>
      cases u <;> first | exact wpAny_pure hq | exact hq.elim
    | next => exact hq.elim
    | brk => exact hq.elim
    | cont => exact hq.elim
end
section
variable {X : Cx} {G : Glo} {k c : Nat} {f : Str}
theorem in_own (hK : G.K = X.K) (hc : X.calm = true) (hr : Room k X.A) (hu : X.A.units + 67 < cLine) (cl : ItClsx X k (G.ca c) f) {pins : List (Addr × Obj)} {s : Shared} {σ : L2.St} {H : Hp} {x y : D} {xv yv : V} {v u : Value} {S : Hp} {fp1 fp2 : List Addr} {bo : Bool} {Q : Bool → Shared → Prop} (I : Inv X pins σ H s) (rx : RelV xv v) (ry : RelV yv u)
    (o : Ok S H (fp1 ++ fp2)) (h1 : Rp G S H x xv fp1) (h2 : Rp G S H y yv fp2) (e : inO c f x y = some bo) (q : ∀ it o' s', H it = none → Inv X pins σ (upd H it o') s' → Q bo s') {E : Value → Shared → Prop} : wpAny (model X.prog X.w) X.A (contains u v) Q E s := by
  unfold inO at e
  cases e1 : itL c f y with
  | none => rw [e1] at e; cases e
  | some ys =>
    rw [e1] at e
    dsimp only at e
    unfold pyAll at e
    split at e
    next p qs q1 q2 =>
      cases e
      obtain ⟨a, dx, fs, l, zs, rfl, rfl, g1, g2, g3, g4⟩ := itL_v e1 h2
      cases ry
      have ha : H a = some (.ins (G.ca c) dx fs) := o.sub _ _ g1
      have hz : SqL X.K H l zs := .inl (Same.rd o.sub g3)
      obtain ⟨mA, J, _⟩ := ins_get I.hok ha
      obtain ⟨od, J, _⟩ := J.look
      refine own_contains I.kIn J cl.nocon ?_
      refine own_iter cl I ⟨hr, rfl⟩ ha g2 hz fun it s' hn I' => ?_
      have hp2 := shp_ok q2
      have eq : pyL ys = some qs := by
        have := hp2.1
        unfold D.py at this
        cases q3 : pyL ys with
        | none => rw [q3] at this; cases this
        | some ps => rw [q3] at this; cases this; rfl
      have hcl : PyData.canLayAll0 qs = true := by
        have := SeqAt.canLay_of_shaped hp2.2
        simpa [PyData.canLay0] using this
      exact in_loop (A1 := X.A) hK (I.ok.hd hc) (by omega) o.left hn g3 g4 h1 rx (shp_ok q1).1 eq (shp_ok q1).2 hcl (fun o' s2 I2 => q it o' s2 hn I2) zs.length 0 s' (by omega) (Nat.zero_le _) (by simp) I'
    next => cases e
theorem od_inO (hK : G.K = X.K) (hc : X.calm = true) (hr : Room k X.A) (hu : X.A.units + 67 < cLine) (cl : ItClsx X k (G.ca c) f) : OpR X (compareOp .In) (r2 G fun x y => (inO c f x y).map .bl) := by
  intro pins s σ H xv yv v u Q I rx ry h
  obtain ⟨S, ds, FP, d, o, rp, e, kq⟩ := h
  obtain ⟨x, y, fp1, fp2, rfl, rfl, e, h1, h2⟩ := two e rp
  cases e1 : inO c f x y with
  | none => rw [e1] at e; cases e
  | some bo =>
    rw [e1] at e; cases e
    show wpAny _ _ (contains u v >>= fun b => pure (Value.bool b)) _ _ s
    refine wpAny_bind (in_own hK hc hr hu cl I rx ry o h1 h2 e1 fun it o' s' hn I' => wpAny_pure ?_)
    exact ⟨.bl bo, _, I', rfl, kq (.bl bo) S _ [] ((Step.junk o hn).sublist (List.nil_sublist _)) ⟨rfl, rfl⟩⟩
theorem od_ninO (hK : G.K = X.K) (hc : X.calm = true) (hr : Room k X.A) (hu : X.A.units + 67 < cLine) (cl : ItClsx X k (G.ca c) f) : OpR X (compareOp .NotIn) (r2 G fun x y => (inO c f x y).map fun b => .bl (!b)) := by
  intro pins s σ H xv yv v u Q I rx ry h
  obtain ⟨S, ds, FP, d, o, rp, e, kq⟩ := h
  obtain ⟨x, y, fp1, fp2, rfl, rfl, e, h1, h2⟩ := two e rp
  cases e1 : inO c f x y with
  | none => rw [e1] at e; cases e
  | some bo =>
    rw [e1] at e; cases e
    show wpAny _ _ (contains u v >>= fun b => pure (Value.bool (!b))) _ _ s
    refine wpAny_bind (in_own hK hc hr hu cl I rx ry o h1 h2 e1 fun it o' s' hn I' => wpAny_pure ?_)
    exact ⟨.bl (!bo), _, I', rfl, kq (.bl (!bo)) S _ [] ((Step.junk o hn).sublist (List.nil_sublist _)) ⟨rfl, rfl⟩⟩
end

/-! ### len(o), x op y, list(o) -/
def okD : Option (Except Exc D × List D) → Option D
  | some (.ok d, _) => some d
  | _ => none
theorem okD_some {r : Option (Except Exc D × List D)} {d : D} (h : okD r = some d) : ∃ es, r = some (.ok d, es) := by
  unfold okD at h
  split at h
  next d' es => cases h; exact ⟨es, rfl⟩
  next => cases h
def D.isC (c : Nat) : D → Bool
  | .ins _ c' _ _ => decide (c' = c)
  | _ => false
theorem ins_at {G : Glo} {S H : Hp} {c : Nat} {d : D} {v : V} {fp : List Addr} (sm : Ok S H fp) (e : d.isC c = true) (h : Rp G S H d v fp) : ∃ a dx fs, v = .ref a ∧ H a = some (.ins (G.ca c) dx fs) := by
  cases d with
  | ins ob c' fs xs =>
    have : c' = c := of_decide_eq_true e
    subst this
    obtain ⟨a, dx, vs, rfl, hl, h⟩ := h
    cases ob with
    | true => obtain ⟨fp', rfl, h1, h2⟩ := h; exact ⟨a, dx, _, rfl, h1⟩
    | false => obtain ⟨rfl, h1, h2⟩ := h; exact ⟨a, dx, _, rfl, sm.sub _ _ h1⟩
  | _ => cases e
/-- len(o) -/
def lenO (c : Nat) (F : Fn) : List D → Option D
  | [d] => if d.isC c then match okD (F [d]) with
    | some (.int n) => if 0 ≤ n ∧ n < 2 ^ 62 then some (.int n) else none
    | _ => none else none
  | _ => none
/-- x op y, both of the class c -/
def binO (c : Nat) (F : Fn) (x y : D) : Option D := if x.isC c && y.isC c then okD (F [x, y]) else none
def isFlat : D → Bool
  | .bl _ => true
  | _ => false
def notD : D → Option D
  | .bl b => some (.bl (!b))
  | _ => none
def neO (c : Nat) (F : Fn) (x y : D) : Option D := (binO c F x y).bind notD
structure SpM (K : PySem.W.Frag) (C : Addr) (name : Str) (fa : Addr) : Prop where
  at_ : PySem.W.findIn K (.ref C) name = some (some (.ref fa))
  fn : PySem.W.isFn K (.ref fa) = true
section
variable {X : Cx} {G : Glo} {k c : Nat} {f : Str} {fa : Addr} {F : Fn}
theorem cd_lenO (hr : Room (k + 1) X.A) (sm : SpM X.K (G.ca c) "__len__" fa) (md : MDx X G fa k 1 [] [] F) : CallR X (.builtin "len") (rN G (lenO c F)) := by
  intro pins s σ H xs us Q I r h
  obtain ⟨S, ds, FP, d, o, rp, e, kq⟩ := h
  unfold lenO at e
  split at e
  next x =>
    split at e
    next hx =>
      cases e1 : okD (F [x]) with
      | none => rw [e1] at e; cases e
      | some z =>
        rw [e1] at e
        obtain ⟨es, e2⟩ := okD_some e1
        cases z with
        | int n =>
          dsimp only at e
          split at e
          next hn =>
            cases e
            obtain ⟨v, rfl, rx⟩ := one rp
            obtain ⟨u, rfl, ru⟩ := r.one
            obtain ⟨a, dx, fs, rfl, ha⟩ := ins_at o hx rx
            cases ru
            obtain ⟨mA, J, _⟩ := ins_get I.hok ha
            obtain ⟨od, J, _⟩ := J.look
            refine own_len I.kIn J sm.at_ sm.fn (wpAny_mono (md.call (A := X.A.in1) (vs := [.ref a]) (us := [.ref a]) (dr := .int n) I ⟨hr.in1, rfl⟩ (.cons rfl .nil) o rp (by rfl) (by simpa using e2) (Q := fun v H' => ∃ S', Step S H FP S' H' [] ∧ v = .int n) fun v S' H' fp FQ dvs st rpv rm => ⟨S', st.right.sublist (List.nil_sublist _), rpv.1⟩) (fun r' s' hq => ?_) fun _ _ y => y)
            obtain ⟨v', H', I', rv, S', st, rfl⟩ := hq
            obtain ⟨t, rfl⟩ := rv
            exact ⟨n, t, rfl, hn.1, by omega, fun t' tk => ⟨.int n, H', I'.tok tk, ⟨t', rfl⟩, kq (.int n) S' H' [] st ⟨rfl, rfl⟩⟩⟩
          next => cases e
        | _ => cases e
    next => cases e
  next => cases e

theorem own_cmp {op : CmpOp} (hop : ∀ a b, compareOp op a b = richCompare op a b) (hr : Room k X.A) (sm : SpM X.K (G.ca c) (cmpInfo op).2.1 fa) (md : MDx X G fa k 2 [] [] F) : OpR X (compareOp op) (r2 G (binO c F)) := by
  intro pins s σ H xv yv v u Q I rx ry h
  obtain ⟨S, ds, FP, d, o, rp, e, kq⟩ := h
  obtain ⟨x, y, fp1, fp2, rfl, rfl, e, h1, h2⟩ := two e rp
  unfold binO at e
  split at e
  next hc =>
    obtain ⟨c1, c2⟩ := Bool.and_eq_true_iff.mp hc
    obtain ⟨es, e2⟩ := okD_some e
    obtain ⟨a, dx, fs, rfl, ha⟩ := ins_at o.left c1 h1
    obtain ⟨b, dy, gs, rfl, hb⟩ := ins_at o.right c2 h2
    cases rx
    cases ry
    obtain ⟨mA, J, _⟩ := ins_get I.hok ha
    obtain ⟨od, J, _⟩ := J.look
    obtain ⟨mB, J', _⟩ := ins_get I.hok hb
    obtain ⟨od', J', _⟩ := J'.look
    obtain ⟨m, hF⟩ := I.fr
    rw [hop]
    refine PySem.W.cmp_K (op := op) (tb := .ref (G.ca c)) hr.units0 hF I.ok.mod.kin J J'.type (by simp [PySem.W.notFirst]) sm.at_ sm.fn ?_
    refine wpAny_mono (md.call (A := X.A) (vs := [.ref a, .ref b]) (us := [.ref a, .ref b]) (dr := d) I ⟨hr, rfl⟩ (.cons rfl (.cons rfl .nil)) o rp (by rfl) (by simpa using e2) (Q := Q) fun v S' H' fp FQ dvs st rpv rm => kq v S' H' fp st.left rpv) (fun w s' z => ?_) fun _ _ x => x
    obtain ⟨z', H', I', rz, qz⟩ := z
    exact SlX.cmpback rz ⟨z', H', I', rz, qz⟩
  next => cases e
theorem own_bin {op : Operator} (hr : Room k X.A) (hc : PySem.W.selfFirst X.K (G.ca c) = true) (sm : SpM X.K (G.ca c) (PySem.dunder op.info.2) fa) (md : MDx X G fa k 2 [] [] F) : OpR X (binaryOp op) (r2 G (binO c F)) := by
  intro pins s σ H xv yv v u Q I rx ry h
  obtain ⟨S, ds, FP, d, o, rp, e, kq⟩ := h
  obtain ⟨x, y, fp1, fp2, rfl, rfl, e, h1, h2⟩ := two e rp
  unfold binO at e
  split at e
  next hcc =>
    obtain ⟨c1, c2⟩ := Bool.and_eq_true_iff.mp hcc
    obtain ⟨es, e2⟩ := okD_some e
    obtain ⟨a, dx, fs, rfl, ha⟩ := ins_at o.left c1 h1
    obtain ⟨b, dy, gs, rfl, hb⟩ := ins_at o.right c2 h2
    cases rx
    cases ry
    obtain ⟨mA, J, _⟩ := ins_get I.hok ha
    obtain ⟨od, J, _⟩ := J.look
    obtain ⟨mB, J', _⟩ := ins_get I.hok hb
    obtain ⟨od', J', _⟩ := J'.look
    obtain ⟨m, hF⟩ := I.fr
    refine PySem.W.binop_K (op := op) hF I.ok.mod.kin J J'.type hc sm.at_ sm.fn ?_
    refine wpAny_mono (md.call (A := X.A) (vs := [.ref a, .ref b]) (us := [.ref a, .ref b]) (dr := d) I ⟨hr, rfl⟩ (.cons rfl (.cons rfl .nil)) o rp (by rfl) (by simpa using e2) (Q := Q) fun v S' H' fp FQ dvs st rpv rm => kq v S' H' fp st.left rpv) (fun w s' z => ?_) fun _ _ x => x
    obtain ⟨z', H', I', rz, qz⟩ := z
    exact SlX.cmpback rz ⟨z', H', I', rz, qz⟩
  next => cases e
theorem own_neO (hr : Room (k + 1) X.A) (hne : PySem.W.findIn X.K (.ref (G.ca c)) "__ne__" = some (some (.builtin "object.__ne__"))) (hm : PySem.W.mroIn X.K (G.ca c) (.type "object") = some true) (sm : SpM X.K (G.ca c) "__eq__" fa) (md : MDx X G fa k 2 [] [] F) : OpR X (compareOp .NotEq) (r2 G (neO c F)) := by
  intro pins s σ H xv yv v u Q I rx ry h
  obtain ⟨S, ds, FP, d, o, rp, e, kq⟩ := h
  obtain ⟨x, y, fp1, fp2, rfl, rfl, e, h1, h2⟩ := two e rp
  unfold neO binO at e
  split at e
  next hcc =>
    obtain ⟨c1, c2⟩ := Bool.and_eq_true_iff.mp hcc
    cases e1 : okD (F [x, y]) with
    | none => rw [e1] at e; cases e
    | some r =>
      rw [e1] at e
      obtain ⟨es, e2⟩ := okD_some e1
      cases r with
      | bl b0 =>
        cases e
        obtain ⟨a, dx, fs, rfl, ha⟩ := ins_at o.left c1 h1
        obtain ⟨b, dy, gs, rfl, hb⟩ := ins_at o.right c2 h2
        cases rx
        cases ry
        obtain ⟨mA, J, _⟩ := ins_get I.hok ha
        obtain ⟨od, J, _⟩ := J.look
        obtain ⟨mB, J', _⟩ := ins_get I.hok hb
        obtain ⟨od', J', _⟩ := J'.look
        have hu := hr.un
        refine own_ne (by omega) I.kIn J J' hne hm sm.at_ sm.fn (wpAny_mono (md.call (A := X.A.in1) (vs := [.ref a, .ref b]) (us := [.ref a, .ref b]) (dr := .bl b0) I ⟨hr.in1, rfl⟩ (.cons rfl (.cons rfl .nil)) o rp (by rfl) (by simpa using e2) (Q := fun v H' => ∃ S', Step S H (fp1 ++ fp2) S' H' [] ∧ v = .bl b0) fun v S' H' fp FQ dvs st rpv rm => ⟨S', st.right.sublist (List.nil_sublist _), rpv.1⟩) (fun w s' z => ?_) fun _ _ x => x)
        obtain ⟨z', H', I', rz, S', st, rfl⟩ := z
        cases rz
        exact ⟨b0, rfl, .bl (!b0), H', I', rfl, kq _ S' H' [] st ⟨rfl, rfl⟩⟩
      | _ => cases e
  next => cases e
end
end Ta

/-! Ta.K4: list(o). -/
namespace Ta
open PySem PySem.Spec L2
theorem upd_comm {H : Hp} {a b : Addr} {x y : HO} (h : a ≠ b) : upd (upd H a x) b y = upd (upd H b y) a x := by
  funext c
  by_cases h1 : c = b
  · subst h1
    rw [upd_same, upd_ne (Ne.symm h), upd_same]
  · rw [upd_ne h1]
    by_cases h2 : c = a
    · subst h2; rw [upd_same, upd_same]
    · rw [upd_ne h2, upd_ne h2, upd_ne h1]
/-- list(o) -/
def listO (c : Nat) (f : Str) (F : Fn) : List D → Option D
  | [d] => match itL c f d with
    | some ys => match okD (F [d]) with
      | some (.int n) => if 0 ≤ n ∧ n ≤ 100000 ∧ ys.length ≤ sizeLine then some (.lst true ys) else none
      | _ => none
    | none => none
  | _ => none
section
variable {X : Cx} {G : Glo} {pins : List (Addr × Obj)} {σ : L2.St} {k c : Nat} {f : Str}
/-- the loop that fills the list at q -/
theorem ext_loop {A1 : Around} {H : Hp} {it l q : Addr} {zs : List V} {Rs : Result → Shared → Prop} (hh : A1.in1.handled = none) (hqi : q ≠ it) (hlz : ∀ o o', SqL X.K (upd (upd H it o) q (.lst o')) l zs) (hsz : zs.length ≤ sizeLine)
    (hR : ∀ o' s', Inv X pins σ (upd (upd H it o') q (.lst zs)) s' → Rs (.ok (.ret .none)) s') :
    ∀ (n i : Nat) (s : Shared), zs.length - i = n → i ≤ zs.length → Inv X pins σ (upd (upd H it (ItO l it i)) q (.lst (zs.take i))) s → codeAny (model X.prog X.w) A1 (.builtin "list.extend.loop" ⟨[.ref q, .ref it, .none], []⟩) Rs s := by
  intro n
  induction n with
  | zero =>
    intro i s hi hle I
    refine codeAny_builtin PySem.F.entry_extend_loop ?_
    rw [Around.under_plainId PySem.F.plain_extend_loop _]
    show wpAny _ A1.in1 (pyNext (.ref it) >>= _) _ _ s
    refine wpAny_bind (it_end (zs := zs) hh I (by rw [upd_ne (Ne.symm hqi), upd_same]) (hlz _ _) (by omega) fun s' I' => ?_)
    rw [upd_comm hqi, upd_upd] at I'
    rw [List.take_of_length_le (by omega)] at I'
    exact wpAny_pure (hR _ s' I')
  | succ n ih =>
    intro i s hi hle I
    have hlt : i < zs.length := by omega
    refine codeAny_builtin PySem.F.entry_extend_loop ?_
    rw [Around.under_plainId PySem.F.plain_extend_loop _]
    show wpAny _ A1.in1 (pyNext (.ref it) >>= _) _ _ s
    refine wpAny_bind (it_item (zs := zs) I (by rw [upd_ne (Ne.symm hqi), upd_same]) (hlz _ _) (List.getElem?_eq_getElem hlt) fun u s' ru I' => ?_)
    rw [upd_comm hqi, upd_upd] at I'
    show wpAny _ A1.in1 (updateSeq q (·.push u) >>= _) _ _ _
    obtain ⟨z, its, k, r2, hl, e⟩ := I'.lstM upd_same
    refine wpAny_bind (wpAny_updateSeq e rfl (wpAny_pure ⟨plainId_quiet PySem.F.plain_extend_loop _, ?_⟩) (by rw [List.size_toArray, ← hl, List.length_take]; omega) (by show (its.toArray.push u).size ≤ sizeLine + 1; rw [Array.size_push, List.size_toArray, ← hl, List.length_take]; omega))
    have I2 := I'.lset (its' := its ++ [u]) (ys := zs.take (i + 1)) (f := (·.push u)) (t' := s'.toks) upd_same e (by simp) (by
      rw [List.take_add_one, List.getElem?_eq_getElem hlt]
      exact r2.append (.cons ru .nil)) (by rw [List.length_take]; omega)
    rw [upd_upd] at I2
    exact ih (i + 1) _ (by omega) hlt I2
end
section
variable {X : Cx} {G : Glo} {k c : Nat} {f : Str} {fa : Addr} {F : Fn}
theorem cd_listO (hc : X.calm = true) (hr : Room (k + 3) X.A) (cl : ItClsx X k (G.ca c) f) (hK : G.K = X.K) (sm : SpM X.K (G.ca c) "__len__" fa) (md : MDx X G fa k 1 [] [] F) : CallR X (.type "list") (rN G (listO c f F)) := by
  intro pins s σ H xs us Q I r h
  obtain ⟨S, ds, FP, d, o, rp, e, kq⟩ := h
  unfold listO at e
  split at e
  next x =>
    split at e
    next ys e1 =>
      split at e
      next n e2 =>
        split at e
        next hn =>
          cases e
          obtain ⟨v, rfl, rx⟩ := one rp
          obtain ⟨u, rfl, ru⟩ := r.one
          have rx0 := rx
          obtain ⟨a, dx, fs, l, zs, rfl, rfl, g1, g2, g3, g4⟩ := itL_v e1 rx
          cases ru
          have ha : H a = some (.ins (G.ca c) dx fs) := o.sub _ _ g1
          have zl : zs.length = ys.length := g4.length
          obtain ⟨es, e3⟩ := okD_some e2
          refine callType_codes (Q₁ := fun obj s₁ => obj = .ref s.heap.objs.size ∧ s₁ = { s with heap := s.heap.push { cls := .type "list", data := .seq #[] } }) PySem.F.called_list (PySem.F.typeCall_list_1 _) PySem.F.entry_list_init
            (code_list_new _ ⟨rfl, rfl⟩) fun obj s₁ h₁ => ?_
          obtain ⟨rfl, rfl⟩ := h₁
          have hS : (s.heap.push { cls := .type "list", data := .seq #[] }).get? s.heap.objs.size = some { cls := .type "list", data := .seq #[] } := Heap.get?_push_size _ rfl
          refine ⟨⟨_, hS, rfl⟩, PySem.F.args_list_init_2 _ _, ?_⟩
          generalize hq0 : s.heap.objs.size = q at *
          have fr : H q = none := by rw [← hq0]; exact I.hok.fresh (Nat.le_refl _)
          have I1 : Inv X pins σ (upd H q (.lst [])) { s with heap := s.heap.push { cls := .type "list", data := .seq #[] } } := by
            rw [← hq0]; exact I.lnew (its := []) (t' := s.toks) .nil (Nat.zero_le _)
          show wpAny _ _ (do let old ← Builtin.List.listItems (.ref q); Builtin.List.listUpdate (.ref q) (fun _ => #[]); letGo old.toList.reverse; Builtin.List.listExtendWith (.ref q) (.ref a) .none) _ _ _
          refine wpAny_bind ?_
          unfold Builtin.List.listItems
          refine wpAny_bind (wpAny_seqItems hS rfl (wpAny_pure ?_))
          show wpAny _ _ (updateSeq q (fun _ => #[]) >>= fun _ => letGo (#[] : Array Value).toList.reverse >>= fun _ => Builtin.List.listExtendWith (.ref q) (.ref a) .none) _ _ _
          refine wpAny_bind (wpAny_updateSeq hS rfl ?_)
          have I2 := I1.lset (f := fun _ => #[]) (its := []) (its' := []) (ys := []) (t' := s.toks) upd_same hS rfl .nil (Nat.zero_le _)
          rw [upd_upd] at I2
          refine wpAny_bind (wpAny_letGo ?_)
          have nq : ∀ b w, H b = some w → b ≠ q := fun b w e => ne_of_none e fr
          have ha2 : upd H q (.lst []) a = some (.ins (G.ca c) dx fs) := by rw [upd_ne (nq _ _ ha)]; exact ha
          have sm1 : Same S (upd H q (.lst [])) := junk_sub o fr
          have sb : Sub X k X.A.in1.in1 := ⟨(hr.in1.in1).mono (by omega), rfl⟩
          obtain ⟨mA, J, _⟩ := ins_get I2.hok ha2
          obtain ⟨od, J, _⟩ := J.look
          unfold Builtin.List.listExtendWith
          refine wpAny_bind (J.type.here ?_)
          have h1 : Builtin.List.listSameRef (.ref q) (.ref a) = false := by simp [Builtin.List.listSameRef, Ne.symm (nq _ _ ha)]
          have h2 : (Value.ref (G.ca c) == Value.type "list") = false := rfl
          have h3 : (Value.ref (G.ca c) == Value.type "tuple") = false := rfl
          simp only [h1, h2, h3, Bool.or_false, Bool.false_eq_true, if_false]
          refine wpAny_bind (own_iter (zs := zs) cl I2 sb ha2 g2 (.inl (Same.rd sm1 g3)) fun it s' hn0 I3 => ?_)
          have niq : it ≠ q := fun z => by subst z; rw [upd_same] at hn0; cases hn0
          have hi : H it = none := by rw [upd_ne niq] at hn0; exact hn0
          have ni : ∀ b w, H b = some w → b ≠ it := fun b w e => ne_of_none e hi
          have sm2 : Same S (upd (upd H q (.lst [])) it (ItO l it 0)) := fun b w e => by
            have := o.sub b w e
            rw [upd_ne (ni _ _ this), upd_ne (nq _ _ this)]; exact this
          have o2 : Ok S (upd (upd H q (.lst [])) it (ItO l it 0)) [] := ⟨sm2, .nil, fun _ h => (nomatch h), fun _ h => (nomatch h)⟩
          have ha3 := sm2 _ _ g1
          obtain ⟨mA3, J3, _⟩ := ins_get I3.hok ha3
          obtain ⟨od3, J3, _⟩ := J3.look
          have rp3 : RpL G S (upd (upd H q (.lst [])) it (ItO l it 0)) [x] [.ref a] [] := .one (rx0.mono (Same.refl S) (by simp))
          have big : (sizeLine : Nat) < 2 ^ 63 := line63
          -- the length
          have hint : ∀ (P : Bool → Shared → Prop) (E' : Value → Shared → Prop), (∀ S2 H2 s2 (bb : Bool), Step S (upd (upd H q (.lst [])) it (ItO l it 0)) [] S2 H2 [] → Inv X pins σ H2 s2 → P bb s2) → wpAny (model X.prog X.w) X.A.in1.in1 (Builtin.List.listLengthHint (.ref a)) P E' s' := by
            intro P E' hP
            unfold Builtin.List.listLengthHint
            refine wpAny_bind (wpAny_bind (J3.type.here ((PySem.W.looks_findIn I3.kIn sm.at_).here ?_)))
            refine wpAny_bind (wpAny_rule ?_)
            refine wpAny_bind (wpAny_attempt ?_)
            refine own_len I3.kIn J3 sm.at_ sm.fn (wpAny_mono (md.call (A := X.A.in1.in1.in1) (vs := [.ref a]) (us := [.ref a]) (dr := .int n) (E' := fun _ _ => False) I3 ⟨hr.in1.in1.in1, rfl⟩ (.cons rfl .nil) o2 rp3 (by rfl) (by simpa using e3) (Q := fun v H' => ∃ S', Step S (upd (upd H q (.lst [])) it (ItO l it 0)) [] S' H' [] ∧ v = .int n) fun v S' H' fp FQ dvs st rpv rm => ⟨S', st.right.sublist (List.nil_sublist _), rpv.1⟩) (fun r' s2 hq => ?_) fun _ _ y => y.elim)
            obtain ⟨v', H2, I4, rv, S2, st, rfl⟩ := hq
            obtain ⟨t, rfl⟩ := rv
            refine ⟨n, t, rfl, hn.1, by omega, fun t' tk => ?_⟩
            have tooL : Builtin.List.listTooLong n.toNat = false := by
              show decide (n.toNat > sizeLine) = false
              rw [sizeLine_eq]
              exact decide_eq_false (by omega)
            have fin := hP S2 H2 { s2 with toks := tk } (n != 0) st (I4.tok tk)
            refine wpAny_bind ?_
            show wpAny _ _ (asInt? (.int n t')) _ _ _
            refine wpAny_pure ?_
            dsimp only
            rw [tooL]
            exact wpAny_pure fin
          refine wpAny_bind (wpAny_holding (hint _ _ fun S2 H2 s2 bb st I4 => ?_))
          have hq2 : H2 q = some (.lst []) := st.keep q _ (by rw [upd_ne (Ne.symm niq), upd_same]) (by simp)
          have hi2 : H2 it = some (ItO l it 0) := st.keep it _ upd_same (by simp)
          have sub2 : ∀ b w, S2 b = some w → b ≠ q ∧ b ≠ it := fun b w e => by
            rcases st.frm b w e with z | z | z
            · have := o.sub b w z
              exact ⟨nq _ _ this, ni _ _ this⟩
            · cases z
            · refine ⟨fun y => ?_, fun y => ?_⟩
              · subst y; rw [upd_ne (Ne.symm niq), upd_same] at z; cases z
              · subst y; rw [upd_same] at z; cases z
          have hlz : ∀ o1 o', SqL X.K (upd (upd H2 it o1) q (.lst o')) l zs := fun o1 o' => by
            refine .inl (Same.rd (H := S2) (fun b w e => ?_) (Same.rd st.stay g3))
            obtain ⟨z1, z2⟩ := sub2 b w e
            rw [upd_ne z1, upd_ne z2]
            exact st.ok.sub b w e
          have I5 : Inv X pins σ (upd (upd H2 it (ItO l it 0)) q (.lst (zs.take 0))) s2 := by
            have e1 : upd (upd H2 it (ItO l it 0)) q (.lst (zs.take 0)) = H2 := by
              funext b
              by_cases z1 : b = q
              · subst z1; rw [upd_same, hq2, List.take_zero]
              · rw [upd_ne z1]
                by_cases z2 : b = it
                · subst z2; rw [upd_same, hi2]
                · rw [upd_ne z2]
            rw [e1]; exact I4
          have fin : ∀ o' s3, Inv X pins σ (upd (upd H2 it o') q (.lst zs)) s3 → wants (fun r s₂ => r = .none ∧ EP X pins σ Q (.ref q) s₂) X.xe (.ok (.ret .none)) s3 := fun o' s3 I6 => by
            refine ⟨rfl, .ref q, _, I6, rfl, ?_⟩
            have okF : Ok S2 (upd (upd H2 it o') q (.lst zs)) [q] := by
              refine ⟨fun b w e => ?_, by simp, fun b hb => ?_, fun b hb => ?_⟩
              · obtain ⟨z1, z2⟩ := sub2 b w e
                rw [upd_ne z1, upd_ne z2]; exact st.ok.sub b w e
              · have : b = q := by simpa using hb
                subst this
                cases e : S2 b with
                | none => rfl
                | some w => exact absurd rfl (sub2 b w e).1
              · have : b = q := by simpa using hb
                subst this
                exact ⟨_, upd_same, trivial⟩
            have stF : Step S H [] S2 (upd (upd H2 it o') q (.lst zs)) [q] := by
              refine ⟨okF, st.stay, fun b w e _ => ?_, fun b w e => ?_, fun b hb => ?_⟩
              · rw [upd_ne (nq _ _ e), upd_ne (ni _ _ e)]
                exact st.keep b w (by rw [upd_ne (ni _ _ e), upd_ne (nq _ _ e)]; exact e) (by simp)
              · rcases st.frm b w e with z | z | z
                · exact .inl z
                · cases z
                · obtain ⟨z1, z2⟩ := sub2 b w e
                  rw [upd_ne z2, upd_ne z1] at z
                  exact .inr (.inr z)
              · have : b = q := by simpa using hb
                subst this
                exact .inr fr
            exact kq (.ref q) S2 _ [q] (by have := stF; exact this) ⟨q, zs, rfl, [], rfl, upd_same, g4.mono st.stay (by simp)⟩
          have go : ∀ s3, Inv X pins σ (upd (upd H2 it (ItO l it 0)) q (.lst (zs.take 0))) s3 → codeAny (model X.prog X.w) X.A.in1 (.builtin "list.extend.loop" ⟨[.ref q, .ref it, .none], []⟩) (wants (fun r s₂ => r = .none ∧ EP X pins σ Q (.ref q) s₂) X.xe) s3 := fun s3 I6 =>
            ext_loop (A1 := X.A.in1) (I6.ok.hd hc) (Ne.symm niq) hlz (by omega) fin zs.length 0 s3 (by omega) (Nat.zero_le _) I6
          refine wpAny_ite_split (fun _ => ?_) (fun _ => wpAny_pure ⟨plainId_quiet PySem.F.plain_extend_loop _, go _ I5⟩)
          refine wpAny_bind (wpAny_rule ?_)
          refine wpAny_bind ?_
          rw [List.take_zero] at I5
          obtain ⟨z, its, k0, r3, hl3, e3'⟩ := I5.lstM upd_same
          cases r3
          show wpAny _ _ (updateSeq q (·.push .none) >>= fun _ => updateSeq q (·.pop)) _ _ _
          refine wpAny_bind (wpAny_updateSeq e3' rfl ?_)
          have I6 := I5.lset (f := (·.push Value.none)) (its' := [Value.none]) (ys := [.non]) (t' := s2.toks) upd_same e3' (by simp) (.cons rfl .nil) (by rw [List.length_singleton, sizeLine_eq]; decide)
          obtain ⟨z4, its4, k4, r4, hl4, e4⟩ := I6.lstM upd_same
          obtain ⟨u4, rfl, ru4⟩ := r4.one
          refine wpAny_updateSeq e4 rfl ?_ (by show 1 ≤ sizeLine; rw [sizeLine_eq]; decide) (by show 0 ≤ sizeLine + 1; exact Nat.zero_le _)
          have I7 := I6.lset (f := (·.pop)) (its := [u4]) (its' := []) (ys := []) (t' := s2.toks) upd_same e4 (by rfl) .nil (Nat.zero_le _)
          rw [upd_upd, upd_upd] at I7
          exact wpAny_pure ⟨plainId_quiet PySem.F.plain_extend_loop _, go _ (by rw [List.take_zero]; exact I7)⟩
        next => cases e
      next => cases e
    next => cases e
  next => cases e
end
end Ta

/-! Ta.O: own classes: attributes, methods, properties, making, o[i], o[i] = v, class methods. -/
namespace Ta
open PySem PySem.Spec L2

/-! ### attributes -/
def fldD (c : Nat) (f : Str) : D → Option D
  | .ins _ c' fs xs => if c' = c then fldL f fs xs else none
  | _ => none
def noFld (f : Str) : D → Bool
  | .ins _ _ fs xs => (fldL f fs xs).isNone
  | _ => false
theorem noFld_v {G : Glo} {S H : Hp} {c : Nat} {f : Str} {d : D} {v : V} {fp : List Addr} (o : Ok S H fp) (hc : d.isC c = true) (e : noFld f d = true) (h : Rp G S H d v fp) : ∃ a dx fs, v = .ref a ∧ H a = some (.ins (G.ca c) dx fs) ∧ fs.lookup f = none := by
  cases d with
  | ins ob c' fs xs =>
    have : c' = c := of_decide_eq_true hc
    subst this
    have e' : fldL f fs xs = none := by
      unfold noFld at e
      dsimp only at e
      cases q : fldL f fs xs with
      | none => rfl
      | some z => rw [q] at e; cases e
    obtain ⟨a, dx, vs, rfl, hl, h⟩ := h
    cases ob with
    | true => obtain ⟨fp', rfl, h1, h2⟩ := h; exact ⟨a, dx, _, rfl, h1, fldN_v hl e' h2⟩
    | false => obtain ⟨rfl, h1, h2⟩ := h; exact ⟨a, dx, _, rfl, o.sub _ _ h1, fldN_v hl e' h2⟩
  | _ => cases hc
section
variable {G : Glo} {W : WX} {X : Cx} {a b : Expr} {ma mb : M D} {pos : Pos} {c : Nat} {f : Str}
theorem fldD_v {S H : Hp} {d e : D} {v : V} {fp : List Addr} (o : Ok S H fp) (he : fldD c f d = some e) (h : Rp G S H d v fp) : ∃ a dx fs w f1 f2, v = .ref a ∧ H a = some (.ins (G.ca c) dx fs) ∧ fs.lookup f = some w ∧ fp.Perm (f1 ++ f2) ∧ Rp G S H e w f1 := by
  unfold fldD at he
  split at he
  next ob c' fs xs =>
    split at he
    next q =>
      subst q
      obtain ⟨a, dx, vs, rfl, hl, h⟩ := h
      cases ob with
      | true =>
        obtain ⟨fp', rfl, h1, h2⟩ := h
        obtain ⟨w, f1, f2, g1, g2, g3⟩ := fld_v he h2
        exact ⟨a, dx, _, w, f1, a :: f2, rfl, h1, g1, (g2.cons a).trans List.perm_middle.symm, g3⟩
      | false =>
        obtain ⟨rfl, h1, h2⟩ := h
        obtain ⟨w, f1, f2, g1, g2, g3⟩ := fld_v he h2
        exact ⟨a, dx, _, w, f1, f2, rfl, o.sub _ _ h1, g1, g2, g3⟩
    next => cases he
  next => cases he
theorem ge_fld (hc : Cls X.K (G.ca c)) (hn : NoAttr X.K (G.ca c) f) (ha : GE G W X a ma) (hb : attributeBase a f X.env (eval a X.env) = eval a X.env := by rfl) : GE G W X (.Attribute a f pos) (mUn (fldD c f) ma) := by
  refine PE.imp (pe_fld ha hb) fun σ H Q h => ?_
  obtain ⟨ρ, S, FP, o, r, p⟩ := h
  refine tOf_step o r p fun d1 ρ1 x S1 H1 fp1 FP1 st1 rp1 re1 p1 => ?_
  obtain ⟨d, e, k⟩ := opt_post p1
  obtain ⟨ad, dx, fs, w, f1, f2, rfl, h1, h2, h3, h4⟩ := fldD_v st1.ok.left e rp1
  refine ⟨ad, _, dx, fs, w, rfl, h1, hc, hn, h2, ?_⟩
  have st2 : Step S H FP S1 H1 (f1 ++ FP1) := (st1.perm ((h3.trans List.perm_append_comm).append_right FP1)).sublist (by rw [List.append_assoc]; exact List.sublist_append_right _ _)
  exact k w S1 H1 f1 FP1 st2 h4 re1
/-- a constant of the class, through an instance -/
def conD (c : Nat) (f : Str) (z : D) (d : D) : Option D := if d.isC c && noFld f d then some z else none
theorem ge_con {z : D} {v : V} {u : Value} (hc : Cls X.K (G.ca c)) (hk : Con X.K (G.ca c) f v u) (hz : ∀ S H, Rp G S H z v []) (ha : GE G W X a ma) (hb : attributeBase a f X.env (eval a X.env) = eval a X.env := by rfl) : GE G W X (.Attribute a f pos) (mUn (conD c f z) ma) := by
  refine PE.imp (pe_con ha hb) fun σ H Q h => ?_
  obtain ⟨ρ, S, FP, o, r, p⟩ := h
  refine tOf_step o r p fun d1 ρ1 x S1 H1 fp1 FP1 st1 rp1 re1 p1 => ?_
  obtain ⟨d, e, k⟩ := opt_post p1
  unfold conD at e
  split at e
  next hcc =>
    cases e
    obtain ⟨c1, c2⟩ := Bool.and_eq_true_iff.mp hcc
    obtain ⟨ad, dx, fs, rfl, h1, h2⟩ := noFld_v st1.ok.left c1 c2 rp1
    exact ⟨ad, _, dx, fs, v, u, rfl, h1, hc, hk, h2, k v S1 H1 [] FP1 st1.right (hz _ _) re1⟩
  next => cases e
/-- a constant, through the class -/
theorem ge_cval {n : Nat} {mc u : Value} {z : D} {v : V} {x : Str} {p : Pos} (hg : G.gv n = .ref (G.ca c)) (hr : ClX.CRead X.K (G.ca c) mc) (hk : ClX.CVal X.K (G.ca c) mc f v u) (hz : ∀ S H, Rp G S H z v []) (hm : X.mg x = some (.ref (G.ca c)))
    (hgl : Gl X x := by rfl) (hd : (x == ("__debug__" : Str)) = false := by decide) (hb : attributeBase (.Name x p) f X.env (eval (.Name x p) X.env) = eval (.Name x p) X.env := by rfl) : GE G W X (.Attribute (.Name x p) f pos) (mC z) := by
  refine PE.imp (ClX.pe_cval (pe_glob hgl hm (v := .ref (G.ca c)) rfl hd) hb) fun σ H Q h => ?_
  obtain ⟨ρ, S, FP, o, r, p⟩ := h
  exact ⟨_, mc, v, u, rfl, hr, hk, p v S H [] FP (Step.refl o) (hz S H) r⟩
end

/-! ### o.f = e, o one's own, in a slot -/
def putFD (f : Str) (d : D) : List Str → List D → List Str × List D
  | g :: gs, x :: xs => if g = f then (g :: gs, d :: xs) else ((g :: (putFD f d gs xs).1), (x :: (putFD f d gs xs).2))
  | _, _ => ([f], [d])
theorem putFD_len {f : Str} {d : D} : ∀ {fs : List Str} {xs : List D}, fs.length = xs.length → (putFD f d fs xs).1.length = (putFD f d fs xs).2.length
  | [], [], _ => rfl
  | g :: gs, x :: xs, h => by
    unfold putFD
    split
    · simpa using h
    · simp [putFD_len (f := f) (d := d) (fs := gs) (xs := xs) (by simpa using h)]
  | [], _ :: _, h => by cases h
  | _ :: _, [], h => by cases h
theorem putFD_v {G : Glo} {S H : Hp} {f : Str} {d : D} {v : V} {fq : List Addr} : ∀ {fs : List Str} {xs : List D} {vs : List V} {fp : List Addr}, fs.length = xs.length → RpL G S H xs vs fp → Rp G S H d v fq →
    ∃ ws fr FR, (fq ++ fp).Perm (fr ++ FR) ∧ putF f v (fs.zip vs) = (putFD f d fs xs).1.zip ws ∧ RpL G S H (putFD f d fs xs).2 ws fr
  | [], [], vs, fp, l, h, g => by
    obtain ⟨rfl, rfl⟩ := h
    exact ⟨[v], fq, [], by simp, rfl, .one g⟩
  | k :: fs, x :: xs, vs, fp, l, h, g => by
    obtain ⟨u, vs', fp1, fp2, rfl, rfl, h1, h2⟩ := h
    unfold putFD
    split
    next q =>
      subst q
      refine ⟨v :: vs', fq ++ fp2, fp1, ?_, by simp [putF], v, vs', fq, fp2, rfl, rfl, g, h2⟩
      rw [List.append_assoc]
      exact List.perm_append_comm.append_left fq
    next q =>
      obtain ⟨ws, fr, FR, pm, e, r⟩ := putFD_v (f := f) (d := d) (fs := fs) (by simpa using l) h2 g
      refine ⟨u :: ws, fp1 ++ fr, FR, ?_, by simp [putF, q, e], u, ws, fp1, fr, rfl, rfl, h1, r⟩
      rw [List.append_assoc]
      refine List.Perm.trans ?_ (pm.append_left fp1)
      rw [← List.append_assoc, ← List.append_assoc]
      exact List.perm_append_comm.append_right fp2
  | [], _ :: _, _, _, l, _, _ => by cases l
  | _ :: _, [], _, _, l, _, _ => by cases l
def setFld (c i : Nat) (f : Str) (d : D) : MS := fun ρ => match ρ[i]? with
  | some (some (.ins true c' fs xs)) => if c' = c ∧ fs.length < 1000 then some (.ok .nx, ρ.set i (some (.ins true c (putFD f d fs xs).1 (putFD f d fs xs).2))) else none
  | _ => none
def sFldS (c i : Nat) (f : Str) (ma : M D) : MS := M.bind ma fun d => setFld c i f d
theorem own_ins {G : Glo} {S H : Hp} {σ : L2.St} {ρ : Rho} {FP : List Addr} {i c : Nat} {fs : List Str} {xs : List D} (re : RpE G S H σ ρ FP) (h : ρ[i]? = some (some (.ins true c fs xs))) :
    ∃ a dx vs A F2, σ[i]? = some (some (.ref a)) ∧ fs.length = xs.length ∧ H a = some (.ins (G.ca c) dx (fs.zip vs)) ∧ RpL G S H xs vs A ∧ FP.Perm ((a :: A) ++ F2) ∧ RpE G S H σ (ρ.set i none) F2 := by
  obtain ⟨v, fp1, F2, h1, h2, h3, h4⟩ := re.split h
  obtain ⟨a, dx, vs, rfl, hl, A, rfl, h5, h6⟩ := h2
  exact ⟨a, dx, vs, A, F2, h1, hl, h5, h6, h3, h4⟩
section
variable {G : Glo} {W : WX} {μ : List Nat} {X : Cx} {a value : Expr} {ma : M D} {pos pos' npos : Pos} {c i : Nat} {f x : Str}
theorem gs_fld (i : Nat) (hc : Cls X.K (G.ca c)) (hn : NoAttr X.K (G.ca c) f) (ha : GE G W X value ma) (hN : X.N[i]? = some x := by rfl) (hv : Vis X.env.scope x := by first | exact Or.inl rfl | exact Or.inr (Or.inl rfl) | exact Or.inr (Or.inr rfl)) (hd : (x == ("__debug__" : Str)) = false := by decide)
    (hcd : (x == ("__classdict__" : Str)) = false := by decide) (hs : swapsWith value (some (.Attribute (.Name x npos) f pos')) pos.line X.env = pure false := by rfl) : GS G W μ X (.Assign [.Attribute (.Name x npos) f pos'] value pos) (sFldS c i f ma) := by
  refine PS.imp (ps_fld (pe_var (i := i) hN hv hd hcd) ha hs) fun D σ H h => ?_
  obtain ⟨ρ, S, FP, o, r, p⟩ := h
  refine tOf_s o r p fun d1 ρ1 y S1 H1 fp1 FP1 st1 rp1 re1 p1 => ?_
  unfold setFld at p1
  split at p1
  next c' fs xs q =>
    split at p1
    next hcc =>
      obtain ⟨rfl, hlen⟩ := hcc
      obtain ⟨ad, dx, vs, A, F2, g1, gl, g2, g3, g4, g5⟩ := own_ins re1 q
      have zl : (fs.zip vs).length < 1000 := by rw [List.length_zip]; omega
      refine ⟨.ref ad, g1, ad, _, dx, fs.zip vs, rfl, g2, hc, hn, zl, ?_⟩
      have st2 : Step S H FP S1 H1 ((ad :: (fp1 ++ A)) ++ F2) := st1.perm (by
        refine (g4.append_left fp1).trans ?_
        rw [← List.append_assoc]
        refine List.Perm.append_right F2 ?_
        exact List.perm_middle.trans (by simp))
      obtain ⟨ws, fr, FR, pm, e, rw'⟩ := putFD_v (f := f) gl g3 rp1
      obtain ⟨FQ, s3, re3⟩ := slot_back (d := .ins true c' (putFD f d1 fs xs).1 (putFD f d1 fs xs).2) (v := .ref ad) (o' := .ins (G.ca c') dx (putF f y (fs.zip vs))) (A' := fr) (AR := FR) st2.ok g5 g1 (lt_of_get q) trivial pm
        (fun H' k e' => ⟨ad, dx, ws, rfl, putFD_len gl, fr, rfl, by rw [e', e], rw'.mono (Same.refl _) k⟩)
      exact p1 σ S1 _ FQ (st2.trans s3) re3 Keep.refl
    next => exact p1.elim
  next => exact p1.elim
end
end Ta

/-! Ta.O2: own classes: methods, properties, making, o[i], o[i] = v, class methods. -/
namespace Ta
open PySem PySem.Spec L2

/-- the def's promise, whatever the defaults' values are -/
def spD (G : Glo) (np : Nat) (dd : List D) (μ : List Nat) (F : Fn) : Sp := fun vs H Q E => ∀ dvs, (∀ S H, RpL G S H dd dvs []) → spOf G np μ F (vs ++ dvs) H Q E
section
variable {X : Cx} {G : Glo} {W : WX} {pins : List (Addr × Obj)} {σ : L2.St} {H S : Hp} {s : Shared} {A : Around} {k np : Nat} {fa : Addr} {dd ds es : List D} {μ : List Nat} {F : Fn} {us : List Value} {vs : List V} {FP : List Addr} {dr : D} {Q : VK}
theorem MD.callE (d : MDx X G fa k np dd μ F) (tk : Takes X W) (I : Inv X pins σ H s) (hA : Sub X k A) (r : Vals vs us) (hsp : spD G np dd μ F vs H Q (WE W σ)) : wpAny (model X.prog X.w) A (PySem.call (Value.ref fa) us) (EP X pins σ Q) X.xe s := by
  obtain ⟨fd, ps, dvs, dus, FO, hb, hd, hdd⟩ := d.ex
  have hsp := hsp dvs hdd
  have r2 : Vals (vs ++ dvs) (us ++ dus) := r.append hd
  have hl2 : (us ++ dus).length = ps.length := by rw [← r2.length]; exact FO.len _ _ _ _ hsp
  refine wpAny_call (codeAny_mono (FO.run A X.stack s H ⟨us, []⟩ (us ++ dus) (vs ++ dvs) Q (WE W σ) hA.room (env0_at I hA.fr) (hb s us I.kIn hl2) r2 hsp) fun r s' hq => ?_)
  cases r with
  | error e => exact passAt tk σ pins H s e s' I hq
  | ok fl =>
    cases fl with
    | ret u => exact I.after hq
    | next => exact False.elim hq
    | brk => exact False.elim hq
    | cont => exact False.elim hq
theorem MD.fnR (d : MDx X G fa k np dd μ F) : FnR X.prog X.w X.K X.mg X.base (L2.CX X.prog X.w) k fa (spD G np dd μ F) := by
  obtain ⟨fd, ps, dvs, dus, FO, hb, hd, hdd⟩ := d.ex
  intro A outer s H us vs Q E hr e0 r h
  have hsp := h dvs hdd
  have r2 : Vals (vs ++ dvs) (us ++ dus) := r.append hd
  have hl2 : (us ++ dus).length = ps.length := by rw [← r2.length]; exact FO.len _ _ _ _ hsp
  exact FO.run A outer s H ⟨us, []⟩ (us ++ dus) (vs ++ dvs) Q E hr e0 (hb s us (e0.mod.kin.keeps fun b o e => (e0.bs b o e).1) hl2) r2 hsp
end

/-! ### methods -/
def mMeth (c : Nat) (m : Str) (np : Nat) (F : Fn) (dd : List D) (ma : M D) (ms : M (List D)) : M D := M.bind ma fun d => if d.isC c && noFld m d then M.bind ms fun ds => callM np F (d :: (ds ++ dd)) else fun _ => none
/-- .. the method of an instance in a slot, that may be changed -/
def hasI (c i : Nat) (m : Str) : M D := fun ρ => match ρ[i]? with
  | some (some d) => if d.isC c && noFld m d then some (.ok .non, ρ) else none
  | _ => none
def callI (i np : Nat) (F : Fn) (ds : List D) : M D := fun ρ => match ρ[i]? with
  | some (some d) => if (d :: ds).length = np then match F (d :: ds) with
    | some (.ok r, [d']) => some (.ok r, ρ.set i (some d'))
    | some (.error e, [d']) => some (.error e, ρ.set i (some d'))
    | _ => none else none
  | _ => none
def mMethI (c i : Nat) (m : Str) (np : Nat) (F : Fn) (dd : List D) (ms : M (List D)) : M D := M.bind (hasI c i m) fun _ => M.bind ms fun ds => callI i np F (ds ++ dd)
section
variable {G : Glo} {W : WX} {X : Cx} {o a b e : Expr} {es : List Expr} {ma mb : M D} {ms : M (List D)} {pos apos : Pos} {c k np : Nat} {m f : Str} {fa : Addr} {dd : List D} {μ : List Nat} {F : Fn}
/-- the callee's promise at a slot that may be changed -/
theorem callI_sp {σ : L2.St} {S0 S H0 H : Hp} {F0 A B : List Addr} {i : Nat} {ds : List D} {vs : List V} {ρ : Rho} {Q : VK} {K : D → Rho → Prop} {av : V} (z : Step S0 H0 F0 S H (A ++ B)) (rp : RpL G S H ds vs A) (re : RpE G S H σ ρ B) (hv : σ[i]? = some (some av)) (p : PostE G W σ S0 H0 F0 (callI i np F (ds ++ dd) ρ) K)
    (kk : ∀ r v S' H' fp FP' ρ', K r ρ' → Step S0 H0 F0 S' H' (fp ++ FP') → Rp G S' H' r v fp → RpE G S' H' σ ρ' FP' → Q v H') : spD G np dd [0] F (av :: vs) H Q (WE W σ) := by
  intro dvs hdd
  unfold callI at p
  split at p
  next d q =>
    split at p
    next hl =>
      obtain ⟨v0, fp1, F2, h1, h2, h3, h4⟩ := re.split q
      rw [hv] at h1; cases h1
      have st2 : Step S0 H0 F0 S H ((fp1 ++ A) ++ F2) := z.perm (by
        refine (h3.append_left A).trans ?_
        rw [← List.append_assoc]
        exact List.perm_append_comm.append_right F2)
      refine ⟨S, d :: (ds ++ dd), fp1 ++ A, st2.ok.left, ⟨av, vs ++ dvs, fp1, A, rfl, rfl, h2, by have := rp.app (hdd S H); rwa [List.append_nil] at this⟩, hl, ?_⟩
      cases qf : F (d :: (ds ++ dd)) with
      | none => rw [qf] at p; exact p
      | some x =>
        obtain ⟨x, es⟩ := x
        rw [qf] at p
        cases x with
        | error e =>
          match es, p with
          | [d'], p =>
            intro x S' H' FQ st hM ex
            obtain ⟨d0, ds0, w, f1, f2, e0, e1, e2, r1, r2⟩ := hM
            cases e0
            obtain ⟨_, rfl⟩ := r2
            cases e1
            have st3 := st2.trans (st.frameR st2.ok)
            rw [e2, List.append_nil] at st3
            have re3 := h4.step st2.ok st
            obtain ⟨fr, pm, re4⟩ := re3.put r1 (lt_of_get q)
            have es0 : σ.set i (some av) = σ := by
              refine List.ext_getElem? fun j => ?_
              by_cases e : i = j
              · subst e
                have hi : i < σ.length := (List.getElem?_eq_some_iff.mp hv).1
                rw [List.getElem?_set_self hi, hv]
              · rw [List.getElem?_set_ne e]
            rw [es0] at re4
            exact p x S' H' fr (st3.perm pm.symm) re4 ex
          | [], p => exact p.elim
          | _ :: _ :: _, p => exact p.elim
        | ok r =>
          match es, p with
          | [d'], p =>
            intro v S' H' fp FQ st rpv hM
            obtain ⟨d0, ds0, w, f1, f2, e0, e1, e2, r1, r2⟩ := hM
            cases e0
            obtain ⟨_, rfl⟩ := r2
            cases e1
            have st3 := st2.trans (st.frameR st2.ok)
            rw [e2, List.append_nil, List.append_assoc] at st3
            have re3 := h4.step st2.ok st
            obtain ⟨fr, pm, re4⟩ := re3.put r1 (lt_of_get q)
            have es0 : σ.set i (some av) = σ := by
              refine List.ext_getElem? fun j => ?_
              by_cases e : i = j
              · subst e
                have hi : i < σ.length := (List.getElem?_eq_some_iff.mp hv).1
                rw [List.getElem?_set_self hi, hv]
              · rw [List.getElem?_set_ne e]
            rw [es0] at re4
            exact kk r v S' H' fp fr _ p (st3.perm (pm.symm.append_left fp)) rpv re4
          | [], p => exact p.elim
          | _ :: _ :: _, p => exact p.elim
    next => exact p.elim
  next => exact p.elim
theorem ge_meth {pl : Sem Bool} (cl : Cls X.K (G.ca c)) (hm : Meth X.K (G.ca c) m fa) (md : MDx X G fa k np dd μ F) (hr : Room k X.A) (tk : Takes X W) (he : GE G W X o ma) (ha : GA G W X (e :: es) ms)
    (hst : starEach (e :: es) X.env = (false, eval e X.env) :: starEach es X.env := by rfl) (hpl : (backTo pos (starEach es X.env)).any (·.1) = false := by rfl)
    (ht : eval (.Call (.Attribute o m apos) (e :: es) [] pos) X.env = (do
      let ov ← eval o X.env
      standAt apos.atName
      let (f, first) ← holding [ov] (getMethod ov m pl)
      callWith pos f first (backTo pos (starEach (e :: es) X.env)) (backToKw pos (keywordEach [] X.env))) := by rfl) : GE G W X (.Call (.Attribute o m apos) (e :: es) [] pos) (mMeth c m np F dd ma ms) := by
  refine ⟨fun pins s σ H Q I h => ?_⟩
  obtain ⟨ρ, S, FP, o', r, p⟩ := h
  refine PySem.W.methodCall_KW (pl := pl) (thn (he.run pins s σ H (fun x H1 => ∃ a dx fs, x = .ref a ∧ H1 a = some (.ins (G.ca c) dx fs) ∧ fs.lookup m = none ∧ tAOf G W ms σ H1 fun vs H2 => spD G np dd μ F (.ref a :: vs) H2 Q (WE W σ)) I ?_) fun u s1 ⟨x, H1, I1, rx, a, dx, fs, ex, ea, l, q⟩ => ?_) ht
  · refine tOf_from (Step.refl o') r p fun d1 ρ1 x S1 H1 fp1 FP1 st1 rp1 re1 p1 => ?_
    split at p1
    next hcc =>
      obtain ⟨c1, c2⟩ := Bool.and_eq_true_iff.mp hcc
      obtain ⟨ad, dx, fs, rfl, h1, h2⟩ := noFld_v st1.ok.left c1 c2 rp1
      refine ⟨ad, dx, fs, rfl, h1, h2, ?_⟩
      refine tAOf_from st1.right re1 p1 fun ds ρ2 vs S2 H2 fp2 FP2 st2 rp2 re2 p2 => ?_
      intro dvs hdd
      have s12 := (st1.trans (st2.frame st1.ok)).asc
      have rpl : RpL G S2 H2 (d1 :: (ds ++ dd)) (.ref ad :: (vs ++ dvs)) (fp1 ++ fp2) := ⟨_, _, fp1, fp2, rfl, rfl, rp1.step st1.ok st2, by have := rp2.app (hdd S2 H2); rwa [List.append_nil] at this⟩
      exact call_sp (A := fp1 ++ fp2) (B := FP2) s12 rpl re2 p2 fun d v S' H' fp kd st rp re => kd v S' H' fp FP2 st rp re
    next => exact p1.elim
  subst ex
  obtain rfl : u = Value.ref a := rx
  refine getmeth_ok I1 ea cl hm l ?_
  refine PySem.W.callWith_K (first := [.ref a]) (h₀ := X.base) I.ok.mod.kin hm.kp (thn (ha.run pos pins s1 σ H1 _ I1 q) fun us s2 ⟨vs, H2, I2, r, q2⟩ => ⟨I2.kIn, ?_⟩) hst hpl
  exact md.callE (us := .ref a :: us) (vs := .ref a :: vs) tk I2 ⟨hr, rfl⟩ (.cons rfl r) q2

theorem ge_meth0 {pl : Sem Bool} (cl : Cls X.K (G.ca c)) (hm : Meth X.K (G.ca c) m fa) (md : MDx X G fa k np dd μ F) (hr : Room k X.A) (tk : Takes X W) (he : GE G W X o ma)
    (ht : eval (.Call (.Attribute o m apos) [] [] pos) X.env = (do
      let ov ← eval o X.env
      standAt apos.atName
      let (f, first) ← holding [ov] (getMethod ov m pl)
      callWith pos f first (backTo pos (starEach [] X.env)) (backToKw pos (keywordEach [] X.env))) := by rfl) : GE G W X (.Call (.Attribute o m apos) [] [] pos) (mMeth c m np F dd ma mNil) := by
  refine ⟨fun pins s σ H Q I h => ?_⟩
  obtain ⟨ρ, S, FP, o', r, p⟩ := h
  refine PySem.W.methodCall_KW (pl := pl) (thn (he.run pins s σ H (fun x H1 => ∃ a dx fs, x = .ref a ∧ H1 a = some (.ins (G.ca c) dx fs) ∧ fs.lookup m = none ∧ spD G np dd μ F [.ref a] H1 Q (WE W σ)) I ?_) fun u s1 ⟨x, H1, I1, rx, a, dx, fs, ex, ea, l, q⟩ => ?_) ht
  · refine tOf_from (Step.refl o') r p fun d1 ρ1 x S1 H1 fp1 FP1 st1 rp1 re1 p1 => ?_
    split at p1
    next hcc =>
      obtain ⟨c1, c2⟩ := Bool.and_eq_true_iff.mp hcc
      obtain ⟨ad, dx, fs, rfl, h1, h2⟩ := noFld_v st1.ok.left c1 c2 rp1
      refine ⟨ad, dx, fs, rfl, h1, h2, ?_⟩
      intro dvs hdd
      have rpl : RpL G S1 H1 (d1 :: ([] ++ dd)) (.ref ad :: ([] ++ dvs)) (fp1 ++ []) := ⟨_, _, fp1, [], rfl, rfl, rp1, hdd S1 H1⟩
      rw [List.append_nil] at rpl
      exact call_sp (A := fp1) (B := FP1) st1 rpl re1 p1 fun d v S' H' fp kd st rp re => kd v S' H' fp FP1 st rp re
    next => exact p1.elim
  subst ex
  obtain rfl : u = Value.ref a := rx
  refine getmeth_ok I1 ea cl hm l ?_
  exact PySem.W.callWith_K0 (first := [.ref a]) I1.kIn hm.kp (md.callE (us := [.ref a]) (vs := [.ref a]) tk I1 ⟨hr, rfl⟩ (.cons rfl .nil) q)
/-! ### properties -/
def propD (c : Nat) (F : Fn) (d : D) : Option D := if d.isC c then okD (F [d]) else none
def mProp (c : Nat) (F : Fn) (ma : M D) : M D := mUn (propD c F) ma
theorem cx_pass {K' : Value → Shared → Prop} {pins : List (Addr × Obj)} {σ : L2.St} {H : Hp} {s s' : Shared} {e : Value} {Y : Cx} (I : Inv Y pins σ H s) {P : Program} {w : World} (c : L2.CX P w Y.stack H s (fun _ _ _ => False) e s') : K' e s' := (cx_false c).elim
theorem ge_prop {p g : Addr} (cl : Cls X.K (G.ca c)) (hp : PropOf X.K (G.ca c) f p g) (md : MDx X G g k 1 [] [] F) (hr : Room (k + 1) X.A) (he : GE G W X a ma) (hab : attributeBase a f X.env (eval a X.env) = eval a X.env := by rfl) : GE G W X (.Attribute a f pos) (mProp c F ma) := by
  obtain ⟨fd, ps, dvs, dus, FO, hb, hd, hdd⟩ := md.ex
  refine PE.imp (pe_prop (E := fun _ _ _ => False) he cl hp FO hr hb hd (fun pins σ H s e s' I c => (cx_false c).elim) hab) fun σ H Q h => ?_
  obtain ⟨ρ, S, FP, o, r, p⟩ := h
  refine tOf_step o r p fun d1 ρ1 x S1 H1 fp1 FP1 st1 rp1 re1 p1 => ?_
  obtain ⟨d, e, kk⟩ := opt_post p1
  unfold propD at e
  split at e
  next hcc =>
    obtain ⟨es, e2⟩ := okD_some e
    obtain ⟨ad, dx, fs, rfl, h1⟩ := ins_at st1.ok.left hcc rp1
    refine ⟨ad, dx, fs, rfl, h1, S1, [d1], fp1, st1.ok.left, ?_, rfl, ?_⟩
    · have := (RpL.one rp1).app (hdd S1 H1)
      rwa [List.append_nil, List.append_nil] at this
    · rw [e2]
      exact fun v S' H' fp FQ st rp _ => kk v S' H' fp FP1 (st1.trans ((st.left).frameR st1.ok)) rp (re1.step st1.ok st.left)
  next => cases e
/-! ### o[i] -/
def ixO (c : Nat) (F : Fn) (x y : D) : Option D := if x.isC c then okD (F [x, y]) else none
theorem pe_ixO (sm : SpM X.K (G.ca c) "__getitem__" fa) (hfn : PySem.W.fnIn X.K fa = true) (md : MDx X G fa k 2 [] [] F) (hr : Room (k + 1) X.A) {ta tb : TE} (ha : PE X a ta) (hb : PE X b tb)
    (hsl : ∀ o i, subscripted b true o i = runValue (.builtin "lifetime.subscript" ⟨[o, i], []⟩) := by exact fun _ _ => rfl) : PE X (.Subscript a b pos) (tOp (r2 G (ixO c F)) ta tb) := by
  refine ⟨fun pins s σ H Q I h => ?_⟩
  refine PyProof.Rows.Subscript_ (binT ha hb I h fun v u s2 x y H2 I2 rx ry q => ?_)
  obtain ⟨S, ds, FP, d, o, rp, e, kq⟩ := q
  obtain ⟨d1, d2, fp1, fp2, rfl, rfl, e, h1, h2⟩ := two e rp
  unfold ixO at e
  split at e
  next hcc =>
    obtain ⟨es, e2⟩ := okD_some e
    obtain ⟨ad, dx, fs, rfl, ea⟩ := ins_at o.left hcc h1
    cases rx
    obtain ⟨mA, J, _⟩ := ins_get I2.hok ea
    obtain ⟨od, J, _⟩ := J.look
    obtain ⟨m, hF⟩ := I2.fr
    refine PySem.W.sub_K hF I2.ok.mod.kin J sm.at_ hfn sm.fn ?_ (hsl _ _)
    exact md.call (A := X.A.in1) (vs := [.ref ad, y]) (us := [.ref ad, u]) (dr := d) (Q := Q) I2 ⟨hr.in1, rfl⟩ (.cons rfl (.cons ry .nil)) o rp (by rfl) (by simpa using e2) fun v S' H' fp FQ dvs st rpv rm => kq v S' H' fp st.left rpv
  next => cases e
theorem ge_ixO (sm : SpM X.K (G.ca c) "__getitem__" fa) (hfn : PySem.W.fnIn X.K fa = true) (md : MDx X G fa k 2 [] [] F) (hr : Room (k + 1) X.A) (ha : GE G W X a ma) (hb : GE G W X b mb)
    (hsl : ∀ o i, subscripted b true o i = runValue (.builtin "lifetime.subscript" ⟨[o, i], []⟩) := by exact fun _ _ => rfl) : GE G W X (.Subscript a b pos) (mOp (ixO c F) ma mb) := by
  refine PE.imp (pe_ixO sm hfn md hr ha hb hsl) fun σ H Q h => ?_
  obtain ⟨ρ, S, FP, o, r, p⟩ := h
  refine tOf_step o r p fun d1 ρ1 x S1 H1 fp1 FP1 st1 rp1 re1 p1 => ?_
  refine tOf_step st1.ok.right re1 p1 fun d2 ρ2 y S2 H2 fp2 FP2 st2 rp2 re2 p2 => ?_
  obtain ⟨d, e, k⟩ := opt_post p2
  have s12 := (st1.trans (st2.frame st1.ok)).asc
  refine ⟨S2, [d1, d2], fp1 ++ fp2, d, s12.ok.left, ⟨x, [y], fp1, fp2, rfl, rfl, rp1.step st1.ok st2, .one rp2⟩, e, fun v S' H' fp st3 rp => ?_⟩
  exact k v S' H' fp FP2 (s12.trans (st3.frameR s12.ok)) rp (re2.step s12.ok st3)
end
end Ta

/-! Ta.O3: making, class methods, o[i] = v, methods that change their instance. -/
namespace Ta
open PySem PySem.Spec L2

/-! ### making -/
def newM (c np : Nat) (F : Fn) (ds : List D) : M D := fun ρ => if ds.length + 1 = np then match F (.ins true c [] [] :: ds) with
  | some (.ok .non, [d]) => some (.ok d, ρ)
  | some (.error e, _) => some (.error e, ρ)
  | _ => none else none
def mMake (c np : Nat) (F : Fn) (dd : List D) (ms : M (List D)) : M D := M.bind ms fun ds => newM c np F (ds ++ dd)
section
variable {G : Glo} {W : WX} {X : Cx} {o a b e : Expr} {es : List Expr} {ma mb : M D} {ms : M (List D)} {pos apos p' : Pos} {c k np : Nat} {m f x : Str} {fa : Addr} {dd : List D} {μ : List Nat} {F : Fn}
/-- what the new instance is asked, by all its values -/
theorem new_sp {σ : L2.St} {S0 S H0 H : Hp} {F0 A B : List Addr} {ds : List D} {vs : List V} {ρ : Rho} {Q : VK} {K : D → Rho → Prop} (z : Step S0 H0 F0 S H (A ++ B)) (rp : RpL G S H ds vs A) (re : RpE G S H σ ρ B) (p : PostE G W σ S0 H0 F0 (newM c np F ds ρ) K)
    (kk : ∀ r v S' H' fp, K r ρ → Step S0 H0 F0 S' H' (fp ++ B) → Rp G S' H' r v fp → RpE G S' H' σ ρ B → Q v H') {x dx : Addr} (hx : H x = none) (hdx : H dx = none) (hne : dx ≠ x) :
    spOf G np [0] F (.ref x :: vs) (upd (upd H dx (.own x)) x (.ins (G.ca c) dx [])) (fun v H2 => v = .non ∧ Q (.ref x) H2) (WE W σ) := by
  unfold newM at p
  split at p
  next hl =>
    have j1 := Step.junk (o := .own x) z.ok hdx
    have hx1 : upd H dx (.own x) x = none := by rw [upd_ne (Ne.symm hne)]; exact hx
    have j2 := Step.new (o := .ins (G.ca c) dx []) j1.ok hx1 trivial
    have j := j1.trans j2
    have zz : Step S0 H0 F0 S (upd (upd H dx (.own x)) x (.ins (G.ca c) dx [])) ((x :: A) ++ B) := z.trans j
    have kp : ∀ b ∈ A ++ B, upd (upd H dx (.own x)) x (.ins (G.ca c) dx []) b = H b := fun b hb => by
      obtain ⟨u, e, _⟩ := z.ok.there b hb
      rw [upd_ne (ne_of_none e hx), upd_ne (ne_of_none e hdx)]
    refine ⟨S, .ins true c [] [] :: ds, x :: A, zz.ok.left, ⟨.ref x, vs, [x], A, rfl, rfl, ⟨x, dx, [], rfl, rfl, [], rfl, upd_same, rfl, rfl⟩, rp.mono (Same.refl _) fun b hb => kp b (List.mem_append_left _ hb)⟩, by simpa using hl, ?_⟩
    have re1 : RpE G S (upd (upd H dx (.own x)) x (.ins (G.ca c) dx [])) σ ρ B := re.mono (Same.refl _) fun b hb => kp b (List.mem_append_right _ hb)
    cases qf : F (.ins true c [] [] :: ds) with
    | none => rw [qf] at p; exact p.elim
    | some r =>
      obtain ⟨r, es⟩ := r
      rw [qf] at p
      cases r with
      | error e =>
        intro x' S' H' FQ st hM ex
        exact p x' S' H' B (zz.trans (st.frameR zz.ok)).right (re1.step zz.ok st) ex
      | ok r =>
        cases r with
        | non =>
          match es, p with
          | [d], p =>
            intro v S' H' fp FQ st rpv hM
            refine ⟨rpv.1, ?_⟩
            obtain ⟨d0, ds0, w, f1, f2, e0, e1, e2, r1, r2⟩ := hM
            cases e0
            cases e1
            obtain ⟨_, rfl⟩ := r2
            rw [List.append_nil] at e2
            subst e2
            have st' := st.right
            exact kk d (.ref x) S' H' FQ p (zz.trans (st'.frameR zz.ok)) r1 (re1.step zz.ok st')
          | [], p => exact p.elim
          | _ :: _ :: _, p => exact p.elim
        | _ => exact p.elim
  next => exact p.elim
/-- the run -/
theorem run_mk {pins : List (Addr × Obj)} {σ : L2.St} {H : Hp} {s : Shared} {Q : VK} {us : List Value} {vs : List V} {C : Addr} (Mm : L2.Mk X.K C fa) (md : MDx X G fa k np dd [0] F) (tk : Takes X W) (hr : Room (k + 1) X.A) (I : Inv X pins σ H s) (r : Vals vs us)
    (h : ∀ dvs, (∀ S H, RpL G S H dd dvs []) → ∀ x dx, H x = none → H dx = none → dx ≠ x → spOf G np [0] F (.ref x :: (vs ++ dvs)) (upd (upd H dx (.own x)) x (.ins C dx [])) (fun v H2 => v = .non ∧ Q (.ref x) H2) (WE W σ)) :
    wpAny (model X.prog X.w) X.A (PySem.call (Value.ref C) us) (EP X pins σ Q) X.xe s := by
  obtain ⟨fd, ps, dvs, dus, FO, hb, hd, hdd⟩ := md.ex
  have hq := h dvs hdd (s.heap.objs.size + 1) s.heap.objs.size (I.hok.fresh (Nat.le_succ _)) (I.hok.fresh (Nat.le_refl _)) (Nat.ne_of_lt (Nat.lt_succ_self _))
  have I2 := Inv.made (C := C) I
  have r2 : Vals (V.ref (s.heap.objs.size + 1) :: (vs ++ dvs)) (Value.ref (s.heap.objs.size + 1) :: (us ++ dus)) := .cons rfl (r.append hd)
  have hl : (Value.ref (s.heap.objs.size + 1) :: us ++ dus).length = ps.length := by
    have e := r2.length
    rw [FO.len _ _ _ _ hq] at e
    exact e.symm
  refine wpAny_call (make_map (f := fa) I.kIn Mm.makes Mm.init (beq_iff_eq.mp Mm.fn) (codeAny_mono (FO.run _ X.stack _ _ ⟨Value.ref (s.heap.objs.size + 1) :: us, []⟩ (Value.ref (s.heap.objs.size + 1) :: (us ++ dus)) _ _ (WE W σ) (hr.make C us [])
    (I2.env0.make C us []) (hb _ (Value.ref (s.heap.objs.size + 1) :: us) I2.kIn hl) r2 hq) fun r s' hq' => ?_))
  cases r with
  | error e => exact passAt tk σ pins _ _ e s' I2 hq'
  | ok fl =>
    cases fl with
    | ret u =>
      obtain ⟨v, H', I3, rv, ev, q3⟩ := I2.after hq'
      subst ev
      exact ⟨rv, ⟨V.ref (s.heap.objs.size + 1), H', I3, rfl, q3⟩⟩
    | next => exact False.elim hq'
    | brk => exact False.elim hq'
    | cont => exact False.elim hq'
/-- C(e, ..), C a global name -/
theorem ge_make (Mm : L2.Mk X.K (G.ca c) fa) (md : MDx X G fa k np dd [0] F) (tk : Takes X W) (hr : Room (k + 1) X.A) (hm : X.mg x = some (.ref (G.ca c))) (ha : GA G W X (e :: es) ms) (hg : Gl X x := by rfl) (hdb : (x == ("__debug__" : Str)) = false := by decide)
    (he : starEach (e :: es) X.env = (false, eval e X.env) :: starEach es X.env := by rfl) (hpl : (backTo pos (starEach es X.env)).any (·.1) = false := by rfl) : GE G W X (.Call (.Name x p') (e :: es) [] pos) (mMake c np F dd ms) := by
  refine ⟨fun pins s σ H Q I h => ?_⟩
  obtain ⟨ρ, S, FP, o', r, p⟩ := h
  refine wpAny_Call_Name_kw (ld_glob I hg hm ?_ hdb)
  refine PySem.W.callWith_K (h₀ := X.base) I.ok.mod.kin Mm.kp (thn (ha.run pos pins s σ H (fun vs H1 => ∀ dvs, (∀ S H, RpL G S H dd dvs []) → ∀ x dx, H1 x = none → H1 dx = none → dx ≠ x → spOf G np [0] F (.ref x :: (vs ++ dvs)) (upd (upd H1 dx (.own x)) x (.ins (G.ca c) dx [])) (fun v H2 => v = .non ∧ Q (.ref x) H2) (WE W σ)) I ?_) fun us s1 ⟨vs, H1, I1, r, q⟩ => ⟨I1.kIn, ?_⟩) he hpl
  · refine tAOf_from (Step.refl o') r p fun ds ρ1 vs S1 H1 fp1 FP1 st1 rp1 re1 p1 => ?_
    intro dvs hdd x dx hx hdx hne
    have rpl : RpL G S1 H1 (ds ++ dd) (vs ++ dvs) fp1 := by have := rp1.app (hdd S1 H1); rwa [List.append_nil] at this
    exact new_sp st1 rpl re1 p1 (fun r v S' H' fp kd st rp re => kd v S' H' fp FP1 st rp re) hx hdx hne
  exact run_mk Mm md tk hr I1 r q
/-- cls(e, ..), cls a local name that holds the class -/
def isGlM (n i : Nat) : M D := fun ρ => match ρ[i]? with
  | some (some (.gl n')) => if n' = n then some (.ok .non, ρ) else none
  | _ => none
def mMakeL (n i c np : Nat) (F : Fn) (dd : List D) (ms : M (List D)) : M D := M.bind (isGlM n i) fun _ => mMake c np F dd ms
theorem ge_makeL (n i : Nat) (hgv : G.gv n = .ref (G.ca c)) (Mm : L2.Mk X.K (G.ca c) fa) (md : MDx X G fa k np dd [0] F) (tk : Takes X W) (hr : Room (k + 1) X.A) (ha : GA G W X (e :: es) ms) (hN : X.N[i]? = some x := by rfl) (hv : Vis X.env.scope x := by first | exact Or.inl rfl | exact Or.inr (Or.inl rfl) | exact Or.inr (Or.inr rfl)) (hd : (x == ("__debug__" : Str)) = false := by decide)
    (hcd : (x == ("__classdict__" : Str)) = false := by decide)
    (he : starEach (e :: es) X.env = (false, eval e X.env) :: starEach es X.env := by rfl) (hpl : (backTo pos (starEach es X.env)).any (·.1) = false := by rfl) : GE G W X (.Call (.Name x p') (e :: es) [] pos) (mMakeL n i c np F dd ms) := by
  refine ⟨fun pins s σ H Q I h => ?_⟩
  obtain ⟨ρ, S, FP, o', r, p⟩ := h
  have p0 := p.bind
  unfold isGlM at p0
  split at p0
  next n' q0 =>
    split at p0
    next hn =>
      subst hn
      obtain ⟨v, fp1, fp2, g1, g2, g3, g4⟩ := r.split q0
      obtain ⟨rfl, _⟩ := g2
      rw [hgv] at g1
      refine wpAny_Call_Name_kw (thn ((pe_var (pos := p') (i := i) hN hv hd hcd).run pins s σ H (fun v H1 => v = .ref (G.ca c) ∧ H1 = H) I ⟨.ref (G.ca c), g1, rfl, rfl⟩) fun u s1 ⟨v, H1, I1, r1, q1⟩ => ?_)
      obtain ⟨rfl, rfl⟩ := q1
      cases r1
      refine PySem.W.callWith_K (h₀ := X.base) I1.ok.mod.kin Mm.kp (thn (ha.run pos pins s1 σ _ (fun vs H1 => ∀ dvs, (∀ S H, RpL G S H dd dvs []) → ∀ x dx, H1 x = none → H1 dx = none → dx ≠ x → spOf G np [0] F (.ref x :: (vs ++ dvs)) (upd (upd H1 dx (.own x)) x (.ins (G.ca c) dx [])) (fun v H2 => v = .non ∧ Q (.ref x) H2) (WE W σ)) I1 ?_) fun us s1 ⟨vs, H1, I1, r, q⟩ => ⟨I1.kIn, ?_⟩) he hpl
      · refine tAOf_from (Step.refl o') r p0 fun ds ρ1 vs S1 H1 fp1 FP1 st1 rp1 re1 p1 => ?_
        intro dvs hdd x dx hx hdx hne
        have rpl : RpL G S1 H1 (ds ++ dd) (vs ++ dvs) fp1 := by have := rp1.app (hdd S1 H1); rwa [List.append_nil] at this
        exact new_sp st1 rpl re1 p1 (fun r v S' H' fp kd st rp re => kd v S' H' fp FP1 st rp re) hx hdx hne
      exact run_mk Mm md tk hr I1 r q
    next => exact p0.elim
  next => exact p0.elim
end
end Ta

/-! Ta.O4: o[i] = v, methods that change their instance, class methods, keywords. -/
namespace Ta
open PySem PySem.Spec L2
section
variable {G : Glo} {W : WX} {μ : List Nat} {X : Cx} {a b e value idx : Expr} {es : List Expr} {ma mb : M D} {ms : M (List D)} {pos pos' apos p' npos : Pos} {c k np : Nat} {m f x : Str} {fa : Addr} {dd : List D} {F : Fn}
/-! ### o[i] = v -/
def hasC (c i : Nat) : M D := fun ρ => match ρ[i]? with
  | some (some d) => if d.isC c then some (.ok .non, ρ) else none
  | _ => none
def sSetO (c i : Nat) (F : Fn) (mv mi : M D) : MS := M.bind mv fun v => M.bind (hasC c i) fun _ => M.bind mi fun y => M.bind (hasC c i) fun _ => M.bind (callI i 3 F [y, v]) fun _ => M.ok .nx
theorem gs_setO (i : Nat) {mv mi : M D} (sm : SpM X.K (G.ca c) "__setitem__" fa) (hq : PySem.W.noSeq X.K (G.ca c) = true) (md : MDx X G fa k 3 [] [0] F) (tk : Takes X W) (hr : Room k X.A) (hv : GE G W X value mv) (hi : GE G W X idx mi)
    (hN : X.N[i]? = some x := by rfl) (hvis : Vis X.env.scope x := by first | exact Or.inl rfl | exact Or.inr (Or.inl rfl) | exact Or.inr (Or.inr rfl)) (hd : (x == ("__debug__" : Str)) = false := by decide)
    (hcd : (x == ("__classdict__" : Str)) = false := by decide) (hs : swapsWith value (some (.Subscript (.Name x npos) idx pos')) pos.line X.env = pure false := by rfl) : GS G W μ X (.Assign [.Subscript (.Name x npos) idx pos'] value pos) (sSetO c i F mv mi) := by
  refine ⟨fun pins s σ H D I h => ?_⟩
  obtain ⟨ρ, S, FP, o, r, p⟩ := h
  refine wpAny_Assign_Subscript (thn (hv.run pins s σ H (fun v H1 => ∃ a, σ[i]? = some (some (.ref a)) ∧ tOf G W mi σ H1 fun y H2 => (∃ dx fs, H2 a = some (.ins (G.ca c) dx fs)) ∧ spD G 3 [] [0] F [.ref a, y, v] H2 (fun _ H3 => D.nx σ H3) (WE W σ)) I ?_) fun rv s1 ⟨v, H1, I1, rrv, a, hσ, q1⟩ => ?_) hs
  · refine ⟨ρ, S, FP, o, r, p.bind.mono fun dv ρ1 _ p1 v S1 H1 fp1 FP1 st1 rp1 re1 => ?_⟩
    have p1b := p1.bind
    unfold hasC at p1b
    split at p1b
    next d0 q0 =>
      split at p1b
      next hc0 =>
        obtain ⟨v0, f1, f2, g1, g2, g3, g4⟩ := re1.split q0
        obtain ⟨ad, dx, fs, rfl, ha0⟩ := ins_at ((st1.ok.right.perm g3).left) hc0 g2
        refine ⟨ad, g1, ?_⟩
        refine ⟨ρ1, S1, FP1, st1.ok.right, re1, ((PostS.bind (m := mi) p1b).step st1.right).mono fun dy ρ2 _ p2 y S2 H2 fp2 FP2 st2 rp2 re2 => ?_⟩
        have s12 := (st1.trans (st2.frame st1.ok)).asc
        have rpl : RpL G S2 H2 [dy, dv] [y, v] (fp2 ++ fp1) := ⟨y, [v], fp2, fp1, rfl, rfl, rp2, .one (rp1.step st1.ok st2)⟩
        have s12' := s12.perm (List.perm_append_comm.append_right FP2)
        have p2' := p2.bind
        unfold hasC at p2'
        split at p2'
        next d q =>
          split at p2'
          next hc1 =>
            obtain ⟨v1, f3, f4, g5, g6, g7, g8⟩ := re2.split q
            rw [g1] at g5; cases g5
            refine ⟨?_, ?_⟩
            · obtain ⟨ad', dx', fs', e', ha'⟩ := ins_at ((s12'.ok.right.perm g7).left) hc1 g6
              cases e'
              exact ⟨dx', fs', ha'⟩
            · refine callI_sp (ds := [dy, dv]) (dd := []) (K := fun r ρ' => PostS G W μ D σ S H FP (M.ok Fl.nx ρ')) s12' rpl re2 g1 (PostS.bind (m := callI i 3 F ([dy, dv] ++ [])) p2') fun r v' S' H' fp FP' ρ' kd st rp re => ?_
              exact kd σ S' H' FP' st.right re Keep.refl
          next => exact p2'.elim
        next => exact p2'.elim
      next => exact p1b.elim
    next => exact p1b.elim
  refine thn ((pe_var (pos := npos) (i := i) hN hvis hd hcd).run pins s1 σ H1 (fun v' H' => v' = .ref a ∧ H' = H1) I1 ⟨.ref a, hσ, rfl, rfl⟩) fun u s2 ⟨v', H', I2, r2, e1, e2⟩ => ?_
  subst e1 e2
  cases r2
  refine thn (hi.run pins s2 σ _ _ I2 q1) fun iv s3 ⟨y, H3, I3, ry, ⟨dx, fs, ha3⟩, q3⟩ => ?_
  obtain ⟨mA, J, _⟩ := ins_get I3.hok ha3
  obtain ⟨od, J, _⟩ := J.look
  obtain ⟨m, hF⟩ := I3.fr
  refine PySem.W.ksp_setItem hF I3.ok.mod.kin J hq sm.at_ sm.fn (wpAny_mono (md.callE (us := [.ref a, iv, rv]) (vs := [.ref a, y, v]) tk I3 ⟨hr, rfl⟩ (.cons rfl (.cons ry (.cons rrv .nil))) q3) (fun w' s4 z => ?_) fun _ _ z => z)
  obtain ⟨z', H4, I4, rz, qz⟩ := z
  exact ⟨σ, H4, I4, qz⟩
end
end Ta

/-! Ta.O5: class methods, keywords, a slot's thing set free, x[i].clear(). -/
namespace Ta
open PySem PySem.Spec L2
section
variable {G : Glo} {W : WX} {μ : List Nat} {X : Cx} {a b e value idx : Expr} {es : List Expr} {ma mb : M D} {ms mks : M (List D)} {pos pos' apos p' npos : Pos} {c k np : Nat} {m f x : Str} {fa : Addr} {dd : List D} {F : Fn}
/-! ### class methods -/
def callOk (np : Nat) (F : Fn) (ds : List D) : M D := fun ρ => if ds.length = np then match F ds with
  | some (.ok d, _) => some (.ok d, ρ)
  | _ => none else none
theorem ok_sp {σ : L2.St} {S0 S H0 H : Hp} {F0 A B : List Addr} {ds : List D} {vs : List V} {ρ : Rho} {Q : VK} {K : D → Rho → Prop} {E : XK} {μ : List Nat} (z : Step S0 H0 F0 S H (A ++ B)) (rp : RpL G S H ds vs A) (re : RpE G S H σ ρ B) (p : PostE G W σ S0 H0 F0 (callOk np F ds ρ) K)
    (k : ∀ d v S' H' fp, K d ρ → Step S0 H0 F0 S' H' (fp ++ B) → Rp G S' H' d v fp → RpE G S' H' σ ρ B → Q v H') : spOf G np μ F vs H Q E := by
  unfold callOk at p
  split at p
  next hl =>
    refine ⟨S, ds, A, z.ok.left, rp, hl, ?_⟩
    cases q : F ds with
    | none => rw [q] at p; exact p
    | some x =>
      obtain ⟨x, es⟩ := x
      rw [q] at p
      cases x with
      | error e => exact p.elim
      | ok d =>
        intro v S' H' fp FQ st rpv hM
        have st' := st.left
        exact k d v S' H' fp p (z.trans (st'.frameR z.ok)) rpv (re.step z.ok st')
  next => exact p.elim
def mCMeth (n np : Nat) (F : Fn) (dd : List D) (ms : M (List D)) : M D := M.bind ms fun ds => callOk np F (.gl n :: (ds ++ dd))
theorem ge_cmeth {pl : Sem Bool} {n : Nat} {mc : Value} {p g : Addr} (hgv : G.gv n = .ref (G.ca c)) (hm : X.mg x = some (.ref (G.ca c))) (r : ClX.CRead X.K (G.ca c) mc) (cm : ClX.CMet X.K (G.ca c) mc m p g) (md : MDx X G g k np dd μ F) (hr : Room k X.A) (ha : GA G W X (e :: es) ms)
    (hg : Gl X x := by rfl) (hd : (x == ("__debug__" : Str)) = false := by decide) (hst : starEach (e :: es) X.env = (false, eval e X.env) :: starEach es X.env := by rfl) (hpl : (backTo pos (starEach es X.env)).any (·.1) = false := by rfl)
    (ht : eval (.Call (.Attribute (.Name x npos) m apos) (e :: es) [] pos) X.env = (do
      let ov ← eval (.Name x npos) X.env
      standAt apos.atName
      let (f, first) ← holding [ov] (getMethod ov m pl)
      callWith pos f first (backTo pos (starEach (e :: es) X.env)) (backToKw pos (keywordEach [] X.env))) := by rfl) : GE G W X (.Call (.Attribute (.Name x npos) m apos) (e :: es) [] pos) (mCMeth n np F dd ms) := by
  refine PE.imp (ClX.pe_cmeth (pe_glob (v := .ref (G.ca c)) hg hm rfl hd) r cm md.fnR hr (E := fun _ _ _ => False) (fun pins σ H s e s' I c => (cx_false c).elim) ha hst hpl ht) fun σ H Q h => ?_
  obtain ⟨ρ, S, FP, o, r, p⟩ := h
  refine ⟨rfl, ?_⟩
  refine tAOf_from (Step.refl o) r p fun ds ρ1 vs S1 H1 fp1 FP1 st1 rp1 re1 p1 => ?_
  intro dvs hdd
  have rpl : RpL G S1 H1 (.gl n :: (ds ++ dd)) (.ref (G.ca c) :: (vs ++ dvs)) ([] ++ fp1) := ⟨_, _, [], fp1, rfl, rfl, ⟨hgv.symm, rfl⟩, by have := rp1.app (hdd S1 H1); rwa [List.append_nil] at this⟩
  exact ok_sp (A := fp1) (B := FP1) st1 rpl re1 p1 fun d v S' H' fp kd st rp re => kd v S' H' fp FP1 st rp re

/-! ### C(e, .., k = v, ..) -/
/-- a def that is called with keywords -/
structure MDK (P : Program) (w : World) (K : PySem.W.Frag) (mg : Str → Option Value) (base : Heap) (G : Glo) (fa : Addr) (k np n : Nat) (ks : List Str) (gD : List D → List D → List D) (μ : List Nat) (F : Fn) : Prop where
  ex : ∃ fd ps g gV, FnOk P w K mg base (L2.CX P w) k fa fd ps (spOf G np μ F) ∧ KBn K fd ps n ks g gV ∧ ∀ S H ds vs fp es zs fq, RpL G S H ds vs fp → RpL G S H es zs fq → ds.length = n → es.length = ks.length → (∃ fr, (fp ++ fq).Perm fr ∧ RpL G S H (gD ds es) (gV vs zs) fr) ∧ (gV vs zs)[0]? = vs[0]?
abbrev GK (G : Glo) (W : WX) (X : Cx) (kws : List Keyword) (m : M (List D)) : Prop := PK X kws (tAOf G W m)
theorem PK.imp {kws : List Keyword} {t u : TA} (h : PK X kws t) (k : ∀ σ H Q, u σ H Q → t σ H Q) : PK X kws u := ⟨fun o p s σ H Q I q => h.run o p s σ H Q I (k σ H Q q)⟩
theorem gk_nil : GK G W X [] mNil := by
  refine PK.imp pk_nil fun σ H Q h => ?_
  obtain ⟨ρ, S, FP, o, r, p⟩ := h
  exact p [] S H [] FP (Step.refl o) ⟨rfl, rfl⟩ r
theorem gk_cons {nm : Option Str} {kpos : Pos} {kws : List Keyword} (ha : GE G W X a ma) (hs : GK G W X kws ms) : GK G W X (⟨nm, a, kpos⟩ :: kws) (mCons ma ms) := by
  refine PK.imp (pk_cons ha hs) fun σ H Q h => ?_
  obtain ⟨ρ, S, FP, o, r, p⟩ := h
  refine tOf_step o r p fun d1 ρ1 x S1 H1 fp1 FP1 st1 rp1 re1 p1 => ?_
  refine tAOf_step st1.ok.right re1 p1 fun d2 ρ2 y S2 H2 fp2 FP2 st2 rp2 re2 p2 => ?_
  exact p2 (x :: y) S2 H2 (fp1 ++ fp2) FP2 (st1.trans (st2.frame st1.ok)).asc ⟨x, y, fp1, fp2, rfl, rfl, rp1.step st1.ok st2, rp2⟩ re2
/-- the new instance, then what the keywords say -/
def newK (c np : Nat) (F : Fn) (n m : Nat) (gD : List D → List D → List D) (ds es : List D) : M D := fun ρ => if ds.length + 1 = n ∧ es.length = m ∧ (gD (.ins true c [] [] :: ds) es).length = np then match F (gD (.ins true c [] [] :: ds) es) with
  | some (.ok .non, [d]) => some (.ok d, ρ)
  | _ => none else none
def mMakeK (c np : Nat) (F : Fn) (n m : Nat) (gD : List D → List D → List D) (ms mks : M (List D)) : M D := M.bind ms fun ds => M.bind mks fun es => newK c np F n m gD ds es
theorem ge_makeK {n : Nat} {ks : List Str} {gD : List D → List D → List D} {kws : List Keyword} (Mm : L2.Mk X.K (G.ca c) fa) (md : MDK X.prog X.w X.K X.mg X.base G fa k np (n + 1) ks gD [0] F) (hr : Room (k + 1) X.A) (hm : X.mg x = some (.ref (G.ca c)))
    (ha : GA G W X (e :: es) ms) (hkw : GK G W X kws mks) (hall : (backToKw pos (keywordEach kws X.env)).all (·.1.isSome) = true := by rfl) (hks : (backToKw pos (keywordEach kws X.env)).filterMap (·.1) = ks := by rfl)
    (hg : Gl X x := by rfl) (hdb : (x == ("__debug__" : Str)) = false := by decide) (he : starEach (e :: es) X.env = (false, eval e X.env) :: starEach es X.env := by rfl)
    (hpl : ((backTo pos (starEach (e :: es) X.env)).any (·.1) || (backToKw pos (keywordEach kws X.env)).any (·.1.isNone)) = false := by rfl) :
    GE G W X (.Call (.Name x p') (e :: es) kws pos) (mMakeK c np F (n + 1) ks.length gD ms mks) := by
  obtain ⟨fd, ps, g, gV, FO, hb, hrel⟩ := md.ex
  refine PE.imp (pe_makeN Mm FO hr hg hm hb (E := fun _ _ _ => False) (fun pins σ H s e s' I c => (cx_false c).elim) ha hkw hall hks hdb he hpl) fun σ H Q h => ?_
  obtain ⟨ρ, S, FP, o, r, p⟩ := h
  refine tAOf_from (Step.refl o) r p fun ds ρ1 vs S1 H1 fp1 FP1 st1 rp1 re1 p1 => ?_
  refine tAOf_from st1.right re1 p1 fun es ρ2 zs S2 H2 fp2 FP2 st2 rp2 re2 p2 => ?_
  unfold newK at p2
  split at p2
  next hl =>
    obtain ⟨hl1, hl2, hl3⟩ := hl
    have z : Step S H FP S2 H2 ((fp1 ++ fp2) ++ FP2) := (st1.trans (st2.frame st1.ok)).asc
    have rp1' := rp1.step st1.ok st2
    refine ⟨by rw [rp1.length]; omega, by rw [rp2.length]; exact hl2, fun x dx hx hdx hne => ?_⟩
    have j1 := Step.junk (o := .own x) z.ok hdx
    have hx1 : upd H2 dx (.own x) x = none := by rw [upd_ne (Ne.symm hne)]; exact hx
    have j2 := Step.new (o := .ins (G.ca c) dx []) j1.ok hx1 trivial
    have zz : Step S H FP S2 (upd (upd H2 dx (.own x)) x (.ins (G.ca c) dx [])) ((x :: (fp1 ++ fp2)) ++ FP2) := z.trans (j1.trans j2)
    have kp : ∀ b ∈ (fp1 ++ fp2) ++ FP2, upd (upd H2 dx (.own x)) x (.ins (G.ca c) dx []) b = H2 b := fun b hb => by
      obtain ⟨u, e, _⟩ := z.ok.there b hb
      rw [upd_ne (ne_of_none e hx), upd_ne (ne_of_none e hdx)]
    have r1 : RpL G S2 (upd (upd H2 dx (.own x)) x (.ins (G.ca c) dx [])) (.ins true c [] [] :: ds) (.ref x :: vs) (x :: fp1) := ⟨.ref x, vs, [x], fp1, rfl, rfl, ⟨x, dx, [], rfl, rfl, [], rfl, upd_same, rfl, rfl⟩, rp1'.mono (Same.refl _) fun b hb => kp b (by simp [hb])⟩
    have r2 := rp2.mono (H' := upd (upd H2 dx (.own x)) x (.ins (G.ca c) dx [])) (Same.refl S2) fun b hb => kp b (by simp [hb])
    obtain ⟨⟨fr, pm, r3⟩, g0⟩ := hrel _ _ _ _ _ _ _ _ r1 r2 (by simpa using hl1) hl2
    have re' : RpE G S2 (upd (upd H2 dx (.own x)) x (.ins (G.ca c) dx [])) σ ρ2 FP2 := re2.mono (Same.refl _) fun b hb => kp b (List.mem_append_right _ hb)
    have zf : Step S H FP S2 (upd (upd H2 dx (.own x)) x (.ins (G.ca c) dx [])) (fr ++ FP2) := zz.perm (by
      rw [show (x :: (fp1 ++ fp2)) ++ FP2 = ((x :: fp1) ++ fp2) ++ FP2 by simp]
      exact pm.append_right FP2)
    refine ⟨S2, _, fr, zf.ok.left, r3, hl3, ?_⟩
    cases qf : F (gD (.ins true c [] [] :: ds) es) with
    | none => rw [qf] at p2; exact p2.elim
    | some r =>
      obtain ⟨r, es'⟩ := r
      rw [qf] at p2
      cases r with
      | error e => exact p2.elim
      | ok r =>
        cases r with
        | non =>
          match es', p2 with
          | [d], p2 =>
            intro v S' H' fp FQ st rpv hM
            refine ⟨rpv.1, ?_⟩
            obtain ⟨d0, ds0, w, f1, f2, e0, e1, e2, r1', r2'⟩ := hM
            cases e0
            rw [g0] at e1
            cases e1
            obtain ⟨_, rfl⟩ := r2'
            rw [List.append_nil] at e2
            subst e2
            have st' := st.right
            exact p2 (.ref x) S' H' FQ FP2 (zf.trans (st'.frameR zf.ok)) r1' (re'.step zf.ok st')
          | [], p2 => exact p2.elim
          | _ :: _ :: _, p2 => exact p2.elim
        | _ => exact p2.elim
  next => exact p2.elim

/-! ### a slot's thing set free -/
def mClsV (i : Nat) : M D := fun ρ => match ρ[i]? with
  | some (some d) => some (.ok d.deep, ρ.set i (some d.deep))
  | _ => none
theorem ge_clsv (i : Nat) (hN : X.N[i]? = some x := by rfl) (hv : Vis X.env.scope x := by first | exact Or.inl rfl | exact Or.inr (Or.inl rfl) | exact Or.inr (Or.inr rfl)) (hd : (x == ("__debug__" : Str)) = false := by decide)
    (hcd : (x == ("__classdict__" : Str)) = false := by decide) : GE G W X (.Name x pos) (mClsV i) := by
  refine PE.imp (pe_var hN hv hd hcd) fun σ H Q h => ?_
  obtain ⟨ρ, S, FP, o, r, p⟩ := h
  unfold mClsV at p
  split at p
  next d e =>
    obtain ⟨v, fp1, fp2, h1, h2, h3, h4⟩ := r.split e
    have st := (Step.refl o).perm h3
    have sg := Step.give st.ok
    have rp := h2.close (H' := H) sg.stay fun b hb => plus_on hb
    have re := h4.mono (H' := H) sg.stay fun _ _ => rfl
    obtain ⟨fr, pm, re3⟩ := re.put rp (lt_of_get e)
    have es0 : σ.set i (some v) = σ := by
      refine List.ext_getElem? fun j => ?_
      by_cases e : i = j
      · subst e
        have hi : i < σ.length := (List.getElem?_eq_some_iff.mp h1).1
        rw [List.getElem?_set_self hi, h1]
      · rw [List.getElem?_set_ne e]
    rw [es0] at re3
    exact ⟨v, h1, p v _ H [] fr ((st.trans sg).perm pm.symm) rp re3⟩
  next => exact p.elim
end
end Ta

/-! Ta.Z: list(zip(a, b)). -/
namespace Ta
open PySem PySem.Spec L2
section
open PySem.W PyProof.Rows
variable {prog : Program} {w : World} {A : Around} {E : Value → Shared → Prop} {s : Shared} {z TI TO T i1 i2 : Addr} {fp1 fp2 : List Addr} {n1 n2 i : Nat} {P1 P2 : Nat → Value → Prop} {St1 St2 : Nat → Heap → Prop} {f : Bool} {oT : Obj}
theorem zip_item_held {Q : Value → Shared → Prop} (S : ZipSep2 z TI TO i1 i2 fp1 fp2) (D1 : Draws prog w A i1 fp1 n1 P1 St1) (D2 : Draws prog w A i2 fp2 n2 P2 St2)
    (hz : IsZipHeld s.heap z TI TO T f) (hT : s.heap.get? T = some oT) (hTI : IsTupOf2 s.heap TI (.ref i1) (.ref i2)) (st1 : St1 i s.heap) (st2 : St2 i s.heap) (hlt1 : i < n1) (hlt2 : i < n2)
    (hQ : ∀ x1 x2 h' tk, P1 i x1 → P2 i x2 → IsZipHeld h' z TI TO T true → St1 (i + 1) h' → St2 (i + 1) h' → IsTupOf2 h' s.heap.objs.size x1 x2 → h'.objs.size = s.heap.objs.size + 1 →
      (∀ c o, c ≠ z → c ≠ i1 → c ≠ i2 → s.heap.get? c = some o → h'.get? c = some o) → Q (.ref s.heap.objs.size) { s with heap := h', toks := tk }) :
    wpAny (model prog w) A (Builtin.«zip.__next__» ⟨[.ref z], []⟩) (fun fin s' => ∃ v, fin = .done (.ret v) ∧ Q v s') E s := by
  obtain ⟨hp, g, d, tk0, os⟩ := s
  have zi1 : i1 ≠ z := fun e => S.zf1 (e ▸ S.mem1)
  have zi2 : i2 ≠ z := fun e => S.zf2 (e ▸ S.mem2)
  show wpAny _ _ (field (.ref z) 2 >>= _) _ _ _
  refine wpAny_bind (wpAny_field hz rfl (x := .bool false) rfl ?_)
  show wpAny _ _ (field (.ref z) 3 >>= _) _ _ _
  refine wpAny_bind (wpAny_field hz rfl (x := .ref TI) rfl ?_)
  refine wpAny_bind (wpAny_seqItems hTI rfl ?_)
  show wpAny _ _ (Builtin.SmallTypes.ownedTupleIsFree (.ref z) >>= _) _ _ _
  refine wpAny_bind (wpAny_tupleHeld_zip hz hT fun h₁ hz₁ hs₁ => ?_)
  replace hs₁ : Heap.SameBut z hp h₁ := hs₁
  simp only [Bool.false_eq_true, if_false]
  refine wpAny_bind ?_
  rw [← Array.forIn_toList]
  simp only [List.forIn_cons, List.forIn_nil]
  refine wpAny_bind (wpAny_bind (wpAny_holding ?_))
  show wpAny _ _ (Builtin.SmallTypes.nextOf (.ref i1) >>= _) _ _ ⟨h₁, g, d, tk0, os⟩
  refine wpAny_bind (D1.item i _ _ _ hlt1 (D1.over st1 hs₁ S.zf1) fun x1 h₂ tk1 hx1 sn1 hs₂ => wpAny_pure ?_)
  replace hs₂ : Heap.SameBut i1 h₁ h₂ := hs₂
  refine wpAny_pure ?_
  refine wpAny_bind (wpAny_bind (wpAny_holding ?_))
  show wpAny _ _ (Builtin.SmallTypes.nextOf (.ref i2) >>= _) _ _ ⟨h₂, g, d, tk1, os⟩
  refine wpAny_bind (D2.item i _ _ _ hlt2 (D2.over (D2.over st2 hs₁ S.zf2) hs₂ S.sep1_2) fun x2 h₃ tk2 hx2 sn2 hs₃ => wpAny_pure ?_)
  replace hs₃ : Heap.SameBut i2 h₂ h₃ := hs₃
  refine wpAny_pure (wpAny_pure ?_)
  show wpAny _ _ (newTuple [x1, x2] >>= _) _ _ ⟨h₃, g, d, tk2, os⟩
  refine wpAny_bind (wpAny_newTuple ?_)
  have hsz : h₃.objs.size = hp.objs.size := by rw [hs₃.1, hs₂.1, hs₁.1]
  have hz₃ : IsZipHeld h₃ z TI TO T true := hs₃.extBut _ _ (Ne.symm zi2) (hs₂.extBut _ _ (Ne.symm zi1) hz₁)
  have hk : ∀ c o, c ≠ z → c ≠ i1 → c ≠ i2 → hp.get? c = some o → h₃.get? c = some o := fun c o c1 c2 c3 e => hs₃.extBut _ _ c3 (hs₂.extBut _ _ c2 (hs₁.extBut _ _ c1 e))
  have j1 : St1 (i + 1) h₃ := D1.over sn1 hs₃ S.sep2_1
  refine wpAny_pure ⟨_, rfl, ?_⟩
  show Q (.ref h₃.objs.size) _
  have hp' : IsTupOf2 (h₃.push { cls := .type "tuple", data := .seq #[x1, x2] }) h₃.objs.size x1 x2 := Heap.get?_push_size _ rfl
  have hz4 : (h₃.push { cls := .type "tuple", data := .seq #[x1, x2] }).objs.size = h₃.objs.size + 1 := Heap.size_push ..
  rw [hsz] at hp' hz4 ⊢
  exact hQ x1 x2 _ tk2 hx1 hx2 (Heap.get?_push_of_some _ hz₃) (D1.frame _ _ _ j1 fun b _ o e => Heap.get?_push_of_some _ e) (D2.frame _ _ _ sn2 fun b _ o e => Heap.get?_push_of_some _ e) hp' hz4 fun c o c1 c2 c3 e => Heap.get?_push_of_some _ (hk c o c1 c2 c3 e)
theorem zip_end_held {Q : PySem.Fin → Shared → Prop} (S : ZipSep2 z TI TO i1 i2 fp1 fp2) (D1 : Draws prog w A i1 fp1 n1 P1 St1) (D2 : Draws prog w A i2 fp2 n2 P2 St2)
    (hz : IsZipHeld s.heap z TI TO T f) (hT : s.heap.get? T = some oT) (hTI : IsTupOf2 s.heap TI (.ref i1) (.ref i2)) (st1 : St1 i s.heap) (st2 : St2 i s.heap) (hle1 : i ≤ n1) (hle2 : i ≤ n2) (hend : i = n1 ∨ i = n2)
    (hE : ∀ h' tk e, (∀ c o, c ≠ z → c ≠ i1 → c ≠ i2 → s.heap.get? c = some o → h'.get? c = some o) → (∃ o, h'.get? e = some o ∧ o.cls = .type "StopIteration") → E (.ref e) { s with heap := h', toks := tk }) :
    wpAny (model prog w) A (Builtin.«zip.__next__» ⟨[.ref z], []⟩) Q E s := by
  obtain ⟨hp, g, d, tk0, os⟩ := s
  show wpAny _ _ (field (.ref z) 2 >>= _) _ _ _
  refine wpAny_bind (wpAny_field hz rfl (x := .bool false) rfl ?_)
  show wpAny _ _ (field (.ref z) 3 >>= _) _ _ _
  refine wpAny_bind (wpAny_field hz rfl (x := .ref TI) rfl ?_)
  refine wpAny_bind (wpAny_seqItems hTI rfl ?_)
  show wpAny _ _ (Builtin.SmallTypes.ownedTupleIsFree (.ref z) >>= _) _ _ _
  refine wpAny_bind (wpAny_tupleHeld_zip hz hT fun h₁ hz₁ hs₁ => ?_)
  replace hs₁ : Heap.SameBut z hp h₁ := hs₁
  simp only [Bool.false_eq_true, if_false]
  refine wpAny_bind ?_
  rw [← Array.forIn_toList]
  simp only [List.forIn_cons, List.forIn_nil]
  refine wpAny_bind (wpAny_bind (wpAny_holding ?_))
  show wpAny _ _ (Builtin.SmallTypes.nextOf (.ref i1) >>= _) _ _ ⟨h₁, g, d, tk0, os⟩
  by_cases hlt1 : i < n1
  · have hi2 : i = n2 := by omega
    refine wpAny_bind (D1.item i _ _ _ hlt1 (D1.over st1 hs₁ S.zf1) fun x1 h₂ tk1 hx1 sn1 hs₂ => wpAny_pure ?_)
    replace hs₂ : Heap.SameBut i1 h₁ h₂ := hs₂
    refine wpAny_pure ?_
    refine wpAny_bind (wpAny_bind (wpAny_holding ?_))
    show wpAny _ _ (Builtin.SmallTypes.nextOf (.ref i2) >>= _) _ _ ⟨h₂, g, d, tk1, os⟩
    refine wpAny_bind (D2.done ⟨h₂, g, d, tk1, os⟩ _ _ (by rw [← hi2]; exact D2.over (D2.over st2 hs₁ S.zf2) hs₂ S.sep1_2) fun q e hq he => ?_)
    exact hE q tk1 e (fun c o c1 c2 c3 x => hq _ _ c3 (hs₂.extBut _ _ c2 (hs₁.extBut _ _ c1 x))) he
  · have hi1 : i = n1 := by omega
    refine wpAny_bind (D1.done ⟨h₁, g, d, tk0, os⟩ _ _ (by rw [← hi1]; exact D1.over st1 hs₁ S.zf1) fun q e hq he => ?_)
    exact hE q tk0 e (fun c o c1 c2 _ x => hq _ _ c2 (hs₁.extBut _ _ c1 x)) he
/-- what stands at each turn of a walk over a zip that keeps its tuples -/
def ZSt (z TI TO i1 i2 : Addr) (St1 St2 : Nat → Heap → Prop) (i : Nat) (h : Heap) : Prop :=
  IsTupOf2 h TI (.ref i1) (.ref i2) ∧ (∃ oO, h.get? TO = some oO) ∧ St1 i h ∧ St2 i h ∧ ((IsZip h z TI TO .none ∧ ∃ a1 a2, IsTupOf2 h TO a1 a2) ∨ ∃ T f oT, IsZipHeld h z TI TO T f ∧ h.get? T = some oT ∧ oT.cls = .type "tuple" ∧ T ≠ z ∧ T ≠ TI ∧ T ≠ TO ∧ T ≠ i1 ∧ T ≠ i2)
theorem zs_item {Q : Option Value → Shared → Prop} (S : ZipSep2 z TI TO i1 i2 fp1 fp2) (D1 : Draws prog w A.in1 i1 fp1 n1 P1 St1) (D2 : Draws prog w A.in1 i2 fp2 n2 P2 St2) (st : ZSt z TI TO i1 i2 St1 St2 i s.heap) (hlt1 : i < n1) (hlt2 : i < n2)
    (hQ : ∀ x1 x2 h' tk, P1 i x1 → P2 i x2 → ZSt z TI TO i1 i2 St1 St2 (i + 1) h' → IsTupOf2 h' s.heap.objs.size x1 x2 → h'.objs.size = s.heap.objs.size + 1 →
      (∀ c o, c ≠ z → c ≠ TO → c ≠ i1 → c ≠ i2 → s.heap.get? c = some o → h'.get? c = some o) → Q (some (.ref s.heap.objs.size)) { s with heap := h', toks := tk }) :
    wpAny (model prog w) A (pyNext (.ref z)) Q E s := by
  obtain ⟨hTI, ⟨oO, hO⟩, st1, st2, hh⟩ := st
  have lt : ∀ {c o}, s.heap.get? c = some o → s.heap.objs.size ≠ c := fun e => Nat.ne_of_gt (Heap.lt_size e)
  have l1 : s.heap.objs.size ≠ i1 := by obtain ⟨_, e⟩ := D1.live _ _ st1; exact lt e
  have l2 : s.heap.objs.size ≠ i2 := by obtain ⟨_, e⟩ := D2.live _ _ st2; exact lt e
  rcases hh with ⟨hz, a1, a2, hTO⟩ | ⟨T, f, oT, hz, hT, tc, t0, t1, t2, t3, t4⟩
  · refine wpAny_pyNext_zipD2_item S D1 D2 hz hTI hTO st1 st2 hlt1 hlt2 fun x1 x2 h' tk y1 y2 b1 b2 d1 d2 b5 b6 hk => ?_
    exact hQ x1 x2 h' tk y1 y2 ⟨hk _ _ S.TIz S.TITO S.TIi1 S.TIi2 hTI, ⟨_, b2⟩, d1, d2, .inr ⟨s.heap.objs.size, false, _, b1, b5, rfl, lt hz, lt hTI, lt hTO, l1, l2⟩⟩ b5 b6 hk
  · have hTy : s.TypeIs (.ref z) "zip" := ⟨_, hz, rfl⟩
    unfold pyNext
    refine wpAny_bind (wpAny_attempt (wpAny_callSpecial?_slot (name := Str.ofString "__next__") hTy F.slot_zip_next
      (wpAny_call_entry F.slot_zip_next hTy F.entry_zip_next
        (zip_item_held S D1 D2 hz hT hTI st1 st2 hlt1 hlt2 fun x1 x2 h' tk y1 y2 b1 d1 d2 b5 b6 hk => wpAny_pure ?_) (F.args_zip_next_1 _))))
    exact hQ x1 x2 h' tk y1 y2 ⟨hk _ _ S.TIz S.TIi1 S.TIi2 hTI, ⟨oO, hk _ _ S.TOz (fun e => S.Tf1 (e ▸ S.mem1)) (fun e => S.Tf2 (e ▸ S.mem2)) hO⟩, d1, d2, .inr ⟨T, true, oT, b1, hk T oT t0 t3 t4 hT, tc, t0, t1, t2, t3, t4⟩⟩ b5 b6 fun c o c1 _ c2 c3 e => hk c o c1 c2 c3 e
theorem zs_end {Q : Option Value → Shared → Prop} (S : ZipSep2 z TI TO i1 i2 fp1 fp2) (D1 : Draws prog w A.in1 i1 fp1 n1 P1 St1) (D2 : Draws prog w A.in1 i2 fp2 n2 P2 St2) (st : ZSt z TI TO i1 i2 St1 St2 i s.heap) (hle1 : i ≤ n1) (hle2 : i ≤ n2) (hend : i = n1 ∨ i = n2)
    (hQ : ∀ h' tk, (∀ c o, c ≠ z → c ≠ TO → c ≠ i1 → c ≠ i2 → s.heap.get? c = some o → h'.get? c = some o) → Q none { s with heap := h', toks := tk }) : wpAny (model prog w) A (pyNext (.ref z)) Q E s := by
  obtain ⟨hTI, _, st1, st2, hh⟩ := st
  rcases hh with ⟨hz, a1, a2, hTO⟩ | ⟨T, f, oT, hz, hT, tc, t0, t1, t2, t3, t4⟩
  · exact wpAny_pyNext_zipD2_end S D1 D2 hz hTI hTO st1 st2 hle1 hle2 hend hQ
  · have hTy : s.TypeIs (.ref z) "zip" := ⟨_, hz, rfl⟩
    unfold pyNext
    refine wpAny_bind (wpAny_attempt (wpAny_callSpecial?_slot (name := Str.ofString "__next__") hTy F.slot_zip_next
      (wpAny_call_entry F.slot_zip_next hTy F.entry_zip_next (zip_end_held S D1 D2 hz hT hTI st1 st2 hle1 hle2 hend fun h' tk e hk he => ?_) (F.args_zip_next_1 _))))
    obtain ⟨o, ho, hc⟩ := he
    refine wpAny_bind (wpAny_isInstance (T := "StopIteration") (b := true) ⟨o, ho, hc⟩ isSubtype_stop ?_)
    exact wpAny_pure (hQ _ _ fun c o c1 _ c2 c3 e => hk c o c1 c2 c3 e)
theorem zip_nolen : typeLookup (.type "zip") "__len__" = pure none := by rw [typeLookup_type, builtinLookup_eq_fast]; kernel_rfl
theorem zip_nohint : typeLookup (.type "zip") "__length_hint__" = pure none := by rw [typeLookup_type, builtinLookup_eq_fast]; kernel_rfl
end

theorem ZSt.frame {prog : Program} {w : World} {A : Around} {z TI TO i1 i2 q : Addr} {fp1 fp2 : List Addr} {n1 n2 i : Nat} {P1 P2 : Nat → Value → Prop} {St1 St2 : Nat → Heap → Prop} {h h' : Heap} {oq : Obj} (D1 : Draws prog w A i1 fp1 n1 P1 St1) (D2 : Draws prog w A i2 fp2 n2 P2 St2) (st : ZSt z TI TO i1 i2 St1 St2 i h)
    (hq : h.get? q = some oq) (hqc : oq.cls = .type "list") (k : ∀ b o, b ≠ q → h.get? b = some o → h'.get? b = some o) (q0 : q ≠ z) (q1 : q ≠ TI) (q2 : q ≠ TO) (q3 : q ∉ fp1) (q4 : q ∉ fp2) : ZSt z TI TO i1 i2 St1 St2 i h' := by
  obtain ⟨hTI, ⟨oO, hO⟩, st1, st2, hh⟩ := st
  refine ⟨k _ _ (Ne.symm q1) hTI, ⟨oO, k _ _ (Ne.symm q2) hO⟩, D1.frame _ _ _ st1 fun b hb o e => k b o (fun y => q3 (y ▸ hb)) e, D2.frame _ _ _ st2 fun b hb o e => k b o (fun y => q4 (y ▸ hb)) e, ?_⟩
  rcases hh with ⟨hz, a1, a2, hTO⟩ | ⟨T, f, oT, hz, hT, tc, t⟩
  · exact .inl ⟨k _ _ (Ne.symm q0) hz, a1, a2, k _ _ (Ne.symm q2) hTO⟩
  · refine .inr ⟨T, f, oT, k _ _ (Ne.symm q0) hz, k _ _ (fun y => ?_) hT, tc, t⟩
    subst y
    rw [hT] at hq
    cases hq
    have y := tc.symm.trans hqc
    injection y with y
    exact absurd y (by decide)
/-- a list of pairs -/
def zipD (xs ys : List D) : List D := (xs.zip ys).map fun p => .tup [p.1, p.2]
section
variable {X : Cx} {G : Glo} {pins : List (Addr × Obj)} {σ : L2.St}
theorem zip_loop {A1 : Around} {S0 H0 : Hp} {z TI TO i1 i2 q : Addr} {fp1 fp2 : List Addr} {P1 P2 : Nat → Value → Prop} {St1 St2 : Nat → Heap → Prop} {xs ys : List D} {Rs : Result → Shared → Prop} {vx vy : List V}
    (S : ZipSep2 z TI TO i1 i2 fp1 fp2) (D1 : Draws X.prog X.w A1.in1.in1 i1 fp1 xs.length P1 St1) (D2 : Draws X.prog X.w A1.in1.in1 i2 fp2 ys.length P2 St2)
    (hP1 : ∀ i u, P1 i u → ∃ v, vx[i]? = some v ∧ RelV v u) (hP2 : ∀ i u, P2 i u → ∃ v, vy[i]? = some v ∧ RelV v u) (hx : RpL G S0 H0 xs vx []) (hy : RpL G S0 H0 ys vy [])
    (q0 : q ≠ z) (q1 : q ≠ TI) (q2 : q ≠ TO) (q3 : q ∉ fp1) (q4 : q ∉ fp2) (hsz : xs.length ≤ sizeLine)
    (hR : ∀ S' H' vs s', Inv X pins σ H' s' → Step S0 H0 [q] S' H' [q] → H' q = some (.lst vs) → RpL G S' H' (zipD xs ys) vs [] → Rs (.ok (.ret .none)) s') :
    ∀ (n i : Nat) (s : Shared) (S' H' : Hp) (vs : List V), min xs.length ys.length - i = n → i ≤ min xs.length ys.length → Inv X pins σ H' s → Step S0 H0 [q] S' H' [q] → H' q = some (.lst vs) → RpL G S' H' ((zipD xs ys).take i) vs [] → ZSt z TI TO i1 i2 St1 St2 i s.heap →
      (∀ c ∈ [z, TO, i1, i2], FpOk X pins H' c) → codeAny (model X.prog X.w) A1 (.builtin "list.extend.loop" ⟨[.ref q, .ref z, .none], []⟩) Rs s := by
  have hzl : (zipD xs ys).length = min xs.length ys.length := by simp [zipD]
  intro n
  induction n with
  | zero =>
    intro i s S' H' vs hi hle I st hq rp zs hf
    refine codeAny_builtin PySem.F.entry_extend_loop ?_
    rw [Around.under_plainId PySem.F.plain_extend_loop _]
    show wpAny _ A1.in1 (pyNext (.ref z) >>= _) _ _ s
    refine wpAny_bind (zs_end S D1 D2 zs (by omega) (by omega) (by omega) fun h' tk hk => ?_)
    have I1 : Inv X pins σ H' { s with heap := h', toks := tk } := I.turnedL (t' := tk) (ch := [z, TO, i1, i2]) (fun c o hb e => hk c o (fun y => hb (by simp [y])) (fun y => hb (by simp [y])) (fun y => hb (by simp [y])) (fun y => hb (by simp [y])) e) hf
    rw [List.take_of_length_le (by omega)] at rp
    exact wpAny_pure (hR S' H' vs _ I1 st hq rp)
  | succ n ih =>
    intro i s S' H' vs hi hle I st hq rp zs hf
    have lx : i < xs.length := by omega
    have ly : i < ys.length := by omega
    refine codeAny_builtin PySem.F.entry_extend_loop ?_
    rw [Around.under_plainId PySem.F.plain_extend_loop _]
    show wpAny _ A1.in1 (pyNext (.ref z) >>= _) _ _ s
    refine wpAny_bind (zs_item S D1 D2 zs lx ly fun x1 x2 h' tk y1 y2 zs' hT hsz' hk => ?_)
    obtain ⟨v1, e1, r1⟩ := hP1 _ _ y1
    obtain ⟨v2, e2, r2⟩ := hP2 _ _ y2
    have hTn : H' s.heap.objs.size = none := I.hok.fresh (Nat.le_refl _)
    have new : ObjOk X.prog X.w (upd H' s.heap.objs.size (.tup [v1, v2])) h' s.heap.objs.size (.tup [v1, v2]) :=
      ⟨by show 2 ≤ sizeLine; decide, [x1, x2], .cons r1 (.cons r2 .nil), ⟨_, hT, rfl, _, rfl⟩⟩
    have I1 : Inv X pins σ (upd H' s.heap.objs.size (.tup [v1, v2])) { s with heap := h', toks := tk } :=
      I.turnedNew (t' := tk) (ch := [z, TO, i1, i2]) (fun c o hb e => hk c o (fun y => hb (by simp [y])) (fun y => hb (by simp [y])) (fun y => hb (by simp [y])) (fun y => hb (by simp [y])) e) hf (Nat.le_refl _) new
    have hqT : q ≠ s.heap.objs.size := ne_of_none hq hTn
    have hq1 : upd H' s.heap.objs.size (.tup [v1, v2]) q = some (.lst vs) := by rw [upd_ne hqT]; exact hq
    show wpAny _ A1.in1 (updateSeq q (·.push (.ref s.heap.objs.size)) >>= _) _ _ _
    obtain ⟨zz, its, k, r3, hl, e⟩ := I1.lstM hq1
    have hvl : vs.length = i := by rw [rp.length, List.length_take]; omega
    refine wpAny_bind (wpAny_updateSeq e rfl (wpAny_pure ⟨plainId_quiet PySem.F.plain_extend_loop _, ?_⟩) (by rw [List.size_toArray, ← hl]; omega) (by show (its.toArray.push _).size ≤ sizeLine + 1; rw [Array.size_push, List.size_toArray, ← hl]; omega))
    have I2 := I1.lset (its' := its ++ [.ref s.heap.objs.size]) (ys := vs ++ [.ref s.heap.objs.size]) (f := (·.push (.ref s.heap.objs.size))) (t' := tk) hq1 e (by simp) (r3.append (.cons (show RelV (.ref s.heap.objs.size) (.ref s.heap.objs.size) from rfl) .nil)) (by rw [List.length_append, List.length_singleton]; omega)
    -- the state
    have st1 := st.trans (Step.newS (o := .tup [v1, v2]) st.ok hTn)
    have st2 := st1.trans (Step.mut (a := q) (o := .lst (vs ++ [.ref s.heap.objs.size])) st1.ok (by simp) trivial)
    have dx : ∃ d, xs[i]? = some d := ⟨xs[i], List.getElem?_eq_getElem lx⟩
    obtain ⟨d1, ed1⟩ := dx
    have dy : ∃ d, ys[i]? = some d := ⟨ys[i], List.getElem?_eq_getElem ly⟩
    obtain ⟨d2, ed2⟩ := dy
    obtain ⟨w1, ew1, rp1⟩ := hx.get ed1
    obtain ⟨w2, ew2, rp2⟩ := hy.get ed2
    rw [e1] at ew1; cases ew1
    rw [e2] at ew2; cases ew2
    have hzi : (zipD xs ys)[i]? = some (.tup [d1, d2]) := by
      unfold zipD
      simp [List.zip, List.getElem?_zipWith, ed1, ed2]
    refine ih (i + 1) _ (upd S' s.heap.objs.size (.tup [v1, v2])) _ _ (by omega) (by omega) I2 st2 upd_same ?_ ?_ ?_
    · rw [List.take_add_one, hzi]
      have ra := rp.mono (S' := upd S' s.heap.objs.size (.tup [v1, v2])) (H' := upd (upd H' s.heap.objs.size (.tup [v1, v2])) q (.lst (vs ++ [.ref s.heap.objs.size]))) (fun b u e => by
        rw [upd_ne]
        · exact e
        · intro y
          subst y
          rw [st.ok.sub _ _ e] at hTn
          cases hTn) (by simp)
      have := ra.app (.one (d := .tup [d1, d2]) (v := .ref s.heap.objs.size) (fp := []) ⟨_, [v1, v2], rfl, rfl, .inl upd_same, v1, [v2], [], [], rfl, rfl, rp1.mono st2.stay (by simp), v2, [], [], [], rfl, rfl, rp2.mono st2.stay (by simp), rfl, rfl⟩)
      simpa using this
    · refine ZSt.frame (oq := { cls := .type "list", data := .seq its.toArray k }) D1 D2 zs' e rfl (fun b o hb eb => (Heap.get?_update_other h' _ (Ne.symm hb)).trans eb) q0 q1 q2 q3 q4
    · intro c hc
      obtain ⟨f0, f1⟩ := hf c hc
      refine ⟨?_, f1⟩
      have hcq : c ≠ q := fun y => by subst y; rw [hq] at f0; cases f0
      have hcT : c ≠ s.heap.objs.size := by
        have hobj : ∃ o, s.heap.get? c = some o := by
          obtain ⟨hTI, hO, st1', st2', hh⟩ := zs
          have e' : c = z ∨ c = TO ∨ c = i1 ∨ c = i2 := by simpa using hc
          rcases e' with y | y | y | y
          · subst y
            rcases hh with ⟨hz, _⟩ | ⟨T, f, oT, hz, _⟩
            · exact ⟨_, hz⟩
            · exact ⟨_, hz⟩
          · subst y; exact hO
          · subst y; exact D1.live _ _ st1'
          · subst y; exact D2.live _ _ st2'
        obtain ⟨o, ho⟩ := hobj
        exact Nat.ne_of_lt (Heap.lt_size ho)
      rw [upd_ne hcq, upd_ne hcT]
      exact f0
end
end Ta

/-! Ta.Z2: list(zip(a, b)) as an expression. -/
namespace Ta
open PySem PySem.Spec L2
def lzSeq : D → Option (List D)
  | .lst _ xs => if clL xs then some xs else none
  | .tup xs => some xs
  | _ => none
def lzD : List D → Option D
  | [d, e] => match lzSeq d, lzSeq e with
    | some xs, some ys => if xs.length ≤ sizeLine then some (.lst true (zipD xs ys)) else none
    | _, _ => none
  | _ => none
theorem vals_getR : ∀ {xs : List V} {us : List Value} {i : Nat} {u : Value}, Vals xs us → us[i]? = some u → ∃ x, xs[i]? = some x ∧ RelV x u
  | _, _, i, u, .nil, e => by cases e
  | _, _, 0, u, .cons h _, e => by cases e; exact ⟨_, rfl, h⟩
  | _, _, i + 1, u, .cons _ t, e => vals_getR (i := i) t (by simpa using e)
/-- what zip begins at -/
def LzSrc (X : Cx) (G : Glo) (S H : Hp) (h0 : Heap) (xs : List D) (v : V) : Prop :=
  ∃ a its vs ob Hh, v = .ref a ∧ RpL G S H xs vs [] ∧ Vals vs its ∧ Begins (.ref a) ob Hh ∧ Hh h0 ∧ (∃ oa, h0.get? a = some oa) ∧
      ∀ (A : Around), A.handled = none → ∀ it, a ≠ it → ∃ St, Draws X.prog X.w A it [it, a] its.length (fun i u => its[i]? = some u) St ∧ ∀ h, h.get? it = some ob → Hh h → St 0 h
section
variable {X : Cx} {G : Glo} {pins : List (Addr × Obj)} {σ : L2.St}
theorem lz_src (hK : G.K = X.K) {S H : Hp} {s : Shared} {d : D} {xs : List D} {v : V} {fp : List Addr} (I : Inv X pins σ H s) (o : Ok S H fp) (e : lzSeq d = some xs) (h : Rp G S H d v fp) : LzSrc X G S H s.heap xs v := by
  have lst : ∀ {a : Addr} {vs : List V}, SqL X.K H a vs → RpL G S H xs vs [] → LzSrc X G S H s.heap xs (.ref a) := fun {a vs} hq rp => by
    obtain ⟨its, rv, pl, hz⟩ := I.list hq
    obtain ⟨oa, eo, _⟩ := id pl.isList
    refine ⟨a, its, vs, _, _, rfl, rp, rv, begins_list a its.toArray, pl.isList, ⟨oa, eo⟩, fun A hh it hne => ⟨fun i h => h.IsListIter it a i ∧ h.IsList a its.toArray, ?_, fun h ho hl => ⟨⟨_, ho, rfl, rfl⟩, hl⟩⟩⟩
    have := Draws.list (prog := X.prog) (w := X.w) hh it a hne its.toArray
    simpa using this
  unfold lzSeq at e
  split at e
  next ob ys =>
    split at e
    next hc =>
      cases e
      obtain ⟨a, vs, rfl, h⟩ := h
      cases ob with
      | true =>
        obtain ⟨fp', rfl, h1, h2⟩ := h
        obtain rfl := h2.fp_nil hc
        exact lst (.of h1) h2
      | false =>
        obtain ⟨rfl, h1, h2⟩ := h
        exact lst (.inl (Same.rd o.sub h1)) h2
    next => cases e
  next ys =>
    cases e
    obtain ⟨a, vs, rfl, rfl, h1, h2⟩ := h
    have hq : SqT X.K H a vs := by rw [← hK]; exact Same.sqT o.sub h1.sq
    obtain ⟨its, rv, pl, hz⟩ := I.tuple hq
    obtain ⟨oa, eo, _⟩ := id pl
    refine ⟨a, its, vs, _, _, rfl, h2, rv, begins_tuple a its.toArray, pl, ⟨oa, eo⟩, fun A hh it hne => ⟨fun i h => h.IsTupleIter it a i ∧ h.IsTuple a its.toArray, ?_, fun h ho hl => ⟨⟨_, ho, rfl, rfl⟩, hl⟩⟩⟩
    have := Draws.tuple (prog := X.prog) (w := X.w) hh it a hne its.toArray
    simpa using this
  next => cases e
theorem lz_run (hc : X.calm = true) {S H : Hp} {s1 : Shared} {FP : List Addr} {xs ys : List D} {vx vy : V} {ux uy : Value} {Q : VK} (I1 : Inv X pins σ H s1) (o : Ok S H FP) (rx : RelV vx ux) (ry : RelV vy uy) (sx : LzSrc X G S H s1.heap xs vx) (sy : LzSrc X G S H s1.heap ys vy) (hsz : xs.length ≤ sizeLine)
    (kq : ∀ v S' H' fp, Step S H FP S' H' fp → Rp G S' H' (.lst true (zipD xs ys)) v fp → Q v H') :
    wpAny (model X.prog X.w) X.A (PySem.call (Value.type "zip") [ux, uy]) (fun z s2 => wpAny (model X.prog X.w) X.A (PySem.call (Value.type "list") [z]) (EP X pins σ Q) X.xe s2) X.xe s1 := by
  obtain ⟨a, itx, wx, obx, Hx, rfl, rpx, rvx, Bx, hx0, ⟨oa, eoa⟩, Dx⟩ := sx
  obtain ⟨b, ity, wy, oby, Hy, rfl, rpy, rvy, By, hy0, ⟨ob, eob⟩, Dy⟩ := sy
  cases rx
  cases ry
  have la := Heap.lt_size eoa
  have lb := Heap.lt_size eob
  refine zip_begins2 Bx By hx0 hy0 fun h' hz hTI hTO h1 h2 hsz' hk => ?_
  have I2 : Inv X pins σ H { s1 with heap := h' } := I1.kept (t' := s1.toks) hk
  -- the new list
  refine callType_codes (Q₁ := fun obj s₁ => obj = .ref h'.objs.size ∧ s₁ = { s1 with heap := h'.push { cls := .type "list", data := .seq #[] } }) PySem.F.called_list (PySem.F.typeCall_list_1 _) PySem.F.entry_list_init
    (code_list_new _ ⟨rfl, rfl⟩) fun obj s₁ h₁ => ?_
  obtain ⟨rfl, rfl⟩ := h₁
  have hS : (h'.push { cls := .type "list", data := .seq #[] }).get? h'.objs.size = some { cls := .type "list", data := .seq #[] } := Heap.get?_push_size _ rfl
  refine ⟨⟨_, hS, rfl⟩, PySem.F.args_list_init_2 _ _, ?_⟩
  have fr : H h'.objs.size = none := I2.hok.fresh (Nat.le_refl _)
  have I3 : Inv X pins σ (upd H h'.objs.size (.lst [])) { s1 with heap := h'.push { cls := .type "list", data := .seq #[] } } := I2.lnew (its := []) (t' := s1.toks) .nil (Nat.zero_le _)
  generalize hq0 : h'.objs.size = q at *
  generalize hn0 : s1.heap.objs.size = n at *
  show wpAny _ _ (do let old ← Builtin.List.listItems (.ref q); Builtin.List.listUpdate (.ref q) (fun _ => #[]); letGo old.toList.reverse; Builtin.List.listExtendWith (.ref q) (.ref (n + 4)) .none) _ _ _
  refine wpAny_bind ?_
  unfold Builtin.List.listItems
  refine wpAny_bind (wpAny_seqItems hS rfl (wpAny_pure ?_))
  show wpAny _ _ (updateSeq q (fun _ => #[]) >>= fun _ => letGo (#[] : Array Value).toList.reverse >>= fun _ => Builtin.List.listExtendWith (.ref q) (.ref (n + 4)) .none) _ _ _
  refine wpAny_bind (wpAny_updateSeq hS rfl ?_)
  have I4 := I3.lset (f := fun _ => #[]) (its := []) (its' := []) (ys := []) (t' := s1.toks) upd_same hS rfl .nil (Nat.zero_le _)
  rw [upd_upd] at I4
  refine wpAny_bind (wpAny_letGo ?_)
  -- what stands
  have nq : ∀ c u, h'.get? c = some u → c ≠ q := fun c u e => by rw [← hq0]; exact Nat.ne_of_lt (Heap.lt_size e)
  have k4 : ∀ c u, h'.get? c = some u → ((h'.push { cls := .type "list", data := .seq #[] }).update q (Obj.mapSeq fun _ => #[])).get? c = some u := fun c u e => (Heap.get?_update_other _ _ (Ne.symm (nq c u e))).trans (Heap.get?_push_of_some _ e)
  have hz4 := k4 _ _ hz
  have qeq : q = n + 5 := hsz'
  have ofs : ∀ k, k < 5 → n + k ≠ q := fun k hk' => by rw [qeq]; exact Nat.ne_of_lt (Nat.add_lt_add_left hk' n)
  have ndf : ∀ j k, j ≠ k → n + j ≠ n + k := fun j k hjk => by omega
  have an : ∀ k, a ≠ n + k := fun k => Nat.ne_of_lt (Nat.lt_of_lt_of_le la (Nat.le_add_right n k))
  have bn : ∀ k, b ≠ n + k := fun k => Nat.ne_of_lt (Nat.lt_of_lt_of_le lb (Nat.le_add_right n k))
  have Sep : ZipSep2 (n + 4) (n + 2) (n + 3) n (n + 1) [n, a] [n + 1, b] := {
    TIz := ndf 2 4 (by decide), TOz := ndf 3 4 (by decide), TITO := ndf 2 3 (by decide), TIi1 := ndf 2 0 (by decide), mem1 := by simp, zf1 := by simp [ndf 4 0 (by decide), Ne.symm (an 4)], Tf1 := by simp [ndf 3 0 (by decide), Ne.symm (an 3)],
    TIi2 := ndf 2 1 (by decide), mem2 := by simp, zf2 := by simp [ndf 4 1 (by decide), Ne.symm (bn 4)], Tf2 := by simp [ndf 3 1 (by decide), Ne.symm (bn 3)], sep1_2 := by simp; exact fun e => (bn 0) e.symm, sep2_1 := by simp [ndf 1 0 (by decide), Ne.symm (an 1)] }
  obtain ⟨St1, D1, s1'⟩ := Dx X.A.in1.in1.in1 (I4.ok.hd hc) n (an 0)
  obtain ⟨St2, D2, s2'⟩ := Dy X.A.in1.in1.in1 (I4.ok.hd hc) (n + 1) (bn 1)
  have zs0 : ZSt (n + 4) (n + 2) (n + 3) n (n + 1) St1 St2 0 h' := ⟨hTI, ⟨_, hTO⟩, s1' _ h1 (Bx.keeps _ _ hx0 hk), s2' _ h2 (By.keeps _ _ hy0 hk), .inl ⟨hz, _, _, hTO⟩⟩
  have lx : itx.length = xs.length := by rw [← rvx.length, rpx.length]
  have ly : ity.length = ys.length := by rw [← rvy.length, rpy.length]
  rw [lx] at D1
  rw [ly] at D2
  have qfp1 : q ∉ [n, a] := by
    simp
    exact ⟨fun e => ofs 0 (by decide) e.symm, fun e => (nq a _ (hk _ _ eoa)) e.symm⟩
  have qfp2 : q ∉ [n + 1, b] := by
    simp
    exact ⟨fun e => ofs 1 (by decide) e.symm, fun e => (nq b _ (hk _ _ eob)) e.symm⟩
  have hf : ∀ H', H' (n + 4) = none → H' (n + 3) = none → H' n = none → H' (n + 1) = none → ∀ c ∈ [n + 4, n + 3, n, n + 1], FpOk X pins H' c := fun H' e4 e3 e0 e1 c hcm => by
    have hle : s1.heap.objs.size ≤ c := by
      have e' : c = n + 4 ∨ c = n + 3 ∨ c = n ∨ c = n + 1 := by simpa using hcm
      rw [hn0]
      rcases e' with y | y | y | y
      · rw [y]; exact Nat.le_add_right _ _
      · rw [y]; exact Nat.le_add_right _ _
      · rw [y]; exact Nat.le_refl _
      · rw [y]; exact Nat.le_add_right _ _
    have hnn : H' c = none := by
      have e' : c = n + 4 ∨ c = n + 3 ∨ c = n ∨ c = n + 1 := by simpa using hcm
      rcases e' with y | y | y | y
      · rw [y]; exact e4
      · rw [y]; exact e3
      · rw [y]; exact e0
      · rw [y]; exact e1
    exact I1.fpOk hle hnn
  have hno : ∀ k, k < 5 → H (n + k) = none := fun k _ => I1.hok.fresh (by rw [hn0]; exact Nat.le_add_right _ _)
  have o0 : Ok S H [] := o.sublist (List.nil_sublist _)
  have st0 : Step S H [] S (upd H q (.lst [])) [q] := Step.new o0 fr trivial
  have st00 : Step S H FP S (upd H q (.lst [])) [q] := (Step.new (o := .lst []) o fr trivial).sublist (by exact List.Sublist.cons₂ q (List.nil_sublist _))
  have rpx' : RpL G S (upd H q (.lst [])) xs wx [] := rpx.mono (Same.refl _) (by simp)
  have rpy' : RpL G S (upd H q (.lst [])) ys wy [] := rpy.mono (Same.refl _) (by simp)
  have fin : ∀ S' H' vs s', Inv X pins σ H' s' → Step S (upd H q (.lst [])) [q] S' H' [q] → H' q = some (.lst vs) → RpL G S' H' (zipD xs ys) vs [] → wants (fun r s₂ => r = .none ∧ EP X pins σ Q (.ref q) s₂) X.xe (.ok (.ret .none)) s' := fun S' H' vs s' I' st hq rp =>
    ⟨rfl, .ref q, H', I', rfl, kq (.ref q) S' H' [q] (st00.trans st) ⟨q, vs, rfl, [], rfl, hq, rp⟩⟩
  have go : ∀ s', Inv X pins σ (upd H q (.lst [])) s' → ZSt (n + 4) (n + 2) (n + 3) n (n + 1) St1 St2 0 s'.heap → codeAny (model X.prog X.w) X.A.in1 (.builtin "list.extend.loop" ⟨[.ref q, .ref (n + 4), .none], []⟩) (wants (fun r s₂ => r = .none ∧ EP X pins σ Q (.ref q) s₂) X.xe) s' := fun s' I' zs' =>
    zip_loop (A1 := X.A.in1) (vx := wx) (vy := wy) (S0 := S) (H0 := upd H q (.lst [])) Sep D1 D2 (fun i u e => by
        obtain ⟨v, hv, rv⟩ := vals_getR rvx e
        exact ⟨v, hv, rv⟩) (fun i u e => by
        obtain ⟨v, hv, rv⟩ := vals_getR rvy e
        exact ⟨v, hv, rv⟩) rpx' rpy' (Ne.symm (ofs 4 (by decide))) (Ne.symm (ofs 2 (by decide))) (Ne.symm (ofs 3 (by decide))) qfp1 qfp2 hsz fin _ 0 s' S (upd H q (.lst [])) [] rfl (Nat.zero_le _) I' (Step.refl st0.ok) upd_same (by rw [List.take_zero]; exact ⟨rfl, rfl⟩) zs'
        (hf _ (by rw [upd_ne (ofs 4 (by decide))]; exact hno 4 (by decide)) (by rw [upd_ne (ofs 3 (by decide))]; exact hno 3 (by decide)) (by rw [upd_ne (show n ≠ q from ofs 0 (by decide))]; exact hno 0 (by decide)) (by rw [upd_ne (ofs 1 (by decide))]; exact hno 1 (by decide)))
  -- extend
  unfold Builtin.List.listExtendWith
  have hT : Shared.TypeIs { s1 with heap := (h'.push { cls := .type "list", data := .seq #[] }).update q (Obj.mapSeq fun _ => #[]) } (.ref (n + 4)) "zip" := ⟨_, hz4, rfl⟩
  refine wpAny_bind (wpAny_typeOf hT ?_)
  have h1' : Builtin.List.listSameRef (.ref q) (.ref (n + 4)) = false := by simp [Builtin.List.listSameRef, Ne.symm (ofs 4 (by decide))]
  have h2' : (Value.type "zip" == Value.type "list") = false := by decide
  have h3' : (Value.type "zip" == Value.type "tuple") = false := by decide
  simp only [h1', h2', h3', Bool.or_false, Bool.false_eq_true, if_false]
  refine wpAny_bind (wpAny_pyIter_zip hz4 ?_)
  refine wpAny_bind (wpAny_holding ?_)
  unfold Builtin.List.listLengthHint
  refine wpAny_bind (wpAny_specialOf (name := Str.ofString "__len__") hT zip_nolen ?_)
  refine wpAny_bind (wpAny_specialOf (name := Str.ofString "__length_hint__") hT zip_nohint ?_)
  refine wpAny_pure ?_
  refine wpAny_ite_split (fun _ => ?_) (fun hb => absurd rfl hb)
  refine wpAny_bind (wpAny_rule ?_)
  refine wpAny_bind ?_
  obtain ⟨zz, its, k0, r3, hl3, e3'⟩ := I4.lstM upd_same
  cases r3
  show wpAny _ _ (updateSeq q (·.push .none) >>= fun _ => updateSeq q (·.pop)) _ _ _
  refine wpAny_bind (wpAny_updateSeq e3' rfl ?_)
  have I6 := I4.lset (f := (·.push Value.none)) (its' := [Value.none]) (ys := [.non]) (t' := s1.toks) upd_same e3' (by simp) (.cons rfl .nil) (by rw [List.length_singleton, sizeLine_eq]; decide)
  obtain ⟨z4, its4, k5, r4, hl4, e4⟩ := I6.lstM upd_same
  obtain ⟨u4, rfl, ru4⟩ := r4.one
  refine wpAny_updateSeq e4 rfl ?_ (by show 1 ≤ sizeLine; rw [sizeLine_eq]; decide) (by show 0 ≤ sizeLine + 1; exact Nat.zero_le _)
  have I7 := I6.lset (f := (·.pop)) (its := [u4]) (its' := []) (ys := []) (t' := s1.toks) upd_same e4 (by rfl) .nil (Nat.zero_le _)
  rw [upd_upd, upd_upd] at I7
  refine wpAny_pure ⟨plainId_quiet PySem.F.plain_extend_loop _, go _ I7 ?_⟩
  refine ZSt.frame (oq := { cls := .type "list", data := .seq #[] }) (h := h'.push { cls := .type "list", data := .seq #[] }) D1 D2 ?_ hS rfl (fun c u hb e => ?_) (Ne.symm (ofs 4 (by decide))) (Ne.symm (ofs 2 (by decide))) (Ne.symm (ofs 3 (by decide))) qfp1 qfp2
  · obtain ⟨y1, ⟨yO, y2⟩, y3, y4, y5⟩ := zs0
    refine ⟨Heap.get?_push_of_some _ y1, ⟨yO, Heap.get?_push_of_some _ y2⟩, D1.frame _ _ _ y3 fun b _ o e => Heap.get?_push_of_some _ e, D2.frame _ _ _ y4 fun b _ o e => Heap.get?_push_of_some _ e, ?_⟩
    rcases y5 with ⟨hz, a1, a2, hTO⟩ | ⟨T, f, oT, hz, hT, t⟩
    · exact .inl ⟨Heap.get?_push_of_some _ hz, a1, a2, Heap.get?_push_of_some _ hTO⟩
    · exact .inr ⟨T, f, oT, Heap.get?_push_of_some _ hz, Heap.get?_push_of_some _ hT, t⟩
  · have up := fun (g : Heap) (f : Array Value → Array Value) => Heap.get?_update_other g (Obj.mapSeq f) (Ne.symm hb)
    simp only [up]
    exact e
/-- list(zip(a, b)) -/
def mLz (ms : M (List D)) : M D := mCallN lzD ms
theorem ge_lz {G : Glo} {W : WX} {X : Cx} {a b : Expr} {ms : M (List D)} {p p2 pos pos2 : Pos} (hK : G.K = X.K) (hc : X.calm = true) (hml : X.mg "list" = none) (hmz : X.mg "zip" = none) (ha : GA G W X [a, b] ms) (hgl : Gl X "list" := by rfl) (hgz : Gl X "zip" := by rfl)
    (he : starEach [a, b] X.env = (false, eval a X.env) :: starEach [b] X.env := by rfl) (hpl : (backTo pos2 (starEach [b] X.env)).any (·.1) = false := by rfl)
    (he1 : starEach [Expr.Call (.Name "zip" p2) [a, b] [] pos2] X.env = (false, eval (.Call (.Name "zip" p2) [a, b] [] pos2) X.env) :: starEach [] X.env := by rfl) (hpl1 : (backTo pos (starEach [] X.env)).any (·.1) = false := by rfl) :
    GE G W X (.Call (.Name "list" p) [.Call (.Name "zip" p2) [a, b] [] pos2] [] pos) (mLz ms) := by
  refine ⟨fun pins s σ H Q I h => ?_⟩
  obtain ⟨ρ, S, FP, o, r, p⟩ := h
  refine PyProof.Rows.Call_ (ld_blt (u := .type "list") I hgl hml PyProof.Rows.boot_list (PyProof.Rows.callWith_type1 ?_ he1 hpl1))
  rw [he1]
  refine Calls.spliced_cons ?_
  refine PyProof.Rows.Call_ (ld_blt (u := .type "zip") I hgz hmz PyProof.Rows.boot_zip (PyProof.Rows.callWith_type1 ?_ he hpl))
  refine thn (ha.run pos2 pins s σ H (fun vs H1 => ∃ S1 fp1 FP1 d ds, Ok S1 H1 (fp1 ++ FP1) ∧ RpL G S1 H1 ds vs fp1 ∧ lzD ds = some d ∧ ∀ v S' H' fp, Step S1 H1 fp1 S' H' fp → Rp G S' H' d v fp → Q v H') I ?_) fun us s1 ⟨vs, H1, I1, r1, S1, fp1, FP1, d, ds, o1, rp1, e, kk⟩ => ?_
  · refine tAOf_from (Step.refl o) r p fun ds ρ1 vs S1 H1 fp1 FP1 st1 rp1 re1 p1 => ?_
    obtain ⟨d, e, k⟩ := opt_post p1
    exact ⟨S1, fp1, FP1, d, ds, st1.ok, rp1, e, fun v S' H' fp st3 rp => k v S' H' fp FP1 (st1.trans (st3.frameR st1.ok)) rp (re1.step st1.ok st3)⟩
  unfold lzD at e
  split at e
  next d1 d2 =>
    split at e
    next xs ys q1 q2 =>
      split at e
      next hsz =>
        cases e
        obtain ⟨x, vs', f1, f2, rfl, rfl, g1, g2⟩ := rp1
        obtain ⟨y, vs'', f3, f4, rfl, rfl, g3, g4⟩ := g2
        obtain ⟨rfl, rfl⟩ := g4
        obtain ⟨ux, uy, rfl, rx, ry⟩ := r1.two
        have o2 : Ok S1 H1 (f1 ++ (f3 ++ [])) := o1.left
        refine wpAny_mono (lz_run hc I1 o2 rx ry (lz_src hK I1 o2.left q1 g1) (lz_src hK I1 (by simpa using o2.right) q2 g3) hsz kk) (fun z s2 hz => ?_) fun _ _ y => y
        exact Calls.spliced_nil (by simpa using hz)
      next => cases e
    next => cases e
  next => cases e
end
end Ta

/-! Ta.L3: list comprehensions of two clauses. -/
namespace Ta
open PySem PySem.Spec L2
def lc2Loop (t : Tg) (mt : M Bool) (mi1 : M (List D)) (t1 : Tg) (mt1 : M Bool) (me : M D) (vs1 : List Nat) (ρc : Rho) : List D → Option (List D)
  | [] => some []
  | d :: ds => match t.put d ρc with
    | none => none
    | some ρ1 => match mt ρ1 with
      | some (.ok true, ρ2) => match mi1 ρ2 with
        | some (.ok es, ρ3) => match lcLoop t1 mt1 me (wipeE (clE ρ3) vs1) es with
          | some ys => (lc2Loop t mt mi1 t1 mt1 me vs1 ρc ds).map (ys ++ ·)
          | none => none
        | _ => none
      | some (.ok false, _) => lc2Loop t mt mi1 t1 mt1 me vs1 ρc ds
      | _ => none
def mLc2 (own vs1 : List Nat) (t : Tg) (mi : M (List D)) (mt : M Bool) (t1 : Tg) (mi1 : M (List D)) (mt1 : M Bool) (me : M D) : M D := M.bind mi fun ds => fun ρ => match lc2Loop t mt mi1 t1 mt1 me vs1 (wipeE (clE ρ) own) ds with
  | some ys => if ys.length ≤ 16777000 then some (.ok (.lst true ys), ρ) else none
  | none => none
section
variable {G : Glo} {W : WX} {X : Cx}
theorem nil_of {S H S' H' : Hp} {FP : List Addr} (st : Step S H [] S' H' FP) (h : ∀ b ∈ FP, ∃ u, H b = some u) : FP = [] := by
  cases FP with
  | nil => rfl
  | cons b _ =>
    rcases st.fps b List.mem_cons_self with z | z
    · cases z
    · obtain ⟨u, hu⟩ := h b List.mem_cons_self
      rw [z] at hu; cases hu
/-- the second clause's loop -/
theorem lc_in {J : It} {t : Tg} {mt : M Bool} {me : M D} {vs1 : List Nat} {ds acc0 ys tot : List D} {σ : L2.St} {S S0 H0 H : Hp} {ρ : Rho} {DD : Addr} {vs0 : List V} {fp0 : List Addr} {Nx : Hp → Prop} (hown : ∀ i ∈ t.slots, i ∈ vs1) (st0 : Step S0 H0 [] S H (DD :: fp0)) (hv0 : H DD = some (.lst vs0)) (rl0 : RpL G S H acc0 vs0 fp0) (re : RpE G S H σ ρ []) (sv : Serves G J S ds)
    (e : lcLoop t mt me (wipeE (clE ρ) vs1) ds = some ys) (htot : ∃ zs, tot = acc0 ++ (ys ++ zs)) (hsz : tot.length ≤ 16777000)
    (k : ∀ S' H' vs fp, Step S0 H0 [] S' H' (DD :: fp) → H' DD = some (.lst vs) → RpL G S' H' (acc0 ++ ys) vs fp → Nx H') :
    ∃ W1 : Nat → Nat → Hp → Prop, (∃ m, W1 0 m H) ∧ ∀ j n H, W1 j n H →
      (J.stop j H ∧ Nx H) ∨ (J.go j H ∧ ∃ Nx1 : Hp → Prop, (∀ H', Nx1 H' → ∃ k', k' < n ∧ W1 (j + 1) k' H') ∧ ∀ x H', J.yld j H x H' → gOf G.K t x (L2.wipe σ vs1) H' fun σ3 H5 => L2.wipe σ3 vs1 = L2.wipe σ vs1 ∧ tTOf G W0 mt σ3 H5 fun b H6 =>
        if b = true then tOf G W0 me σ3 H6 fun y H7 => ∃ acc, H7 DD = some (.lst acc) ∧ acc.length < sizeLine ∧ Nx1 (upd H7 DD (.lst (acc ++ [y]))) else Nx1 H6) := by
  refine ⟨fun i n H' => n = ds.length - i ∧ i ≤ ds.length ∧ ∃ S' acc vs fp, Step S0 H0 [] S' H' (DD :: fp) ∧ Same S S' ∧ (∀ b u, S b = some u → True) ∧ H' DD = some (.lst vs) ∧ RpL G S' H' acc vs fp ∧ (∃ zs, lcLoop t mt me (wipeE (clE ρ) vs1) (ds.drop i) = some zs ∧ acc0 ++ ys = acc ++ zs), ⟨ds.length, by simp, Nat.zero_le _, S, acc0, vs0, fp0, st0, Same.refl _, fun _ _ _ => trivial, hv0, rl0, ys, e, rfl⟩, ?_⟩
  rintro i n H' ⟨rfl, hi, S', acc, vs, fp, st, sm0, _, hv, rl, zs, ez, ey⟩
  obtain ⟨sv1, sv2⟩ := sv i S' H' sm0 (st.ok.sublist (List.nil_sublist _))
  by_cases hlt : i < ds.length
  · rw [List.drop_eq_getElem_cons hlt] at ez
    obtain ⟨go, yl⟩ := sv1 ds[i] (List.getElem?_eq_getElem hlt)
    refine .inr ⟨go, fun H2 => i + 1 ≤ ds.length ∧ ∃ S2 acc2 vs2 fp2, Step S0 H0 [] S2 H2 (DD :: fp2) ∧ Same S S2 ∧ (∀ b u, S b = some u → True) ∧ H2 DD = some (.lst vs2) ∧ RpL G S2 H2 acc2 vs2 fp2 ∧ (∃ zs, lcLoop t mt me (wipeE (clE ρ) vs1) (ds.drop (i + 1)) = some zs ∧ acc0 ++ ys = acc2 ++ zs), fun H2 q => ⟨ds.length - (i + 1), by omega, rfl, q⟩, fun x H2 y => ?_⟩
    obtain ⟨S2, st2, rp2⟩ := yl x H2 y
    have s02 : Step S0 H0 [] S2 H2 (DD :: fp) := st.seq00 st2
    have reC : RpE G S2 H2 (L2.wipe σ vs1) (Ta.wipeE (Ta.clE ρ) vs1) [] := (re.clE.mono (sm0.trans st2.stay) (by simp)).wipeE vs1
    unfold lcLoop at ez
    split at ez
    · cases ez
    next ρ1 eput =>
      refine put_gOf rfl st2.ok reC rp2 eput fun is ws FQ his st3 re3 => ?_
      have fq : FQ = [] := nil_of st3 fun b hb => by
        obtain ⟨u, hu, _⟩ := st3.ok.there b hb
        exact ⟨u, hu⟩
      subst fq
      refine ⟨by rw [wipe_setAll (by rw [his]; exact hown), wipe_idem], ?_⟩
      refine ⟨ρ1, S2, [], st3.ok, re3, ?_⟩
      split at ez
      next ρ2 emt =>
        rw [emt]
        intro S3 H3 FP3 st4 re4
        rw [if_pos rfl]
        refine ⟨ρ2, S3, FP3, st4.ok, re4, ?_⟩
        split at ez
        next yv ρ3 eme =>
          rw [eme]
          intro v S4 H4 fp4 FP4 st5 rp5 re5
          have s24 : Step S2 H2 [] S4 H4 fp4 := (st4.trans st5).left
          have s04 : Step S0 H0 [] S4 H4 ((DD :: fp) ++ fp4) := s02.seq0 s24
          have hD2 : H2 DD = some (.lst vs) := by rw [st2.keep DD _ hv (by simp)]
          have hD4 : H4 DD = some (.lst vs) := s24.keep DD _ hD2 (by simp)
          have rl2 : RpL G S2 H2 acc vs fp := rl.stepN (st.ok.sublist (List.sublist_cons_self _ _)) st2
          have rl4 : RpL G S4 H4 acc vs fp := rl2.stepN (s02.ok.sublist (List.sublist_cons_self _ _)) s24
          cases q : lcLoop t mt me (wipeE (clE ρ) vs1) (ds.drop (i + 1)) with
          | none => rw [q] at ez; cases ez
          | some zs' =>
            rw [q] at ez; cases ez
            have hl4 : vs.length < sizeLine := by
              rw [rl.length, sizeLine_eq]
              obtain ⟨zz, hz⟩ := htot
              have e1 : tot.length = (acc0 ++ ys).length + zz.length := by rw [hz]; simp; omega
              rw [ey] at e1
              simp at e1
              omega
            have sm := Step.mut (o := .lst (vs ++ [v])) s04.ok (List.mem_append_left _ List.mem_cons_self) trivial
            have ne : ∀ b ∈ fp ++ fp4, b ≠ DD := fun b hb z => by
              have nd := s04.ok.nd
              rw [List.cons_append] at nd
              exact (List.nodup_cons.mp nd).1 (z ▸ hb)
            refine ⟨vs, hD4, hl4, hlt, S4, acc ++ [yv], vs ++ [v], fp ++ fp4, ?_, (sm0.trans st2.stay).trans (st4.trans st5).stay, fun _ _ _ => trivial, upd_same, ?_, zs', rfl, by rw [ey, List.append_assoc]; rfl⟩
            · have := s04.trans sm
              rwa [List.cons_append] at this
            · exact (rl4.app (.one rp5)).mono (Same.refl _) fun b hb => upd_ne (ne b hb)
        next => cases ez
      next ρ2 emt =>
        rw [emt]
        intro S3 H3 FP3 st4 re4
        rw [if_neg Bool.false_ne_true]
        have s23 : Step S2 H2 [] S3 H3 [] := st4.sublist (List.nil_sublist _)
        have s03 : Step S0 H0 [] S3 H3 (DD :: fp) := s02.seq00 s23
        have hD2 : H2 DD = some (.lst vs) := by rw [st2.keep DD _ hv (by simp)]
        have rl2 : RpL G S2 H2 acc vs fp := rl.stepN (st.ok.sublist (List.sublist_cons_self _ _)) st2
        have rl3 : RpL G S3 H3 acc vs fp := rl2.stepN (s02.ok.sublist (List.sublist_cons_self _ _)) s23
        exact ⟨hlt, S3, acc, vs, fp, s03, (sm0.trans st2.stay).trans s23.stay, fun _ _ _ => trivial, s23.keep DD _ hD2 (by simp), rl3, zs, ez, ey⟩
      next => cases ez
  · have e2 : i = ds.length := by omega
    subst e2
    rw [List.drop_length] at ez
    cases ez
    rw [List.append_nil] at ey
    exact .inl ⟨sv2 (Nat.le_refl _), k S' H' vs fp st hv (by rw [ey]; exact rl)⟩
theorem lc2_len {t : Tg} {mt : M Bool} {mi1 : M (List D)} {t1 : Tg} {mt1 : M Bool} {me : M D} {vs1 : List Nat} : True := trivial
theorem lc2_read {J : It} {t t1 : Tg} {mt mt1 : M Bool} {mi1 : M (List D)} {me : M D} {own vs1 : List Nat} {ds ys : List D} {σ : L2.St} {S H : Hp} {FP : List Addr} {ρ : Rho} {Qd : V → Hp → Prop} (hown : ∀ i ∈ t.slots, i ∈ own) (hown1 : ∀ i ∈ t1.slots, i ∈ vs1) (o : Ok S H FP) (re : RpE G S H σ ρ FP) (sv : Serves G J S ds)
    (e : lc2Loop t mt mi1 t1 mt1 me vs1 (wipeE (clE ρ) own) ds = some ys) (hl : ys.length ≤ 16777000) (k : ∀ v S' H' fp, Step S H FP S' H' (fp ++ FP) → Rp G S' H' (.lst true ys) v fp → RpE G S' H' σ ρ FP → Qd v H') :
    ∀ D, H D = none → ∃ W : Nat → Nat → Hp → Prop, (∃ m, W 0 m (upd H D (.lst []))) ∧ ∀ i m H, W i m H →
      (J.stop i H ∧ Qd (.ref D) H) ∨ (J.go i H ∧ ∃ Nx : Hp → Prop, (∀ H', Nx H' → ∃ m', m' < m ∧ W (i + 1) m' H') ∧ ∀ x H', J.yld i H x H' → gOf G.K t x (L2.wipe σ own) H' fun σ2 H2 => L2.wipe σ2 own = L2.wipe σ own ∧ tTOf G W0 mt σ2 H2 fun b H3 =>
        if b = true then tIOf G W0 mi1 σ2 H3 fun J1 H4 => ∃ W1 : Nat → Nat → Hp → Prop, (∃ m, W1 0 m H4) ∧ ∀ j k H, W1 j k H →
          (J1.stop j H ∧ Nx H) ∨ (J1.go j H ∧ ∃ Nx1 : Hp → Prop, (∀ H', Nx1 H' → ∃ k', k' < k ∧ W1 (j + 1) k' H') ∧ ∀ x H', J1.yld j H x H' → gOf G.K t1 x (L2.wipe σ2 vs1) H' fun σ3 H5 => L2.wipe σ3 vs1 = L2.wipe σ2 vs1 ∧ tTOf G W0 mt1 σ3 H5 fun b H6 =>
            if b = true then tOf G W0 me σ3 H6 fun y H7 => ∃ acc, H7 D = some (.lst acc) ∧ acc.length < sizeLine ∧ Nx1 (upd H7 D (.lst (acc ++ [y]))) else Nx1 H6)
        else Nx H3) := by
  intro D hD
  have o0 : Ok S H ([] ++ FP) := o
  have sn := Step.new (o := .lst []) o0.left hD trivial
  refine ⟨fun i n H' => n = ds.length - i ∧ i ≤ ds.length ∧ ∃ S' acc vs fp, Step S H [] S' H' (D :: fp) ∧ H' D = some (.lst vs) ∧ RpL G S' H' acc vs fp ∧ (∃ zs, lc2Loop t mt mi1 t1 mt1 me vs1 (wipeE (clE ρ) own) (ds.drop i) = some zs ∧ ys = acc ++ zs), ⟨ds.length, by simp, Nat.zero_le _, S, [], [], [], sn, upd_same, ⟨rfl, rfl⟩, ys, e, rfl⟩, ?_⟩
  rintro i n H' ⟨rfl, hi, S', acc, vs, fp, st, hv, rl, zs, ez, ey⟩
  obtain ⟨sv1, sv2⟩ := sv i S' H' st.stay (st.ok.sublist (List.nil_sublist _))
  by_cases hlt : i < ds.length
  · rw [List.drop_eq_getElem_cons hlt] at ez
    obtain ⟨go, yl⟩ := sv1 ds[i] (List.getElem?_eq_getElem hlt)
    refine .inr ⟨go, fun H2 => i + 1 ≤ ds.length ∧ ∃ S2 acc2 vs2 fp2, Step S H [] S2 H2 (D :: fp2) ∧ H2 D = some (.lst vs2) ∧ RpL G S2 H2 acc2 vs2 fp2 ∧ (∃ zs, lc2Loop t mt mi1 t1 mt1 me vs1 (wipeE (clE ρ) own) (ds.drop (i + 1)) = some zs ∧ ys = acc2 ++ zs), fun H2 q => ⟨ds.length - (i + 1), by omega, rfl, q⟩, fun x H2 y => ?_⟩
    obtain ⟨S2, st2, rp2⟩ := yl x H2 y
    have s02 : Step S H [] S2 H2 (D :: fp) := st.seq00 st2
    have reC : RpE G S2 H2 (L2.wipe σ own) (Ta.wipeE (Ta.clE ρ) own) [] := (re.clE.mono s02.stay (by simp)).wipeE own
    unfold lc2Loop at ez
    split at ez
    · cases ez
    next ρ1 eput =>
      refine put_gOf rfl st2.ok reC rp2 eput fun is ws FQ his st3 re3 => ?_
      have fq : FQ = [] := nil_of st3 fun b hb => by
        obtain ⟨u, hu, _⟩ := st3.ok.there b hb
        exact ⟨u, hu⟩
      subst fq
      refine ⟨by rw [wipe_setAll (by rw [his]; exact hown), wipe_idem], ?_⟩
      refine ⟨ρ1, S2, [], st3.ok, re3, ?_⟩
      have hD2 : H2 D = some (.lst vs) := by rw [st2.keep D _ hv (by simp)]
      have rl2 : RpL G S2 H2 acc vs fp := rl.stepN (st.ok.sublist (List.sublist_cons_self _ _)) st2
      split at ez
      next ρ2 emt =>
        rw [emt]
        intro S3 H3 FP3 st4 re4
        rw [if_pos rfl]
        split at ez
        next es ρ3 emi =>
          split at ez
          next ys1 eys =>
            cases q : lc2Loop t mt mi1 t1 mt1 me vs1 (wipeE (clE ρ) own) (ds.drop (i + 1)) with
            | none => rw [q] at ez; cases ez
            | some zs' =>
              rw [q] at ez; cases ez
              refine ⟨ρ2, S3, FP3, st4.ok, re4, ?_⟩
              rw [emi]
              intro J1 S4 H4 FP4 st5 re5 sv5
              have s24 : Step S2 H2 [] S4 H4 [] := (st4.trans st5).sublist (List.nil_sublist _)
              have s04 : Step S H [] S4 H4 (D :: fp) := s02.seq00 s24
              have rl4 : RpL G S4 H4 acc vs fp := rl2.stepN (s02.ok.sublist (List.sublist_cons_self _ _)) s24
              have hD4 : H4 D = some (.lst vs) := s24.keep D _ hD2 (by simp)
              have hcE : ∀ {ρ : Rho} {FP : List Addr}, RpE G S4 H4 (setAll is ws (L2.wipe σ own)) ρ FP → RpE G S4 H4 (setAll is ws (L2.wipe σ own)) (clE ρ) [] := fun h => h.clE
              have hcc : ∀ ρ : Rho, clE (clE ρ) = clE ρ := fun ρ => by
                unfold clE
                rw [List.map_map]
                congr 1
                funext o
                cases o with
                | none => rfl
                | some d =>
                  show (match (if d.cl = true then some d else none) with | some d => if d.cl = true then some d else none | none => none) = _
                  by_cases hd : d.cl = true
                  · simp [hd]
                  · simp [hd]
              exact lc_in (tot := ys) hown1 s04 hD4 rl4 (hcE re5) sv5 (by rw [hcc]; exact eys) ⟨zs', ey⟩ hl fun S5 H5 vs5 fp5 st6 hv6 rl6 => ⟨hlt, S5, acc ++ ys1, vs5, fp5, st6, hv6, rl6, zs', rfl, by rw [ey, List.append_assoc]⟩
          next => cases ez
        next => cases ez
      next ρ2 emt =>
        rw [emt]
        intro S3 H3 FP3 st4 re4
        rw [if_neg Bool.false_ne_true]
        have s23 : Step S2 H2 [] S3 H3 [] := st4.sublist (List.nil_sublist _)
        have s03 : Step S H [] S3 H3 (D :: fp) := s02.seq00 s23
        have rl3 : RpL G S3 H3 acc vs fp := rl2.stepN (s02.ok.sublist (List.sublist_cons_self _ _)) s23
        exact ⟨hlt, S3, acc, vs, fp, s03, s23.keep D _ hD2 (by simp), rl3, zs, ez, ey⟩
      next => cases ez
  · have e2 : i = ds.length := by omega
    subst e2
    rw [List.drop_length] at ez
    cases ez
    rw [List.append_nil] at ey
    subst ey
    have sF : Step S H ([] ++ FP) S' H' ((D :: fp) ++ FP) := st.frameR o0
    exact .inl ⟨sv2 (Nat.le_refl _), k (.ref D) S' H' (D :: fp) sF ⟨D, vs, rfl, fp, rfl, hv, rl⟩ (re.mono st.stay (st.sameR o0))⟩
theorem ge_lc2 (vs1 : List Nat) {pos : Pos} {elt tg iter tg1 iter1 : Expr} {ifs ifs1 : List Expr} {scope : Scope} {own : List (Str × Nat)} {mi mi1 : M (List D)} {mt mt1 : M Bool} {me : M D} {t t1 : Tg} (hK : G.K = X.K) (hc : X.calm = true) (hN : X.N.Nodup) (hi : GI G W X tg iter mi) (ok : BlkOk X.N X.env.scope scope own) (hown : ∀ i ∈ t.slots, i ∈ own.map (·.2)) (hown1 : ∀ i ∈ t1.slots, i ∈ vs1) (hv : ∀ i ∈ vs1, i ∈ own.map (·.2))
    (hg : ∀ (s : Shared) (H : Hp) (C : Addr) (cl : List (Str × Addr)) (fp : List Addr), GG (X.blk s H scope (compEnvC scope cl C X.env) fp) tg t) (ht : ∀ (s : Shared) (H : Hp) (C : Addr) (cl : List (Str × Addr)) (fp : List Addr), GTs G W0 (X.blk s H scope (compEnvC scope cl C X.env) fp) ifs mt)
    (hi1 : ∀ (s : Shared) (H : Hp) (C : Addr) (cl : List (Str × Addr)) (fp : List Addr), GI G W0 (X.blk s H scope (compEnvC scope cl C X.env) fp) tg1 iter1 mi1)
    (hg1 : ∀ (s : Shared) (H : Hp) (C : Addr) (cl : List (Str × Addr)) (fp : List Addr), GG (X.blk s H scope (compEnvC scope cl C X.env) fp) tg1 t1) (ht1 : ∀ (s : Shared) (H : Hp) (C : Addr) (cl : List (Str × Addr)) (fp : List Addr), GTs G W0 (X.blk s H scope (compEnvC scope cl C X.env) fp) ifs1 mt1)
    (he : ∀ (s : Shared) (H : Hp) (C : Addr) (cl : List (Str × Addr)) (fp : List Addr), GE G W0 (X.blk s H scope (compEnvC scope cl C X.env) fp) elt me) (hs : ∀ x, foldedSetIterable iter X.env x = pure x := by intro _; rfl) (hs1 : ∀ env x, foldedSetIterable iter1 env x = pure x := by intro _ _; rfl) :
    GE G W X (.ListComp elt [⟨tg, iter, ifs, 0⟩, ⟨tg1, iter1, ifs1, 0⟩] scope pos) (mLc2 (own.map (·.2)) vs1 t mi mt t1 mi1 mt1 me) := by
  refine PE.imp (pe_lc2 (g := gOf X.K t) (g1 := gOf X.K t1) hc hN hi ok hv hg ht hi1 hg1 ht1 he hs hs1) fun σ H Q h => ?_
  obtain ⟨ρ, S, FP, o, r, p⟩ := h
  refine ⟨ρ, S, FP, o, r, p.bind.mono fun ds ρ1 _ p1 J S1 H1 FP1 st1 re1 sv => ?_⟩
  split at p1
  next ys ely =>
    split at p1
    next hl =>
      rw [← hK]
      exact lc2_read hown hown1 st1.ok re1 sv ely hl fun v S' H' fp st rp re => p1 v S' H' fp FP1 (st1.trans st) rp re
    next => exact p1.elim
  next => exact p1.elim
end
end Ta

/-! Ta.M2: x[j].clear(), x a list of one's own with lists of one's own. -/
namespace Ta
open PySem PySem.Spec L2
section
variable {G : Glo} {S H : Hp}
theorem RpL.clr : ∀ {ds : List D} {vs : List V} {A : List Addr} {j : Nat} {ys : List D}, RpL G S H ds vs A → A.Nodup → ds[j]? = some (.lst true ys) →
    ∃ b ws A', vs[j]? = some (.ref b) ∧ H b = some (.lst ws) ∧ b ∈ A ∧ A'.Sublist A ∧ RpL G S (upd H b (.lst [])) (ds.set j (.lst true [])) vs A'
  | [], _, _, _, _, _, _, e => by simp at e
  | d :: ds, vs, A, 0, ys, h, nd, e => by
    obtain ⟨v, vs', fp1, fp2, rfl, rfl, h1, h2⟩ := h
    have e' : d = .lst true ys := by simpa using e
    subst e'
    obtain ⟨b, ws, rfl, B, rfl, hb, hB⟩ := h1
    have ne : ∀ c ∈ fp2, c ≠ b := fun c hc z => by
      subst z
      rw [List.cons_append] at nd
      exact (List.nodup_cons.mp nd).1 (List.mem_append_right _ hc)
    refine ⟨b, ws, [b] ++ fp2, rfl, hb, by simp, ?_, .ref b, vs', [b], fp2, rfl, rfl, ⟨b, [], rfl, [], rfl, upd_same, rfl, rfl⟩, h2.mono (Same.refl _) fun c hc => upd_ne (ne c hc)⟩
    exact (List.Sublist.cons₂ b (List.nil_sublist B)).append_right fp2
  | d :: ds, vs, A, j + 1, ys, h, nd, e => by
    obtain ⟨v, vs', fp1, fp2, rfl, rfl, h1, h2⟩ := h
    obtain ⟨b, ws, A', e1, e2, e3, e4, e5⟩ := RpL.clr (j := j) h2 (List.nodup_append.mp nd).2.1 (by simpa using e)
    have ne : ∀ c ∈ fp1, c ≠ b := fun c hc z => by
      subst z
      exact (List.nodup_append.mp nd).2.2 c hc c e3 rfl
    exact ⟨b, ws, fp1 ++ A', by simpa using e1, e2, List.mem_append_right _ e3, e4.append_left fp1, v, vs', fp1, A', rfl, rfl, h1.mono (Same.refl _) fun c hc => upd_ne (ne c hc), e5⟩
end
def mClearP (i j : Nat) : M D := fun ρ => match ρ[i]? with
  | some (some (.lst true xs)) => match xs[j]? with
    | some (.lst true _) => some (.ok .non, ρ.set i (some (.lst true (xs.set j (.lst true [])))))
    | _ => none
  | _ => none
section
variable {G : Glo} {W : WX} {X : Cx} {pos cpos apos npos ipos : Pos}
theorem ge_clearP (i j : Nat) {x : Str} {k : Nat} (hN : X.N[i]? = some x := by rfl) (hv : Vis X.env.scope x := by first | exact Or.inl rfl | exact Or.inr (Or.inl rfl) | exact Or.inr (Or.inr rfl)) (hd : (x == ("__debug__" : Str)) = false := by decide)
    (hcd : (x == ("__classdict__" : Str)) = false := by decide) (hbase : attributeBase (.Subscript (.Name x npos) (.Constant (.int (j : Int)) k ipos) pos) "clear" X.env (eval (.Subscript (.Name x npos) (.Constant (.int (j : Int)) k ipos) pos) X.env) = eval (.Subscript (.Name x npos) (.Constant (.int (j : Int)) k ipos) pos) X.env := by rfl)
    (hline : (apos.endLine == cpos.line) = true := by rfl) (hs : PlainIx (.Constant (.int (j : Int)) k ipos) := by exact fun _ _ => rfl) :
    GE G W X (.Call (.Attribute (.Subscript (.Name x npos) (.Constant (.int (j : Int)) k ipos) pos) "clear" apos) [] [] cpos) (mClearP i j) := by
  refine PE.imp (pe_bm0 PySem.F.plainAttrs_list PySem.F.slot_list_clear PySem.F.type_list_clear mt_clear (pe_ix ix_list (pe_var hN hv hd hcd) pe_int hs) hbase hline) fun σ H Q h => ?_
  obtain ⟨ρ, S, FP, o, r, p⟩ := h
  unfold mClearP at p
  split at p
  next xs q =>
    split at p
    next ys qj =>
      obtain ⟨a, vs, A, F2, g1, g2, g3, g4, g5⟩ := own_lst o r q
      have st := (Step.refl o).perm g4
      have nd := st.ok.nd
      rw [List.cons_append] at nd
      have ndA : A.Nodup := (List.nodup_append.mp (List.nodup_cons.mp nd).2).1
      obtain ⟨b, ws, A', e1, e2, e3, e4, e5⟩ := g3.clr ndA qj
      have hba : b ≠ a := fun z => (List.nodup_cons.mp nd).1 (z ▸ List.mem_append_left _ e3)
      have hbF : ∀ c ∈ F2, c ≠ b := fun c hc z => by
        subst z
        exact (List.nodup_append.mp (List.nodup_cons.mp nd).2).2.2 c e3 c hc rfl
      have hat : atI vs (j : Int) = some (.ref b) := atI_nat e1
      refine ⟨.ref a, g1, a, vs, (j : Int), .ref b, rfl, rfl, .of g2, hat, .inl ⟨rfl, ws, .of e2⟩, b, ws, rfl, rfl, e2, ?_⟩
      have sm := Step.mut (a := b) (o := .lst []) st.ok (by simp [e3]) trivial
      have rp2 : Rp G S (upd H b (.lst [])) (.lst true (xs.set j (.lst true []))) (.ref a) (a :: A') := ⟨a, vs, rfl, A', rfl, by rw [upd_ne (Ne.symm hba)]; exact g2, e5⟩
      have re2 : RpE G S (upd H b (.lst [])) σ (ρ.set i none) F2 := g5.mono (Same.refl _) fun c hc => upd_ne (hbF c hc)
      obtain ⟨fr, pm, re3⟩ := re2.put rp2 (lt_of_get q)
      have es0 : σ.set i (some (.ref a)) = σ := by
        refine List.ext_getElem? fun j => ?_
        by_cases e : i = j
        · subst e
          have hi : i < σ.length := (List.getElem?_eq_some_iff.mp g1).1
          rw [List.getElem?_set_self hi, g1]
        · rw [List.getElem?_set_ne e]
      rw [es0] at re3
      have sF := ((st.trans sm).sublist (A2 := (a :: A') ++ F2) ((e4.cons₂ a).append_right F2)).perm pm.symm
      exact p .non S _ [] fr sF ⟨rfl, rfl⟩ re3
    next => exact p.elim
  next => exact p.elim
end
end Ta

/-! Ta.Hd: the head's facts: defs by their places, facts of classes, one more Bool. -/
namespace Ta
open PySem PySem.W PySem.Calls PyProof.Rows He He5
def obsE (n : Nat) (fa : List Fa) (fn : List DefA) (ex : Frag → Bool) (g : Addr → Option Obj) : He.AlD × Bool := (obsA fa fn (frG g (asA g n)), ex (frG g (asA g n)))
def hookE (n : Nat) (fa : List Fa) (fn : List DefA) (ex : Frag → Bool) : PySem.W.Hook where
  α := He.AlD × Bool
  obs := fun s => obsE n fa fn ex s.heap.get?
  val := fun _ => (valA fn, true)
  says := fun _ h => ∃ K : Frag, K.In h ∧ SaysA fa fn K ∧ ex K = true
  of := fun _ _ e => ⟨_, frG_in, congrArg (fun z : He.AlD × Bool => z.1) e, congrArg (fun z : He.AlD × Bool => z.2) e⟩
  keeps := fun _ _ _ ⟨K, hK, c⟩ k => ⟨K, PySem.W.Frag.In.keeps hK k, c⟩
theorem obsE_eq {n : Nat} {fa : List Fa} {fn : List DefA} {ex : Frag → Bool} {g : Addr → Option Obj} {s : Shared} (h : ∀ a, g a = s.heap.get? a) : obsE n fa fn ex g = (hookE n fa fn ex).obs s := by
  have e : g = s.heap.get? := funext h
  rw [e] <;> rfl
end Ta

/-! Ta.R: the last rules: tuple targets, defs by name, types as values. -/
namespace Ta
open PySem PySem.Spec L2 PyProof.Rows
section
variable {G : Glo} {W : WX} {μ : List Nat} {X : Cx} {a e : Expr} {es : List Expr} {ma : M D} {ms : M (List D)} {pos p : Pos} {x : Str}
/-- a type of the interpreter's as a value -/
theorem ge_gt (n : Nat) {T : String} (hm : X.mg x = none) (hv : bootBuiltins x = some (.type T)) (r : G.gv n = .ty T) (hg : Gl X x := by rfl) (hn : x ≠ "__name__" := by decide) (hd : (x == ("__debug__" : Str)) = false := by decide) : GE G W X (.Name x pos) (mC (.gl n)) :=
  ge_c (pe_bltn hg hm hv (v := G.gv n) (by rw [r]; rfl) hn hd) fun _ _ => ⟨rfl, rfl⟩
/-- a def by its name -/
theorem ge_defM {fa : Addr} {k np : Nat} {dd : List D} {μ : List Nat} {F : Fn} (md : MDx X G fa k np dd μ F) (hm : X.mg x = some (.ref fa)) (hk : PySem.W.keepIn X.K (.ref fa) = true) (hr : Room k X.A) (tk : Takes X W) (ha : GA G W X (e :: es) ms) (hg : Gl X x := by rfl)
    (hdb : (x == ("__debug__" : Str)) = false := by decide) (he : starEach (e :: es) X.env = (false, eval e X.env) :: starEach es X.env := by rfl) (hpl : (backTo pos (starEach es X.env)).any (·.1) = false := by rfl) :
    GE G W X (.Call (.Name x p) (e :: es) [] pos) (mCall np F dd ms) := by
  obtain ⟨fd, ps, dvs, dus, FO, hb, hd, hdd⟩ := md.ex
  exact ge_call FO hr hm hk hb hd hdd tk ha hg hdb he hpl
/-- x, y = e -/
def asgT (is : List Nat) (d : D) : MS := fun ρ => match (Tg.tp is).put d ρ with
  | some ρ' => some (.ok .nx, ρ')
  | none => none
def sAsgT (is : List Nat) (ma : M D) : MS := M.bind ma fun d => asgT is d
theorem gs_asgT {is : List Nat} {k : Nat} {tpos : Pos} (hK : G.K = X.K) (hc : X.calm = true) (h : GGs X es is) (ha : GE G W X a ma) (hμ : ∀ i ∈ is, i ∉ μ := by decide) (hs : swapsWithSole [.Tuple es k tpos] a pos.line X.env = pure false := by rfl) (hw : swappedStores [.Tuple es k tpos] a X.env = pure none := by rfl) (hn : (assignEach es X.env).length = is.length := by rfl) (hst : (assignEach es X.env).findIdx? (·.1) = none := by rfl)
    (h1 : (assignEach [.Tuple es k tpos] X.env).map (·.2) = [assign (.Tuple es k tpos) X.env] := by rfl) : GS G W μ X (.Assign [.Tuple es k tpos] a pos) (sAsgT is ma) := by
  refine PS.imp (ps_asg ha (gg_tp hc h hn hst) hs hw h1) fun D σ H h => ?_
  obtain ⟨ρ, S, FP, o, r, p⟩ := h
  refine tOf_s o r p fun d1 ρ1 x S1 H1 fp1 FP1 st1 rp1 re1 p1 => ?_
  unfold asgT at p1
  split at p1
  next ρ2 e =>
    have cl : Rp G S1 H1 d1 x [] ∨ True := .inr trivial
    cases d1 with
    | tup ds =>
      obtain ⟨a, vs, rfl, rfl, h1, h2⟩ := rp1
      obtain ⟨FQ, FR, pm, re2⟩ := RpE.putAll e h2 re1
      have st2 : Step S H FP S1 H1 (FQ ++ FR) := st1.right.perm pm
      refine ⟨a, vs, rfl, by rw [← hK]; exact Same.sqT st1.ok.sub h1.sq, by rw [h2.length]; exact putAll_len e, ?_⟩
      exact p1 _ S1 H1 FQ st2.left re2 (Keep.setAll hμ)
    | _ => cases e
  next => exact p1.elim

theorem chain_read {f g : D → D → Option D} {mb mc : M D} {σ : L2.St} {H : Hp} {Q : V → Hp → Prop} (h : tOf G W (mChain f g ma mb mc) σ H Q) : tChain (r2 G f) (r2 G g) (tOf G W ma) (tOf G W mb) (tOf G W mc) σ H Q := by
  obtain ⟨ρ, S, FP, o, r, p⟩ := h
  refine tOf_from (Step.refl o) r p fun d1 ρ1 x S1 H1 fp1 FP1 st1 rp1 re1 p1 => ?_
  refine tOf_from st1.right re1 p1 fun d2 ρ2 y S2 H2 fp2 FP2 st2 rp2 re2 p2 => ?_
  obtain ⟨d, e, p3⟩ := opt_post p2.bind
  split at e
  next hcl =>
    obtain rfl := rp2.fp_nil hcl
    have s12 := (st1.trans (st2.frame st1.ok)).asc
    refine ⟨S2, [d1, d2], fp1 ++ [], d, s12.ok.left, ⟨x, [y], fp1, [], rfl, rfl, rp1.step st1.ok st2, .one rp2⟩, e, fun v S' H' fp st3 rp => ?_⟩
    obtain ⟨q, e2, k2⟩ := opt_post p3.bind
    obtain ⟨rfl, rfl, rfl⟩ := bool_of rp e2
    have s3 := s12.trans (st3.frameR s12.ok)
    refine ⟨q, rfl, ?_⟩
    cases q with
    | false =>
      rw [if_neg Bool.false_ne_true]
      exact k2 (.bl false) S' H' [] FP2 s3 ⟨rfl, rfl⟩ (re2.step s12.ok st3)
    | true =>
      rw [if_pos rfl]
      refine tOf_from (S0 := S) (H0 := H) (F0 := FP) s3 (re2.step s12.ok st3) k2 fun d3 ρ3 w S4 H4 fp4 FP4 st4 rp4 re4 k4 => ?_
      obtain ⟨d, e, k5⟩ := opt_post k4
      have rp2' := (rp2.step0 st3).step0 st4
      refine ⟨S4, [d2, d3], [] ++ fp4, d, st4.ok.left, ⟨y, [w], [], fp4, rfl, rfl, rp2', .one rp4⟩, e, fun v S5 H5 fp5 st5 rp5 => ?_⟩
      have s45 : Step S4 H4 (fp4 ++ FP4) S5 H5 (fp5 ++ FP4) := st5.frameR st4.ok
      exact k5 v S5 H5 fp5 FP4 ((s3.trans st4).trans s45) rp5 (re4.step st4.ok st5)
  next => cases e
theorem tB_of {σ : L2.St} {H : Hp} {Q : Bool → Hp → Prop} (h : tTOf G W (mB ma) σ H Q) : tOf G W ma σ H fun x H' => ∃ k, x = .bl k ∧ Q k H' := by
  obtain ⟨ρ, S, FP, o, r, p⟩ := h
  refine tOf_step o r p fun d1 ρ1 x S1 H1 fp1 FP1 st1 rp1 re1 p1 => ?_
  obtain ⟨d, e, k⟩ := opt_post p1
  cases d1 <;> cases e
  exact ⟨d, rp1.1, k S1 H1 FP1 st1.right re1⟩
theorem gt_chain {op op' : CmpOp} {f g : D → D → Option D} {b c : Expr} {mb mc : M D} (ho : OpR X (compareOp op) (r2 G f)) (ho' : OpR X (compareOp op') (r2 G g)) (ha : GE G W X a ma) (hb : GE G W X b mb) (hc : GE G W X c mc)
    (hm : lastMarks [op, op'] [b, c] = false := by with_unfolding_all rfl) : GT G W X (.Compare a [op, op'] [b, c] pos) (mB (mChain f g ma mb mc)) :=
  PT.imp (pt_chain ho ho' ha hb hc hm) fun σ H Q h => chain_read (tB_of h)
end
end Ta

namespace K01
open PySem PySem.Spec L2 Ta PyProof.Rows
def top (i : Nat) : Stmt := PySem.Challenge.pw_toldalong_k01_web_pairs.main.body.getD i (.Pass ⟨0, 0, 0, 0⟩)
def clsBody : Stmt → List Stmt
  | .ClassDef _ _ _ b _ _ _ _ _ _ _ => b
  | _ => []
def ctop (i j : Nat) : Stmt := (clsBody (top i)).getD j (.Pass ⟨0, 0, 0, 0⟩)
def web (K : PySem.W.Frag) : Addr := He.ga K "Web"
def G (K : PySem.W.Frag) : Glo := { K := K, gv := fun n => match n with | 0 => .ref (web K) | 1 => .ty "int" | 2 => .ty "bool" | 3 => .ty "str" | 4 => .ty "list" | _ => .ty "tuple", ca := fun _ => web K }
def isiT : List ((Tag × Nat) × Bool) := [((.cls 0, 0), true), ((.ty "int", 1), true), ((.ty "int", 2), false), ((.ty "bool", 2), true), ((.ty "str", 3), true), ((.ty "list", 4), true), ((.ty "tuple", 5), true)]
def rec0 (K : PySem.W.Frag) (p : Addr) (t : String) : Addr := match PySem.W.recIn K p t with | some (.ref g :: _) => g | _ => 0
/-- where the defs stand -/
abbrev s_check_list : Stmt := top 9
abbrev s_check_actor : Stmt := top 10
abbrev s_check_same_actors : Stmt := top 11
abbrev s_Web___init__ : Stmt := ctop 13 1
abbrev s_Web_full : Stmt := ctop 13 2
abbrev s_Web_chain : Stmt := ctop 13 3
abbrev s_Web_actors : Stmt := ctop 13 4
abbrev s_Web___getitem__ : Stmt := ctop 13 5
abbrev s_Web___setitem__ : Stmt := ctop 13 6
abbrev s_Web___len__ : Stmt := ctop 13 8
abbrev s_Web___eq__ : Stmt := ctop 13 9
abbrev s_Web___or__ : Stmt := ctop 13 10
abbrev s_Web___and__ : Stmt := ctop 13 11
abbrev s_Web___le__ : Stmt := ctop 13 15
abbrev s_Web_audience : Stmt := ctop 13 22
abbrev s_Web_tellers : Stmt := ctop 13 23
abbrev s__law_cell : Stmt := top 15
abbrev s__law_row : Stmt := top 16
abbrev s__law_names : Stmt := top 17
abbrev s__law_is_integer : Stmt := top 18
abbrev s__law_is_texts : Stmt := top 19
abbrev s__law_same_texts : Stmt := top 20
abbrev s__law_truth : Stmt := top 21
abbrev s__law_ordered : Stmt := top 22
abbrev s__law_web_is : Stmt := top 23
abbrev s__law_twins : Stmt := top 24
abbrev s__law_doors : Stmt := top 25
abbrev s_law : Stmt := top 26
abbrev s_Web___iter__ : Stmt := ctop 13 7
def at_check_list (K : PySem.W.Frag) : Addr := He.ga K "check_list"
def at_check_actor (K : PySem.W.Frag) : Addr := He.ga K "check_actor"
def at_check_same_actors (K : PySem.W.Frag) : Addr := He.ga K "check_same_actors"
def at_Web___init__ (K : PySem.W.Frag) : Addr := He.ma K (web K) "__init__"
def at_Web_full (K : PySem.W.Frag) : Addr := rec0 K (He.ma K (web K) "full") "classmethod"
def at_Web_chain (K : PySem.W.Frag) : Addr := rec0 K (He.ma K (web K) "chain") "classmethod"
def at_Web_actors (K : PySem.W.Frag) : Addr := rec0 K (He.ma K (web K) "actors") "property"
def at_Web___getitem__ (K : PySem.W.Frag) : Addr := He.ma K (web K) "__getitem__"
def at_Web___setitem__ (K : PySem.W.Frag) : Addr := He.ma K (web K) "__setitem__"
def at_Web___len__ (K : PySem.W.Frag) : Addr := He.ma K (web K) "__len__"
def at_Web___eq__ (K : PySem.W.Frag) : Addr := He.ma K (web K) "__eq__"
def at_Web___or__ (K : PySem.W.Frag) : Addr := He.ma K (web K) "__or__"
def at_Web___and__ (K : PySem.W.Frag) : Addr := He.ma K (web K) "__and__"
def at_Web___le__ (K : PySem.W.Frag) : Addr := He.ma K (web K) "__le__"
def at_Web_audience (K : PySem.W.Frag) : Addr := He.ma K (web K) "audience"
def at_Web_tellers (K : PySem.W.Frag) : Addr := He.ma K (web K) "tellers"
def at__law_cell (K : PySem.W.Frag) : Addr := He.ga K "_law_cell"
def at__law_row (K : PySem.W.Frag) : Addr := He.ga K "_law_row"
def at__law_names (K : PySem.W.Frag) : Addr := He.ga K "_law_names"
def at__law_is_integer (K : PySem.W.Frag) : Addr := He.ga K "_law_is_integer"
def at__law_is_texts (K : PySem.W.Frag) : Addr := He.ga K "_law_is_texts"
def at__law_same_texts (K : PySem.W.Frag) : Addr := He.ga K "_law_same_texts"
def at__law_truth (K : PySem.W.Frag) : Addr := He.ga K "_law_truth"
def at__law_ordered (K : PySem.W.Frag) : Addr := He.ga K "_law_ordered"
def at__law_web_is (K : PySem.W.Frag) : Addr := He.ga K "_law_web_is"
def at__law_twins (K : PySem.W.Frag) : Addr := He.ga K "_law_twins"
def at__law_doors (K : PySem.W.Frag) : Addr := He.ga K "_law_doors"
def at_law (K : PySem.W.Frag) : Addr := He.ga K "law"
def at_Web___iter__ (K : PySem.W.Frag) : Addr := He.ma K (web K) "__iter__"
/-- what is known of the text -/
structure Env (P : Program) (w : World) (K : PySem.W.Frag) (mg : Str → Option Value) (base : Heap) : Prop where
  f_len : mg "len" = none
  f_range : mg "range" = none
  f_list : mg "list" = none
  f_tuple : mg "tuple" = none
  f_int : mg "int" = none
  f_bool : mg "bool" = none
  f_str : mg "str" = none
  f_all : mg "all" = none
  f_zip : mg "zip" = none
  f_iter : mg "iter" = none
  f_isinstance : mg "isinstance" = none
  gWeb : mg "Web" = some (.ref (web K))
  cls : Cls K (web K)
  no__actors : NoAttr K (web K) "_actors"
  no__pairs : NoAttr K (web K) "_pairs"
  nocon : PySem.W.findIn K (.ref (web K)) "__contains__" = some none
  mkr : L2.Mk K (web K) (at_Web___init__ K)
  ne : PySem.W.findIn K (.ref (web K)) "__ne__" = some (some (.builtin "object.__ne__"))
  mo : PySem.W.mroIn K (web K) (.type "object") = some true
  sf : PySem.W.selfFirst K (web K) = true
  nosq : PySem.W.noSeq K (web K) = true
  cread : ClX.CRead K (web K) (.type "type")
  cval_MOST_ACTORS : ∃ u, ClX.CVal K (web K) (.type "type") "MOST_ACTORS" (.int 5) u
  con_MOST_ACTORS : ∃ u, Con K (web K) "MOST_ACTORS" (.int 5) u
  isi : IsiOk K (G K) isiT
  dfl : SqT K (fun _ => none) (He.dflAt ("Web", some "__init__") 0 K) []
  d_check_list : ∃ fd, FunD K "check_list" "check_list" (defArgs s_check_list) (defBody s_check_list) (defScope s_check_list) [] [] (at_check_list K) fd
  g_check_list : mg "check_list" = some (.ref (at_check_list K))
  k_check_list : PySem.W.keepIn K (.ref (at_check_list K)) = true
  d_check_actor : ∃ fd, FunD K "check_actor" "check_actor" (defArgs s_check_actor) (defBody s_check_actor) (defScope s_check_actor) [] [] (at_check_actor K) fd
  g_check_actor : mg "check_actor" = some (.ref (at_check_actor K))
  k_check_actor : PySem.W.keepIn K (.ref (at_check_actor K)) = true
  d_check_same_actors : ∃ fd, FunD K "check_same_actors" "check_same_actors" (defArgs s_check_same_actors) (defBody s_check_same_actors) (defScope s_check_same_actors) [] [] (at_check_same_actors K) fd
  g_check_same_actors : mg "check_same_actors" = some (.ref (at_check_same_actors K))
  k_check_same_actors : PySem.W.keepIn K (.ref (at_check_same_actors K)) = true
  d_Web___init__ : ∃ fd, FunD K "__init__" "Web.__init__" (defArgs s_Web___init__) (defBody s_Web___init__) (defScope s_Web___init__) [.ref (He.dflAt ("Web", some "__init__") 0 K)] [] (at_Web___init__ K) fd
  mt___init__ : Meth K (web K) "__init__" (at_Web___init__ K)
  d_Web_full : ∃ fd, FunD K "full" "Web.full" (defArgs s_Web_full) (defBody s_Web_full) (defScope s_Web_full) [] [] (at_Web_full K) fd
  cm_full : ClX.CMet K (web K) (.type "type") "full" (He.ma K (web K) "full") (at_Web_full K)
  d_Web_chain : ∃ fd, FunD K "chain" "Web.chain" (defArgs s_Web_chain) (defBody s_Web_chain) (defScope s_Web_chain) [] [] (at_Web_chain K) fd
  cm_chain : ClX.CMet K (web K) (.type "type") "chain" (He.ma K (web K) "chain") (at_Web_chain K)
  d_Web_actors : ∃ fd, FunD K "actors" "Web.actors" (defArgs s_Web_actors) (defBody s_Web_actors) (defScope s_Web_actors) [] [] (at_Web_actors K) fd
  prop_actors : PropOf K (web K) "actors" (He.ma K (web K) "actors") (at_Web_actors K)
  d_Web___getitem__ : ∃ fd, FunD K "__getitem__" "Web.__getitem__" (defArgs s_Web___getitem__) (defBody s_Web___getitem__) (defScope s_Web___getitem__) [] [] (at_Web___getitem__ K) fd
  mt___getitem__ : Meth K (web K) "__getitem__" (at_Web___getitem__ K)
  d_Web___setitem__ : ∃ fd, FunD K "__setitem__" "Web.__setitem__" (defArgs s_Web___setitem__) (defBody s_Web___setitem__) (defScope s_Web___setitem__) [] [] (at_Web___setitem__ K) fd
  mt___setitem__ : Meth K (web K) "__setitem__" (at_Web___setitem__ K)
  d_Web___len__ : ∃ fd, FunD K "__len__" "Web.__len__" (defArgs s_Web___len__) (defBody s_Web___len__) (defScope s_Web___len__) [] [] (at_Web___len__ K) fd
  mt___len__ : Meth K (web K) "__len__" (at_Web___len__ K)
  d_Web___eq__ : ∃ fd, FunD K "__eq__" "Web.__eq__" (defArgs s_Web___eq__) (defBody s_Web___eq__) (defScope s_Web___eq__) [] [] (at_Web___eq__ K) fd
  mt___eq__ : Meth K (web K) "__eq__" (at_Web___eq__ K)
  d_Web___or__ : ∃ fd, FunD K "__or__" "Web.__or__" (defArgs s_Web___or__) (defBody s_Web___or__) (defScope s_Web___or__) [] [] (at_Web___or__ K) fd
  mt___or__ : Meth K (web K) "__or__" (at_Web___or__ K)
  d_Web___and__ : ∃ fd, FunD K "__and__" "Web.__and__" (defArgs s_Web___and__) (defBody s_Web___and__) (defScope s_Web___and__) [] [] (at_Web___and__ K) fd
  mt___and__ : Meth K (web K) "__and__" (at_Web___and__ K)
  d_Web___le__ : ∃ fd, FunD K "__le__" "Web.__le__" (defArgs s_Web___le__) (defBody s_Web___le__) (defScope s_Web___le__) [] [] (at_Web___le__ K) fd
  mt___le__ : Meth K (web K) "__le__" (at_Web___le__ K)
  d_Web_audience : ∃ fd, FunD K "audience" "Web.audience" (defArgs s_Web_audience) (defBody s_Web_audience) (defScope s_Web_audience) [] [] (at_Web_audience K) fd
  mt_audience : Meth K (web K) "audience" (at_Web_audience K)
  d_Web_tellers : ∃ fd, FunD K "tellers" "Web.tellers" (defArgs s_Web_tellers) (defBody s_Web_tellers) (defScope s_Web_tellers) [] [] (at_Web_tellers K) fd
  mt_tellers : Meth K (web K) "tellers" (at_Web_tellers K)
  d__law_cell : ∃ fd, FunD K "_law_cell" "_law_cell" (defArgs s__law_cell) (defBody s__law_cell) (defScope s__law_cell) [] [] (at__law_cell K) fd
  g__law_cell : mg "_law_cell" = some (.ref (at__law_cell K))
  k__law_cell : PySem.W.keepIn K (.ref (at__law_cell K)) = true
  d__law_row : ∃ fd, FunD K "_law_row" "_law_row" (defArgs s__law_row) (defBody s__law_row) (defScope s__law_row) [] [] (at__law_row K) fd
  g__law_row : mg "_law_row" = some (.ref (at__law_row K))
  k__law_row : PySem.W.keepIn K (.ref (at__law_row K)) = true
  d__law_names : ∃ fd, FunD K "_law_names" "_law_names" (defArgs s__law_names) (defBody s__law_names) (defScope s__law_names) [] [] (at__law_names K) fd
  g__law_names : mg "_law_names" = some (.ref (at__law_names K))
  k__law_names : PySem.W.keepIn K (.ref (at__law_names K)) = true
  d__law_is_integer : ∃ fd, FunD K "_law_is_integer" "_law_is_integer" (defArgs s__law_is_integer) (defBody s__law_is_integer) (defScope s__law_is_integer) [] [] (at__law_is_integer K) fd
  g__law_is_integer : mg "_law_is_integer" = some (.ref (at__law_is_integer K))
  k__law_is_integer : PySem.W.keepIn K (.ref (at__law_is_integer K)) = true
  d__law_is_texts : ∃ fd, FunD K "_law_is_texts" "_law_is_texts" (defArgs s__law_is_texts) (defBody s__law_is_texts) (defScope s__law_is_texts) [] [] (at__law_is_texts K) fd
  g__law_is_texts : mg "_law_is_texts" = some (.ref (at__law_is_texts K))
  k__law_is_texts : PySem.W.keepIn K (.ref (at__law_is_texts K)) = true
  d__law_same_texts : ∃ fd, FunD K "_law_same_texts" "_law_same_texts" (defArgs s__law_same_texts) (defBody s__law_same_texts) (defScope s__law_same_texts) [] [] (at__law_same_texts K) fd
  g__law_same_texts : mg "_law_same_texts" = some (.ref (at__law_same_texts K))
  k__law_same_texts : PySem.W.keepIn K (.ref (at__law_same_texts K)) = true
  d__law_truth : ∃ fd, FunD K "_law_truth" "_law_truth" (defArgs s__law_truth) (defBody s__law_truth) (defScope s__law_truth) [] [] (at__law_truth K) fd
  g__law_truth : mg "_law_truth" = some (.ref (at__law_truth K))
  k__law_truth : PySem.W.keepIn K (.ref (at__law_truth K)) = true
  d__law_ordered : ∃ fd, FunD K "_law_ordered" "_law_ordered" (defArgs s__law_ordered) (defBody s__law_ordered) (defScope s__law_ordered) [] [] (at__law_ordered K) fd
  g__law_ordered : mg "_law_ordered" = some (.ref (at__law_ordered K))
  k__law_ordered : PySem.W.keepIn K (.ref (at__law_ordered K)) = true
  d__law_web_is : ∃ fd, FunD K "_law_web_is" "_law_web_is" (defArgs s__law_web_is) (defBody s__law_web_is) (defScope s__law_web_is) [] [] (at__law_web_is K) fd
  g__law_web_is : mg "_law_web_is" = some (.ref (at__law_web_is K))
  k__law_web_is : PySem.W.keepIn K (.ref (at__law_web_is K)) = true
  d__law_twins : ∃ fd, FunD K "_law_twins" "_law_twins" (defArgs s__law_twins) (defBody s__law_twins) (defScope s__law_twins) [] [] (at__law_twins K) fd
  g__law_twins : mg "_law_twins" = some (.ref (at__law_twins K))
  k__law_twins : PySem.W.keepIn K (.ref (at__law_twins K)) = true
  d__law_doors : ∃ fd, FunD K "_law_doors" "_law_doors" (defArgs s__law_doors) (defBody s__law_doors) (defScope s__law_doors) [] [] (at__law_doors K) fd
  g__law_doors : mg "_law_doors" = some (.ref (at__law_doors K))
  k__law_doors : PySem.W.keepIn K (.ref (at__law_doors K)) = true
  d_law : ∃ fd, FunD K "law" "law" (defArgs s_law) (defBody s_law) (defScope s_law) [] [] (at_law K) fd
  g_law : mg "law" = some (.ref (at_law K))
  k_law : PySem.W.keepIn K (.ref (at_law K)) = true
  d_Web___iter__ : ∃ fd, FunD K "__iter__" "Web.__iter__" (defArgs s_Web___iter__) (defBody s_Web___iter__) (defScope s_Web___iter__) [] [] (at_Web___iter__ K) fd
  mt___iter__ : Meth K (web K) "__iter__" (at_Web___iter__ K)
  fi___getitem__ : PySem.W.fnIn K (at_Web___getitem__ K) = true
section
variable {P : Program} {w : World} {K : PySem.W.Frag} {mg : Str → Option Value} {base : Heap}
theorem Env.sm___init__ (E : Env P w K mg base) : SpM K (web K) "__init__" (at_Web___init__ K) := ⟨E.mt___init__.at_, E.mt___init__.fn⟩
theorem Env.sm___getitem__ (E : Env P w K mg base) : SpM K (web K) "__getitem__" (at_Web___getitem__ K) := ⟨E.mt___getitem__.at_, E.mt___getitem__.fn⟩
theorem Env.sm___setitem__ (E : Env P w K mg base) : SpM K (web K) "__setitem__" (at_Web___setitem__ K) := ⟨E.mt___setitem__.at_, E.mt___setitem__.fn⟩
theorem Env.sm___len__ (E : Env P w K mg base) : SpM K (web K) "__len__" (at_Web___len__ K) := ⟨E.mt___len__.at_, E.mt___len__.fn⟩
theorem Env.sm___eq__ (E : Env P w K mg base) : SpM K (web K) "__eq__" (at_Web___eq__ K) := ⟨E.mt___eq__.at_, E.mt___eq__.fn⟩
theorem Env.sm___or__ (E : Env P w K mg base) : SpM K (web K) "__or__" (at_Web___or__ K) := ⟨E.mt___or__.at_, E.mt___or__.fn⟩
theorem Env.sm___and__ (E : Env P w K mg base) : SpM K (web K) "__and__" (at_Web___and__ K) := ⟨E.mt___and__.at_, E.mt___and__.fn⟩
theorem Env.sm___le__ (E : Env P w K mg base) : SpM K (web K) "__le__" (at_Web___le__ K) := ⟨E.mt___le__.at_, E.mt___le__.fn⟩
def B_check_list_1 : MS := (sSeq (sIf (mBor (fun _ => true) (mB (mOp inD (mVar 4) (mVar 3)))) (fun _ => none) sNx) (sExpr (mApp 3 (mVar 4))))
def F_check_list : Fn := runDef 3 5 [] ((sSeq (sIf (mNot (mB (mChain leD leD (mVar 1) (mCallN lenD (mCons (mVar 0) mNil)) (mVar 2)))) (fun _ => none) sNx) (sSeq (sAsg 3 (mLst mNil)) (sFor (.nm 4) (mSeq (mVar 0)) B_check_list_1))))
theorem sc_check_list : FnScope ["names", "least", "most", "seen", "name"] ["names", "least", "most"] (defScope s_check_list) := ⟨rfl, rfl, rfl, by decide +kernel, rfl, by decide +kernel, by decide +kernel⟩
theorem fn_check_list (E : Env P w K mg base) {fd : FuncData} {dvs : List V} (FD : FunD K "check_list" "check_list" (defArgs s_check_list) (defBody s_check_list) (defScope s_check_list) dvs [] (at_check_list K) fd) :
    FnOk P w K mg base (L2.CX P w) 1 (at_check_list K) fd ["names", "least", "most"] (spOf (G K) 3 [] F_check_list) := by
  refine def_ok FD sc_check_list rfl rfl (by decide) (fun X W hX hr tk hp => ?_)
  have hu := hr.un
  have h67 : X.A.units + 67 < cLine := by omega
  have h65 : X.A.units + 65 < cLine := by omega
  have h64 : X.A.units + 64 < cLine := by omega
  have h1 : X.A.units + 1 < cLine := by omega
  obtain ⟨cdv, A, outer, s, H, E', rfl⟩ := hX
  have hN : (["names", "least", "most", "seen", "name"] : List Str).Nodup := by decide
  exact (gss_cons (gs_if (gt_not (gt_chain od_le od_le (ge_var 1) (ge_callB (cd_len rfl) E.f_len boot_len (ga_cons (ge_var 0) ga_nil)) (ge_var 2))) (gss_one gs_never) gss_nil)
    (gss_cons (gs_asg 3 hN (ge_lst ga_nil))
    (gss_one (gs_for rfl hp rfl (gi_seq rfl (ge_var 0)) (gg_nm 4 hN) (gss_cons (gs_if (gt_bor (gt_cmp (od_in rfl h65) (ge_var 4) (ge_var 3))) (gss_one gs_never) gss_nil)
    (gss_one (gs_expr (ge_app 3 (ge_var 4)))))))))
theorem ok_check_list (E : Env P w K mg base) : MD P w K mg base (G K) (at_check_list K) 1 3 [] [] F_check_list := by
  obtain ⟨fd, FD⟩ := E.d_check_list
  exact ⟨fd, ["names", "least", "most"], [], [], fn_check_list E FD, FD.bindsN (fun _ _ _ _ _ _ us hl => match us, hl with | [_, _, _], _ => rfl), .nil, fun _ _ => ⟨rfl, rfl⟩⟩
def F_check_actor : Fn := runDef 2 2 [] ((sIf (mB (mOp ninD (mVar 0) (mVar 1))) (fun _ => none) sNx))
theorem sc_check_actor : FnScope ["actor", "actors"] ["actor", "actors"] (defScope s_check_actor) := ⟨rfl, rfl, rfl, by decide +kernel, rfl, by decide +kernel, by decide +kernel⟩
theorem fn_check_actor (E : Env P w K mg base) {fd : FuncData} {dvs : List V} (FD : FunD K "check_actor" "check_actor" (defArgs s_check_actor) (defBody s_check_actor) (defScope s_check_actor) dvs [] (at_check_actor K) fd) :
    FnOk P w K mg base (L2.CX P w) 1 (at_check_actor K) fd ["actor", "actors"] (spOf (G K) 2 [] F_check_actor) := by
  refine def_ok FD sc_check_actor rfl rfl (by decide) (fun X W hX hr tk hp => ?_)
  have hu := hr.un
  have h67 : X.A.units + 67 < cLine := by omega
  have h65 : X.A.units + 65 < cLine := by omega
  have h64 : X.A.units + 64 < cLine := by omega
  have h1 : X.A.units + 1 < cLine := by omega
  obtain ⟨cdv, A, outer, s, H, E', rfl⟩ := hX
  have hN : (["actor", "actors"] : List Str).Nodup := by decide
  exact (gss_one (gs_if (gt_cmp (od_nin rfl h65) (ge_var 0) (ge_var 1)) (gss_one gs_never) gss_nil))
theorem ok_check_actor (E : Env P w K mg base) : MD P w K mg base (G K) (at_check_actor K) 1 2 [] [] F_check_actor := by
  obtain ⟨fd, FD⟩ := E.d_check_actor
  exact ⟨fd, ["actor", "actors"], [], [], fn_check_actor E FD, FD.bindsN (fun _ _ _ _ _ _ us hl => match us, hl with | [_, _], _ => rfl), .nil, fun _ _ => ⟨rfl, rfl⟩⟩
def F_check_same_actors : Fn := runDef 2 2 [] ((sIf (mB (mOp neD (mVar 0) (mVar 1))) (fun _ => none) sNx))
theorem sc_check_same_actors : FnScope ["first", "second"] ["first", "second"] (defScope s_check_same_actors) := ⟨rfl, rfl, rfl, by decide +kernel, rfl, by decide +kernel, by decide +kernel⟩
theorem fn_check_same_actors (E : Env P w K mg base) {fd : FuncData} {dvs : List V} (FD : FunD K "check_same_actors" "check_same_actors" (defArgs s_check_same_actors) (defBody s_check_same_actors) (defScope s_check_same_actors) dvs [] (at_check_same_actors K) fd) :
    FnOk P w K mg base (L2.CX P w) 1 (at_check_same_actors K) fd ["first", "second"] (spOf (G K) 2 [] F_check_same_actors) := by
  refine def_ok FD sc_check_same_actors rfl rfl (by decide) (fun X W hX hr tk hp => ?_)
  have hu := hr.un
  have h67 : X.A.units + 67 < cLine := by omega
  have h65 : X.A.units + 65 < cLine := by omega
  have h64 : X.A.units + 64 < cLine := by omega
  have h1 : X.A.units + 1 < cLine := by omega
  obtain ⟨cdv, A, outer, s, H, E', rfl⟩ := hX
  have hN : (["first", "second"] : List Str).Nodup := by decide
  exact (gss_one (gs_if (gt_cmp (od_ne rfl h64) (ge_var 0) (ge_var 1)) (gss_one gs_never) gss_nil))
theorem ok_check_same_actors (E : Env P w K mg base) : MD P w K mg base (G K) (at_check_same_actors K) 1 2 [] [] F_check_same_actors := by
  obtain ⟨fd, FD⟩ := E.d_check_same_actors
  exact ⟨fd, ["first", "second"], [], [], fn_check_same_actors E FD, FD.bindsN (fun _ _ _ _ _ _ us hl => match us, hl with | [_, _], _ => rfl), .nil, fun _ _ => ⟨rfl, rfl⟩⟩
def B_Web___init___1 : MS := (sSeq (sExpr (mCall 2 F_check_actor [] (mCons (mVar 3) (mCons (mVar 1) mNil)))) (sExpr (mCall 2 F_check_actor [] (mCons (mVar 4) (mCons (mVar 1) mNil)))))
def T_Web___init___2 : M Bool := (mAnd (mB (mOp neD (mVar 5) (mVar 6))) (mB (mOp inD (mTup (mCons (mVar 5) (mCons (mVar 6) mNil))) (mVar 2))))
def E_Web___init___3 : M D := (mTup (mCons (mVar 5) (mCons (mVar 6) mNil)))
def I_Web___init___4 : M (List D) := (mSeq (mUn (fldD 0 "_actors") (mVar 0)))
def F_Web___init__ : Fn := runDef 3 7 [0] ((sSeq (sExpr (mBor D.imm (mCall 3 F_check_list [] (mCons (mVar 1) (mCons (mC (.int 1)) (mCons (mUn (conD 0 "MOST_ACTORS" (.int 5)) (mVar 0)) mNil)))))) (sSeq (sFor (.tp [3, 4]) (mSeq (mVar 2)) B_Web___init___1) (sSeq (sFldS 0 0 "_actors" (mCallN listD (mCons (mVar 1) mNil))) (sFldS 0 0 "_pairs" (mBor D.imm (mLc2 [5, 6] [6] (.nm 5) (mSeq (mUn (fldD 0 "_actors") (mVar 0))) mYes (.nm 6) I_Web___init___4 T_Web___init___2 E_Web___init___3)))))))
theorem sc_Web___init__ : FnScope ["self", "actors", "pairs", "first", "second", "a", "b"] ["self", "actors", "pairs"] (defScope s_Web___init__) := ⟨rfl, rfl, rfl, by decide +kernel, rfl, by decide +kernel, by decide +kernel⟩
theorem fn_Web___init__ (E : Env P w K mg base) {fd : FuncData} {dvs : List V} (FD : FunD K "__init__" "Web.__init__" (defArgs s_Web___init__) (defBody s_Web___init__) (defScope s_Web___init__) dvs [] (at_Web___init__ K) fd) :
    FnOk P w K mg base (L2.CX P w) 2 (at_Web___init__ K) fd ["self", "actors", "pairs"] (spOf (G K) 3 [0] F_Web___init__) := by
  refine def_ok FD sc_Web___init__ rfl rfl (by decide) (fun X W hX hr tk hp => ?_)
  have hu := hr.un
  have h67 : X.A.units + 67 < cLine := by omega
  have h65 : X.A.units + 65 < cLine := by omega
  have h64 : X.A.units + 64 < cLine := by omega
  have h1 : X.A.units + 1 < cLine := by omega
  obtain ⟨cdv, A, outer, s, H, E', rfl⟩ := hX
  have hN : (["self", "actors", "pairs", "first", "second", "a", "b"] : List Str).Nodup := by decide
  exact (gss_cons (gs_expr (ge_bor (ge_defM (ok_check_list E) E.g_check_list E.k_check_list (hr.mono (by decide)) tk (ga_cons (ge_var 1) (ga_cons ge_int (ga_cons (ge_con (c := 0) (v := .int 5) E.cls E.con_MOST_ACTORS.choose_spec (fun _ _ => ⟨rfl, rfl⟩) (ge_var 0)) ga_nil))))))
    (gss_cons (gs_for rfl hp rfl (gi_seq rfl (ge_var 2)) (gg_tp rfl (ggs_cons 3 hN (ggs_cons 4 hN ggs_nil))) (gss_cons (gs_expr (ge_defM (ok_check_actor E) E.g_check_actor E.k_check_actor (hr.mono (by decide)) tk (ga_cons (ge_var 3) (ga_cons (ge_var 1) ga_nil))))
    (gss_one (gs_expr (ge_defM (ok_check_actor E) E.g_check_actor E.k_check_actor (hr.mono (by decide)) tk (ga_cons (ge_var 4) (ga_cons (ge_var 1) ga_nil)))))))
    (gss_cons (gs_fld (c := 0) 0 E.cls E.no__actors (ge_callTy (cd_list rfl) E.f_list boot_list (ga_cons (ge_var 1) ga_nil)))
    (gss_one (gs_fld (c := 0) 0 E.cls E.no__pairs (ge_bor (ge_lc2 [6] (own := [("a", 5), ("b", 6)]) rfl rfl hN (gi_seq rfl (ge_fld (c := 0) E.cls E.no__actors (ge_var 0))) (blkOk_by (N := ["self", "actors", "pairs", "first", "second", "a", "b"]) (sc := defScope s_Web___init__) (by decide +kernel)) (by decide) (by decide) (by decide) (fun _ _ _ _ _ => (gg_nm 5 hN)) (fun _ _ _ _ _ => gts_nil) (fun _ _ _ _ _ => (gi_seq rfl (ge_fld (c := 0) E.cls E.no__actors (ge_var 0)))) (fun _ _ _ _ _ => (gg_nm 6 hN)) (fun _ _ _ _ _ => (gts_one (gt_w (gw_and (gt_cmp (od_ne rfl h64) (ge_var 5) (ge_var 6)) (gw_and1 (gt_cmp (od_in rfl h65) (ge_tup (ga_cons (ge_var 5) (ga_cons (ge_var 6) ga_nil))) (ge_var 2))))))) (fun _ _ _ _ _ => (ge_tup (ga_cons (ge_var 5) (ga_cons (ge_var 6) ga_nil)))))))))))
theorem ok_Web___init__ (E : Env P w K mg base) : MD P w K mg base (G K) (at_Web___init__ K) 2 3 [] [0] F_Web___init__ := by
  obtain ⟨fd, FD⟩ := E.d_Web___init__
  obtain ⟨ds, hd, hb⟩ := FD.binds1 (ps := ["self", "actors", "pairs"]) 3 1 (by simp) rfl (fun T kV doc pm an cdv ct us its hl1 hl2 => match us, its, hl1, hl2 with | [_, _, _], [_], _, _ => ⟨_, rfl, rfl⟩)
  have : ds = [] := by cases hd; rfl
  subst this
  exact ⟨fd, ["self", "actors", "pairs"], [], [], fn_Web___init__ E FD, hb, .nil, fun _ _ => ⟨rfl, rfl⟩⟩
theorem okD_Web___init__ (E : Env P w K mg base) : MD P w K mg base (G K) (at_Web___init__ K) 2 3 [.tup []] [0] F_Web___init__ := by
  obtain ⟨fd, FD⟩ := E.d_Web___init__
  obtain ⟨ds, hd, hb⟩ := FD.binds1 (ps := ["self", "actors", "pairs"]) 2 0 (by simp) rfl (fun T kV doc pm an cdv ct us its hl1 hl2 => match us, its, hl1, hl2 with | [_, _], [_], _, _ => ⟨_, rfl, rfl⟩)
  refine ⟨fd, ["self", "actors", "pairs"], _, ds, fn_Web___init__ E FD, hb, hd, fun S H => ⟨_, [], [], [], rfl, rfl, ⟨_, [], rfl, rfl, .inr ⟨rfl, ?_⟩, rfl, rfl⟩, rfl, rfl⟩⟩
  rcases E.dfl with h | h
  · rcases h with h | ⟨o, h⟩ <;> cases h
  · exact .inr h
theorem okK_Web___init__ (E : Env P w K mg base) : MDK P w K mg base (G K) (at_Web___init__ K) 2 3 2 ["pairs"] (fun a b => a ++ b) [0] F_Web___init__ := by
  obtain ⟨fd, FD⟩ := E.d_Web___init__
  obtain ⟨its, hb⟩ := FD.kbindsD (ps := ["self", "actors", "pairs"]) 2 ["pairs"] (fun a _ c => a ++ c) (by simp) (fun r1 _ r3 => r1.append r3) (fun T kV doc pm an cdv ct us its ws hl1 hl2 hl3 => match us, its, ws, hl1, hl2, hl3 with | [_, _], [_], [_], _, _, _ => ⟨_, rfl, rfl⟩)
  refine ⟨fd, ["self", "actors", "pairs"], _, _, fn_Web___init__ E FD, hb, fun S H ds vs fp es zs fq h1 h2 l1 l2 => ⟨⟨_, .refl _, h1.app h2⟩, ?_⟩⟩
  match vs, ds, h1, l1 with
  | v :: vs, d :: ds, _, _ => rfl
  | [], d :: ds, h1, _ => obtain ⟨_, _, _, _, h0, _⟩ := h1; cases h0
  | _, [], _, l1 => cases l1

def E_Web_full_1 : M D := (mTup (mCons (mVar 2) (mCons (mVar 3) mNil)))
def I_Web_full_2 : M (List D) := (mSeq (mVar 1))
def F_Web_full : Fn := runDef 2 4 [] ((sRet (mMakeL 0 0 0 3 F_Web___init__ [] (mCons (mVar 1) (mCons (mCls (mLc2 [2, 3] [3] (.nm 2) (mSeq (mVar 1)) mYes (.nm 3) I_Web_full_2 mYes E_Web_full_1)) mNil)))))
theorem sc_Web_full : FnScope ["cls", "actors", "a", "b"] ["cls", "actors"] (defScope s_Web_full) := ⟨rfl, rfl, rfl, by decide +kernel, rfl, by decide +kernel, by decide +kernel⟩
theorem fn_Web_full (E : Env P w K mg base) {fd : FuncData} {dvs : List V} (FD : FunD K "full" "Web.full" (defArgs s_Web_full) (defBody s_Web_full) (defScope s_Web_full) dvs [] (at_Web_full K) fd) :
    FnOk P w K mg base (L2.CX P w) 4 (at_Web_full K) fd ["cls", "actors"] (spOf (G K) 2 [] F_Web_full) := by
  refine def_ok FD sc_Web_full rfl rfl (by decide) (fun X W hX hr tk hp => ?_)
  have hu := hr.un
  have h67 : X.A.units + 67 < cLine := by omega
  have h65 : X.A.units + 65 < cLine := by omega
  have h64 : X.A.units + 64 < cLine := by omega
  have h1 : X.A.units + 1 < cLine := by omega
  obtain ⟨cdv, A, outer, s, H, E', rfl⟩ := hX
  have hN : (["cls", "actors", "a", "b"] : List Str).Nodup := by decide
  exact (gss_one (gs_ret (ge_makeL 0 0 rfl E.mkr (ok_Web___init__ E) tk (hr.mono (by decide)) (ga_cons (ge_var 1) (ga_cons (ge_cls (ge_lc2 [3] (own := [("a", 2), ("b", 3)]) rfl rfl hN (gi_seq rfl (ge_var 1)) (blkOk_by (N := ["cls", "actors", "a", "b"]) (sc := defScope s_Web_full) (by decide +kernel)) (by decide) (by decide) (by decide) (fun _ _ _ _ _ => (gg_nm 2 hN)) (fun _ _ _ _ _ => gts_nil) (fun _ _ _ _ _ => (gi_seq rfl (ge_var 1))) (fun _ _ _ _ _ => (gg_nm 3 hN)) (fun _ _ _ _ _ => gts_nil) (fun _ _ _ _ _ => (ge_tup (ga_cons (ge_var 2) (ga_cons (ge_var 3) ga_nil)))))) ga_nil)))))
theorem ok_Web_full (E : Env P w K mg base) : MD P w K mg base (G K) (at_Web_full K) 4 2 [] [] F_Web_full := by
  obtain ⟨fd, FD⟩ := E.d_Web_full
  exact ⟨fd, ["cls", "actors"], [], [], fn_Web_full E FD, FD.bindsN (fun _ _ _ _ _ _ us hl => match us, hl with | [_, _], _ => rfl), .nil, fun _ _ => ⟨rfl, rfl⟩⟩
def F_Web_chain : Fn := runDef 2 2 [] ((sRet (mMakeL 0 0 0 3 F_Web___init__ [] (mCons (mVar 1) (mCons (mCls (mLz (mCons (mVar 1) (mCons (mSl slD (mVar 1) (mPart (mC (.int 1))) mNo) mNil)))) mNil)))))
theorem sc_Web_chain : FnScope ["cls", "actors"] ["cls", "actors"] (defScope s_Web_chain) := ⟨rfl, rfl, rfl, by decide +kernel, rfl, by decide +kernel, by decide +kernel⟩
theorem fn_Web_chain (E : Env P w K mg base) {fd : FuncData} {dvs : List V} (FD : FunD K "chain" "Web.chain" (defArgs s_Web_chain) (defBody s_Web_chain) (defScope s_Web_chain) dvs [] (at_Web_chain K) fd) :
    FnOk P w K mg base (L2.CX P w) 4 (at_Web_chain K) fd ["cls", "actors"] (spOf (G K) 2 [] F_Web_chain) := by
  refine def_ok FD sc_Web_chain rfl rfl (by decide) (fun X W hX hr tk hp => ?_)
  have hu := hr.un
  have h67 : X.A.units + 67 < cLine := by omega
  have h65 : X.A.units + 65 < cLine := by omega
  have h64 : X.A.units + 64 < cLine := by omega
  have h1 : X.A.units + 1 < cLine := by omega
  obtain ⟨cdv, A, outer, s, H, E', rfl⟩ := hX
  have hN : (["cls", "actors"] : List Str).Nodup := by decide
  exact (gss_one (gs_ret (ge_makeL 0 0 rfl E.mkr (ok_Web___init__ E) tk (hr.mono (by decide)) (ga_cons (ge_var 1) (ga_cons (ge_cls (ge_lz rfl rfl E.f_list E.f_zip (ga_cons (ge_var 1) (ga_cons (ge_slice rfl (ge_var 1) (go_some ge_int) go_none) ga_nil)))) ga_nil)))))
theorem ok_Web_chain (E : Env P w K mg base) : MD P w K mg base (G K) (at_Web_chain K) 4 2 [] [] F_Web_chain := by
  obtain ⟨fd, FD⟩ := E.d_Web_chain
  exact ⟨fd, ["cls", "actors"], [], [], fn_Web_chain E FD, FD.bindsN (fun _ _ _ _ _ _ us hl => match us, hl with | [_, _], _ => rfl), .nil, fun _ _ => ⟨rfl, rfl⟩⟩
def F_Web_actors : Fn := runDef 1 1 [] ((sRet (mCallN listD (mCons (mUn (fldD 0 "_actors") (mVar 0)) mNil))))
theorem sc_Web_actors : FnScope ["self"] ["self"] (defScope s_Web_actors) := ⟨rfl, rfl, rfl, by decide +kernel, rfl, by decide +kernel, by decide +kernel⟩
theorem fn_Web_actors (E : Env P w K mg base) {fd : FuncData} {dvs : List V} (FD : FunD K "actors" "Web.actors" (defArgs s_Web_actors) (defBody s_Web_actors) (defScope s_Web_actors) dvs [] (at_Web_actors K) fd) :
    FnOk P w K mg base (L2.CX P w) 1 (at_Web_actors K) fd ["self"] (spOf (G K) 1 [] F_Web_actors) := by
  refine def_ok FD sc_Web_actors rfl rfl (by decide) (fun X W hX hr tk hp => ?_)
  have hu := hr.un
  have h67 : X.A.units + 67 < cLine := by omega
  have h65 : X.A.units + 65 < cLine := by omega
  have h64 : X.A.units + 64 < cLine := by omega
  have h1 : X.A.units + 1 < cLine := by omega
  obtain ⟨cdv, A, outer, s, H, E', rfl⟩ := hX
  have hN : (["self"] : List Str).Nodup := by decide
  exact (gss_one (gs_ret (ge_callTy (cd_list rfl) E.f_list boot_list (ga_cons (ge_fld (c := 0) E.cls E.no__actors (ge_var 0)) ga_nil))))
theorem ok_Web_actors (E : Env P w K mg base) : MD P w K mg base (G K) (at_Web_actors K) 1 1 [] [] F_Web_actors := by
  obtain ⟨fd, FD⟩ := E.d_Web_actors
  exact ⟨fd, ["self"], [], [], fn_Web_actors E FD, FD.bindsN (fun _ _ _ _ _ _ us hl => match us, hl with | [_], _ => rfl), .nil, fun _ _ => ⟨rfl, rfl⟩⟩
def F_Web___getitem__ : Fn := runDef 2 4 [] ((sSeq (sAsgT [2, 3] (mCls (mVar 1))) (sSeq (sExpr (mCall 2 F_check_actor [] (mCons (mVar 2) (mCons (mUn (fldD 0 "_actors") (mVar 0)) mNil)))) (sSeq (sExpr (mCall 2 F_check_actor [] (mCons (mVar 3) (mCons (mUn (fldD 0 "_actors") (mVar 0)) mNil)))) (sRet (mOrV (mOp eqD (mVar 2) (mVar 3)) (mOp inD (mTup (mCons (mVar 2) (mCons (mVar 3) mNil))) (mUn (fldD 0 "_pairs") (mVar 0)))))))))
theorem sc_Web___getitem__ : FnScope ["self", "at", "first", "second"] ["self", "at"] (defScope s_Web___getitem__) := ⟨rfl, rfl, rfl, by decide +kernel, rfl, by decide +kernel, by decide +kernel⟩
theorem fn_Web___getitem__ (E : Env P w K mg base) {fd : FuncData} {dvs : List V} (FD : FunD K "__getitem__" "Web.__getitem__" (defArgs s_Web___getitem__) (defBody s_Web___getitem__) (defScope s_Web___getitem__) dvs [] (at_Web___getitem__ K) fd) :
    FnOk P w K mg base (L2.CX P w) 2 (at_Web___getitem__ K) fd ["self", "at"] (spOf (G K) 2 [] F_Web___getitem__) := by
  refine def_ok FD sc_Web___getitem__ rfl rfl (by decide) (fun X W hX hr tk hp => ?_)
  have hu := hr.un
  have h67 : X.A.units + 67 < cLine := by omega
  have h65 : X.A.units + 65 < cLine := by omega
  have h64 : X.A.units + 64 < cLine := by omega
  have h1 : X.A.units + 1 < cLine := by omega
  obtain ⟨cdv, A, outer, s, H, E', rfl⟩ := hX
  have hN : (["self", "at", "first", "second"] : List Str).Nodup := by decide
  exact (gss_cons (gs_asgT rfl rfl (ggs_cons 2 hN (ggs_cons 3 hN ggs_nil)) (ge_cls (ge_var 1)))
    (gss_cons (gs_expr (ge_defM (ok_check_actor E) E.g_check_actor E.k_check_actor (hr.mono (by decide)) tk (ga_cons (ge_var 2) (ga_cons (ge_fld (c := 0) E.cls E.no__actors (ge_var 0)) ga_nil))))
    (gss_cons (gs_expr (ge_defM (ok_check_actor E) E.g_check_actor E.k_check_actor (hr.mono (by decide)) tk (ga_cons (ge_var 3) (ga_cons (ge_fld (c := 0) E.cls E.no__actors (ge_var 0)) ga_nil))))
    (gss_one (gs_ret (ge_or (ge_cmp (od_eq rfl h64) (ge_var 2) (ge_var 3)) (ge_one (ge_cmp (od_in rfl h65) (ge_tup (ga_cons (ge_var 2) (ga_cons (ge_var 3) ga_nil))) (ge_fld (c := 0) E.cls E.no__pairs (ge_var 0))))))))))
theorem ok_Web___getitem__ (E : Env P w K mg base) : MD P w K mg base (G K) (at_Web___getitem__ K) 2 2 [] [] F_Web___getitem__ := by
  obtain ⟨fd, FD⟩ := E.d_Web___getitem__
  exact ⟨fd, ["self", "at"], [], [], fn_Web___getitem__ E FD, FD.bindsN (fun _ _ _ _ _ _ us hl => match us, hl with | [_, _], _ => rfl), .nil, fun _ _ => ⟨rfl, rfl⟩⟩
def T_Web___setitem___1 : M Bool := (mB (mOp neD (mVar 6) (mTup (mCons (mVar 4) (mCons (mVar 5) mNil)))))
def E_Web___setitem___2 : M D := (mVar 6)
def T_Web___setitem___3 : M Bool := (mB (mOp inD (mTup (mCons (mVar 7) (mCons (mVar 8) mNil))) (mVar 3)))
def E_Web___setitem___4 : M D := (mTup (mCons (mVar 7) (mCons (mVar 8) mNil)))
def I_Web___setitem___5 : M (List D) := (mSeq (mUn (fldD 0 "_actors") (mVar 0)))
def F_Web___setitem__ : Fn := runDef 3 9 [0] ((sSeq (sAsgT [4, 5] (mCls (mVar 1))) (sSeq (sExpr (mBor D.imm (mCall 2 F_check_actor [] (mCons (mVar 4) (mCons (mUn (fldD 0 "_actors") (mVar 0)) mNil))))) (sSeq (sExpr (mBor D.imm (mCall 2 F_check_actor [] (mCons (mVar 5) (mCons (mUn (fldD 0 "_actors") (mVar 0)) mNil))))) (sSeq (sIf (mB (mOp eqD (mVar 4) (mVar 5))) (sSeq (sIf (mNot (mB (mVar 2))) (fun _ => none) sNx) sRetN) sNx) (sSeq (sAsg 3 (mBor D.imm (mLc [6] (.nm 6) (mSeq (mUn (fldD 0 "_pairs") (mVar 0))) T_Web___setitem___1 E_Web___setitem___2))) (sSeq (sIf (mB (mVar 2)) (sExpr (mApp 3 (mTup (mCons (mVar 4) (mCons (mVar 5) mNil))))) sNx) (sFldS 0 0 "_pairs" (mBor D.imm (mLc2 [7, 8] [8] (.nm 7) (mSeq (mUn (fldD 0 "_actors") (mVar 0))) mYes (.nm 8) I_Web___setitem___5 T_Web___setitem___3 E_Web___setitem___4))))))))))
theorem sc_Web___setitem__ : FnScope ["self", "at", "allowed", "kept", "first", "second", "pair", "a", "b"] ["self", "at", "allowed"] (defScope s_Web___setitem__) := ⟨rfl, rfl, rfl, by decide +kernel, rfl, by decide +kernel, by decide +kernel⟩
theorem fn_Web___setitem__ (E : Env P w K mg base) {fd : FuncData} {dvs : List V} (FD : FunD K "__setitem__" "Web.__setitem__" (defArgs s_Web___setitem__) (defBody s_Web___setitem__) (defScope s_Web___setitem__) dvs [] (at_Web___setitem__ K) fd) :
    FnOk P w K mg base (L2.CX P w) 2 (at_Web___setitem__ K) fd ["self", "at", "allowed"] (spOf (G K) 3 [0] F_Web___setitem__) := by
  refine def_ok FD sc_Web___setitem__ rfl rfl (by decide) (fun X W hX hr tk hp => ?_)
  have hu := hr.un
  have h67 : X.A.units + 67 < cLine := by omega
  have h65 : X.A.units + 65 < cLine := by omega
  have h64 : X.A.units + 64 < cLine := by omega
  have h1 : X.A.units + 1 < cLine := by omega
  obtain ⟨cdv, A, outer, s, H, E', rfl⟩ := hX
  have hN : (["self", "at", "allowed", "kept", "first", "second", "pair", "a", "b"] : List Str).Nodup := by decide
  exact (gss_cons (gs_asgT rfl rfl (ggs_cons 4 hN (ggs_cons 5 hN ggs_nil)) (ge_cls (ge_var 1)))
    (gss_cons (gs_expr (ge_bor (ge_defM (ok_check_actor E) E.g_check_actor E.k_check_actor (hr.mono (by decide)) tk (ga_cons (ge_var 4) (ga_cons (ge_fld (c := 0) E.cls E.no__actors (ge_var 0)) ga_nil)))))
    (gss_cons (gs_expr (ge_bor (ge_defM (ok_check_actor E) E.g_check_actor E.k_check_actor (hr.mono (by decide)) tk (ga_cons (ge_var 5) (ga_cons (ge_fld (c := 0) E.cls E.no__actors (ge_var 0)) ga_nil)))))
    (gss_cons (gs_if (gt_cmp (od_eq rfl h64) (ge_var 4) (ge_var 5)) (gss_cons (gs_if (gt_not (gt_b (ge_var 2))) (gss_one gs_never) gss_nil)
    (gss_one gs_retN)) gss_nil)
    (gss_cons (gs_asg 3 hN (ge_bor (ge_lc (own := [("pair", 6)]) rfl rfl hN (gi_seq rfl (ge_fld (c := 0) E.cls E.no__pairs (ge_var 0))) (blkOk_by (N := ["self", "at", "allowed", "kept", "first", "second", "pair", "a", "b"]) (sc := defScope s_Web___setitem__) (by decide +kernel)) (by decide) (fun _ _ _ _ _ => (gg_nm 6 hN)) (fun _ _ _ _ _ => (gts_one (gt_cmp (od_ne rfl h64) (ge_var 6) (ge_tup (ga_cons (ge_var 4) (ga_cons (ge_var 5) ga_nil)))))) (fun _ _ _ _ _ => (ge_var 6)))))
    (gss_cons (gs_if (gt_b (ge_var 2)) (gss_one (gs_expr (ge_app 3 (ge_tup (ga_cons (ge_var 4) (ga_cons (ge_var 5) ga_nil)))))) gss_nil)
    (gss_one (gs_fld (c := 0) 0 E.cls E.no__pairs (ge_bor (ge_lc2 [8] (own := [("a", 7), ("b", 8)]) rfl rfl hN (gi_seq rfl (ge_fld (c := 0) E.cls E.no__actors (ge_var 0))) (blkOk_by (N := ["self", "at", "allowed", "kept", "first", "second", "pair", "a", "b"]) (sc := defScope s_Web___setitem__) (by decide +kernel)) (by decide) (by decide) (by decide) (fun _ _ _ _ _ => (gg_nm 7 hN)) (fun _ _ _ _ _ => gts_nil) (fun _ _ _ _ _ => (gi_seq rfl (ge_fld (c := 0) E.cls E.no__actors (ge_var 0)))) (fun _ _ _ _ _ => (gg_nm 8 hN)) (fun _ _ _ _ _ => (gts_one (gt_cmp (od_in rfl h65) (ge_tup (ga_cons (ge_var 7) (ga_cons (ge_var 8) ga_nil))) (ge_var 3)))) (fun _ _ _ _ _ => (ge_tup (ga_cons (ge_var 7) (ga_cons (ge_var 8) ga_nil))))))))))))))
theorem ok_Web___setitem__ (E : Env P w K mg base) : MD P w K mg base (G K) (at_Web___setitem__ K) 2 3 [] [0] F_Web___setitem__ := by
  obtain ⟨fd, FD⟩ := E.d_Web___setitem__
  exact ⟨fd, ["self", "at", "allowed"], [], [], fn_Web___setitem__ E FD, FD.bindsN (fun _ _ _ _ _ _ us hl => match us, hl with | [_, _, _], _ => rfl), .nil, fun _ _ => ⟨rfl, rfl⟩⟩
theorem sc_Web___iter__ : FnScope ["self"] ["self"] (defScope s_Web___iter__) := ⟨rfl, rfl, rfl, by decide +kernel, rfl, by decide +kernel, by decide +kernel⟩
theorem it_Web (E : Env P w K mg base) : ItCls P w K mg base 1 (web K) "_pairs" := by
  obtain ⟨fd, FD⟩ := E.d_Web___iter__
  refine ⟨⟨_, fd, ["self"], ?_, FD.bindsN (fun _ _ _ _ _ _ us hl => match us, hl with | [_], _ => rfl), E.mt___iter__.at_, E.mt___iter__.fn⟩, E.nocon⟩
  refine FD.ok sc_Web___iter__ (fun vs H Q E h => ?_) fun cdv A outer s H vs Q E' hr h => ?_
  · obtain ⟨a, dx, fs, l, zs, rfl, _⟩ := h; rfl
  obtain ⟨a, dx, fs, l, zs, rfl, ha, hl, hz, q⟩ := h
  refine ⟨_, pss_one (ps_ret (pe_callB call_iterL rfl E.f_iter boot_iter (pa_cons (pe_fld (pe_var (i := 0) rfl (by first | exact Or.inl rfl | exact Or.inr (Or.inl rfl))) rfl) pa_nil))), ?_⟩
  exact ⟨.ref a, rfl, a, _, dx, fs, .ref l, rfl, ha, E.cls, E.no__pairs, hl, l, zs, rfl, hz, q⟩

def F_Web___len__ : Fn := runDef 1 1 [] ((sRet (mCallN lenD (mCons (mUn (fldD 0 "_pairs") (mVar 0)) mNil))))
theorem sc_Web___len__ : FnScope ["self"] ["self"] (defScope s_Web___len__) := ⟨rfl, rfl, rfl, by decide +kernel, rfl, by decide +kernel, by decide +kernel⟩
theorem fn_Web___len__ (E : Env P w K mg base) {fd : FuncData} {dvs : List V} (FD : FunD K "__len__" "Web.__len__" (defArgs s_Web___len__) (defBody s_Web___len__) (defScope s_Web___len__) dvs [] (at_Web___len__ K) fd) :
    FnOk P w K mg base (L2.CX P w) 1 (at_Web___len__ K) fd ["self"] (spOf (G K) 1 [] F_Web___len__) := by
  refine def_ok FD sc_Web___len__ rfl rfl (by decide) (fun X W hX hr tk hp => ?_)
  have hu := hr.un
  have h67 : X.A.units + 67 < cLine := by omega
  have h65 : X.A.units + 65 < cLine := by omega
  have h64 : X.A.units + 64 < cLine := by omega
  have h1 : X.A.units + 1 < cLine := by omega
  obtain ⟨cdv, A, outer, s, H, E', rfl⟩ := hX
  have hN : (["self"] : List Str).Nodup := by decide
  exact (gss_one (gs_ret (ge_callB (cd_len rfl) E.f_len boot_len (ga_cons (ge_fld (c := 0) E.cls E.no__pairs (ge_var 0)) ga_nil))))
theorem ok_Web___len__ (E : Env P w K mg base) : MD P w K mg base (G K) (at_Web___len__ K) 1 1 [] [] F_Web___len__ := by
  obtain ⟨fd, FD⟩ := E.d_Web___len__
  exact ⟨fd, ["self"], [], [], fn_Web___len__ E FD, FD.bindsN (fun _ _ _ _ _ _ us hl => match us, hl with | [_], _ => rfl), .nil, fun _ _ => ⟨rfl, rfl⟩⟩
def F_Web___eq__ : Fn := runDef 2 2 [] ((sRet (mAndV (mCallN (isiD isiT) (mCons (mVar 1) (mCons (mC (.gl 0)) mNil))) (mAndV (mOp eqD (mUn (fldD 0 "_actors") (mVar 0)) (mUn (fldD 0 "_actors") (mVar 1))) (mOp eqD (mUn (fldD 0 "_pairs") (mVar 0)) (mUn (fldD 0 "_pairs") (mVar 1)))))))
theorem sc_Web___eq__ : FnScope ["self", "other"] ["self", "other"] (defScope s_Web___eq__) := ⟨rfl, rfl, rfl, by decide +kernel, rfl, by decide +kernel, by decide +kernel⟩
theorem fn_Web___eq__ (E : Env P w K mg base) {fd : FuncData} {dvs : List V} (FD : FunD K "__eq__" "Web.__eq__" (defArgs s_Web___eq__) (defBody s_Web___eq__) (defScope s_Web___eq__) dvs [] (at_Web___eq__ K) fd) :
    FnOk P w K mg base (L2.CX P w) 1 (at_Web___eq__ K) fd ["self", "other"] (spOf (G K) 2 [] F_Web___eq__) := by
  refine def_ok FD sc_Web___eq__ rfl rfl (by decide) (fun X W hX hr tk hp => ?_)
  have hu := hr.un
  have h67 : X.A.units + 67 < cLine := by omega
  have h65 : X.A.units + 65 < cLine := by omega
  have h64 : X.A.units + 64 < cLine := by omega
  have h1 : X.A.units + 1 < cLine := by omega
  obtain ⟨cdv, A, outer, s, H, E', rfl⟩ := hX
  have hN : (["self", "other"] : List Str).Nodup := by decide
  exact (gss_one (gs_ret (ge_and (ge_callB (cd_isi rfl E.isi) E.f_isinstance boot_isinstance (ga_cons (ge_var 1) (ga_cons (ge_gl 0 E.gWeb rfl) ga_nil))) (ge_and (ge_cmp (od_eq rfl h64) (ge_fld (c := 0) E.cls E.no__actors (ge_var 0)) (ge_fld (c := 0) E.cls E.no__actors (ge_var 1))) (ge_one (ge_cmp (od_eq rfl h64) (ge_fld (c := 0) E.cls E.no__pairs (ge_var 0)) (ge_fld (c := 0) E.cls E.no__pairs (ge_var 1))))))))
theorem ok_Web___eq__ (E : Env P w K mg base) : MD P w K mg base (G K) (at_Web___eq__ K) 1 2 [] [] F_Web___eq__ := by
  obtain ⟨fd, FD⟩ := E.d_Web___eq__
  exact ⟨fd, ["self", "other"], [], [], fn_Web___eq__ E FD, FD.bindsN (fun _ _ _ _ _ _ us hl => match us, hl with | [_, _], _ => rfl), .nil, fun _ _ => ⟨rfl, rfl⟩⟩
def F_Web___or__ : Fn := runDef 2 2 [] ((sSeq (sExpr (mCall 2 F_check_same_actors [] (mCons (mUn (fldD 0 "_actors") (mVar 0)) (mCons (mUn (fldD 0 "_actors") (mVar 1)) mNil)))) (sRet (mMake 0 3 F_Web___init__ [] (mCons (mUn (fldD 0 "_actors") (mVar 0)) (mCons (mCls (mOp addD (mUn (fldD 0 "_pairs") (mVar 0)) (mUn (fldD 0 "_pairs") (mVar 1)))) mNil))))))
theorem sc_Web___or__ : FnScope ["self", "other"] ["self", "other"] (defScope s_Web___or__) := ⟨rfl, rfl, rfl, by decide +kernel, rfl, by decide +kernel, by decide +kernel⟩
theorem fn_Web___or__ (E : Env P w K mg base) {fd : FuncData} {dvs : List V} (FD : FunD K "__or__" "Web.__or__" (defArgs s_Web___or__) (defBody s_Web___or__) (defScope s_Web___or__) dvs [] (at_Web___or__ K) fd) :
    FnOk P w K mg base (L2.CX P w) 4 (at_Web___or__ K) fd ["self", "other"] (spOf (G K) 2 [] F_Web___or__) := by
  refine def_ok FD sc_Web___or__ rfl rfl (by decide) (fun X W hX hr tk hp => ?_)
  have hu := hr.un
  have h67 : X.A.units + 67 < cLine := by omega
  have h65 : X.A.units + 65 < cLine := by omega
  have h64 : X.A.units + 64 < cLine := by omega
  have h1 : X.A.units + 1 < cLine := by omega
  obtain ⟨cdv, A, outer, s, H, E', rfl⟩ := hX
  have hN : (["self", "other"] : List Str).Nodup := by decide
  exact (gss_cons (gs_expr (ge_defM (ok_check_same_actors E) E.g_check_same_actors E.k_check_same_actors (hr.mono (by decide)) tk (ga_cons (ge_fld (c := 0) E.cls E.no__actors (ge_var 0)) (ga_cons (ge_fld (c := 0) E.cls E.no__actors (ge_var 1)) ga_nil))))
    (gss_one (gs_ret (ge_make (c := 0) E.mkr (ok_Web___init__ E) tk (hr.mono (by decide)) E.gWeb (ga_cons (ge_fld (c := 0) E.cls E.no__actors (ge_var 0)) (ga_cons (ge_cls (ge_op od_add (ge_fld (c := 0) E.cls E.no__pairs (ge_var 0)) (ge_fld (c := 0) E.cls E.no__pairs (ge_var 1)))) ga_nil))))))
theorem ok_Web___or__ (E : Env P w K mg base) : MD P w K mg base (G K) (at_Web___or__ K) 4 2 [] [] F_Web___or__ := by
  obtain ⟨fd, FD⟩ := E.d_Web___or__
  exact ⟨fd, ["self", "other"], [], [], fn_Web___or__ E FD, FD.bindsN (fun _ _ _ _ _ _ us hl => match us, hl with | [_, _], _ => rfl), .nil, fun _ _ => ⟨rfl, rfl⟩⟩
def T_Web___and___1 : M Bool := (mB (mOp inD (mVar 2) (mUn (fldD 0 "_pairs") (mVar 1))))
def E_Web___and___2 : M D := (mVar 2)
def F_Web___and__ : Fn := runDef 2 3 [] ((sSeq (sExpr (mCall 2 F_check_same_actors [] (mCons (mUn (fldD 0 "_actors") (mVar 0)) (mCons (mUn (fldD 0 "_actors") (mVar 1)) mNil)))) (sRet (mMake 0 3 F_Web___init__ [] (mCons (mUn (fldD 0 "_actors") (mVar 0)) (mCons (mCls (mLc [2] (.nm 2) (mSeq (mUn (fldD 0 "_pairs") (mVar 0))) T_Web___and___1 E_Web___and___2)) mNil))))))
theorem sc_Web___and__ : FnScope ["self", "other", "pair"] ["self", "other"] (defScope s_Web___and__) := ⟨rfl, rfl, rfl, by decide +kernel, rfl, by decide +kernel, by decide +kernel⟩
theorem fn_Web___and__ (E : Env P w K mg base) {fd : FuncData} {dvs : List V} (FD : FunD K "__and__" "Web.__and__" (defArgs s_Web___and__) (defBody s_Web___and__) (defScope s_Web___and__) dvs [] (at_Web___and__ K) fd) :
    FnOk P w K mg base (L2.CX P w) 4 (at_Web___and__ K) fd ["self", "other"] (spOf (G K) 2 [] F_Web___and__) := by
  refine def_ok FD sc_Web___and__ rfl rfl (by decide) (fun X W hX hr tk hp => ?_)
  have hu := hr.un
  have h67 : X.A.units + 67 < cLine := by omega
  have h65 : X.A.units + 65 < cLine := by omega
  have h64 : X.A.units + 64 < cLine := by omega
  have h1 : X.A.units + 1 < cLine := by omega
  obtain ⟨cdv, A, outer, s, H, E', rfl⟩ := hX
  have hN : (["self", "other", "pair"] : List Str).Nodup := by decide
  exact (gss_cons (gs_expr (ge_defM (ok_check_same_actors E) E.g_check_same_actors E.k_check_same_actors (hr.mono (by decide)) tk (ga_cons (ge_fld (c := 0) E.cls E.no__actors (ge_var 0)) (ga_cons (ge_fld (c := 0) E.cls E.no__actors (ge_var 1)) ga_nil))))
    (gss_one (gs_ret (ge_make (c := 0) E.mkr (ok_Web___init__ E) tk (hr.mono (by decide)) E.gWeb (ga_cons (ge_fld (c := 0) E.cls E.no__actors (ge_var 0)) (ga_cons (ge_cls (ge_lc (own := [("pair", 2)]) rfl rfl hN (gi_seq rfl (ge_fld (c := 0) E.cls E.no__pairs (ge_var 0))) (blkOk_by (N := ["self", "other", "pair"]) (sc := defScope s_Web___and__) (by decide +kernel)) (by decide) (fun _ _ _ _ _ => (gg_nm 2 hN)) (fun _ _ _ _ _ => (gts_one (gt_cmp (od_in rfl h65) (ge_var 2) (ge_fld (c := 0) E.cls E.no__pairs (ge_var 1))))) (fun _ _ _ _ _ => (ge_var 2)))) ga_nil))))))
theorem ok_Web___and__ (E : Env P w K mg base) : MD P w K mg base (G K) (at_Web___and__ K) 4 2 [] [] F_Web___and__ := by
  obtain ⟨fd, FD⟩ := E.d_Web___and__
  exact ⟨fd, ["self", "other"], [], [], fn_Web___and__ E FD, FD.bindsN (fun _ _ _ _ _ _ us hl => match us, hl with | [_, _], _ => rfl), .nil, fun _ _ => ⟨rfl, rfl⟩⟩
def E_Web___le___1 : M D := (mOp inD (mVar 2) (mUn (fldD 0 "_pairs") (mVar 1)))
def F_Web___le__ : Fn := runDef 2 3 [] ((sSeq (sExpr (mCall 2 F_check_same_actors [] (mCons (mUn (fldD 0 "_actors") (mVar 0)) (mCons (mUn (fldD 0 "_actors") (mVar 1)) mNil)))) (sRet (mCallN allD (mCons (mLc [2] (.nm 2) (mSeq (mUn (fldD 0 "_pairs") (mVar 0))) mYes E_Web___le___1) mNil)))))
theorem sc_Web___le__ : FnScope ["self", "other", "pair"] ["self", "other"] (defScope s_Web___le__) := ⟨rfl, rfl, rfl, by decide +kernel, rfl, by decide +kernel, by decide +kernel⟩
theorem fn_Web___le__ (E : Env P w K mg base) {fd : FuncData} {dvs : List V} (FD : FunD K "__le__" "Web.__le__" (defArgs s_Web___le__) (defBody s_Web___le__) (defScope s_Web___le__) dvs [] (at_Web___le__ K) fd) :
    FnOk P w K mg base (L2.CX P w) 2 (at_Web___le__ K) fd ["self", "other"] (spOf (G K) 2 [] F_Web___le__) := by
  refine def_ok FD sc_Web___le__ rfl rfl (by decide) (fun X W hX hr tk hp => ?_)
  have hu := hr.un
  have h67 : X.A.units + 67 < cLine := by omega
  have h65 : X.A.units + 65 < cLine := by omega
  have h64 : X.A.units + 64 < cLine := by omega
  have h1 : X.A.units + 1 < cLine := by omega
  obtain ⟨cdv, A, outer, s, H, E', rfl⟩ := hX
  have hN : (["self", "other", "pair"] : List Str).Nodup := by decide
  exact (gss_cons (gs_expr (ge_defM (ok_check_same_actors E) E.g_check_same_actors E.k_check_same_actors (hr.mono (by decide)) tk (ga_cons (ge_fld (c := 0) E.cls E.no__actors (ge_var 0)) (ga_cons (ge_fld (c := 0) E.cls E.no__actors (ge_var 1)) ga_nil))))
    (gss_one (gs_ret (ge_callB (cd_all rfl) E.f_all boot_all (ga_cons (ge_lc (own := [("pair", 2)]) rfl rfl hN (gi_seq rfl (ge_fld (c := 0) E.cls E.no__pairs (ge_var 0))) (blkOk_by (N := ["self", "other", "pair"]) (sc := defScope s_Web___le__) (by decide +kernel)) (by decide) (fun _ _ _ _ _ => (gg_nm 2 hN)) (fun _ _ _ _ _ => gts_nil) (fun _ _ _ _ _ => (ge_cmp (od_in rfl h65) (ge_var 2) (ge_fld (c := 0) E.cls E.no__pairs (ge_var 1))))) ga_nil)))))
theorem ok_Web___le__ (E : Env P w K mg base) : MD P w K mg base (G K) (at_Web___le__ K) 2 2 [] [] F_Web___le__ := by
  obtain ⟨fd, FD⟩ := E.d_Web___le__
  exact ⟨fd, ["self", "other"], [], [], fn_Web___le__ E FD, FD.bindsN (fun _ _ _ _ _ _ us hl => match us, hl with | [_, _], _ => rfl), .nil, fun _ _ => ⟨rfl, rfl⟩⟩
def T_Web_audience_1 : M Bool := (mB (mOp inD (mTup (mCons (mVar 1) (mCons (mVar 2) mNil))) (mUn (fldD 0 "_pairs") (mVar 0))))
def E_Web_audience_2 : M D := (mVar 2)
def F_Web_audience : Fn := runDef 2 3 [] ((sSeq (sExpr (mCall 2 F_check_actor [] (mCons (mVar 1) (mCons (mUn (fldD 0 "_actors") (mVar 0)) mNil)))) (sRet (mLc [2] (.nm 2) (mSeq (mUn (fldD 0 "_actors") (mVar 0))) T_Web_audience_1 E_Web_audience_2))))
theorem sc_Web_audience : FnScope ["self", "actor", "b"] ["self", "actor"] (defScope s_Web_audience) := ⟨rfl, rfl, rfl, by decide +kernel, rfl, by decide +kernel, by decide +kernel⟩
theorem fn_Web_audience (E : Env P w K mg base) {fd : FuncData} {dvs : List V} (FD : FunD K "audience" "Web.audience" (defArgs s_Web_audience) (defBody s_Web_audience) (defScope s_Web_audience) dvs [] (at_Web_audience K) fd) :
    FnOk P w K mg base (L2.CX P w) 2 (at_Web_audience K) fd ["self", "actor"] (spOf (G K) 2 [] F_Web_audience) := by
  refine def_ok FD sc_Web_audience rfl rfl (by decide) (fun X W hX hr tk hp => ?_)
  have hu := hr.un
  have h67 : X.A.units + 67 < cLine := by omega
  have h65 : X.A.units + 65 < cLine := by omega
  have h64 : X.A.units + 64 < cLine := by omega
  have h1 : X.A.units + 1 < cLine := by omega
  obtain ⟨cdv, A, outer, s, H, E', rfl⟩ := hX
  have hN : (["self", "actor", "b"] : List Str).Nodup := by decide
  exact (gss_cons (gs_expr (ge_defM (ok_check_actor E) E.g_check_actor E.k_check_actor (hr.mono (by decide)) tk (ga_cons (ge_var 1) (ga_cons (ge_fld (c := 0) E.cls E.no__actors (ge_var 0)) ga_nil))))
    (gss_one (gs_ret (ge_lc (own := [("b", 2)]) rfl rfl hN (gi_seq rfl (ge_fld (c := 0) E.cls E.no__actors (ge_var 0))) (blkOk_by (N := ["self", "actor", "b"]) (sc := defScope s_Web_audience) (by decide +kernel)) (by decide) (fun _ _ _ _ _ => (gg_nm 2 hN)) (fun _ _ _ _ _ => (gts_one (gt_cmp (od_in rfl h65) (ge_tup (ga_cons (ge_var 1) (ga_cons (ge_var 2) ga_nil))) (ge_fld (c := 0) E.cls E.no__pairs (ge_var 0))))) (fun _ _ _ _ _ => (ge_var 2))))))
theorem ok_Web_audience (E : Env P w K mg base) : MD P w K mg base (G K) (at_Web_audience K) 2 2 [] [] F_Web_audience := by
  obtain ⟨fd, FD⟩ := E.d_Web_audience
  exact ⟨fd, ["self", "actor"], [], [], fn_Web_audience E FD, FD.bindsN (fun _ _ _ _ _ _ us hl => match us, hl with | [_, _], _ => rfl), .nil, fun _ _ => ⟨rfl, rfl⟩⟩
def T_Web_tellers_1 : M Bool := (mB (mOp inD (mTup (mCons (mVar 2) (mCons (mVar 1) mNil))) (mUn (fldD 0 "_pairs") (mVar 0))))
def E_Web_tellers_2 : M D := (mVar 2)
def F_Web_tellers : Fn := runDef 2 3 [] ((sSeq (sExpr (mCall 2 F_check_actor [] (mCons (mVar 1) (mCons (mUn (fldD 0 "_actors") (mVar 0)) mNil)))) (sRet (mLc [2] (.nm 2) (mSeq (mUn (fldD 0 "_actors") (mVar 0))) T_Web_tellers_1 E_Web_tellers_2))))
theorem sc_Web_tellers : FnScope ["self", "actor", "a"] ["self", "actor"] (defScope s_Web_tellers) := ⟨rfl, rfl, rfl, by decide +kernel, rfl, by decide +kernel, by decide +kernel⟩
theorem fn_Web_tellers (E : Env P w K mg base) {fd : FuncData} {dvs : List V} (FD : FunD K "tellers" "Web.tellers" (defArgs s_Web_tellers) (defBody s_Web_tellers) (defScope s_Web_tellers) dvs [] (at_Web_tellers K) fd) :
    FnOk P w K mg base (L2.CX P w) 2 (at_Web_tellers K) fd ["self", "actor"] (spOf (G K) 2 [] F_Web_tellers) := by
  refine def_ok FD sc_Web_tellers rfl rfl (by decide) (fun X W hX hr tk hp => ?_)
  have hu := hr.un
  have h67 : X.A.units + 67 < cLine := by omega
  have h65 : X.A.units + 65 < cLine := by omega
  have h64 : X.A.units + 64 < cLine := by omega
  have h1 : X.A.units + 1 < cLine := by omega
  obtain ⟨cdv, A, outer, s, H, E', rfl⟩ := hX
  have hN : (["self", "actor", "a"] : List Str).Nodup := by decide
  exact (gss_cons (gs_expr (ge_defM (ok_check_actor E) E.g_check_actor E.k_check_actor (hr.mono (by decide)) tk (ga_cons (ge_var 1) (ga_cons (ge_fld (c := 0) E.cls E.no__actors (ge_var 0)) ga_nil))))
    (gss_one (gs_ret (ge_lc (own := [("a", 2)]) rfl rfl hN (gi_seq rfl (ge_fld (c := 0) E.cls E.no__actors (ge_var 0))) (blkOk_by (N := ["self", "actor", "a"]) (sc := defScope s_Web_tellers) (by decide +kernel)) (by decide) (fun _ _ _ _ _ => (gg_nm 2 hN)) (fun _ _ _ _ _ => (gts_one (gt_cmp (od_in rfl h65) (ge_tup (ga_cons (ge_var 2) (ga_cons (ge_var 1) ga_nil))) (ge_fld (c := 0) E.cls E.no__pairs (ge_var 0))))) (fun _ _ _ _ _ => (ge_var 2))))))
theorem ok_Web_tellers (E : Env P w K mg base) : MD P w K mg base (G K) (at_Web_tellers K) 2 2 [] [] F_Web_tellers := by
  obtain ⟨fd, FD⟩ := E.d_Web_tellers
  exact ⟨fd, ["self", "actor"], [], [], fn_Web_tellers E FD, FD.bindsN (fun _ _ _ _ _ _ us hl => match us, hl with | [_, _], _ => rfl), .nil, fun _ _ => ⟨rfl, rfl⟩⟩
def F__law_cell : Fn := runDef 2 2 [] ((sSeq (sIf (mB (mOp ltD (mVar 1) (mCallN lenD (mCons (mVar 0) mNil)))) (sRet (mOp idxD (mVar 0) (mVar 1))) sNx) (sRet (mC (.int 0)))))
theorem sc__law_cell : FnScope ["_law_script", "_law_k"] ["_law_script", "_law_k"] (defScope s__law_cell) := ⟨rfl, rfl, rfl, by decide +kernel, rfl, by decide +kernel, by decide +kernel⟩
theorem fn__law_cell (E : Env P w K mg base) {fd : FuncData} {dvs : List V} (FD : FunD K "_law_cell" "_law_cell" (defArgs s__law_cell) (defBody s__law_cell) (defScope s__law_cell) dvs [] (at__law_cell K) fd) :
    FnOk P w K mg base (L2.CX P w) 1 (at__law_cell K) fd ["_law_script", "_law_k"] (spOf (G K) 2 [] F__law_cell) := by
  refine def_ok FD sc__law_cell rfl rfl (by decide) (fun X W hX hr tk hp => ?_)
  have hu := hr.un
  have h67 : X.A.units + 67 < cLine := by omega
  have h65 : X.A.units + 65 < cLine := by omega
  have h64 : X.A.units + 64 < cLine := by omega
  have h1 : X.A.units + 1 < cLine := by omega
  obtain ⟨cdv, A, outer, s, H, E', rfl⟩ := hX
  have hN : (["_law_script", "_law_k"] : List Str).Nodup := by decide
  exact (gss_cons (gs_if (gt_cmp od_lt (ge_var 1) (ge_callB (cd_len rfl) E.f_len boot_len (ga_cons (ge_var 0) ga_nil))) (gss_one (gs_ret (ge_ix (ix_D rfl h1) (ge_var 0) (ge_var 1)))) gss_nil)
    (gss_one (gs_ret ge_int)))
theorem ok__law_cell (E : Env P w K mg base) : MD P w K mg base (G K) (at__law_cell K) 1 2 [] [] F__law_cell := by
  obtain ⟨fd, FD⟩ := E.d__law_cell
  exact ⟨fd, ["_law_script", "_law_k"], [], [], fn__law_cell E FD, FD.bindsN (fun _ _ _ _ _ _ us hl => match us, hl with | [_, _], _ => rfl), .nil, fun _ _ => ⟨rfl, rfl⟩⟩
def R__law_row_1 : M (List D) := (mRng1 (mCons (mVar 2) mNil))
def B__law_row_1 : MS := (sIf (mB (mOp gtD (mVar 5) (mC (.int 0)))) (sSeq (sExpr (mApp 4 (mOp modD (mCallN intD (mCons (mVar 5) mNil)) (mVar 3)))) (sAsg 5 (mCls (mOp fdivD (mVar 5) (mVar 3))))) (sSeq (sAsg 7 (mCls (mOp modD (mCallN intD (mCons (mOp addD (mOp addD (mOp addD (mOp mulSD (mVar 0) (mC (.int 31))) (mOp mulSD (mVar 6) (mC (.int 57)))) (mOp mulSD (mVar 1) (mC (.int 101)))) (mC (.int 5))) mNil)) (mC (.int 1009))))) (sSeq (sAsg 7 (mCls (mOp modD (mCallN intD (mCons (mOp addD (mOp addD (mOp mulSD (mVar 7) (mVar 7)) (mOp mulSD (mVar 6) (mC (.int 13)))) (mC (.int 3))) mNil)) (mC (.int 997))))) (sExpr (mApp 4 (mOp modD (mCallN intD (mCons (mOp fdivD (mVar 7) (mC (.int 4))) mNil)) (mVar 3)))))))
def F__law_row : Fn := runDef 4 8 [] ((sSeq (sAsg 4 (mLst mNil)) (sSeq (sAsg 5 (mC (.int 0))) (sSeq (sIf (mB (mOp geD (mVar 0) (mOp powD (mC (.int 10)) (mC (.int 18))))) (sAsg 5 (mCls (mVar 0))) sNx) (sSeq (sFor (.nm 6) R__law_row_1 B__law_row_1) (sRet (mMv 4)))))))
theorem sc__law_row : FnScope ["_law_cell_here", "_law_salt", "_law_many", "_law_limit", "_law_numbers", "_law_left", "_law_k", "_law_mixed"] ["_law_cell_here", "_law_salt", "_law_many", "_law_limit"] (defScope s__law_row) := ⟨rfl, rfl, rfl, by decide +kernel, rfl, by decide +kernel, by decide +kernel⟩
theorem fn__law_row (E : Env P w K mg base) {fd : FuncData} {dvs : List V} (FD : FunD K "_law_row" "_law_row" (defArgs s__law_row) (defBody s__law_row) (defScope s__law_row) dvs [] (at__law_row K) fd) :
    FnOk P w K mg base (L2.CX P w) 1 (at__law_row K) fd ["_law_cell_here", "_law_salt", "_law_many", "_law_limit"] (spOf (G K) 4 [] F__law_row) := by
  refine def_ok FD sc__law_row rfl rfl (by decide) (fun X W hX hr tk hp => ?_)
  have hu := hr.un
  have h67 : X.A.units + 67 < cLine := by omega
  have h65 : X.A.units + 65 < cLine := by omega
  have h64 : X.A.units + 64 < cLine := by omega
  have h1 : X.A.units + 1 < cLine := by omega
  obtain ⟨cdv, A, outer, s, H, E', rfl⟩ := hX
  have hN : (["_law_cell_here", "_law_salt", "_law_many", "_law_limit", "_law_numbers", "_law_left", "_law_k", "_law_mixed"] : List Str).Nodup := by decide
  exact (gss_cons (gs_asg 4 hN (ge_lst ga_nil))
    (gss_cons (gs_asg 5 hN ge_int)
    (gss_cons (gs_if (gt_cmp od_ge (ge_var 0) (ge_op od_pow ge_int ge_int)) (gss_one (gs_asg 5 hN (ge_cls (ge_var 0)))) gss_nil)
    (gss_cons (gs_for rfl hp rfl (gi_rng1 E.f_range (ga_cons (ge_var 2) ga_nil)) (gg_nm 6 hN) (gss_one (gs_if (gt_cmp od_gt (ge_var 5) ge_int) (gss_cons (gs_expr (ge_app 4 (ge_op od_mod (ge_callTy cd_int E.f_int boot_int (ga_cons (ge_var 5) ga_nil)) (ge_var 3))))
    (gss_one (gs_asg 5 hN (ge_cls (ge_op od_fdiv (ge_var 5) (ge_var 3)))))) (gss_cons (gs_asg 7 hN (ge_cls (ge_op od_mod (ge_callTy cd_int E.f_int boot_int (ga_cons (ge_op od_add (ge_op od_add (ge_op od_add (ge_op od_mul (ge_var 0) ge_int) (ge_op od_mul (ge_var 6) ge_int)) (ge_op od_mul (ge_var 1) ge_int)) ge_int) ga_nil)) ge_int)))
    (gss_cons (gs_asg 7 hN (ge_cls (ge_op od_mod (ge_callTy cd_int E.f_int boot_int (ga_cons (ge_op od_add (ge_op od_add (ge_op od_mul (ge_var 7) (ge_var 7)) (ge_op od_mul (ge_var 6) ge_int)) ge_int) ga_nil)) ge_int)))
    (gss_one (gs_expr (ge_app 4 (ge_op od_mod (ge_callTy cd_int E.f_int boot_int (ga_cons (ge_op od_fdiv (ge_var 7) ge_int) ga_nil)) (ge_var 3))))))))))
    (gss_one (gs_ret (ge_mv 4)))))))
theorem ok__law_row (E : Env P w K mg base) : MD P w K mg base (G K) (at__law_row K) 1 4 [] [] F__law_row := by
  obtain ⟨fd, FD⟩ := E.d__law_row
  exact ⟨fd, ["_law_cell_here", "_law_salt", "_law_many", "_law_limit"], [], [], fn__law_row E FD, FD.bindsN (fun _ _ _ _ _ _ us hl => match us, hl with | [_, _, _, _], _ => rfl), .nil, fun _ _ => ⟨rfl, rfl⟩⟩
def E__law_names_1 : M D := (mOp mulSD (mOp idxD (mVar 3) (mOp idxD (mVar 4) (mC (.int 1)))) (mOp addD (mC (.int 1)) (mOp modD (mCallN intD (mCons (mOp addD (mOp mulSD (mVar 8) (mC (.int 3))) (mOp idxD (mVar 4) (mC (.int 2)))) mNil)) (mC (.int 11)))))
def E__law_names_2 : M D := (mOp addD (mOp addD (mVar 6) (mOp idxD (mVar 3) (mOp modD (mCallN intD (mCons (mOp addD (mOp idxD (mVar 4) (mC (.int 1))) (mOp mulSD (mVar 8) (mVar 5))) mNil)) (mC (.int 94))))) (mVar 7))
def F__law_names : Fn := runDef 3 9 [] ((sSeq (sAsg 3 (mC (.str " !\"#$&'()*+,-./0123456789:;<=>?@ABCDEFGHIJKLMNOPQRSTUVWXYZ"))) (sSeq (sAsg 3 (mCls (mOp addD (mVar 3) (mC (.str "[\\]^_`abcdefghijklmnopqrstuvwxyz{|}~"))))) (sSeq (sAsg 4 (mCls (mCall 4 F__law_row [] (mCons (mVar 0) (mCons (mVar 1) (mCons (mC (.int 6)) (mCons (mC (.int 94)) mNil))))))) (sSeq (sIf (mAnd (mB (mOp eqD (mOp modD (mCallN intD (mCons (mOp idxD (mVar 4) (mC (.int 5))) mNil)) (mC (.int 4))) (mC (.int 0)))) (mB (mOp leD (mVar 2) (mC (.int 11))))) (sRet (mLc [8] (.nm 8) (mRng1 (mCons (mVar 2) mNil)) mYes E__law_names_1)) sNx) (sSeq (sAsg 5 (mCls (mOp idxD (mLst (mCons (mC (.int 1)) (mCons (mC (.int 5)) (mCons (mC (.int 27)) (mCons (mC (.int 93)) mNil))))) (mOp modD (mCallN intD (mCons (mOp idxD (mVar 4) (mC (.int 0))) mNil)) (mC (.int 4)))))) (sSeq (sAsg 6 (mCls (mOp mulSD (mOp idxD (mVar 3) (mOp idxD (mVar 4) (mC (.int 1)))) (mOp modD (mCallN intD (mCons (mOp idxD (mVar 4) (mC (.int 2))) mNil)) (mC (.int 4)))))) (sSeq (sAsg 7 (mCls (mOp mulSD (mOp idxD (mVar 3) (mOp idxD (mVar 4) (mC (.int 3)))) (mOp modD (mCallN intD (mCons (mOp idxD (mVar 4) (mC (.int 4))) mNil)) (mC (.int 4)))))) (sRet (mLc [8] (.nm 8) (mRng1 (mCons (mVar 2) mNil)) mYes E__law_names_2))))))))))
theorem sc__law_names : FnScope ["_law_cell_here", "_law_salt", "_law_many", "_law_signs", "_law_draw", "_law_step", "_law_head", "_law_tail", "_law_k"] ["_law_cell_here", "_law_salt", "_law_many"] (defScope s__law_names) := ⟨rfl, rfl, rfl, by decide +kernel, rfl, by decide +kernel, by decide +kernel⟩
theorem fn__law_names (E : Env P w K mg base) {fd : FuncData} {dvs : List V} (FD : FunD K "_law_names" "_law_names" (defArgs s__law_names) (defBody s__law_names) (defScope s__law_names) dvs [] (at__law_names K) fd) :
    FnOk P w K mg base (L2.CX P w) 2 (at__law_names K) fd ["_law_cell_here", "_law_salt", "_law_many"] (spOf (G K) 3 [] F__law_names) := by
  refine def_ok FD sc__law_names rfl rfl (by decide) (fun X W hX hr tk hp => ?_)
  have hu := hr.un
  have h67 : X.A.units + 67 < cLine := by omega
  have h65 : X.A.units + 65 < cLine := by omega
  have h64 : X.A.units + 64 < cLine := by omega
  have h1 : X.A.units + 1 < cLine := by omega
  obtain ⟨cdv, A, outer, s, H, E', rfl⟩ := hX
  have hN : (["_law_cell_here", "_law_salt", "_law_many", "_law_signs", "_law_draw", "_law_step", "_law_head", "_law_tail", "_law_k"] : List Str).Nodup := by decide
  exact (gss_cons (gs_asg 3 hN ge_str)
    (gss_cons (gs_asg 3 hN (ge_cls (ge_op od_add (ge_var 3) ge_str)))
    (gss_cons (gs_asg 4 hN (ge_cls (ge_defM (ok__law_row E) E.g__law_row E.k__law_row (hr.mono (by decide)) tk (ga_cons (ge_var 0) (ga_cons (ge_var 1) (ga_cons ge_int (ga_cons ge_int ga_nil)))))))
    (gss_cons (gs_if (gt_w (gw_and (gt_cmp (od_eq rfl h64) (ge_op od_mod (ge_callTy cd_int E.f_int boot_int (ga_cons (ge_ix (ix_D rfl h1) (ge_var 4) ge_int) ga_nil)) ge_int) ge_int) (gw_and1 (gt_cmp od_le (ge_var 2) ge_int)))) (gss_one (gs_ret (ge_lc (own := [("_law_k", 8)]) rfl rfl hN (gi_rng1 E.f_range (ga_cons (ge_var 2) ga_nil)) (blkOk_by (N := ["_law_cell_here", "_law_salt", "_law_many", "_law_signs", "_law_draw", "_law_step", "_law_head", "_law_tail", "_law_k"]) (sc := defScope s__law_names) (by decide +kernel)) (by decide) (fun _ _ _ _ _ => (gg_nm 8 hN)) (fun _ _ _ _ _ => gts_nil) (fun _ _ _ _ _ => (ge_op od_mul (ge_ix (ix_D rfl h1) (ge_var 3) (ge_ix (ix_D rfl h1) (ge_var 4) ge_int)) (ge_op od_add ge_int (ge_op od_mod (ge_callTy cd_int E.f_int boot_int (ga_cons (ge_op od_add (ge_op od_mul (ge_var 8) ge_int) (ge_ix (ix_D rfl h1) (ge_var 4) ge_int)) ga_nil)) ge_int))))))) gss_nil)
    (gss_cons (gs_asg 5 hN (ge_cls (ge_ix (ix_D rfl h1) (ge_lst (ga_cons ge_int (ga_cons ge_int (ga_cons ge_int (ga_cons ge_int ga_nil))))) (ge_op od_mod (ge_callTy cd_int E.f_int boot_int (ga_cons (ge_ix (ix_D rfl h1) (ge_var 4) ge_int) ga_nil)) ge_int))))
    (gss_cons (gs_asg 6 hN (ge_cls (ge_op od_mul (ge_ix (ix_D rfl h1) (ge_var 3) (ge_ix (ix_D rfl h1) (ge_var 4) ge_int)) (ge_op od_mod (ge_callTy cd_int E.f_int boot_int (ga_cons (ge_ix (ix_D rfl h1) (ge_var 4) ge_int) ga_nil)) ge_int))))
    (gss_cons (gs_asg 7 hN (ge_cls (ge_op od_mul (ge_ix (ix_D rfl h1) (ge_var 3) (ge_ix (ix_D rfl h1) (ge_var 4) ge_int)) (ge_op od_mod (ge_callTy cd_int E.f_int boot_int (ga_cons (ge_ix (ix_D rfl h1) (ge_var 4) ge_int) ga_nil)) ge_int))))
    (gss_one (gs_ret (ge_lc (own := [("_law_k", 8)]) rfl rfl hN (gi_rng1 E.f_range (ga_cons (ge_var 2) ga_nil)) (blkOk_by (N := ["_law_cell_here", "_law_salt", "_law_many", "_law_signs", "_law_draw", "_law_step", "_law_head", "_law_tail", "_law_k"]) (sc := defScope s__law_names) (by decide +kernel)) (by decide) (fun _ _ _ _ _ => (gg_nm 8 hN)) (fun _ _ _ _ _ => gts_nil) (fun _ _ _ _ _ => (ge_op od_add (ge_op od_add (ge_var 6) (ge_ix (ix_D rfl h1) (ge_var 3) (ge_op od_mod (ge_callTy cd_int E.f_int boot_int (ga_cons (ge_op od_add (ge_ix (ix_D rfl h1) (ge_var 4) ge_int) (ge_op od_mul (ge_var 8) (ge_var 5))) ga_nil)) ge_int))) (ge_var 7)))))))))))))
theorem ok__law_names (E : Env P w K mg base) : MD P w K mg base (G K) (at__law_names K) 2 3 [] [] F__law_names := by
  obtain ⟨fd, FD⟩ := E.d__law_names
  exact ⟨fd, ["_law_cell_here", "_law_salt", "_law_many"], [], [], fn__law_names E FD, FD.bindsN (fun _ _ _ _ _ _ us hl => match us, hl with | [_, _, _], _ => rfl), .nil, fun _ _ => ⟨rfl, rfl⟩⟩
def F__law_is_integer : Fn := runDef 1 1 [] ((sRet (mAndV (mCallN (isiD isiT) (mCons (mVar 0) (mCons (mC (.gl 1)) mNil))) (mNotV (mCallN (isiD isiT) (mCons (mVar 0) (mCons (mC (.gl 2)) mNil)))))))
theorem sc__law_is_integer : FnScope ["_law_actual"] ["_law_actual"] (defScope s__law_is_integer) := ⟨rfl, rfl, rfl, by decide +kernel, rfl, by decide +kernel, by decide +kernel⟩
theorem fn__law_is_integer (E : Env P w K mg base) {fd : FuncData} {dvs : List V} (FD : FunD K "_law_is_integer" "_law_is_integer" (defArgs s__law_is_integer) (defBody s__law_is_integer) (defScope s__law_is_integer) dvs [] (at__law_is_integer K) fd) :
    FnOk P w K mg base (L2.CX P w) 1 (at__law_is_integer K) fd ["_law_actual"] (spOf (G K) 1 [] F__law_is_integer) := by
  refine def_ok FD sc__law_is_integer rfl rfl (by decide) (fun X W hX hr tk hp => ?_)
  have hu := hr.un
  have h67 : X.A.units + 67 < cLine := by omega
  have h65 : X.A.units + 65 < cLine := by omega
  have h64 : X.A.units + 64 < cLine := by omega
  have h1 : X.A.units + 1 < cLine := by omega
  obtain ⟨cdv, A, outer, s, H, E', rfl⟩ := hX
  have hN : (["_law_actual"] : List Str).Nodup := by decide
  exact (gss_one (gs_ret (ge_and (ge_callB (cd_isi rfl E.isi) E.f_isinstance boot_isinstance (ga_cons (ge_var 0) (ga_cons (ge_gt 1 E.f_int boot_int rfl) ga_nil))) (ge_one (ge_not (ge_callB (cd_isi rfl E.isi) E.f_isinstance boot_isinstance (ga_cons (ge_var 0) (ga_cons (ge_gt 2 E.f_bool boot_bool rfl) ga_nil))))))))
theorem ok__law_is_integer (E : Env P w K mg base) : MD P w K mg base (G K) (at__law_is_integer K) 1 1 [] [] F__law_is_integer := by
  obtain ⟨fd, FD⟩ := E.d__law_is_integer
  exact ⟨fd, ["_law_actual"], [], [], fn__law_is_integer E FD, FD.bindsN (fun _ _ _ _ _ _ us hl => match us, hl with | [_], _ => rfl), .nil, fun _ _ => ⟨rfl, rfl⟩⟩
def E__law_is_texts_1 : M D := (mCallN (isiD isiT) (mCons (mVar 1) (mCons (mC (.gl 3)) mNil)))
def F__law_is_texts : Fn := runDef 1 2 [] ((sRet (mAndV (mCallN (isiD isiT) (mCons (mVar 0) (mCons (mC (.gl 4)) mNil))) (mCallN allD (mCons (mLc [1] (.nm 1) (mSeq (mVar 0)) mYes E__law_is_texts_1) mNil)))))
theorem sc__law_is_texts : FnScope ["_law_actual", "_law_text"] ["_law_actual"] (defScope s__law_is_texts) := ⟨rfl, rfl, rfl, by decide +kernel, rfl, by decide +kernel, by decide +kernel⟩
theorem fn__law_is_texts (E : Env P w K mg base) {fd : FuncData} {dvs : List V} (FD : FunD K "_law_is_texts" "_law_is_texts" (defArgs s__law_is_texts) (defBody s__law_is_texts) (defScope s__law_is_texts) dvs [] (at__law_is_texts K) fd) :
    FnOk P w K mg base (L2.CX P w) 1 (at__law_is_texts K) fd ["_law_actual"] (spOf (G K) 1 [] F__law_is_texts) := by
  refine def_ok FD sc__law_is_texts rfl rfl (by decide) (fun X W hX hr tk hp => ?_)
  have hu := hr.un
  have h67 : X.A.units + 67 < cLine := by omega
  have h65 : X.A.units + 65 < cLine := by omega
  have h64 : X.A.units + 64 < cLine := by omega
  have h1 : X.A.units + 1 < cLine := by omega
  obtain ⟨cdv, A, outer, s, H, E', rfl⟩ := hX
  have hN : (["_law_actual", "_law_text"] : List Str).Nodup := by decide
  exact (gss_one (gs_ret (ge_and (ge_callB (cd_isi rfl E.isi) E.f_isinstance boot_isinstance (ga_cons (ge_var 0) (ga_cons (ge_gt 4 E.f_list boot_list rfl) ga_nil))) (ge_one (ge_callB (cd_all rfl) E.f_all boot_all (ga_cons (ge_lc (own := [("_law_text", 1)]) rfl rfl hN (gi_seq rfl (ge_var 0)) (blkOk_by (N := ["_law_actual", "_law_text"]) (sc := defScope s__law_is_texts) (by decide +kernel)) (by decide) (fun _ _ _ _ _ => (gg_nm 1 hN)) (fun _ _ _ _ _ => gts_nil) (fun _ _ _ _ _ => (ge_callB (cd_isi rfl E.isi) E.f_isinstance boot_isinstance (ga_cons (ge_var 1) (ga_cons (ge_gt 3 E.f_str boot_str rfl) ga_nil))))) ga_nil))))))
theorem ok__law_is_texts (E : Env P w K mg base) : MD P w K mg base (G K) (at__law_is_texts K) 1 1 [] [] F__law_is_texts := by
  obtain ⟨fd, FD⟩ := E.d__law_is_texts
  exact ⟨fd, ["_law_actual"], [], [], fn__law_is_texts E FD, FD.bindsN (fun _ _ _ _ _ _ us hl => match us, hl with | [_], _ => rfl), .nil, fun _ _ => ⟨rfl, rfl⟩⟩
def F__law_same_texts : Fn := runDef 2 2 [] ((sRet (mAndV (mCall 1 F__law_is_texts [] (mCons (mVar 0) mNil)) (mOp eqD (mVar 0) (mVar 1)))))
theorem sc__law_same_texts : FnScope ["_law_actual", "_law_expected"] ["_law_actual", "_law_expected"] (defScope s__law_same_texts) := ⟨rfl, rfl, rfl, by decide +kernel, rfl, by decide +kernel, by decide +kernel⟩
theorem fn__law_same_texts (E : Env P w K mg base) {fd : FuncData} {dvs : List V} (FD : FunD K "_law_same_texts" "_law_same_texts" (defArgs s__law_same_texts) (defBody s__law_same_texts) (defScope s__law_same_texts) dvs [] (at__law_same_texts K) fd) :
    FnOk P w K mg base (L2.CX P w) 2 (at__law_same_texts K) fd ["_law_actual", "_law_expected"] (spOf (G K) 2 [] F__law_same_texts) := by
  refine def_ok FD sc__law_same_texts rfl rfl (by decide) (fun X W hX hr tk hp => ?_)
  have hu := hr.un
  have h67 : X.A.units + 67 < cLine := by omega
  have h65 : X.A.units + 65 < cLine := by omega
  have h64 : X.A.units + 64 < cLine := by omega
  have h1 : X.A.units + 1 < cLine := by omega
  obtain ⟨cdv, A, outer, s, H, E', rfl⟩ := hX
  have hN : (["_law_actual", "_law_expected"] : List Str).Nodup := by decide
  exact (gss_one (gs_ret (ge_and (ge_defM (ok__law_is_texts E) E.g__law_is_texts E.k__law_is_texts (hr.mono (by decide)) tk (ga_cons (ge_var 0) ga_nil)) (ge_one (ge_cmp (od_eq rfl h64) (ge_var 0) (ge_var 1))))))
theorem ok__law_same_texts (E : Env P w K mg base) : MD P w K mg base (G K) (at__law_same_texts K) 2 2 [] [] F__law_same_texts := by
  obtain ⟨fd, FD⟩ := E.d__law_same_texts
  exact ⟨fd, ["_law_actual", "_law_expected"], [], [], fn__law_same_texts E FD, FD.bindsN (fun _ _ _ _ _ _ us hl => match us, hl with | [_, _], _ => rfl), .nil, fun _ _ => ⟨rfl, rfl⟩⟩
def F__law_truth : Fn := runDef 2 2 [] ((sRet (mAndV (mCallN (isiD isiT) (mCons (mVar 0) (mCons (mC (.gl 2)) mNil))) (mOp eqD (mVar 0) (mVar 1)))))
theorem sc__law_truth : FnScope ["_law_actual", "_law_expected"] ["_law_actual", "_law_expected"] (defScope s__law_truth) := ⟨rfl, rfl, rfl, by decide +kernel, rfl, by decide +kernel, by decide +kernel⟩
theorem fn__law_truth (E : Env P w K mg base) {fd : FuncData} {dvs : List V} (FD : FunD K "_law_truth" "_law_truth" (defArgs s__law_truth) (defBody s__law_truth) (defScope s__law_truth) dvs [] (at__law_truth K) fd) :
    FnOk P w K mg base (L2.CX P w) 1 (at__law_truth K) fd ["_law_actual", "_law_expected"] (spOf (G K) 2 [] F__law_truth) := by
  refine def_ok FD sc__law_truth rfl rfl (by decide) (fun X W hX hr tk hp => ?_)
  have hu := hr.un
  have h67 : X.A.units + 67 < cLine := by omega
  have h65 : X.A.units + 65 < cLine := by omega
  have h64 : X.A.units + 64 < cLine := by omega
  have h1 : X.A.units + 1 < cLine := by omega
  obtain ⟨cdv, A, outer, s, H, E', rfl⟩ := hX
  have hN : (["_law_actual", "_law_expected"] : List Str).Nodup := by decide
  exact (gss_one (gs_ret (ge_and (ge_callB (cd_isi rfl E.isi) E.f_isinstance boot_isinstance (ga_cons (ge_var 0) (ga_cons (ge_gt 2 E.f_bool boot_bool rfl) ga_nil))) (ge_one (ge_cmp (od_eq rfl h64) (ge_var 0) (ge_var 1))))))
theorem ok__law_truth (E : Env P w K mg base) : MD P w K mg base (G K) (at__law_truth K) 1 2 [] [] F__law_truth := by
  obtain ⟨fd, FD⟩ := E.d__law_truth
  exact ⟨fd, ["_law_actual", "_law_expected"], [], [], fn__law_truth E FD, FD.bindsN (fun _ _ _ _ _ _ us hl => match us, hl with | [_, _], _ => rfl), .nil, fun _ _ => ⟨rfl, rfl⟩⟩
def B__law_ordered_1 : MS := (sIf (mAnd (mB (mOp neD (mVar 3) (mVar 4))) (mB (mOp inD (mTup (mCons (mVar 3) (mCons (mVar 4) mNil))) (mVar 1)))) (sExpr (mApp 2 (mTup (mCons (mVar 3) (mCons (mVar 4) mNil))))) sNx)
def B__law_ordered_2 : MS := (sFor (.nm 4) (mSeq (mVar 0)) B__law_ordered_1)
def F__law_ordered : Fn := runDef 2 5 [] ((sSeq (sAsg 2 (mLst mNil)) (sSeq (sFor (.nm 3) (mSeq (mVar 0)) B__law_ordered_2) (sRet (mMv 2)))))
theorem sc__law_ordered : FnScope ["_law_names_here", "_law_pairs", "_law_ordered_here", "_law_a", "_law_b"] ["_law_names_here", "_law_pairs"] (defScope s__law_ordered) := ⟨rfl, rfl, rfl, by decide +kernel, rfl, by decide +kernel, by decide +kernel⟩
theorem fn__law_ordered (E : Env P w K mg base) {fd : FuncData} {dvs : List V} (FD : FunD K "_law_ordered" "_law_ordered" (defArgs s__law_ordered) (defBody s__law_ordered) (defScope s__law_ordered) dvs [] (at__law_ordered K) fd) :
    FnOk P w K mg base (L2.CX P w) 1 (at__law_ordered K) fd ["_law_names_here", "_law_pairs"] (spOf (G K) 2 [] F__law_ordered) := by
  refine def_ok FD sc__law_ordered rfl rfl (by decide) (fun X W hX hr tk hp => ?_)
  have hu := hr.un
  have h67 : X.A.units + 67 < cLine := by omega
  have h65 : X.A.units + 65 < cLine := by omega
  have h64 : X.A.units + 64 < cLine := by omega
  have h1 : X.A.units + 1 < cLine := by omega
  obtain ⟨cdv, A, outer, s, H, E', rfl⟩ := hX
  have hN : (["_law_names_here", "_law_pairs", "_law_ordered_here", "_law_a", "_law_b"] : List Str).Nodup := by decide
  exact (gss_cons (gs_asg 2 hN (ge_lst ga_nil))
    (gss_cons (gs_for rfl hp rfl (gi_seq rfl (ge_var 0)) (gg_nm 3 hN) (gss_one (gs_for rfl hp rfl (gi_seq rfl (ge_var 0)) (gg_nm 4 hN) (gss_one (gs_if (gt_w (gw_and (gt_cmp (od_ne rfl h64) (ge_var 3) (ge_var 4)) (gw_and1 (gt_cmp (od_in rfl h65) (ge_tup (ga_cons (ge_var 3) (ga_cons (ge_var 4) ga_nil))) (ge_var 1))))) (gss_one (gs_expr (ge_app 2 (ge_tup (ga_cons (ge_var 3) (ga_cons (ge_var 4) ga_nil)))))) gss_nil)))))
    (gss_one (gs_ret (ge_mv 2)))))
theorem ok__law_ordered (E : Env P w K mg base) : MD P w K mg base (G K) (at__law_ordered K) 1 2 [] [] F__law_ordered := by
  obtain ⟨fd, FD⟩ := E.d__law_ordered
  exact ⟨fd, ["_law_names_here", "_law_pairs"], [], [], fn__law_ordered E FD, FD.bindsN (fun _ _ _ _ _ _ us hl => match us, hl with | [_, _], _ => rfl), .nil, fun _ _ => ⟨rfl, rfl⟩⟩
def R__law_web_is_1 : M (List D) := (mRng1 (mCons (mCallN lenD (mCons (mVar 2) mNil)) mNil))
def B__law_web_is_1 : MS := (sIf (mOr (mNot (mB (mCallN (isiD isiT) (mCons (mOp idxD (mVar 3) (mVar 4)) (mCons (mC (.gl 5)) mNil))))) (mB (mOp neD (mOp idxD (mVar 3) (mVar 4)) (mOp idxD (mVar 2) (mVar 4))))) (sRet (mC (.bl false))) sNx)
def B__law_web_is_2 : MS := (sSeq (sIf (mNot (mB (mCall 2 F__law_truth [] (mCons (mOp (ixO 0 F_Web___getitem__) (mVar 0) (mTup (mCons (mVar 5) (mCons (mVar 6) mNil)))) (mCons (mOrV (mOp eqD (mVar 5) (mVar 6)) (mOp inD (mTup (mCons (mVar 5) (mCons (mVar 6) mNil))) (mVar 2))) mNil))))) (sRet (mC (.bl false))) sNx) (sIf (mB (mOp neD (mOp (fun x y => (inO 0 "_pairs" x y).map .bl) (mTup (mCons (mVar 5) (mCons (mVar 6) mNil))) (mVar 0)) (mOp inD (mTup (mCons (mVar 5) (mCons (mVar 6) mNil))) (mVar 2)))) (sRet (mC (.bl false))) sNx))
def T__law_web_is_3 : M Bool := (mB (mOp inD (mTup (mCons (mVar 5) (mCons (mVar 6) mNil))) (mVar 2)))
def E__law_web_is_4 : M D := (mVar 6)
def T__law_web_is_5 : M Bool := (mB (mOp inD (mTup (mCons (mVar 6) (mCons (mVar 5) mNil))) (mVar 2)))
def E__law_web_is_6 : M D := (mVar 6)
def B__law_web_is_7 : MS := (sSeq (sFor (.nm 6) (mSeq (mVar 1)) B__law_web_is_2) (sSeq (sIf (mNot (mB (mCall 2 F__law_same_texts [] (mCons (mCls (mMeth 0 "audience" 2 F_Web_audience [] (mVar 0) (mCons (mVar 5) mNil))) (mCons (mCls (mLc [6] (.nm 6) (mSeq (mVar 1)) T__law_web_is_3 E__law_web_is_4)) mNil))))) (sRet (mC (.bl false))) sNx) (sIf (mNot (mB (mCall 2 F__law_same_texts [] (mCons (mCls (mMeth 0 "tellers" 2 F_Web_tellers [] (mVar 0) (mCons (mVar 5) mNil))) (mCons (mCls (mLc [6] (.nm 6) (mSeq (mVar 1)) T__law_web_is_5 E__law_web_is_6)) mNil))))) (sRet (mC (.bl false))) sNx)))
def F__law_web_is : Fn := runDef 3 7 [] ((sSeq (sIf (mOr (mNot (mB (mCallN (isiD isiT) (mCons (mVar 0) (mCons (mC (.gl 0)) mNil))))) (mNot (mB (mCall 2 F__law_same_texts [] (mCons (mCls (mProp 0 F_Web_actors (mVar 0))) (mCons (mVar 1) mNil)))))) (sRet (mC (.bl false))) sNx) (sSeq (sAsg 3 (mCls (mCallN (listO 0 "_pairs" F_Web___len__) (mCons (mVar 0) mNil)))) (sSeq (sIf (mOr (mB (mOp neD (mCallN lenD (mCons (mVar 3) mNil)) (mCallN lenD (mCons (mVar 2) mNil)))) (mOr (mNot (mB (mCall 1 F__law_is_integer [] (mCons (mCallN (lenO 0 F_Web___len__) (mCons (mVar 0) mNil)) mNil)))) (mB (mOp neD (mCallN (lenO 0 F_Web___len__) (mCons (mVar 0) mNil)) (mCallN lenD (mCons (mVar 2) mNil)))))) (sRet (mC (.bl false))) sNx) (sSeq (sFor (.nm 4) R__law_web_is_1 B__law_web_is_1) (sSeq (sFor (.nm 5) (mSeq (mVar 1)) B__law_web_is_7) (sRet (mC (.bl true)))))))))
theorem sc__law_web_is : FnScope ["_law_web", "_law_names_here", "_law_expected", "_law_actual", "_law_k", "_law_a", "_law_b"] ["_law_web", "_law_names_here", "_law_expected"] (defScope s__law_web_is) := ⟨rfl, rfl, rfl, by decide +kernel, rfl, by decide +kernel, by decide +kernel⟩
theorem fn__law_web_is (E : Env P w K mg base) {fd : FuncData} {dvs : List V} (FD : FunD K "_law_web_is" "_law_web_is" (defArgs s__law_web_is) (defBody s__law_web_is) (defScope s__law_web_is) dvs [] (at__law_web_is K) fd) :
    FnOk P w K mg base (L2.CX P w) 5 (at__law_web_is K) fd ["_law_web", "_law_names_here", "_law_expected"] (spOf (G K) 3 [] F__law_web_is) := by
  refine def_ok FD sc__law_web_is rfl rfl (by decide) (fun X W hX hr tk hp => ?_)
  have hu := hr.un
  have h67 : X.A.units + 67 < cLine := by omega
  have h65 : X.A.units + 65 < cLine := by omega
  have h64 : X.A.units + 64 < cLine := by omega
  have h1 : X.A.units + 1 < cLine := by omega
  obtain ⟨cdv, A, outer, s, H, E', rfl⟩ := hX
  have hN : (["_law_web", "_law_names_here", "_law_expected", "_law_actual", "_law_k", "_law_a", "_law_b"] : List Str).Nodup := by decide
  exact (gss_cons (gs_if (gt_w (gw_or (gt_not (gt_b (ge_callB (cd_isi rfl E.isi) E.f_isinstance boot_isinstance (ga_cons (ge_var 0) (ga_cons (ge_gl 0 E.gWeb rfl) ga_nil))))) (gw_or1 (gt_not (gt_b (ge_defM (ok__law_same_texts E) E.g__law_same_texts E.k__law_same_texts (hr.mono (by decide)) tk (ga_cons (ge_cls (ge_prop (c := 0) E.cls E.prop_actors (ok_Web_actors E) (hr.mono (by decide)) (ge_var 0))) (ga_cons (ge_var 1) ga_nil)))))))) (gss_one (gs_ret ge_bl)) gss_nil)
    (gss_cons (gs_asg 3 hN (ge_cls (ge_callTy (cd_listO (k := 1) rfl (hr.mono (by decide)) (it_Web E) rfl E.sm___len__ (ok_Web___len__ E)) E.f_list boot_list (ga_cons (ge_var 0) ga_nil))))
    (gss_cons (gs_if (gt_w (gw_or (gt_cmp (od_ne rfl h64) (ge_callB (cd_len rfl) E.f_len boot_len (ga_cons (ge_var 3) ga_nil)) (ge_callB (cd_len rfl) E.f_len boot_len (ga_cons (ge_var 2) ga_nil))) (gw_or (gt_not (gt_b (ge_defM (ok__law_is_integer E) E.g__law_is_integer E.k__law_is_integer (hr.mono (by decide)) tk (ga_cons (ge_callB (cd_lenO (hr.mono (by decide)) E.sm___len__ (ok_Web___len__ E)) E.f_len boot_len (ga_cons (ge_var 0) ga_nil)) ga_nil)))) (gw_or1 (gt_cmp (od_ne rfl h64) (ge_callB (cd_lenO (hr.mono (by decide)) E.sm___len__ (ok_Web___len__ E)) E.f_len boot_len (ga_cons (ge_var 0) ga_nil)) (ge_callB (cd_len rfl) E.f_len boot_len (ga_cons (ge_var 2) ga_nil))))))) (gss_one (gs_ret ge_bl)) gss_nil)
    (gss_cons (gs_for rfl hp rfl (gi_rng1 E.f_range (ga_cons (ge_callB (cd_len rfl) E.f_len boot_len (ga_cons (ge_var 2) ga_nil)) ga_nil)) (gg_nm 4 hN) (gss_one (gs_if (gt_w (gw_or (gt_not (gt_b (ge_callB (cd_isi rfl E.isi) E.f_isinstance boot_isinstance (ga_cons (ge_ix (ix_D rfl h1) (ge_var 3) (ge_var 4)) (ga_cons (ge_gt 5 E.f_tuple boot_tuple rfl) ga_nil))))) (gw_or1 (gt_cmp (od_ne rfl h64) (ge_ix (ix_D rfl h1) (ge_var 3) (ge_var 4)) (ge_ix (ix_D rfl h1) (ge_var 2) (ge_var 4)))))) (gss_one (gs_ret ge_bl)) gss_nil)))
    (gss_cons (gs_for rfl hp rfl (gi_seq rfl (ge_var 1)) (gg_nm 5 hN) (gss_cons (gs_for rfl hp rfl (gi_seq rfl (ge_var 1)) (gg_nm 6 hN) (gss_cons (gs_if (gt_not (gt_b (ge_defM (ok__law_truth E) E.g__law_truth E.k__law_truth (hr.mono (by decide)) tk (ga_cons (ge_ixO E.sm___getitem__ E.fi___getitem__ (ok_Web___getitem__ E) (hr.mono (by decide)) (ge_var 0) (ge_tup (ga_cons (ge_var 5) (ga_cons (ge_var 6) ga_nil)))) (ga_cons (ge_or (ge_cmp (od_eq rfl h64) (ge_var 5) (ge_var 6)) (ge_one (ge_cmp (od_in rfl h65) (ge_tup (ga_cons (ge_var 5) (ga_cons (ge_var 6) ga_nil))) (ge_var 2)))) ga_nil))))) (gss_one (gs_ret ge_bl)) gss_nil)
    (gss_one (gs_if (gt_cmp (od_ne rfl h64) (ge_cmp (od_inO rfl rfl (hr.mono (by decide)) h67 (it_Web E)) (ge_tup (ga_cons (ge_var 5) (ga_cons (ge_var 6) ga_nil))) (ge_var 0)) (ge_cmp (od_in rfl h65) (ge_tup (ga_cons (ge_var 5) (ga_cons (ge_var 6) ga_nil))) (ge_var 2))) (gss_one (gs_ret ge_bl)) gss_nil))))
    (gss_cons (gs_if (gt_not (gt_b (ge_defM (ok__law_same_texts E) E.g__law_same_texts E.k__law_same_texts (hr.mono (by decide)) tk (ga_cons (ge_cls (ge_meth (c := 0) E.cls E.mt_audience (ok_Web_audience E) (hr.mono (by decide)) tk (ge_var 0) (ga_cons (ge_var 5) ga_nil))) (ga_cons (ge_cls (ge_lc (own := [("_law_b", 6)]) rfl rfl hN (gi_seq rfl (ge_var 1)) (blkOk_by (N := ["_law_web", "_law_names_here", "_law_expected", "_law_actual", "_law_k", "_law_a", "_law_b"]) (sc := defScope s__law_web_is) (by decide +kernel)) (by decide) (fun _ _ _ _ _ => (gg_nm 6 hN)) (fun _ _ _ _ _ => (gts_one (gt_cmp (od_in rfl h65) (ge_tup (ga_cons (ge_var 5) (ga_cons (ge_var 6) ga_nil))) (ge_var 2)))) (fun _ _ _ _ _ => (ge_var 6)))) ga_nil))))) (gss_one (gs_ret ge_bl)) gss_nil)
    (gss_one (gs_if (gt_not (gt_b (ge_defM (ok__law_same_texts E) E.g__law_same_texts E.k__law_same_texts (hr.mono (by decide)) tk (ga_cons (ge_cls (ge_meth (c := 0) E.cls E.mt_tellers (ok_Web_tellers E) (hr.mono (by decide)) tk (ge_var 0) (ga_cons (ge_var 5) ga_nil))) (ga_cons (ge_cls (ge_lc (own := [("_law_b", 6)]) rfl rfl hN (gi_seq rfl (ge_var 1)) (blkOk_by (N := ["_law_web", "_law_names_here", "_law_expected", "_law_actual", "_law_k", "_law_a", "_law_b"]) (sc := defScope s__law_web_is) (by decide +kernel)) (by decide) (fun _ _ _ _ _ => (gg_nm 6 hN)) (fun _ _ _ _ _ => (gts_one (gt_cmp (od_in rfl h65) (ge_tup (ga_cons (ge_var 6) (ga_cons (ge_var 5) ga_nil))) (ge_var 2)))) (fun _ _ _ _ _ => (ge_var 6)))) ga_nil))))) (gss_one (gs_ret ge_bl)) gss_nil)))))
    (gss_one (gs_ret ge_bl)))))))
theorem ok__law_web_is (E : Env P w K mg base) : MD P w K mg base (G K) (at__law_web_is K) 5 3 [] [] F__law_web_is := by
  obtain ⟨fd, FD⟩ := E.d__law_web_is
  exact ⟨fd, ["_law_web", "_law_names_here", "_law_expected"], [], [], fn__law_web_is E FD, FD.bindsN (fun _ _ _ _ _ _ us hl => match us, hl with | [_, _, _], _ => rfl), .nil, fun _ _ => ⟨rfl, rfl⟩⟩
def B__law_twins_1 : MS := (sSeq (sIf (mOr (mNot (mB (mCall 2 F__law_truth [] (mCons (mOp (binO 0 F_Web___eq__) (mVar 6) (mVar 7)) (mCons (mC (.bl true)) mNil))))) (mB (mOp (neO 0 F_Web___eq__) (mVar 6) (mVar 7)))) (sRet (mC (.bl false))) sNx) (sIf (mNot (mB (mCall 2 F__law_truth [] (mCons (mOp (binO 0 F_Web___le__) (mVar 6) (mVar 7)) (mCons (mC (.bl true)) mNil))))) (sRet (mC (.bl false))) sNx))
def B__law_twins_2 : MS := (sFor (.nm 7) (mSeq (mCls (mLst (mCons (mVar 0) (mCons (mVar 4) (mCons (mVar 5) mNil)))))) B__law_twins_1)
def F__law_twins : Fn := runDef 4 8 [] ((sSeq (sAsg 4 (mCls (mMakeK 0 3 F_Web___init__ 2 1 (fun a b => a ++ b) (mCons (mCls (mCallN tupleD (mCons (mVar 1) mNil))) mNil) (mCons (mCls (mCallN tupleD (mCons (mVar 2) mNil))) mNil)))) (sSeq (sAsg 5 (mCls (mMake 0 3 F_Web___init__ [] (mCons (mCls (mCallN listD (mCons (mVar 1) mNil))) (mCons (mCls (mCallN listD (mCons (mVar 3) mNil))) mNil))))) (sSeq (sIf (mNot (mB (mCall 3 F__law_web_is [] (mCons (mVar 4) (mCons (mVar 1) (mCons (mVar 3) mNil)))))) (sRet (mC (.bl false))) sNx) (sSeq (sFor (.nm 6) (mSeq (mCls (mLst (mCons (mVar 0) (mCons (mVar 4) (mCons (mVar 5) mNil)))))) B__law_twins_2) (sRet (mAndV (mCall 3 F__law_web_is [] (mCons (mCls (mOp (binO 0 F_Web___or__) (mVar 5) (mVar 4))) (mCons (mVar 1) (mCons (mVar 3) mNil)))) (mCall 3 F__law_web_is [] (mCons (mCls (mOp (binO 0 F_Web___and__) (mVar 4) (mVar 5))) (mCons (mVar 1) (mCons (mVar 3) mNil)))))))))))
theorem sc__law_twins : FnScope ["_law_web", "_law_names_here", "_law_pairs", "_law_expected", "_law_twin", "_law_plain", "_law_one", "_law_other"] ["_law_web", "_law_names_here", "_law_pairs", "_law_expected"] (defScope s__law_twins) := ⟨rfl, rfl, rfl, by decide +kernel, rfl, by decide +kernel, by decide +kernel⟩
theorem fn__law_twins (E : Env P w K mg base) {fd : FuncData} {dvs : List V} (FD : FunD K "_law_twins" "_law_twins" (defArgs s__law_twins) (defBody s__law_twins) (defScope s__law_twins) dvs [] (at__law_twins K) fd) :
    FnOk P w K mg base (L2.CX P w) 6 (at__law_twins K) fd ["_law_web", "_law_names_here", "_law_pairs", "_law_expected"] (spOf (G K) 4 [] F__law_twins) := by
  refine def_ok FD sc__law_twins rfl rfl (by decide) (fun X W hX hr tk hp => ?_)
  have hu := hr.un
  have h67 : X.A.units + 67 < cLine := by omega
  have h65 : X.A.units + 65 < cLine := by omega
  have h64 : X.A.units + 64 < cLine := by omega
  have h1 : X.A.units + 1 < cLine := by omega
  obtain ⟨cdv, A, outer, s, H, E', rfl⟩ := hX
  have hN : (["_law_web", "_law_names_here", "_law_pairs", "_law_expected", "_law_twin", "_law_plain", "_law_one", "_law_other"] : List Str).Nodup := by decide
  exact (gss_cons (gs_asg 4 hN (ge_cls (ge_makeK (ks := ["pairs"]) E.mkr (okK_Web___init__ E) (hr.mono (by decide)) E.gWeb (ga_cons (ge_cls (ge_callTy (cd_tuple rfl) E.f_tuple boot_tuple (ga_cons (ge_var 1) ga_nil))) ga_nil) (gk_cons (ge_cls (ge_callTy (cd_tuple rfl) E.f_tuple boot_tuple (ga_cons (ge_var 2) ga_nil))) gk_nil))))
    (gss_cons (gs_asg 5 hN (ge_cls (ge_make (c := 0) E.mkr (ok_Web___init__ E) tk (hr.mono (by decide)) E.gWeb (ga_cons (ge_cls (ge_callTy (cd_list rfl) E.f_list boot_list (ga_cons (ge_var 1) ga_nil))) (ga_cons (ge_cls (ge_callTy (cd_list rfl) E.f_list boot_list (ga_cons (ge_var 3) ga_nil))) ga_nil)))))
    (gss_cons (gs_if (gt_not (gt_b (ge_defM (ok__law_web_is E) E.g__law_web_is E.k__law_web_is (hr.mono (by decide)) tk (ga_cons (ge_var 4) (ga_cons (ge_var 1) (ga_cons (ge_var 3) ga_nil)))))) (gss_one (gs_ret ge_bl)) gss_nil)
    (gss_cons (gs_for rfl hp rfl (gi_seq rfl (ge_cls (ge_lst (ga_cons (ge_var 0) (ga_cons (ge_var 4) (ga_cons (ge_var 5) ga_nil)))))) (gg_nm 6 hN) (gss_one (gs_for rfl hp rfl (gi_seq rfl (ge_cls (ge_lst (ga_cons (ge_var 0) (ga_cons (ge_var 4) (ga_cons (ge_var 5) ga_nil)))))) (gg_nm 7 hN) (gss_cons (gs_if (gt_w (gw_or (gt_not (gt_b (ge_defM (ok__law_truth E) E.g__law_truth E.k__law_truth (hr.mono (by decide)) tk (ga_cons (ge_cmp (own_cmp (op := .Eq) (fun _ _ => rfl) (hr.mono (by decide)) E.sm___eq__ (ok_Web___eq__ E)) (ge_var 6) (ge_var 7)) (ga_cons ge_bl ga_nil))))) (gw_or1 (gt_cmp (own_neO (hr.mono (by decide)) E.ne E.mo E.sm___eq__ (ok_Web___eq__ E)) (ge_var 6) (ge_var 7))))) (gss_one (gs_ret ge_bl)) gss_nil)
    (gss_one (gs_if (gt_not (gt_b (ge_defM (ok__law_truth E) E.g__law_truth E.k__law_truth (hr.mono (by decide)) tk (ga_cons (ge_cmp (own_cmp (op := .LtE) (fun _ _ => rfl) (hr.mono (by decide)) E.sm___le__ (ok_Web___le__ E)) (ge_var 6) (ge_var 7)) (ga_cons ge_bl ga_nil))))) (gss_one (gs_ret ge_bl)) gss_nil))))))
    (gss_one (gs_ret (ge_and (ge_defM (ok__law_web_is E) E.g__law_web_is E.k__law_web_is (hr.mono (by decide)) tk (ga_cons (ge_cls (ge_op (own_bin (hr.mono (by decide)) E.sf (E.sm___or__) (ok_Web___or__ E)) (ge_var 5) (ge_var 4))) (ga_cons (ge_var 1) (ga_cons (ge_var 3) ga_nil)))) (ge_one (ge_defM (ok__law_web_is E) E.g__law_web_is E.k__law_web_is (hr.mono (by decide)) tk (ga_cons (ge_cls (ge_op (own_bin (hr.mono (by decide)) E.sf (E.sm___and__) (ok_Web___and__ E)) (ge_var 4) (ge_var 5))) (ga_cons (ge_var 1) (ga_cons (ge_var 3) ga_nil))))))))))))
theorem ok__law_twins (E : Env P w K mg base) : MD P w K mg base (G K) (at__law_twins K) 6 4 [] [] F__law_twins := by
  obtain ⟨fd, FD⟩ := E.d__law_twins
  exact ⟨fd, ["_law_web", "_law_names_here", "_law_pairs", "_law_expected"], [], [], fn__law_twins E FD, FD.bindsN (fun _ _ _ _ _ _ us hl => match us, hl with | [_, _, _, _], _ => rfl), .nil, fun _ _ => ⟨rfl, rfl⟩⟩
def R__law_doors_1 : M (List D) := (mRng1 (mCons (mCallN lenD (mCons (mVar 0) mNil)) mNil))
def R__law_doors_2 : M (List D) := (mRng1 (mCons (mCallN lenD (mCons (mVar 0) mNil)) mNil))
def R__law_doors_3 : M (List D) := (mRng1 (mCons (mC (.int 2)) mNil))
def B__law_doors_1 : MS := (sSeq (sIf (mB (mOp neD (mVar 3) (mVar 5))) (sExpr (mApp 1 (mTup (mCons (mOp idxD (mVar 0) (mVar 3)) (mCons (mOp idxD (mVar 0) (mVar 5)) mNil))))) sNx) (sIf (mB (mOp eqD (mVar 5) (mOp addD (mVar 3) (mC (.int 1))))) (sExpr (mApp 2 (mTup (mCons (mOp idxD (mVar 0) (mVar 3)) (mCons (mOp idxD (mVar 0) (mVar 5)) mNil))))) sNx))
def B__law_doors_2 : MS := (sFor (.nm 5) R__law_doors_1 B__law_doors_1)
def B__law_doors_3 : MS := (sSeq (sAsg 6 (mCls (mOp idxD (mLst (mCons (mClsV 1) (mCons (mClsV 2) mNil))) (mVar 4)))) (sSeq (sAsg 7 (mCallN listD (mCons (mVar 0) mNil))) (sSeq (sIf (mB (mOp eqD (mVar 4) (mC (.int 0)))) (sSeq (sAsg 8 (mBor D.imm (mCMeth 0 2 F_Web_full [] (mCons (mVar 7) mNil)))) (sAsg 9 (mCls (mCMeth 0 2 F_Web_full [] (mCons (mCls (mCallN tupleD (mCons (mVar 0) mNil))) mNil))))) (sSeq (sAsg 8 (mBor D.imm (mCMeth 0 2 F_Web_chain [] (mCons (mVar 7) mNil)))) (sAsg 9 (mCls (mCMeth 0 2 F_Web_chain [] (mCons (mCls (mCallN tupleD (mCons (mVar 0) mNil))) mNil)))))) (sSeq (sIf (mBor (fun _ => true) (mB (mOp neD (mVar 7) (mVar 0)))) (sRet (mC (.bl false))) sNx) (sSeq (sExpr (mClear 7)) (sSeq (sIf (mBor (fun _ => true) (mOr (mNot (mB (mCall 3 F__law_web_is [] (mCons (mVar 8) (mCons (mVar 0) (mCons (mVar 6) mNil)))))) (mNot (mB (mCall 3 F__law_web_is [] (mCons (mVar 9) (mCons (mVar 0) (mCons (mVar 6) mNil)))))))) (sRet (mC (.bl false))) sNx) (sSeq (sIf (mBor (fun _ => true) (mOr (mNot (mB (mCall 2 F__law_truth [] (mCons (mOp (binO 0 F_Web___eq__) (mVar 8) (mVar 9)) (mCons (mC (.bl true)) mNil))))) (mB (mOp (neO 0 F_Web___eq__) (mVar 8) (mCls (mMake 0 3 F_Web___init__ [] (mCons (mCls (mCallN listD (mCons (mVar 0) mNil))) (mCons (mCls (mCallN listD (mCons (mVar 6) mNil))) mNil)))))))) (sRet (mC (.bl false))) sNx) (sSeq (sIf (mB (mOp gtD (mCallN lenD (mCons (mVar 0) mNil)) (mC (.int 1)))) (sSetO 0 8 F_Web___setitem__ (mC (.bl false)) (mTup (mCons (mOp idxD (mVar 0) (mC (.int 0))) (mCons (mOp idxD (mVar 0) (mC (.int 1))) mNil)))) sNx) (sIf (mBor (fun _ => true) (mOr (mNot (mB (mCall 3 F__law_web_is [] (mCons (mVar 8) (mCons (mVar 0) (mCons (mCls (mSl slD (mVar 6) (mPart (mC (.int 1))) mNo)) mNil)))))) (mNot (mB (mCall 3 F__law_web_is [] (mCons (mVar 9) (mCons (mVar 0) (mCons (mVar 6) mNil)))))))) (sRet (mC (.bl false))) sNx)))))))))
def F__law_doors : Fn := runDef 1 10 [] ((sSeq (sAsg 1 (mLst mNil)) (sSeq (sAsg 2 (mLst mNil)) (sSeq (sFor (.nm 3) R__law_doors_2 B__law_doors_2) (sSeq (sFor (.nm 4) R__law_doors_3 B__law_doors_3) (sRet (mC (.bl true))))))))
theorem sc__law_doors : FnScope ["_law_names_here", "_law_full", "_law_near", "_law_k", "_law_way", "_law_j", "_law_due", "_law_held", "_law_made", "_law_other"] ["_law_names_here"] (defScope s__law_doors) := ⟨rfl, rfl, rfl, by decide +kernel, rfl, by decide +kernel, by decide +kernel⟩
theorem fn__law_doors (E : Env P w K mg base) {fd : FuncData} {dvs : List V} (FD : FunD K "_law_doors" "_law_doors" (defArgs s__law_doors) (defBody s__law_doors) (defScope s__law_doors) dvs [] (at__law_doors K) fd) :
    FnOk P w K mg base (L2.CX P w) 6 (at__law_doors K) fd ["_law_names_here"] (spOf (G K) 1 [] F__law_doors) := by
  refine def_ok FD sc__law_doors rfl rfl (by decide) (fun X W hX hr tk hp => ?_)
  have hu := hr.un
  have h67 : X.A.units + 67 < cLine := by omega
  have h65 : X.A.units + 65 < cLine := by omega
  have h64 : X.A.units + 64 < cLine := by omega
  have h1 : X.A.units + 1 < cLine := by omega
  obtain ⟨cdv, A, outer, s, H, E', rfl⟩ := hX
  have hN : (["_law_names_here", "_law_full", "_law_near", "_law_k", "_law_way", "_law_j", "_law_due", "_law_held", "_law_made", "_law_other"] : List Str).Nodup := by decide
  exact (gss_cons (gs_asg 1 hN (ge_lst ga_nil))
    (gss_cons (gs_asg 2 hN (ge_lst ga_nil))
    (gss_cons (gs_for rfl hp rfl (gi_rng1 E.f_range (ga_cons (ge_callB (cd_len rfl) E.f_len boot_len (ga_cons (ge_var 0) ga_nil)) ga_nil)) (gg_nm 3 hN) (gss_one (gs_for rfl hp rfl (gi_rng1 E.f_range (ga_cons (ge_callB (cd_len rfl) E.f_len boot_len (ga_cons (ge_var 0) ga_nil)) ga_nil)) (gg_nm 5 hN) (gss_cons (gs_if (gt_cmp (od_ne rfl h64) (ge_var 3) (ge_var 5)) (gss_one (gs_expr (ge_app 1 (ge_tup (ga_cons (ge_ix (ix_D rfl h1) (ge_var 0) (ge_var 3)) (ga_cons (ge_ix (ix_D rfl h1) (ge_var 0) (ge_var 5)) ga_nil)))))) gss_nil)
    (gss_one (gs_if (gt_cmp (od_eq rfl h64) (ge_var 5) (ge_op od_add (ge_var 3) ge_int)) (gss_one (gs_expr (ge_app 2 (ge_tup (ga_cons (ge_ix (ix_D rfl h1) (ge_var 0) (ge_var 3)) (ga_cons (ge_ix (ix_D rfl h1) (ge_var 0) (ge_var 5)) ga_nil)))))) gss_nil))))))
    (gss_cons (gs_for rfl hp rfl (gi_rng1 E.f_range (ga_cons ge_int ga_nil)) (gg_nm 4 hN) (gss_cons (gs_asg 6 hN (ge_cls (ge_ix (ix_D rfl h1) (ge_lst (ga_cons (ge_clsv 1) (ga_cons (ge_clsv 2) ga_nil))) (ge_var 4))))
    (gss_cons (gs_asg 7 hN (ge_callTy (cd_list rfl) E.f_list boot_list (ga_cons (ge_var 0) ga_nil)))
    (gss_cons (gs_if (gt_cmp (od_eq rfl h64) (ge_var 4) ge_int) (gss_cons (gs_asg 8 hN (ge_bor (ge_cmeth (n := 0) (c := 0) rfl E.gWeb E.cread E.cm_full (ok_Web_full E) (hr.mono (by decide)) (ga_cons (ge_var 7) ga_nil))))
    (gss_one (gs_asg 9 hN (ge_cls (ge_cmeth (n := 0) (c := 0) rfl E.gWeb E.cread E.cm_full (ok_Web_full E) (hr.mono (by decide)) (ga_cons (ge_cls (ge_callTy (cd_tuple rfl) E.f_tuple boot_tuple (ga_cons (ge_var 0) ga_nil))) ga_nil)))))) (gss_cons (gs_asg 8 hN (ge_bor (ge_cmeth (n := 0) (c := 0) rfl E.gWeb E.cread E.cm_chain (ok_Web_chain E) (hr.mono (by decide)) (ga_cons (ge_var 7) ga_nil))))
    (gss_one (gs_asg 9 hN (ge_cls (ge_cmeth (n := 0) (c := 0) rfl E.gWeb E.cread E.cm_chain (ok_Web_chain E) (hr.mono (by decide)) (ga_cons (ge_cls (ge_callTy (cd_tuple rfl) E.f_tuple boot_tuple (ga_cons (ge_var 0) ga_nil))) ga_nil)))))))
    (gss_cons (gs_if (gt_bor (gt_cmp (od_ne rfl h64) (ge_var 7) (ge_var 0))) (gss_one (gs_ret ge_bl)) gss_nil)
    (gss_cons (gs_expr (ge_clear 7))
    (gss_cons (gs_if (gt_bor (gt_w (gw_or (gt_not (gt_b (ge_defM (ok__law_web_is E) E.g__law_web_is E.k__law_web_is (hr.mono (by decide)) tk (ga_cons (ge_var 8) (ga_cons (ge_var 0) (ga_cons (ge_var 6) ga_nil)))))) (gw_or1 (gt_not (gt_b (ge_defM (ok__law_web_is E) E.g__law_web_is E.k__law_web_is (hr.mono (by decide)) tk (ga_cons (ge_var 9) (ga_cons (ge_var 0) (ga_cons (ge_var 6) ga_nil)))))))))) (gss_one (gs_ret ge_bl)) gss_nil)
    (gss_cons (gs_if (gt_bor (gt_w (gw_or (gt_not (gt_b (ge_defM (ok__law_truth E) E.g__law_truth E.k__law_truth (hr.mono (by decide)) tk (ga_cons (ge_cmp (own_cmp (op := .Eq) (fun _ _ => rfl) (hr.mono (by decide)) E.sm___eq__ (ok_Web___eq__ E)) (ge_var 8) (ge_var 9)) (ga_cons ge_bl ga_nil))))) (gw_or1 (gt_cmp (own_neO (hr.mono (by decide)) E.ne E.mo E.sm___eq__ (ok_Web___eq__ E)) (ge_var 8) (ge_cls (ge_make (c := 0) E.mkr (ok_Web___init__ E) tk (hr.mono (by decide)) E.gWeb (ga_cons (ge_cls (ge_callTy (cd_list rfl) E.f_list boot_list (ga_cons (ge_var 0) ga_nil))) (ga_cons (ge_cls (ge_callTy (cd_list rfl) E.f_list boot_list (ga_cons (ge_var 6) ga_nil))) ga_nil))))))))) (gss_one (gs_ret ge_bl)) gss_nil)
    (gss_cons (gs_if (gt_cmp od_gt (ge_callB (cd_len rfl) E.f_len boot_len (ga_cons (ge_var 0) ga_nil)) ge_int) (gss_one (gs_setO (c := 0) 8 E.sm___setitem__ E.nosq (ok_Web___setitem__ E) tk (hr.mono (by decide)) ge_bl (ge_tup (ga_cons (ge_ix (ix_D rfl h1) (ge_var 0) ge_int) (ga_cons (ge_ix (ix_D rfl h1) (ge_var 0) ge_int) ga_nil))))) gss_nil)
    (gss_one (gs_if (gt_bor (gt_w (gw_or (gt_not (gt_b (ge_defM (ok__law_web_is E) E.g__law_web_is E.k__law_web_is (hr.mono (by decide)) tk (ga_cons (ge_var 8) (ga_cons (ge_var 0) (ga_cons (ge_cls (ge_slice rfl (ge_var 6) (go_some ge_int) go_none)) ga_nil)))))) (gw_or1 (gt_not (gt_b (ge_defM (ok__law_web_is E) E.g__law_web_is E.k__law_web_is (hr.mono (by decide)) tk (ga_cons (ge_var 9) (ga_cons (ge_var 0) (ga_cons (ge_var 6) ga_nil)))))))))) (gss_one (gs_ret ge_bl)) gss_nil)))))))))))
    (gss_one (gs_ret ge_bl))))))
theorem ok__law_doors (E : Env P w K mg base) : MD P w K mg base (G K) (at__law_doors K) 6 1 [] [] F__law_doors := by
  obtain ⟨fd, FD⟩ := E.d__law_doors
  exact ⟨fd, ["_law_names_here"], [], [], fn__law_doors E FD, FD.bindsN (fun _ _ _ _ _ _ us hl => match us, hl with | [_], _ => rfl), .nil, fun _ _ => ⟨rfl, rfl⟩⟩
def R_law_1 : M (List D) := (mRng2 (mCons (mC (.int 3)) (mCons (mCallN lenD (mCons (mVar 0) mNil)) mNil)))
def E_law_1 : M D := (mTup (mCons (mOp idxD (mVar 3) (mOp idxD (mVar 4) (mOp mulSD (mC (.int 2)) (mVar 6)))) (mCons (mOp idxD (mVar 3) (mOp idxD (mVar 4) (mOp addD (mOp mulSD (mC (.int 2)) (mVar 6)) (mC (.int 1))))) mNil)))
def B_law_2 : MS := (sExpr (mApp 5 (mTup (mCons (mOp idxD (mVar 3) (mOp modD (mCallN intD (mCons (mOp idxD (mVar 0) (mVar 6)) mNil)) (mVar 2))) (mCons (mOp idxD (mVar 3) (mOp modD (mCallN intD (mCons (mOp fdivD (mOp idxD (mVar 0) (mVar 6)) (mVar 2)) mNil)) (mVar 2))) mNil)))))
def F_law : Fn := runDef 1 11 [] ((sSeq (sAsg 1 (mCls (mCall 4 F__law_row [] (mCons (mCls (mCall 2 F__law_cell [] (mCons (mVar 0) (mCons (mC (.int 0)) mNil)))) (mCons (mC (.int 1)) (mCons (mC (.int 8)) (mCons (mC (.int 60)) mNil))))))) (sSeq (sAsg 2 (mCls (mOp addD (mC (.int 1)) (mOp modD (mCallN intD (mCons (mOp idxD (mVar 1) (mC (.int 0))) mNil)) (mC (.int 5)))))) (sSeq (sAsg 3 (mCls (mCall 3 F__law_names [] (mCons (mCls (mCall 2 F__law_cell [] (mCons (mVar 0) (mCons (mC (.int 1)) mNil)))) (mCons (mC (.int 2)) (mCons (mVar 2) mNil)))))) (sSeq (sAsg 4 (mCls (mCall 4 F__law_row [] (mCons (mCls (mCall 2 F__law_cell [] (mCons (mVar 0) (mCons (mC (.int 2)) mNil)))) (mCons (mC (.int 13)) (mCons (mCls (mOp mulSD (mC (.int 2)) (mOp modD (mCallN intD (mCons (mOp idxD (mVar 1) (mC (.int 1))) mNil)) (mC (.int 24))))) (mCons (mVar 2) mNil))))))) (sSeq (sAsg 5 (mLc [6] (.nm 6) (mRng1 (mCons (mOp fdivD (mCallN lenD (mCons (mVar 4) mNil)) (mC (.int 2))) mNil)) mYes E_law_1)) (sSeq (sFor (.nm 6) R_law_1 B_law_2) (sSeq (sAsg 7 (mCls (mCall 2 F__law_ordered [] (mCons (mVar 3) (mCons (mClsV 5) mNil))))) (sSeq (sAsg 8 (mLst (mCons (mCallN listD (mCons (mVar 3) mNil)) (mCons (mCallN listD (mCons (mClsV 5) mNil)) mNil)))) (sSeq (sAsg 9 (mCls (mBor D.imm (mMake 0 3 F_Web___init__ [] (mCons (mOp idxD (mVar 8) (mC (.int 0))) (mCons (mOp idxD (mVar 8) (mC (.int 1))) mNil)))))) (sSeq (sIf (mBor (fun _ => true) (mOr (mB (mOp neD (mOp idxD (mVar 8) (mC (.int 0))) (mVar 3))) (mB (mOp neD (mOp idxD (mVar 8) (mC (.int 1))) (mVar 5))))) (sRet (mC (.bl false))) sNx) (sSeq (sExpr (mClearP 8 0)) (sSeq (sExpr (mClearP 8 1)) (sSeq (sAsg 10 (mProp 0 F_Web_actors (mVar 9))) (sSeq (sIf (mNot (mB (mCall 3 F__law_web_is [] (mCons (mVar 9) (mCons (mVar 3) (mCons (mVar 7) mNil)))))) (sRet (mC (.bl false))) sNx) (sSeq (sExpr (mClear 10)) (sSeq (sAsg 10 (mCallN (listO 0 "_pairs" F_Web___len__) (mCons (mVar 9) mNil))) (sSeq (sExpr (mClear 10)) (sSeq (sAsg 10 (mMeth 0 "audience" 2 F_Web_audience [] (mVar 9) (mCons (mOp idxD (mVar 3) (mC (.int 0))) mNil))) (sSeq (sExpr (mClear 10)) (sSeq (sAsg 10 (mMeth 0 "tellers" 2 F_Web_tellers [] (mVar 9) (mCons (mOp idxD (mVar 3) (mC (.int 0))) mNil))) (sSeq (sExpr (mClear 10)) (sSeq (sIf (mNot (mB (mCall 3 F__law_web_is [] (mCons (mVar 9) (mCons (mVar 3) (mCons (mVar 7) mNil)))))) (sRet (mC (.bl false))) sNx) (sSeq (sIf (mNot (mB (mCall 3 F__law_web_is [] (mCons (mCls (mMake 0 3 F_Web___init__ [.tup []] (mCons (mCls (mCallN listD (mCons (mVar 3) mNil))) mNil))) (mCons (mVar 3) (mCons (mCls (mLst mNil)) mNil)))))) (sRet (mC (.bl false))) sNx) (sSeq (sIf (mOr (mNot (mB (mCall 4 F__law_twins [] (mCons (mVar 9) (mCons (mVar 3) (mCons (mClsV 5) (mCons (mVar 7) mNil))))))) (mNot (mB (mCall 1 F__law_doors [] (mCons (mVar 3) mNil))))) (sRet (mC (.bl false))) sNx) (sRet (mAndV (mCall 1 F__law_is_integer [] (mCons (mC (.int 5)) mNil)) (mOp eqD (mC (.int 5)) (mC (.int 5))))))))))))))))))))))))))))))
theorem sc_law : FnScope ["_law_script", "_law_shape", "_law_many", "_law_names_here", "_law_draw", "_law_pairs", "_law_k", "_law_expected", "_law_given", "_law_web", "_law_held"] ["_law_script"] (defScope s_law) := ⟨rfl, rfl, rfl, by decide +kernel, rfl, by decide +kernel, by decide +kernel⟩
theorem fn_law (E : Env P w K mg base) {fd : FuncData} {dvs : List V} (FD : FunD K "law" "law" (defArgs s_law) (defBody s_law) (defScope s_law) dvs [] (at_law K) fd) :
    FnOk P w K mg base (L2.CX P w) 7 (at_law K) fd ["_law_script"] (spOf (G K) 1 [] F_law) := by
  refine def_ok FD sc_law rfl rfl (by decide) (fun X W hX hr tk hp => ?_)
  have hu := hr.un
  have h67 : X.A.units + 67 < cLine := by omega
  have h65 : X.A.units + 65 < cLine := by omega
  have h64 : X.A.units + 64 < cLine := by omega
  have h1 : X.A.units + 1 < cLine := by omega
  obtain ⟨cdv, A, outer, s, H, E', rfl⟩ := hX
  have hN : (["_law_script", "_law_shape", "_law_many", "_law_names_here", "_law_draw", "_law_pairs", "_law_k", "_law_expected", "_law_given", "_law_web", "_law_held"] : List Str).Nodup := by decide
  exact (gss_cons (gs_asg 1 hN (ge_cls (ge_defM (ok__law_row E) E.g__law_row E.k__law_row (hr.mono (by decide)) tk (ga_cons (ge_cls (ge_defM (ok__law_cell E) E.g__law_cell E.k__law_cell (hr.mono (by decide)) tk (ga_cons (ge_var 0) (ga_cons ge_int ga_nil)))) (ga_cons ge_int (ga_cons ge_int (ga_cons ge_int ga_nil)))))))
    (gss_cons (gs_asg 2 hN (ge_cls (ge_op od_add ge_int (ge_op od_mod (ge_callTy cd_int E.f_int boot_int (ga_cons (ge_ix (ix_D rfl h1) (ge_var 1) ge_int) ga_nil)) ge_int))))
    (gss_cons (gs_asg 3 hN (ge_cls (ge_defM (ok__law_names E) E.g__law_names E.k__law_names (hr.mono (by decide)) tk (ga_cons (ge_cls (ge_defM (ok__law_cell E) E.g__law_cell E.k__law_cell (hr.mono (by decide)) tk (ga_cons (ge_var 0) (ga_cons ge_int ga_nil)))) (ga_cons ge_int (ga_cons (ge_var 2) ga_nil))))))
    (gss_cons (gs_asg 4 hN (ge_cls (ge_defM (ok__law_row E) E.g__law_row E.k__law_row (hr.mono (by decide)) tk (ga_cons (ge_cls (ge_defM (ok__law_cell E) E.g__law_cell E.k__law_cell (hr.mono (by decide)) tk (ga_cons (ge_var 0) (ga_cons ge_int ga_nil)))) (ga_cons ge_int (ga_cons (ge_cls (ge_op od_mul ge_int (ge_op od_mod (ge_callTy cd_int E.f_int boot_int (ga_cons (ge_ix (ix_D rfl h1) (ge_var 1) ge_int) ga_nil)) ge_int))) (ga_cons (ge_var 2) ga_nil)))))))
    (gss_cons (gs_setLc 5 (own := [("_law_k", 6)]) rfl rfl hN rfl (sw_true rfl rfl rfl rfl) (gi_rng1 E.f_range (ga_cons (ge_op od_fdiv (ge_callB (cd_len rfl) E.f_len boot_len (ga_cons (ge_var 4) ga_nil)) ge_int) ga_nil)) (blkOk_by (N := ["_law_script", "_law_shape", "_law_many", "_law_names_here", "_law_draw", "_law_pairs", "_law_k", "_law_expected", "_law_given", "_law_web", "_law_held"]) (sc := defScope s_law) (by decide +kernel)) (by decide) (fun _ _ _ _ _ => (gg_nm 6 hN)) (fun _ _ _ _ _ => gts_nil) (fun _ _ _ _ _ => (ge_tup (ga_cons (ge_ix (ix_D rfl h1) (ge_var 3) (ge_ix (ix_D rfl h1) (ge_var 4) (ge_op od_mul ge_int (ge_var 6)))) (ga_cons (ge_ix (ix_D rfl h1) (ge_var 3) (ge_ix (ix_D rfl h1) (ge_var 4) (ge_op od_add (ge_op od_mul ge_int (ge_var 6)) ge_int))) ga_nil)))))
    (gss_cons (gs_for rfl hp rfl (gi_rng2 E.f_range (ga_cons ge_int (ga_cons (ge_callB (cd_len rfl) E.f_len boot_len (ga_cons (ge_var 0) ga_nil)) ga_nil))) (gg_nm 6 hN) (gss_one (gs_expr (ge_app 5 (ge_tup (ga_cons (ge_ix (ix_D rfl h1) (ge_var 3) (ge_op od_mod (ge_callTy cd_int E.f_int boot_int (ga_cons (ge_ix (ix_D rfl h1) (ge_var 0) (ge_var 6)) ga_nil)) (ge_var 2))) (ga_cons (ge_ix (ix_D rfl h1) (ge_var 3) (ge_op od_mod (ge_callTy cd_int E.f_int boot_int (ga_cons (ge_op od_fdiv (ge_ix (ix_D rfl h1) (ge_var 0) (ge_var 6)) (ge_var 2)) ga_nil)) (ge_var 2))) ga_nil)))))))
    (gss_cons (gs_asg 7 hN (ge_cls (ge_defM (ok__law_ordered E) E.g__law_ordered E.k__law_ordered (hr.mono (by decide)) tk (ga_cons (ge_var 3) (ga_cons (ge_clsv 5) ga_nil)))))
    (gss_cons (gs_asg 8 hN (ge_lst (ga_cons (ge_callTy (cd_list rfl) E.f_list boot_list (ga_cons (ge_var 3) ga_nil)) (ga_cons (ge_callTy (cd_list rfl) E.f_list boot_list (ga_cons (ge_clsv 5) ga_nil)) ga_nil))))
    (gss_cons (gs_asg 9 hN (ge_cls (ge_bor (ge_make (c := 0) E.mkr (ok_Web___init__ E) tk (hr.mono (by decide)) E.gWeb (ga_cons (ge_ix (ix_D rfl h1) (ge_var 8) ge_int) (ga_cons (ge_ix (ix_D rfl h1) (ge_var 8) ge_int) ga_nil))))))
    (gss_cons (gs_if (gt_bor (gt_w (gw_or (gt_cmp (od_ne rfl h64) (ge_ix (ix_D rfl h1) (ge_var 8) ge_int) (ge_var 3)) (gw_or1 (gt_cmp (od_ne rfl h64) (ge_ix (ix_D rfl h1) (ge_var 8) ge_int) (ge_var 5)))))) (gss_one (gs_ret ge_bl)) gss_nil)
    (gss_cons (gs_expr (ge_clearP 8 0))
    (gss_cons (gs_expr (ge_clearP 8 1))
    (gss_cons (gs_asg 10 hN (ge_prop (c := 0) E.cls E.prop_actors (ok_Web_actors E) (hr.mono (by decide)) (ge_var 9)))
    (gss_cons (gs_if (gt_not (gt_b (ge_defM (ok__law_web_is E) E.g__law_web_is E.k__law_web_is (hr.mono (by decide)) tk (ga_cons (ge_var 9) (ga_cons (ge_var 3) (ga_cons (ge_var 7) ga_nil)))))) (gss_one (gs_ret ge_bl)) gss_nil)
    (gss_cons (gs_expr (ge_clear 10))
    (gss_cons (gs_asg 10 hN (ge_callTy (cd_listO (k := 1) rfl (hr.mono (by decide)) (it_Web E) rfl E.sm___len__ (ok_Web___len__ E)) E.f_list boot_list (ga_cons (ge_var 9) ga_nil)))
    (gss_cons (gs_expr (ge_clear 10))
    (gss_cons (gs_asg 10 hN (ge_meth (c := 0) E.cls E.mt_audience (ok_Web_audience E) (hr.mono (by decide)) tk (ge_var 9) (ga_cons (ge_ix (ix_D rfl h1) (ge_var 3) ge_int) ga_nil)))
    (gss_cons (gs_expr (ge_clear 10))
    (gss_cons (gs_asg 10 hN (ge_meth (c := 0) E.cls E.mt_tellers (ok_Web_tellers E) (hr.mono (by decide)) tk (ge_var 9) (ga_cons (ge_ix (ix_D rfl h1) (ge_var 3) ge_int) ga_nil)))
    (gss_cons (gs_expr (ge_clear 10))
    (gss_cons (gs_if (gt_not (gt_b (ge_defM (ok__law_web_is E) E.g__law_web_is E.k__law_web_is (hr.mono (by decide)) tk (ga_cons (ge_var 9) (ga_cons (ge_var 3) (ga_cons (ge_var 7) ga_nil)))))) (gss_one (gs_ret ge_bl)) gss_nil)
    (gss_cons (gs_if (gt_not (gt_b (ge_defM (ok__law_web_is E) E.g__law_web_is E.k__law_web_is (hr.mono (by decide)) tk (ga_cons (ge_cls (ge_make (c := 0) E.mkr (okD_Web___init__ E) tk (hr.mono (by decide)) E.gWeb (ga_cons (ge_cls (ge_callTy (cd_list rfl) E.f_list boot_list (ga_cons (ge_var 3) ga_nil))) ga_nil))) (ga_cons (ge_var 3) (ga_cons (ge_cls (ge_lst ga_nil)) ga_nil)))))) (gss_one (gs_ret ge_bl)) gss_nil)
    (gss_cons (gs_if (gt_w (gw_or (gt_not (gt_b (ge_defM (ok__law_twins E) E.g__law_twins E.k__law_twins (hr.mono (by decide)) tk (ga_cons (ge_var 9) (ga_cons (ge_var 3) (ga_cons (ge_clsv 5) (ga_cons (ge_var 7) ga_nil))))))) (gw_or1 (gt_not (gt_b (ge_defM (ok__law_doors E) E.g__law_doors E.k__law_doors (hr.mono (by decide)) tk (ga_cons (ge_var 3) ga_nil))))))) (gss_one (gs_ret ge_bl)) gss_nil)
    (gss_one (gs_ret (ge_and (ge_defM (ok__law_is_integer E) E.g__law_is_integer E.k__law_is_integer (hr.mono (by decide)) tk (ga_cons (ge_cval (n := 0) (c := 0) (v := .int 5) rfl E.cread E.cval_MOST_ACTORS.choose_spec (fun _ _ => ⟨rfl, rfl⟩) E.gWeb) ga_nil)) (ge_one (ge_cmp (od_eq rfl h64) (ge_cval (n := 0) (c := 0) (v := .int 5) rfl E.cread E.cval_MOST_ACTORS.choose_spec (fun _ _ => ⟨rfl, rfl⟩) E.gWeb) ge_int)))))))))))))))))))))))))))))
theorem ok_law (E : Env P w K mg base) : MD P w K mg base (G K) (at_law K) 7 1 [] [] F_law := by
  obtain ⟨fd, FD⟩ := E.d_law
  exact ⟨fd, ["_law_script"], [], [], fn_law E FD, FD.bindsN (fun _ _ _ _ _ _ us hl => match us, hl with | [_], _ => rfl), .nil, fun _ _ => ⟨rfl, rfl⟩⟩

end
end K01

namespace K01
open PySem PySem.Spec L2 Ta
/-! ### lists of texts, of pairs -/
def sd (zs : List Str) : List D := zs.map .str
def pd (ps : List (Str × Str)) : List D := ps.map fun p => .tup [.str p.1, .str p.2]
def okS (zs : List Str) : Prop := ∀ z ∈ zs, PyData.strOk z = true
def okP (ps : List (Str × Str)) : Prop := ∀ p ∈ ps, PyData.strOk p.1 = true ∧ PyData.strOk p.2 = true
theorem sd_cl : ∀ zs, clL (sd zs) = true
  | [] => rfl
  | z :: zs => by show (true && clL (sd zs)) = true; rw [sd_cl zs]; rfl
theorem sd_deep : ∀ zs, deepL (sd zs) = sd zs
  | [] => rfl
  | z :: zs => by show D.str z :: deepL (sd zs) = _; rw [sd_deep zs]; rfl
theorem sd_imm : ∀ zs, immL (sd zs) = true
  | [] => rfl
  | z :: zs => by show (true && immL (sd zs)) = true; rw [sd_imm zs]; rfl
theorem pd_cl : ∀ ps, clL (pd ps) = true
  | [] => rfl
  | z :: zs => by show (true && clL (pd zs)) = true; rw [pd_cl zs]; rfl
theorem pd_deep : ∀ ps, deepL (pd ps) = pd ps
  | [] => rfl
  | z :: zs => by show D.tup [.str z.1, .str z.2] :: deepL (pd zs) = _; rw [pd_deep zs]; rfl
theorem pd_imm : ∀ ps, immL (pd ps) = true
  | [] => rfl
  | z :: zs => by show (true && immL (pd zs)) = true; rw [pd_imm zs]; rfl
theorem sd_len (zs) : (sd zs).length = zs.length := List.length_map _
theorem pd_len (zs) : (pd zs).length = zs.length := List.length_map _
theorem sd_py : ∀ zs, pyL (sd zs) = some (zs.map .str)
  | [] => rfl
  | z :: zs => by show (match D.py (.str z), pyL (sd zs) with | some p, some ps => some (p :: ps) | _, _ => none) = _; rw [sd_py zs]; rfl
def pq (p : Str × Str) : PyData := .tuple [.str p.1, .str p.2]
theorem pd_py : ∀ ps, pyL (pd ps) = some (ps.map pq)
  | [] => rfl
  | z :: zs => by show (match D.py (.tup [.str z.1, .str z.2]), pyL (pd zs) with | some p, some ps => some (p :: ps) | _, _ => none) = _; rw [pd_py zs]; rfl
theorem sd_lay : ∀ {zs}, okS zs → PyData.canLayAll0 (zs.map .str) = true
  | [], _ => rfl
  | z :: zs, h => by
    show (PyData.canLay0 (.str z) && PyData.canLayAll0 (zs.map .str)) = true
    rw [sd_lay fun y hy => h y (List.mem_cons_of_mem _ hy), show PyData.canLay0 (.str z) = true from h z List.mem_cons_self]; rfl
theorem pq_lay {p : Str × Str} (h : PyData.strOk p.1 = true ∧ PyData.strOk p.2 = true) : PyData.canLay0 (pq p) = true := by
  show (PyData.canLay0 (.str p.1) && (PyData.canLay0 (.str p.2) && true)) = true
  rw [show PyData.canLay0 (.str p.1) = true from h.1, show PyData.canLay0 (.str p.2) = true from h.2]; rfl
theorem pd_lay : ∀ {ps}, okP ps → PyData.canLayAll0 (ps.map pq) = true
  | [], _ => rfl
  | z :: zs, h => by
    show (PyData.canLay0 (pq z) && PyData.canLayAll0 (zs.map pq)) = true
    rw [pd_lay fun y hy => h y (List.mem_cons_of_mem _ hy), pq_lay (h z List.mem_cons_self)]; rfl
theorem sd_dep : ∀ zs : List Str, PyData.depthAll (zs.map .str) = 0
  | [] => rfl
  | z :: zs => by show max 0 (PyData.depthAll (zs.map .str)) = 0; rw [sd_dep zs]; rfl
theorem pd_dep : ∀ ps : List (Str × Str), PyData.depthAll (ps.map pq) ≤ 1
  | [] => Nat.zero_le _
  | z :: zs => by show max 1 (PyData.depthAll (zs.map pq)) ≤ 1; have := pd_dep zs; omega
theorem shp_str {z : Str} (h : PyData.strOk z = true) : (D.str z).shp = some (.str z) := by
  show (if SeqAt.shaped (.str z) = true then some (PyData.str z) else none) = _
  rw [if_pos]
  unfold SeqAt.shaped
  rw [show PyData.canLay0 (.str z) = true from h]; rfl
theorem shp_pair {p : Str × Str} (h : PyData.strOk p.1 = true ∧ PyData.strOk p.2 = true) : (D.tup [.str p.1, .str p.2]).shp = some (pq p) := by
  show (if SeqAt.shaped (pq p) = true then some (pq p) else none) = _
  rw [if_pos]
  unfold SeqAt.shaped
  rw [pq_lay h]; rfl
theorem shp_sd {o : Bool} {zs : List Str} (h : okS zs) : (D.lst o (sd zs)).shp = some (.list (zs.map .str)) := by
  unfold D.shp D.py
  rw [sd_py]
  show (if SeqAt.shaped (.list (zs.map .str)) = true then _ else none) = _
  rw [if_pos]
  unfold SeqAt.shaped
  rw [show PyData.canLay0 (.list (zs.map .str)) = true from sd_lay h, show PyData.depth (.list (zs.map .str)) = 1 from by show PyData.depthAll _ + 1 = 1; rw [sd_dep]]; rfl
theorem shp_sdT {zs : List Str} (h : okS zs) : (D.tup (sd zs)).shp = some (.tuple (zs.map .str)) := by
  unfold D.shp D.py
  rw [sd_py]
  show (if SeqAt.shaped (.tuple (zs.map .str)) = true then _ else none) = _
  rw [if_pos]
  unfold SeqAt.shaped
  rw [show PyData.canLay0 (.tuple (zs.map .str)) = true from sd_lay h, show PyData.depth (.tuple (zs.map .str)) = 1 from by show PyData.depthAll _ + 1 = 1; rw [sd_dep]]; rfl
theorem shp_pd {o : Bool} {ps : List (Str × Str)} (h : okP ps) : (D.lst o (pd ps)).shp = some (.list (ps.map pq)) := by
  unfold D.shp D.py
  rw [pd_py]
  show (if SeqAt.shaped (.list (ps.map pq)) = true then _ else none) = _
  rw [if_pos]
  unfold SeqAt.shaped
  have h2 : PyData.depth (.list (ps.map pq)) ≤ 64 := by show PyData.depthAll _ + 1 ≤ 64; have := pd_dep ps; omega
  rw [show PyData.canLay0 (.list (ps.map pq)) = true from pd_lay h, decide_eq_true h2]; rfl
theorem shp_pdT {ps : List (Str × Str)} (h : okP ps) : (D.tup (pd ps)).shp = some (.tuple (ps.map pq)) := by
  unfold D.shp D.py
  rw [pd_py]
  show (if SeqAt.shaped (.tuple (ps.map pq)) = true then _ else none) = _
  rw [if_pos]
  unfold SeqAt.shaped
  have h2 : PyData.depth (.tuple (ps.map pq)) ≤ 64 := by show PyData.depthAll _ + 1 ≤ 64; have := pd_dep ps; omega
  rw [show PyData.canLay0 (.tuple (ps.map pq)) = true from pd_lay h, decide_eq_true h2]; rfl
theorem eqv_str (x y : Str) : PyData.eqv (.str x) (.str y) = decide (x = y) := by
  show (x == y) = _
  by_cases h : x = y
  · rw [decide_eq_true h]; exact beq_iff_eq.mpr h
  · rw [decide_eq_false h]; exact beq_eq_false_iff_ne.mpr h
theorem eqv_pq (p q : Str × Str) : PyData.eqv (pq p) (pq q) = decide (p = q) := by
  show (PyData.eqv (.str p.1) (.str q.1) && (PyData.eqv (.str p.2) (.str q.2) && true)) = _
  rw [eqv_str, eqv_str, Bool.and_true]
  obtain ⟨a, b⟩ := p
  obtain ⟨c, d⟩ := q
  by_cases h1 : a = c <;> by_cases h2 : b = d <;> simp [h1, h2]
theorem any_str (z : Str) (zs : List Str) : ((zs.map PyData.str).any fun y => PyData.eqv y (.str z)) = decide (z ∈ zs) := by
  rw [List.any_map]
  have : (fun y => PyData.eqv y (.str z)) ∘ PyData.str = fun y => decide (y = z) := by funext y; exact eqv_str y z
  rw [this]
  by_cases h : z ∈ zs
  · rw [decide_eq_true h]; exact List.any_eq_true.mpr ⟨z, h, by simp⟩
  · rw [decide_eq_false h]; exact List.any_eq_false.mpr fun y hy e => h (by rw [← of_decide_eq_true e]; exact hy)
theorem any_pq (p : Str × Str) (ps : List (Str × Str)) : ((ps.map pq).any fun y => PyData.eqv y (pq p)) = decide (p ∈ ps) := by
  rw [List.any_map]
  have : (fun y => PyData.eqv y (pq p)) ∘ pq = fun y => decide (y = p) := by funext y; exact eqv_pq y p
  rw [this]
  by_cases h : p ∈ ps
  · rw [decide_eq_true h]; exact List.any_eq_true.mpr ⟨p, h, by simp⟩
  · rw [decide_eq_false h]; exact List.any_eq_false.mpr fun y hy e => h (by rw [← of_decide_eq_true e]; exact hy)
/-- a list or a tuple that stands still -/
inductive Sq (xs : List D) : D → Prop
  | l : Sq xs (.lst false xs)
  | t : Sq xs (.tup xs)
theorem in_sd {X : D} {z : Str} {zs : List Str} (hX : Sq (sd zs) X) (h : okS zs) (hz : PyData.strOk z = true) : inB (.str z) X = some (decide (z ∈ zs)) := by
  cases hX with
  | l =>
    show (match (D.str z).shp, (D.lst false (sd zs)).shp with | some p, some (.list qs) => some (qs.any fun z => PyData.eqv z p) | _, _ => none) = _
    rw [shp_str hz, shp_sd h]
    exact congrArg some (any_str z zs)
  | t =>
    show (match (D.str z).shp, (D.tup (sd zs)).shp with | some p, some (.tuple qs) => some (qs.any fun z => PyData.eqv z p) | _, _ => none) = _
    rw [shp_str hz, shp_sdT h]
    exact congrArg some (any_str z zs)
theorem in_lst {o : Bool} {z : Str} {zs : List Str} (h : okS zs) (hz : PyData.strOk z = true) : inB (.str z) (.lst o (sd zs)) = some (decide (z ∈ zs)) := by
  show (match (D.str z).shp, (D.lst o (sd zs)).shp with | some p, some (.list qs) => some (qs.any fun z => PyData.eqv z p) | _, _ => none) = _
  rw [shp_str hz, shp_sd h]
  exact congrArg some (any_str z zs)
theorem in_pl {o : Bool} {a b : Str} {ps : List (Str × Str)} (h : okP ps) (ha : PyData.strOk a = true) (hb : PyData.strOk b = true) : inB (.tup [.str a, .str b]) (.lst o (pd ps)) = some (decide ((a, b) ∈ ps)) := by
  show (match (D.tup [.str a, .str b]).shp, (D.lst o (pd ps)).shp with | some p, some (.list qs) => some (qs.any fun z => PyData.eqv z p) | _, _ => none) = _
  rw [shp_pair (p := (a, b)) ⟨ha, hb⟩, shp_pd h]
  exact congrArg some (any_pq (a, b) ps)
theorem in_pt {a b : Str} {ps : List (Str × Str)} (h : okP ps) (ha : PyData.strOk a = true) (hb : PyData.strOk b = true) : inB (.tup [.str a, .str b]) (.tup (pd ps)) = some (decide ((a, b) ∈ ps)) := by
  show (match (D.tup [.str a, .str b]).shp, (D.tup (pd ps)).shp with | some p, some (.tuple qs) => some (qs.any fun z => PyData.eqv z p) | _, _ => none) = _
  rw [shp_pair (p := (a, b)) ⟨ha, hb⟩, shp_pdT h]
  exact congrArg some (any_pq (a, b) ps)
theorem in_pd {X : D} {a b : Str} {ps : List (Str × Str)} (hX : Sq (pd ps) X) (h : okP ps) (ha : PyData.strOk a = true) (hb : PyData.strOk b = true) : inB (.tup [.str a, .str b]) X = some (decide ((a, b) ∈ ps)) := by
  cases hX with
  | l => exact in_pl h ha hb
  | t => exact in_pt h ha hb
theorem eqvAll_str : ∀ xs ys : List Str, PyData.eqvAll (xs.map .str) (ys.map .str) = decide (xs = ys)
  | [], [] => rfl
  | [], _ :: _ => rfl
  | _ :: _, [] => rfl
  | x :: xs, y :: ys => by
    show (PyData.eqv (.str x) (.str y) && PyData.eqvAll (xs.map .str) (ys.map .str)) = _
    rw [eqv_str, eqvAll_str xs ys]
    by_cases h1 : x = y <;> by_cases h2 : xs = ys <;> simp [h1, h2]
theorem eqvAll_pq : ∀ xs ys : List (Str × Str), PyData.eqvAll (xs.map pq) (ys.map pq) = decide (xs = ys)
  | [], [] => rfl
  | [], _ :: _ => rfl
  | _ :: _, [] => rfl
  | x :: xs, y :: ys => by
    show (PyData.eqv (pq x) (pq y) && PyData.eqvAll (xs.map pq) (ys.map pq)) = _
    rw [eqv_pq, eqvAll_pq xs ys]
    by_cases h1 : x = y <;> by_cases h2 : xs = ys <;> simp [h1, h2]
theorem eq_sd {o o' : Bool} {xs ys : List Str} (hx : okS xs) (hy : okS ys) : eqB (.lst o (sd xs)) (.lst o' (sd ys)) = some (decide (xs = ys)) := by
  show (match (D.lst o (sd xs)).shp, (D.lst o' (sd ys)).shp with | some p, some q => some (PyData.eqv p q) | _, _ => none) = _
  rw [shp_sd hx, shp_sd hy]
  exact congrArg some (eqvAll_str xs ys)
theorem eq_pd {o o' : Bool} {xs ys : List (Str × Str)} (hx : okP xs) (hy : okP ys) : eqB (.lst o (pd xs)) (.lst o' (pd ys)) = some (decide (xs = ys)) := by
  show (match (D.lst o (pd xs)).shp, (D.lst o' (pd ys)).shp with | some p, some q => some (PyData.eqv p q) | _, _ => none) = _
  rw [shp_pd hx, shp_pd hy]
  exact congrArg some (eqvAll_pq xs ys)
theorem eq_pq {a b c d : Str} (h1 : PyData.strOk a = true) (h2 : PyData.strOk b = true) (h3 : PyData.strOk c = true) (h4 : PyData.strOk d = true) : eqB (.tup [.str a, .str b]) (.tup [.str c, .str d]) = some (decide ((a, b) = (c, d))) := by
  show (match (D.tup [.str a, .str b]).shp, (D.tup [.str c, .str d]).shp with | some p, some q => some (PyData.eqv p q) | _, _ => none) = _
  rw [shp_pair (p := (a, b)) ⟨h1, h2⟩, shp_pair (p := (c, d)) ⟨h3, h4⟩]
  exact congrArg some (eqv_pq (a, b) (c, d))
theorem eq_str (a b : Str) : eqB (.str a) (.str b) = some (decide (a = b)) := rfl
/-! ### loops -/
theorem sLoop_inv {t : Tg} {m : MS} (ds : List D) (P : Nat → Rho → Prop) (h : ∀ i d ρ, ds[i]? = some d → P i ρ → ∃ ρ1 ρ2, t.put d ρ = some ρ1 ∧ m ρ1 = some (.ok .nx, ρ2) ∧ P (i + 1) ρ2) : ∀ ρ, P 0 ρ → ∃ ρ', sLoop t m ds ρ = some (.ok .nx, ρ') ∧ P ds.length ρ' := by
  have main : ∀ (n : Nat) (es : List D) (i : Nat) (ρ : Rho), es = ds.drop i → i + es.length = ds.length → P i ρ → ∃ ρ', sLoop t m es ρ = some (.ok .nx, ρ') ∧ P ds.length ρ' := by
    intro n es
    induction es with
    | nil => intro i ρ _ hl hp; exact ⟨ρ, rfl, by simp at hl; rw [← hl]; exact hp⟩
    | cons e es ih =>
      intro i ρ he hl hp
      have hi : i < ds.length := by simp at hl; omega
      have hg : ds[i]? = some e := by
        have := List.drop_eq_getElem_cons hi
        rw [← he] at this
        rw [List.getElem?_eq_getElem hi]
        exact congrArg some (by injection this with h1 h2; exact h1.symm)
      obtain ⟨ρ1, ρ2, e1, e2, e3⟩ := h i e ρ hg hp
      have hd : es = ds.drop (i + 1) := by
        have := List.drop_eq_getElem_cons hi
        rw [← he] at this
        injection this
      obtain ⟨ρ', q1, q2⟩ := ih (i + 1) ρ2 hd (by simp at hl; omega) e3
      refine ⟨ρ', ?_, q2⟩
      show (match t.put e ρ with | none => none | some ρ1 => _) = _
      rw [e1]
      dsimp only
      rw [e2]
      exact q1
  intro ρ hp
  exact main 0 ds 0 ρ rfl (by simp) hp
theorem lcLoop_ok {t : Tg} {mt : M Bool} {me : M D} {ρc : Rho} (p : D → Bool) (y : D → D) : ∀ ds : List D, (∀ d ∈ ds, ∃ ρ1 ρ2, t.put d ρc = some ρ1 ∧ mt ρ1 = some (.ok (p d), ρ2) ∧ (p d = true → ∃ ρ3, me ρ2 = some (.ok (y d), ρ3))) → lcLoop t mt me ρc ds = some ((ds.filter p).map y)
  | [], _ => rfl
  | d :: ds, h => by
    obtain ⟨ρ1, ρ2, e1, e2, e3⟩ := h d List.mem_cons_self
    have ih := lcLoop_ok p y ds fun d hd => h d (List.mem_cons_of_mem _ hd)
    unfold lcLoop
    rw [e1]
    dsimp only
    rw [e2]
    cases hp : p d with
    | true =>
      obtain ⟨ρ3, e4⟩ := e3 hp
      dsimp only
      rw [e4, ih]
      simp [hp]
    | false =>
      dsimp only
      rw [ih]
      simp [hp]
theorem lc2Loop_ok {t : Tg} {mt : M Bool} {mi1 : M (List D)} {t1 : Tg} {mt1 : M Bool} {me : M D} {vs1 : List Nat} {ρc : Rho} (ys : D → List D) : ∀ ds : List D, (∀ d ∈ ds, ∃ ρ1 ρ2 es ρ3, t.put d ρc = some ρ1 ∧ mt ρ1 = some (.ok true, ρ2) ∧ mi1 ρ2 = some (.ok es, ρ3) ∧ lcLoop t1 mt1 me (wipeE (clE ρ3) vs1) es = some (ys d)) → lc2Loop t mt mi1 t1 mt1 me vs1 ρc ds = some (ds.flatMap ys)
  | [], _ => rfl
  | d :: ds, h => by
    obtain ⟨ρ1, ρ2, es, ρ3, e1, e2, e3, e4⟩ := h d List.mem_cons_self
    have ih := lc2Loop_ok ys ds fun d hd => h d (List.mem_cons_of_mem _ hd)
    unfold lc2Loop
    rw [e1]
    dsimp only
    rw [e2]
    dsimp only
    rw [e3]
    dsimp only
    rw [e4, ih]
    rfl
end K01

namespace K01
open PySem PySem.Spec L2 Ta
theorem Sq.cl {xs : List D} {X : D} (h : Sq xs X) (c : clL xs = true) : X.cl = true := by
  cases h with
  | l => show (!false && clL xs) = true; rw [c]; rfl
  | t => exact c
theorem Sq.len {xs : List D} {X : D} (h : Sq xs X) : lenD [X] = some (.int xs.length) := by cases h <;> rfl
theorem Sq.seq {xs : List D} {X : D} (h : Sq xs X) : seqD X = some xs := by cases h <;> rfl
theorem seq_l (xs : List D) : seqD (.lst false xs) = some xs := rfl
theorem Sq.deep {xs : List D} {X : D} (h : Sq xs X) (c : deepL xs = xs) : X.deep = X := by
  cases h with
  | l => show D.lst false (deepL xs) = _; rw [c]
  | t => show D.tup (deepL xs) = _; rw [c]
theorem Sq.list {xs : List D} {X : D} (h : Sq xs X) : listD [X] = some (.lst true xs) := by cases h <;> rfl
theorem lst_cl {xs : List D} (c : clL xs = true) : (D.lst false xs).cl = true := by show (!false && clL xs) = true; rw [c]; rfl
theorem str_cl (a : Str) : (D.str a).cl = true := rfl
theorem str_deep (a : Str) : (D.str a).deep = .str a := rfl
theorem int_deep (a : Int) : (D.int a).deep = .int a := rfl
theorem bl_deep (a : Bool) : (D.bl a).deep = .bl a := rfl
theorem non_deep : (D.non).deep = .non := rfl
theorem lst_deep (o : Bool) (a : List D) : (D.lst o a).deep = .lst false (deepL a) := rfl
theorem tup_deep (a : List D) : (D.tup a).deep = .tup (deepL a) := rfl
theorem pair_deep (a b : Str) : (D.tup [.str a, .str b]).deep = .tup [.str a, .str b] := rfl
theorem pair_cl (a b : Str) : (D.tup [.str a, .str b]).cl = true := rfl
theorem dl_nil : deepL [] = [] := rfl
theorem dl_cons (d : D) (ds : List D) : deepL (d :: ds) = d.deep :: deepL ds := rfl
theorem int_cl (a : Int) : (D.int a).cl = true := rfl
theorem bl_cl (a : Bool) : (D.bl a).cl = true := rfl
theorem check_actor_ok {X : D} {zs : List Str} {a : Str} (hX : Sq (sd zs) X) (h : okS zs) (ha : a ∈ zs) : F_check_actor [.str a, X] = some (.ok .non, []) := by
  have hc := hX.cl (sd_cl zs)
  have hi := in_sd hX h (h a ha)
  unfold F_check_actor runDef
  simp [sSeq, sIf, mNot, mAnd, mOr, mB, mChain, mOp, mUn, mVar, mMv, mC, mIf, mBor, mCls, mCallN, mCons, mNil, mCall, callM, mAndV, mOrV, mNotV, M.bind, M.opt, M.ok, sNx, sRet, sRetN, sExpr, sAsg, putM, sAsgT, asgT, Tg.put, putAll, mLst, mTup, mApp, ownL, appS, mSeq, mRng1, mRng2, D.bool?, outM, pick, deepE, hc, str_cl, ninD, hi, ha]
theorem check_same_ok {zs : List Str} (h : okS zs) : F_check_same_actors [.lst false (sd zs), .lst false (sd zs)] = some (.ok .non, []) := by
  have hc := lst_cl (sd_cl zs)
  unfold F_check_same_actors runDef
  simp [sSeq, sIf, mNot, mAnd, mOr, mB, mChain, mOp, mUn, mVar, mMv, mC, mIf, mBor, mCls, mCallN, mCons, mNil, mCall, callM, mAndV, mOrV, mNotV, M.bind, M.opt, M.ok, sNx, sRet, sRetN, sExpr, sAsg, putM, sAsgT, asgT, Tg.put, putAll, mLst, mTup, mApp, ownL, appS, mSeq, mRng1, mRng2, D.bool?, outM, pick, deepE, hc, neD, eq_sd h h]
theorem sd_get {zs : List Str} {i : Nat} {d : D} (hd : (sd zs)[i]? = some d) : ∃ z, zs[i]? = some z ∧ d = .str z := by
  unfold sd at hd
  rw [List.getElem?_map] at hd
  cases q : zs[i]? with
  | none => rw [q] at hd; cases hd
  | some z => rw [q] at hd; exact ⟨z, rfl, by cases hd; rfl⟩
theorem pd_get {zs : List (Str × Str)} {i : Nat} {d : D} (hd : (pd zs)[i]? = some d) : ∃ z, zs[i]? = some z ∧ d = .tup [.str z.1, .str z.2] := by
  unfold pd at hd
  rw [List.getElem?_map] at hd
  cases q : zs[i]? with
  | none => rw [q] at hd; cases hd
  | some z => rw [q] at hd; exact ⟨z, rfl, by cases hd; rfl⟩
theorem sd_app (a b : List Str) : sd (a ++ b) = sd a ++ sd b := List.map_append
theorem pd_app (a b : List (Str × Str)) : pd (a ++ b) = pd a ++ pd b := List.map_append
theorem check_list_ok {X : D} {zs : List Str} (hX : Sq (sd zs) X) (h : okS zs) (hn : zs.Nodup) (h1 : 1 ≤ zs.length) (h5 : zs.length ≤ 5) : F_check_list [X, .int 1, .int 5] = some (.ok .non, []) := by
  have hc := hX.cl (sd_cl zs)
  have hl := hX.len
  have hs := hX.seq
  have hdp := hX.deep (sd_deep zs)
  have b1 : decide ((1 : Int) ≤ (zs.length : Int)) = true := decide_eq_true (by omega)
  have b2 : decide ((zs.length : Int) ≤ (5 : Int)) = true := decide_eq_true (by omega)
  obtain ⟨ρ', e1, x, rfl⟩ := sLoop_inv (t := .nm 4) (m := B_check_list_1) (sd zs)
    (fun i ρ => ∃ x, ρ = [some X, some (.int 1), some (.int 5), some (.lst true (sd (zs.take i))), x]) (fun i d ρ hd hp => by
      obtain ⟨x, rfl⟩ := hp
      obtain ⟨z, hz, rfl⟩ := sd_get hd
      have hi : i < zs.length := (List.getElem?_eq_some_iff.mp hz).1
      have hzi : zs[i] = z := (List.getElem?_eq_some_iff.mp hz).2
      have hm : z ∈ zs := List.mem_of_getElem? hz
      have ok : okS (zs.take i) := fun y hy => h y (List.mem_of_mem_take hy)
      have nm : z ∉ zs.take i := fun hh => by
        have h2 := hn
        rw [← List.take_append_drop i zs] at h2
        have h3 := (List.nodup_append.mp h2).2.2 z hh z
        rw [List.drop_eq_getElem_cons hi, hzi] at h3
        exact h3 List.mem_cons_self rfl
      have ei := in_lst (o := false) ok (h z hm)
      have lt : (sd (zs.take i)).length < sizeLine := by rw [sd_len, List.length_take, sizeLine_eq]; omega
      have tk : zs.take (i + 1) = zs.take i ++ [z] := by rw [List.take_add_one, hz]; rfl
      refine ⟨[some X, some (.int 1), some (.int 5), some (.lst true (sd (zs.take i))), some (.str z)], [some X, some (.int 1), some (.int 5), some (.lst true (sd (zs.take (i + 1)))), some (.str z)], by simp [Tg.put, putAll], ?_, _, rfl⟩
      rw [tk, sd_app]
      unfold B_check_list_1
      simp [sSeq, sIf, mNot, mAnd, mOr, mB, mChain, mOp, mUn, mVar, mMv, mC, mIf, mBor, mCls, mCallN, mCons, mNil, mCall, callM, mAndV, mOrV, mNotV, M.bind, M.opt, M.ok, sNx, sRet, sRetN, sExpr, sAsg, putM, sAsgT, asgT, Tg.put, putAll, mLst, mTup, mApp, ownL, appS, mSeq, mRng1, mRng2, D.bool?, outM, pick, deepE, lst_deep, str_deep, sd_deep, str_cl, lst_cl (sd_cl _), inD, ei, nm, lt]
      rfl) [some X, some (.int 1), some (.int 5), some (.lst true []), none] ⟨none, by simp [sd]⟩
  unfold F_check_list runDef
  simp [sSeq, sIf, mNot, mAnd, mOr, mB, mChain, mOp, mUn, mVar, mMv, mC, mIf, mBor, mCls, mCallN, mCons, mNil, mCall, callM, mAndV, mOrV, mNotV, M.bind, M.opt, M.ok, sNx, sRet, sRetN, sExpr, sAsg, putM, sAsgT, asgT, Tg.put, putAll, mLst, mTup, mApp, ownL, appS, mSeq, mRng1, mRng2, D.bool?, outM, pick, deepE, hc, int_cl, hl, leD, cmpD, sFor, hs, sd_len, b1, b2, e1]

/-! ### the web -/
def wb (o : Bool) (zs : List Str) (ps : List (Str × Str)) : D := .ins o 0 ["_actors", "_pairs"] [.lst o (sd zs), .lst o (pd ps)]
theorem wb_deep (o zs ps) : (wb o zs ps).deep = wb false zs ps := by
  show D.ins false 0 _ [.lst false (deepL (sd zs)), .lst false (deepL (pd ps))] = _
  rw [sd_deep, pd_deep]; rfl
theorem wb_cl (zs ps) : (wb false zs ps).cl = true := by
  show (!false && ((!false && clL (sd zs)) && ((!false && clL (pd ps)) && true))) = true
  rw [sd_cl, pd_cl]; rfl
theorem wb_imm (zs ps) : (wb true zs ps).imm = true := by
  show (true && ((true && immL (sd zs)) && ((true && immL (pd ps)) && true))) = true
  rw [sd_imm, pd_imm]; rfl
def norm (zs : List Str) (ps : List (Str × Str)) : List (Str × Str) := zs.flatMap fun a => (zs.filter fun b => decide (a ≠ b ∧ (a, b) ∈ ps)).map fun b => (a, b)
def cl1 (o : Option D) : Option D := match o with
  | some d => if d.cl then some d else none
  | none => none
theorem clE_nil : clE [] = [] := rfl
theorem clE_cons (o : Option D) (ρ : Rho) : clE (o :: ρ) = cl1 o :: clE ρ := rfl
theorem cl1_some {d : D} (h : d.cl = true) : cl1 (some d) = some d := by show (if d.cl = true then some d else none) = _; rw [if_pos h]
theorem cl1_none : cl1 none = none := rfl
theorem sd_fm (zs : List Str) (p : D → Bool) (y : D → D) : ((sd zs).filter p).map y = (zs.filter fun z => p (.str z)).map fun z => y (.str z) := by
  unfold sd
  rw [List.filter_map, List.map_map]; rfl
theorem norm_ok {zs : List Str} {ps : List (Str × Str)} (h : okS zs) : okP (norm zs ps) := fun p hp => by
  obtain ⟨a, ha, hb⟩ := List.mem_flatMap.mp hp
  obtain ⟨b, hb2, rfl⟩ := List.mem_map.mp hb
  exact ⟨h a ha, h b (List.mem_filter.mp hb2).1⟩
theorem pd_fm (zs : List Str) (f : Str → List (Str × Str)) (g : D → List D) (h : ∀ z ∈ zs, g (.str z) = pd (f z)) : (sd zs).flatMap g = pd (zs.flatMap f) := by
  induction zs with
  | nil => rfl
  | cons z zs ih =>
    show g (.str z) ++ (sd zs).flatMap g = pd (f z ++ zs.flatMap f)
    rw [ih fun y hy => h y (List.mem_cons_of_mem _ hy), h z List.mem_cons_self, pd_app]
theorem sd_mem {zs : List Str} {d : D} (h : d ∈ sd zs) : ∃ z ∈ zs, d = .str z := by
  obtain ⟨z, hz, rfl⟩ := List.mem_map.mp h
  exact ⟨z, hz, rfl⟩
theorem ne1 : ¬ ("_actors" : Str) = "_pairs" := by decide
theorem ne2 : ¬ ("_pairs" : Str) = "_actors" := by decide
theorem fld1 (o zs ps) : fldD 0 "_actors" (wb o zs ps) = some (.lst o (sd zs)) := rfl
theorem fld2 (o zs ps) : fldD 0 "_pairs" (wb o zs ps) = some (.lst o (pd ps)) := rfl
theorem lc_init {X Y d0 : D} {y3 y4 : Option D} {zs : List Str} {ps : List (Str × Str)} (hY : Sq (pd ps) Y) (h : okS zs) (hp : okP ps) (hX : X.cl = true) (h0 : fldD 0 "_actors" d0 = some (.lst false (sd zs))) (c0 : d0.cl = true) :
    lc2Loop (.nm 5) mYes I_Web___init___4 (.nm 6) T_Web___init___2 E_Web___init___3 [6] [some d0, some X, some Y, y3, y4, none, none] (sd zs) = some (pd (norm zs ps)) := by
  have cY := hY.cl (pd_cl ps)
  rw [lc2Loop_ok (fun d => match d with | .str a => pd ((zs.filter fun b => decide (a ≠ b ∧ (a, b) ∈ ps)).map fun b => (a, b)) | _ => []) (sd zs) ?_]
  · exact congrArg some (pd_fm zs _ _ fun z _ => rfl)
  · intro d hd
    obtain ⟨a, ha, rfl⟩ := sd_mem hd
    refine ⟨[some d0, some X, some Y, y3, y4, some (.str a), none], [some d0, some X, some Y, y3, y4, some (.str a), none], sd zs, [some d0, some X, some Y, y3, y4, some (.str a), none], by simp [Tg.put, putAll], rfl, by unfold I_Web___init___4; simp [sSeq, sIf, mNot, mAnd, mOr, mB, mChain, mOp, mUn, mVar, mMv, mC, mIf, mBor, mCls, mCallN, mCons, mNil, mCall, callM, mAndV, mOrV, mNotV, M.bind, M.opt, M.ok, sNx, sRet, sRetN, sExpr, sAsg, putM, sAsgT, asgT, Tg.put, putAll, mLst, mTup, mApp, ownL, appS, mSeq, mRng1, mRng2, D.bool?, outM, pick, deepE, c0, h0, seq_l], ?_⟩
    have e : wipeE (clE [some d0, some X, some Y, y3, y4, some (.str a), none]) [6] = [some d0, some X, some Y, cl1 y3, cl1 y4, some (.str a), none] := by
      simp [wipeE, clE_cons, clE_nil, cl1_some c0, cl1_some hX, cl1_some cY, cl1_some (str_cl a), cl1_none]
    rw [e, lcLoop_ok (fun d => match d with | .str b => decide (a ≠ b ∧ (a, b) ∈ ps) | _ => false) (fun d => .tup [.str a, d]) (sd zs) ?_, sd_fm]
    · show some _ = some (pd _)
      unfold pd
      rw [List.map_map]; rfl
    · intro d hd
      obtain ⟨b, hb, rfl⟩ := sd_mem hd
      have ei := in_pd hY hp (h a ha) (h b hb)
      have lt2 : 2 ≤ sizeLine := by rw [sizeLine_eq]; decide
      refine ⟨[some d0, some X, some Y, cl1 y3, cl1 y4, some (.str a), some (.str b)], [some d0, some X, some Y, cl1 y3, cl1 y4, some (.str a), some (.str b)], by simp [Tg.put, putAll], ?_, fun _ => ⟨[some d0, some X, some Y, cl1 y3, cl1 y4, some (.str a), some (.str b)], ?_⟩⟩
      · unfold T_Web___init___2
        by_cases hab : a = b
        · simp [sSeq, sIf, mNot, mAnd, mOr, mB, mChain, mOp, mUn, mVar, mMv, mC, mIf, mBor, mCls, mCallN, mCons, mNil, mCall, callM, mAndV, mOrV, mNotV, M.bind, M.opt, M.ok, sNx, sRet, sRetN, sExpr, sAsg, putM, sAsgT, asgT, Tg.put, putAll, mLst, mTup, mApp, ownL, appS, mSeq, mRng1, mRng2, D.bool?, outM, pick, deepE, str_cl, neD, eq_str, hab]
        · simp [sSeq, sIf, mNot, mAnd, mOr, mB, mChain, mOp, mUn, mVar, mMv, mC, mIf, mBor, mCls, mCallN, mCons, mNil, mCall, callM, mAndV, mOrV, mNotV, M.bind, M.opt, M.ok, sNx, sRet, sRetN, sExpr, sAsg, putM, sAsgT, asgT, Tg.put, putAll, mLst, mTup, mApp, ownL, appS, mSeq, mRng1, mRng2, D.bool?, outM, pick, deepE, str_cl, cY, neD, eq_str, hab, inD, dl_cons, dl_nil, str_deep, ei, lt2]
      · unfold E_Web___init___3
        simp [sSeq, sIf, mNot, mAnd, mOr, mB, mChain, mOp, mUn, mVar, mMv, mC, mIf, mBor, mCls, mCallN, mCons, mNil, mCall, callM, mAndV, mOrV, mNotV, M.bind, M.opt, M.ok, sNx, sRet, sRetN, sExpr, sAsg, putM, sAsgT, asgT, Tg.put, putAll, mLst, mTup, mApp, ownL, appS, mSeq, mRng1, mRng2, D.bool?, outM, pick, deepE, str_cl, dl_cons, dl_nil, str_deep, lt2]
theorem pd_mem {ps : List (Str × Str)} {i : Nat} {p : Str × Str} (h : ps[i]? = some p) : p ∈ ps := List.mem_of_getElem? h
theorem norm_len {zs : List Str} {ps : List (Str × Str)} (h5 : zs.length ≤ 5) : (norm zs ps).length ≤ 25 := by
  have h1 : ∀ (ys : List Str) , (ys.flatMap fun a => (zs.filter fun b => decide (a ≠ b ∧ (a, b) ∈ ps)).map fun b => (a, b)).length ≤ ys.length * 5 := by
    intro ys
    induction ys with
    | nil => simp
    | cons y ys ih =>
      rw [List.flatMap_cons, List.length_append, List.length_map, List.length_cons]
      have := List.length_filter_le (fun b => decide (y ≠ b ∧ (y, b) ∈ ps)) zs
      omega
  have := h1 zs
  unfold norm
  omega
theorem init_ok {X Y : D} {zs : List Str} {ps : List (Str × Str)} (hX : Sq (sd zs) X) (hY : Sq (pd ps) Y) (h : okS zs) (hn : zs.Nodup) (h1 : 1 ≤ zs.length) (h5 : zs.length ≤ 5) (hp : ∀ p ∈ ps, p.1 ∈ zs ∧ p.2 ∈ zs) :
    F_Web___init__ [.ins true 0 [] [], X, Y] = some (.ok .non, [wb true zs (norm zs ps)]) := by
  have cX := hX.cl (sd_cl zs)
  have cY := hY.cl (pd_cl ps)
  have dX := hX.deep (sd_deep zs)
  have dY := hY.deep (pd_deep ps)
  have lX := hX.list
  have okp : okP ps := fun p hq => ⟨h _ (hp p hq).1, h _ (hp p hq).2⟩
  have cl := check_list_ok hX h hn h1 h5
  have con : conD 0 "MOST_ACTORS" (.int 5) (.ins false 0 [] []) = some (.int 5) := rfl
  have imm0 : D.imm .non = true := rfl
  have cin : (D.ins false 0 [] []).cl = true := rfl
  have din : (D.ins true 0 [] []).deep = .ins false 0 [] [] := rfl
  obtain ⟨ρ', e1, x3, x4, rfl⟩ := sLoop_inv (t := .tp [3, 4]) (m := B_Web___init___1) (pd ps) (fun i ρ => ∃ x y, ρ = [some (.ins true 0 [] []), some X, some Y, x, y, none, none]) (fun i d ρ hd hq => by
    obtain ⟨x, y, rfl⟩ := hq
    obtain ⟨p, hz, rfl⟩ := pd_get hd
    have ca := check_actor_ok hX h (hp p (pd_mem hz)).1
    have cb := check_actor_ok hX h (hp p (pd_mem hz)).2
    refine ⟨[some (.ins true 0 [] []), some X, some Y, some (.str p.1), some (.str p.2), none, none], [some (.ins true 0 [] []), some X, some Y, some (.str p.1), some (.str p.2), none, none], by simp [Tg.put, putAll], ?_, _, _, rfl⟩
    unfold B_Web___init___1
    simp [sSeq, sIf, mNot, mAnd, mOr, mB, mChain, mOp, mUn, mVar, mMv, mC, mIf, mBor, mCls, mCallN, mCons, mNil, mCall, callM, mAndV, mOrV, mNotV, M.bind, M.opt, M.ok, sNx, sRet, sRetN, sExpr, sAsg, putM, sAsgT, asgT, Tg.put, putAll, mLst, mTup, mApp, ownL, appS, mSeq, mRng1, mRng2, D.bool?, outM, pick, deepE, cX, str_cl, ca, cb]) [some (.ins true 0 [] []), some X, some Y, none, none, none, none] ⟨none, none, rfl⟩
  have lc := lc_init (X := X) (Y := Y) (d0 := .ins false 0 ["_actors"] [.lst false (sd zs)]) (y3 := cl1 (x3.map D.deep)) (y4 := cl1 (x4.map D.deep)) hY h okp cX rfl (by show (!false && ((!false && clL (sd zs)) && true)) = true; rw [sd_cl]; rfl)
  have dd0 : (D.ins true 0 ["_actors"] [.lst true (sd zs)]).deep = .ins false 0 ["_actors"] [.lst false (sd zs)] := by show D.ins false 0 _ [.lst false (deepL (sd zs))] = _; rw [sd_deep]
  have c00 : (D.ins false 0 ["_actors"] [.lst false (sd zs)]).cl = true := by show (!false && ((!false && clL (sd zs)) && true)) = true; rw [sd_cl]; rfl
  have f00 : fldD 0 "_actors" (.ins false 0 ["_actors"] [.lst false (sd zs)]) = some (.lst false (sd zs)) := rfl
  have nl := norm_len (ps := ps) h5
  have sl : (pd (norm zs ps)).length ≤ 16777000 := by rw [pd_len]; omega
  have im : (D.lst true (pd (norm zs ps))).imm = true := by show (true && immL _) = true; rw [pd_imm]; rfl
  unfold F_Web___init__ runDef
  simp [sSeq, sIf, mNot, mAnd, mOr, mB, mChain, mOp, mUn, mVar, mMv, mC, mIf, mBor, mCls, mCallN, mCons, mNil, mCall, callM, mAndV, mOrV, mNotV, M.bind, M.opt, M.ok, sNx, sRet, sRetN, sExpr, sAsg, putM, sAsgT, asgT, Tg.put, putAll, mLst, mTup, mApp, ownL, appS, mSeq, mRng1, mRng2, D.bool?, outM, pick, deepE, cX, cY, dX, dY, cin, din, con, cl, imm0, int_cl, sFor, hY.seq, e1, sFldS, setFld, lX, putFD, mLc2, dd0, c00, f00, seq_l, wipeE, clE_cons, clE_nil, cl1_some cX, cl1_some cY, cl1_some c00, cl1_none, lc, sl, im, ne1, wb]

end K01

namespace K01
open PySem PySem.Spec L2 Ta
theorem lz2 : 2 ≤ sizeLine := by rw [sizeLine_eq]; decide
theorem actors_ok (zs ps) : F_Web_actors [wb false zs ps] = some (.ok (.lst true (sd zs)), []) := by
  unfold F_Web_actors runDef
  simp [sSeq, sIf, mNot, mAnd, mOr, mB, mChain, mOp, mUn, mVar, mMv, mC, mIf, mBor, mCls, mCallN, mCons, mNil, mCall, callM, mAndV, mOrV, mNotV, M.bind, M.opt, M.ok, sNx, sRet, sRetN, sExpr, sAsg, putM, sAsgT, asgT, Tg.put, putAll, mLst, mTup, mApp, ownL, appS, mSeq, mRng1, mRng2, D.bool?, outM, pick, deepE, wb_cl, fld1, listD]
theorem len_ok (zs ps) : F_Web___len__ [wb false zs ps] = some (.ok (.int ps.length), []) := by
  unfold F_Web___len__ runDef
  simp [sSeq, sIf, mNot, mAnd, mOr, mB, mChain, mOp, mUn, mVar, mMv, mC, mIf, mBor, mCls, mCallN, mCons, mNil, mCall, callM, mAndV, mOrV, mNotV, M.bind, M.opt, M.ok, sNx, sRet, sRetN, sExpr, sAsg, putM, sAsgT, asgT, Tg.put, putAll, mLst, mTup, mApp, ownL, appS, mSeq, mRng1, mRng2, D.bool?, outM, pick, deepE, wb_cl, fld2, lenD, pd_len]
theorem Sq.ll {xs : List D} : Sq xs (.lst false xs) := .l
theorem getitem_ok {zs : List Str} {ps : List (Str × Str)} {a b : Str} (h : okS zs) (hp : okP ps) (ha : a ∈ zs) (hb : b ∈ zs) : F_Web___getitem__ [wb false zs ps, .tup [.str a, .str b]] = some (.ok (.bl (decide (a = b) || decide ((a, b) ∈ ps))), []) := by
  have ca := check_actor_ok (X := .lst false (sd zs)) .l h ha
  have cb := check_actor_ok (X := .lst false (sd zs)) .l h hb
  have ei := in_pl (o := false) hp (h a ha) (h b hb)
  unfold F_Web___getitem__ runDef
  by_cases hab : a = b
  · subst hab
    simp [sSeq, sIf, mNot, mAnd, mOr, mB, mChain, mOp, mUn, mVar, mMv, mC, mIf, mBor, mCls, mCallN, mCons, mNil, mCall, callM, mAndV, mOrV, mNotV, M.bind, M.opt, M.ok, sNx, sRet, sRetN, sExpr, sAsg, putM, sAsgT, asgT, Tg.put, putAll, mLst, mTup, mApp, ownL, appS, mSeq, mRng1, mRng2, D.bool?, outM, pick, deepE, wb_cl, fld1, fld2, pair_cl, pair_deep, str_cl, ca, cb, eqD, eq_str]
  · simp [sSeq, sIf, mNot, mAnd, mOr, mB, mChain, mOp, mUn, mVar, mMv, mC, mIf, mBor, mCls, mCallN, mCons, mNil, mCall, callM, mAndV, mOrV, mNotV, M.bind, M.opt, M.ok, sNx, sRet, sRetN, sExpr, sAsg, putM, sAsgT, asgT, Tg.put, putAll, mLst, mTup, mApp, ownL, appS, mSeq, mRng1, mRng2, D.bool?, outM, pick, deepE, wb_cl, fld1, fld2, pair_cl, pair_deep, str_cl, ca, cb, eqD, eq_str, hab, lz2, dl_cons, dl_nil, str_deep, inD, ei]
theorem wb_tag (o zs ps) : (wb o zs ps).tag = some (.cls 0) := rfl
theorem isi0 : getA isiT (Tag.cls 0, 0) = some true := by decide
theorem isiW (o zs ps) : isiD isiT [wb o zs ps, .gl 0] = some (.bl true) := by
  unfold isiD
  simp [wb_tag, isi0]
theorem eq_ok {zs : List Str} {ps : List (Str × Str)} (h : okS zs) (hp : okP ps) : F_Web___eq__ [wb false zs ps, wb false zs ps] = some (.ok (.bl true), []) := by
  unfold F_Web___eq__ runDef
  simp [sSeq, sIf, mNot, mAnd, mOr, mB, mChain, mOp, mUn, mVar, mMv, mC, mIf, mBor, mCls, mCallN, mCons, mNil, mCall, callM, mAndV, mOrV, mNotV, M.bind, M.opt, M.ok, sNx, sRet, sRetN, sExpr, sAsg, putM, sAsgT, asgT, Tg.put, putAll, mLst, mTup, mApp, ownL, appS, mSeq, mRng1, mRng2, D.bool?, outM, pick, deepE, wb_cl, fld1, fld2, isiW, eqD, eq_sd h h, eq_pd hp hp]
theorem mk_ok {X Y : D} {zs : List Str} {ps : List (Str × Str)} (hX : Sq (sd zs) X) (hY : Sq (pd ps) Y) (h : okS zs) (hn : zs.Nodup) (h1 : 1 ≤ zs.length) (h5 : zs.length ≤ 5) (hp : ∀ p ∈ ps, p.1 ∈ zs ∧ p.2 ∈ zs) (ρ : Rho) : newM 0 3 F_Web___init__ [X, Y] ρ = some (.ok (wb true zs (norm zs ps)), ρ) := by
  unfold newM
  rw [if_pos (by rfl), init_ok hX hY h hn h1 h5 hp]
theorem or_ok {zs : List Str} {ps : List (Str × Str)} (h : okS zs) (hn : zs.Nodup) (h1 : 1 ≤ zs.length) (h5 : zs.length ≤ 5) (hp : ∀ p ∈ ps, p.1 ∈ zs ∧ p.2 ∈ zs) (hl : ps.length ≤ 100) : F_Web___or__ [wb false zs ps, wb false zs ps] = some (.ok (wb true zs (norm zs (ps ++ ps))), []) := by
  have m := mk_ok (X := .lst false (sd zs)) (Y := .lst false (pd (ps ++ ps))) .l .l h hn h1 h5 (fun p hq => by
    rcases List.mem_append.mp hq with q | q
    · exact hp p q
    · exact hp p q)
  have ls : (pd ps).length + (pd ps).length ≤ sizeLine := by rw [pd_len, sizeLine_eq]; omega
  have cs := check_same_ok h
  unfold F_Web___or__ runDef
  simp [sSeq, sIf, mNot, mAnd, mOr, mB, mChain, mOp, mUn, mVar, mMv, mC, mIf, mBor, mCls, mCallN, mCons, mNil, mCall, callM, mAndV, mOrV, mNotV, M.bind, M.opt, M.ok, sNx, sRet, sRetN, sExpr, sAsg, putM, sAsgT, asgT, Tg.put, putAll, mLst, mTup, mApp, ownL, appS, mSeq, mRng1, mRng2, D.bool?, outM, pick, deepE, wb_cl, fld1, fld2, cs, mMake, addD, ls, lst_deep, ← pd_app, pd_deep, m]
theorem and_ok {zs : List Str} {ps : List (Str × Str)} (h : okS zs) (hn : zs.Nodup) (h1 : 1 ≤ zs.length) (h5 : zs.length ≤ 5) (hp : ∀ p ∈ ps, p.1 ∈ zs ∧ p.2 ∈ zs) (hl : ps.length ≤ 100) : F_Web___and__ [wb false zs ps, wb false zs ps] = some (.ok (wb true zs (norm zs ps)), []) := by
  have okp : okP ps := fun p hq => ⟨h _ (hp p hq).1, h _ (hp p hq).2⟩
  have m := mk_ok (X := .lst false (sd zs)) (Y := .lst false (pd ps)) .l .l h hn h1 h5 hp
  have lc : lcLoop (.nm 2) T_Web___and___1 E_Web___and___2 [some (wb false zs ps), some (wb false zs ps), none] (pd ps) = some (pd ps) := by
    rw [lcLoop_ok (fun _ => true) id (pd ps) ?_]
    · simp
    · intro d hd
      obtain ⟨p, hq, rfl⟩ := List.mem_map.mp hd
      have ei := in_pl (o := false) okp (okp p hq).1 (okp p hq).2
      refine ⟨[some (wb false zs ps), some (wb false zs ps), some (.tup [.str p.1, .str p.2])], [some (wb false zs ps), some (wb false zs ps), some (.tup [.str p.1, .str p.2])], by simp [Tg.put, putAll], ?_, fun _ => ⟨[some (wb false zs ps), some (wb false zs ps), some (.tup [.str p.1, .str p.2])], ?_⟩⟩
      · unfold T_Web___and___1
        simp [sSeq, sIf, mNot, mAnd, mOr, mB, mChain, mOp, mUn, mVar, mMv, mC, mIf, mBor, mCls, mCallN, mCons, mNil, mCall, callM, mAndV, mOrV, mNotV, M.bind, M.opt, M.ok, sNx, sRet, sRetN, sExpr, sAsg, putM, sAsgT, asgT, Tg.put, putAll, mLst, mTup, mApp, ownL, appS, mSeq, mRng1, mRng2, D.bool?, outM, pick, deepE, wb_cl, pair_cl, fld2, inD, ei, hq]
      · unfold E_Web___and___2
        simp [sSeq, sIf, mNot, mAnd, mOr, mB, mChain, mOp, mUn, mVar, mMv, mC, mIf, mBor, mCls, mCallN, mCons, mNil, mCall, callM, mAndV, mOrV, mNotV, M.bind, M.opt, M.ok, sNx, sRet, sRetN, sExpr, sAsg, putM, sAsgT, asgT, Tg.put, putAll, mLst, mTup, mApp, ownL, appS, mSeq, mRng1, mRng2, D.bool?, outM, pick, deepE, pair_cl]
  have cs := check_same_ok h
  have sl : (pd ps).length ≤ 16777000 := by rw [pd_len]; omega
  unfold F_Web___and__ runDef
  simp [sSeq, sIf, mNot, mAnd, mOr, mB, mChain, mOp, mUn, mVar, mMv, mC, mIf, mBor, mCls, mCallN, mCons, mNil, mCall, callM, mAndV, mOrV, mNotV, M.bind, M.opt, M.ok, sNx, sRet, sRetN, sExpr, sAsg, putM, sAsgT, asgT, Tg.put, putAll, mLst, mTup, mApp, ownL, appS, mSeq, mRng1, mRng2, D.bool?, outM, pick, deepE, wb_cl, fld1, fld2, cs, mMake, mLc, seq_l, wipeE, clE_cons, clE_nil, cl1_some (wb_cl zs ps), cl1_none, lc, sl, lst_deep, pd_deep, m]
theorem blsD_rep : ∀ n, blsD (List.replicate n (.bl true)) = some (List.replicate n true)
  | 0 => rfl
  | n + 1 => by
    show (blsD (List.replicate n (.bl true))).map (true :: ·) = _
    rw [blsD_rep n]; rfl
theorem le_ok {zs : List Str} {ps : List (Str × Str)} (h : okS zs) (okp : okP ps) (hl : ps.length ≤ 100) : F_Web___le__ [wb false zs ps, wb false zs ps] = some (.ok (.bl true), []) := by
  have lc : lcLoop (.nm 2) mYes E_Web___le___1 [some (wb false zs ps), some (wb false zs ps), none] (pd ps) = some (List.replicate (pd ps).length (.bl true)) := by
    rw [lcLoop_ok (fun _ => true) (fun _ => .bl true) (pd ps) ?_]
    · rw [List.filter_eq_self.mpr (fun _ _ => rfl), List.map_const']
    · intro d hd
      obtain ⟨p, hq, rfl⟩ := List.mem_map.mp hd
      have ei := in_pl (o := false) okp (okp p hq).1 (okp p hq).2
      refine ⟨[some (wb false zs ps), some (wb false zs ps), some (.tup [.str p.1, .str p.2])], [some (wb false zs ps), some (wb false zs ps), some (.tup [.str p.1, .str p.2])], by simp [Tg.put, putAll], rfl, fun _ => ⟨[some (wb false zs ps), some (wb false zs ps), some (.tup [.str p.1, .str p.2])], ?_⟩⟩
      unfold E_Web___le___1
      simp [sSeq, sIf, mNot, mAnd, mOr, mB, mChain, mOp, mUn, mVar, mMv, mC, mIf, mBor, mCls, mCallN, mCons, mNil, mCall, callM, mAndV, mOrV, mNotV, M.bind, M.opt, M.ok, sNx, sRet, sRetN, sExpr, sAsg, putM, sAsgT, asgT, Tg.put, putAll, mLst, mTup, mApp, ownL, appS, mSeq, mRng1, mRng2, D.bool?, outM, pick, deepE, wb_cl, pair_cl, fld2, inD, ei, hq]
  have cs := check_same_ok h
  have sl : (pd ps).length ≤ 16777000 := by rw [pd_len]; omega
  unfold F_Web___le__ runDef
  simp [sSeq, sIf, mNot, mAnd, mOr, mB, mChain, mOp, mUn, mVar, mMv, mC, mIf, mBor, mCls, mCallN, mCons, mNil, mCall, callM, mAndV, mOrV, mNotV, M.bind, M.opt, M.ok, sNx, sRet, sRetN, sExpr, sAsg, putM, sAsgT, asgT, Tg.put, putAll, mLst, mTup, mApp, ownL, appS, mSeq, mRng1, mRng2, D.bool?, outM, pick, deepE, wb_cl, fld1, fld2, cs, mLc, seq_l, wipeE, clE_cons, clE_nil, cl1_some (wb_cl zs ps), cl1_none, lc, sl, allD, blsD_rep]
theorem aud_ok {zs : List Str} {ps : List (Str × Str)} {a : Str} (h : okS zs) (hp : okP ps) (ha : a ∈ zs) (h5 : zs.length ≤ 5) : F_Web_audience [wb false zs ps, .str a] = some (.ok (.lst true (sd (zs.filter fun b => decide ((a, b) ∈ ps)))), []) := by
  have lc : lcLoop (.nm 2) T_Web_audience_1 E_Web_audience_2 [some (wb false zs ps), some (.str a), none] (sd zs) = some (sd (zs.filter fun b => decide ((a, b) ∈ ps))) := by
    rw [lcLoop_ok (fun d => match d with | .str b => decide ((a, b) ∈ ps) | _ => false) id (sd zs) ?_, sd_fm]
    · rfl
    · intro d hd
      obtain ⟨b, hb, rfl⟩ := sd_mem hd
      have ei := in_pl (o := false) hp (h a ha) (h b hb)
      refine ⟨[some (wb false zs ps), some (.str a), some (.str b)], [some (wb false zs ps), some (.str a), some (.str b)], by simp [Tg.put, putAll], ?_, fun _ => ⟨[some (wb false zs ps), some (.str a), some (.str b)], ?_⟩⟩
      · unfold T_Web_audience_1
        simp [sSeq, sIf, mNot, mAnd, mOr, mB, mChain, mOp, mUn, mVar, mMv, mC, mIf, mBor, mCls, mCallN, mCons, mNil, mCall, callM, mAndV, mOrV, mNotV, M.bind, M.opt, M.ok, sNx, sRet, sRetN, sExpr, sAsg, putM, sAsgT, asgT, Tg.put, putAll, mLst, mTup, mApp, ownL, appS, mSeq, mRng1, mRng2, D.bool?, outM, pick, deepE, wb_cl, str_cl, fld2, lz2, dl_cons, dl_nil, str_deep, inD, ei]
      · unfold E_Web_audience_2
        simp [sSeq, sIf, mNot, mAnd, mOr, mB, mChain, mOp, mUn, mVar, mMv, mC, mIf, mBor, mCls, mCallN, mCons, mNil, mCall, callM, mAndV, mOrV, mNotV, M.bind, M.opt, M.ok, sNx, sRet, sRetN, sExpr, sAsg, putM, sAsgT, asgT, Tg.put, putAll, mLst, mTup, mApp, ownL, appS, mSeq, mRng1, mRng2, D.bool?, outM, pick, deepE, str_cl]
  have ca := check_actor_ok (X := .lst false (sd zs)) .l h ha
  have sl : (sd zs).length ≤ 16777000 := by rw [sd_len]; omega
  unfold F_Web_audience runDef
  simp [sSeq, sIf, mNot, mAnd, mOr, mB, mChain, mOp, mUn, mVar, mMv, mC, mIf, mBor, mCls, mCallN, mCons, mNil, mCall, callM, mAndV, mOrV, mNotV, M.bind, M.opt, M.ok, sNx, sRet, sRetN, sExpr, sAsg, putM, sAsgT, asgT, Tg.put, putAll, mLst, mTup, mApp, ownL, appS, mSeq, mRng1, mRng2, D.bool?, outM, pick, deepE, wb_cl, str_cl, fld1, ca, mLc, seq_l, wipeE, clE_cons, clE_nil, cl1_some (wb_cl zs ps), cl1_some (str_cl a), cl1_none, lc, sl]
theorem tel_ok {zs : List Str} {ps : List (Str × Str)} {a : Str} (h : okS zs) (hp : okP ps) (ha : a ∈ zs) (h5 : zs.length ≤ 5) : F_Web_tellers [wb false zs ps, .str a] = some (.ok (.lst true (sd (zs.filter fun b => decide ((b, a) ∈ ps)))), []) := by
  have lc : lcLoop (.nm 2) T_Web_tellers_1 E_Web_tellers_2 [some (wb false zs ps), some (.str a), none] (sd zs) = some (sd (zs.filter fun b => decide ((b, a) ∈ ps))) := by
    rw [lcLoop_ok (fun d => match d with | .str b => decide ((b, a) ∈ ps) | _ => false) id (sd zs) ?_, sd_fm]
    · rfl
    · intro d hd
      obtain ⟨b, hb, rfl⟩ := sd_mem hd
      have ei := in_pl (o := false) hp (h b hb) (h a ha)
      refine ⟨[some (wb false zs ps), some (.str a), some (.str b)], [some (wb false zs ps), some (.str a), some (.str b)], by simp [Tg.put, putAll], ?_, fun _ => ⟨[some (wb false zs ps), some (.str a), some (.str b)], ?_⟩⟩
      · unfold T_Web_tellers_1
        simp [sSeq, sIf, mNot, mAnd, mOr, mB, mChain, mOp, mUn, mVar, mMv, mC, mIf, mBor, mCls, mCallN, mCons, mNil, mCall, callM, mAndV, mOrV, mNotV, M.bind, M.opt, M.ok, sNx, sRet, sRetN, sExpr, sAsg, putM, sAsgT, asgT, Tg.put, putAll, mLst, mTup, mApp, ownL, appS, mSeq, mRng1, mRng2, D.bool?, outM, pick, deepE, wb_cl, str_cl, fld2, lz2, dl_cons, dl_nil, str_deep, inD, ei]
      · unfold E_Web_tellers_2
        simp [sSeq, sIf, mNot, mAnd, mOr, mB, mChain, mOp, mUn, mVar, mMv, mC, mIf, mBor, mCls, mCallN, mCons, mNil, mCall, callM, mAndV, mOrV, mNotV, M.bind, M.opt, M.ok, sNx, sRet, sRetN, sExpr, sAsg, putM, sAsgT, asgT, Tg.put, putAll, mLst, mTup, mApp, ownL, appS, mSeq, mRng1, mRng2, D.bool?, outM, pick, deepE, str_cl]
  have ca := check_actor_ok (X := .lst false (sd zs)) .l h ha
  have sl : (sd zs).length ≤ 16777000 := by rw [sd_len]; omega
  unfold F_Web_tellers runDef
  simp [sSeq, sIf, mNot, mAnd, mOr, mB, mChain, mOp, mUn, mVar, mMv, mC, mIf, mBor, mCls, mCallN, mCons, mNil, mCall, callM, mAndV, mOrV, mNotV, M.bind, M.opt, M.ok, sNx, sRet, sRetN, sExpr, sAsg, putM, sAsgT, asgT, Tg.put, putAll, mLst, mTup, mApp, ownL, appS, mSeq, mRng1, mRng2, D.bool?, outM, pick, deepE, wb_cl, str_cl, fld1, ca, mLc, seq_l, wipeE, clE_cons, clE_nil, cl1_some (wb_cl zs ps), cl1_some (str_cl a), cl1_none, lc, sl]

def offD (zs : List Str) (ys : List Str) : List (Str × Str) := ys.flatMap fun a => (zs.filter fun b => decide (a ≠ b)).map fun b => (a, b)
theorem norm_off (zs : List Str) (ps : List (Str × Str)) : norm zs ps = (offD zs zs).filter fun p => decide (p ∈ ps) := by
  have : ∀ ys : List Str, (ys.flatMap fun a => (zs.filter fun b => decide (a ≠ b ∧ (a, b) ∈ ps)).map fun b => (a, b)) = (offD zs ys).filter fun p => decide (p ∈ ps) := by
    intro ys
    induction ys with
    | nil => rfl
    | cons y ys ih =>
      rw [List.flatMap_cons, ih]
      unfold offD
      rw [List.flatMap_cons, List.filter_append]
      congr 1
      rw [List.filter_map, List.filter_filter]
      congr 1
      apply List.filter_congr
      intro b _
      show decide (y ≠ b ∧ (y, b) ∈ ps) = (decide ((y, b) ∈ ps) && decide (y ≠ b))
      by_cases h1 : y = b <;> by_cases h2 : (y, b) ∈ ps <;> simp [h1, h2]
  exact this zs
theorem off_mem {zs ys : List Str} {p : Str × Str} : p ∈ offD zs ys ↔ p.1 ∈ ys ∧ p.2 ∈ zs ∧ p.1 ≠ p.2 := by
  unfold offD
  rw [List.mem_flatMap]
  constructor
  · rintro ⟨a, ha, hb⟩
    obtain ⟨b, hb2, rfl⟩ := List.mem_map.mp hb
    have := List.mem_filter.mp hb2
    exact ⟨ha, this.1, of_decide_eq_true this.2⟩
  · rintro ⟨h1, h2, h3⟩
    exact ⟨p.1, h1, List.mem_map.mpr ⟨p.2, List.mem_filter.mpr ⟨h2, decide_eq_true h3⟩, rfl⟩⟩
theorem off_nodup {zs : List Str} (hn : zs.Nodup) : ∀ ys : List Str, ys.Nodup → (offD zs ys).Nodup
  | [], _ => List.nodup_nil
  | y :: ys, h => by
    have hy := List.nodup_cons.mp h
    show ((zs.filter fun b => decide (y ≠ b)).map (fun b => (y, b)) ++ offD zs ys).Nodup
    refine List.nodup_append.mpr ⟨?_, off_nodup hn ys hy.2, fun p hp q hq e => ?_⟩
    · refine List.pairwise_map.mpr ?_
      refine List.Pairwise.imp (fun {a b} hab e => hab ?_) (hn.sublist List.filter_sublist)
      exact (Prod.mk.inj e).2
    · subst e
      obtain ⟨b, _, rfl⟩ := List.mem_map.mp hp
      exact hy.1 (off_mem.mp hq).1
theorem filter_sub {α : Type} [BEq α] [LawfulBEq α] {l1 l2 : List α} (h : l1.Sublist l2) (hn : l2.Nodup) : l2.filter (fun x => decide (x ∈ l1)) = l1 := by
  induction h with
  | slnil => rfl
  | @cons l1 l2 a h ih =>
    have hc := List.nodup_cons.mp hn
    rw [List.filter_cons_of_neg (by simpa using fun hh => hc.1 (h.subset hh))]
    exact ih hc.2
  | @cons_cons l1 l2 a h ih =>
    have hc := List.nodup_cons.mp hn
    rw [List.filter_cons_of_pos (by simp)]
    congr 1
    rw [← ih hc.2]
    apply List.filter_congr
    intro x hx
    have hne : x ≠ a := fun e => hc.1 (e ▸ hx)
    simp [hne, ih hc.2]
theorem norm_sub {zs : List Str} {E : List (Str × Str)} (hn : zs.Nodup) (h : E.Sublist (offD zs zs)) : norm zs E = E := by
  rw [norm_off]
  exact filter_sub h (off_nodup hn zs hn)
theorem norm_is (zs ps) : (norm zs ps).Sublist (offD zs zs) := by
  rw [norm_off]
  exact List.filter_sublist
theorem norm_congr {zs : List Str} {ps qs : List (Str × Str)} (h : ∀ p, p ∈ ps ↔ p ∈ qs) : norm zs ps = norm zs qs := by
  rw [norm_off, norm_off]
  apply List.filter_congr
  intro p _
  simp [h p]
theorem norm_in {zs : List Str} {ps : List (Str × Str)} : ∀ p ∈ norm zs ps, p.1 ∈ zs ∧ p.2 ∈ zs := fun p hp => by
  have := off_mem.mp ((norm_is zs ps).subset hp)
  exact ⟨this.1, this.2.1⟩
theorem sub_in {zs : List Str} {E : List (Str × Str)} (h : E.Sublist (offD zs zs)) : ∀ p ∈ E, p.1 ∈ zs ∧ p.2 ∈ zs := fun p hp => by
  have := off_mem.mp (h.subset hp)
  exact ⟨this.1, this.2.1⟩
theorem in_okP {zs : List Str} {E : List (Str × Str)} (h : okS zs) (hp : ∀ p ∈ E, p.1 ∈ zs ∧ p.2 ∈ zs) : okP E := fun p hq => ⟨h _ (hp p hq).1, h _ (hp p hq).2⟩
theorem sub_len {zs : List Str} {E : List (Str × Str)} (hn : zs.Nodup) (h : E.Sublist (offD zs zs)) (h5 : zs.length ≤ 5) : E.length ≤ 25 := by
  rw [← norm_sub hn h]; exact norm_len h5
/-! ### web[a, b] = False -/
theorem set_ok {zs : List Str} {E : List (Str × Str)} {a b : Str} (h : okS zs) (hn : zs.Nodup) (hE : E.Sublist (offD zs zs)) (h5 : zs.length ≤ 5) (ha : a ∈ zs) (hb : b ∈ zs) (hab : a ≠ b) :
    F_Web___setitem__ [wb true zs E, .tup [.str a, .str b], .bl false] = some (.ok .non, [wb true zs (norm zs (E.filter fun p => decide (p ≠ (a, b))))]) := by
  have okp := in_okP h (sub_in hE)
  have hl := sub_len hn hE h5
  have ca := check_actor_ok (X := .lst false (sd zs)) .l h ha
  have cb := check_actor_ok (X := .lst false (sd zs)) .l h hb
  have lc : lcLoop (.nm 6) T_Web___setitem___1 E_Web___setitem___2 [some (wb false zs E), some (.tup [.str a, .str b]), some (.bl false), none, some (.str a), some (.str b), none, none, none] (pd E) = some (pd (E.filter fun p => decide (p ≠ (a, b)))) := by
    rw [lcLoop_ok (fun d => match d with | .tup [.str x, .str y] => decide ((x, y) ≠ (a, b)) | _ => false) id (pd E) ?_]
    · rw [List.map_id]
      unfold pd
      rw [List.filter_map]; rfl
    · intro d hd
      obtain ⟨p, hq, rfl⟩ := List.mem_map.mp hd
      have ei := eq_pq (okp p hq).1 (okp p hq).2 (h a ha) (h b hb)
      refine ⟨[some (wb false zs E), some (.tup [.str a, .str b]), some (.bl false), none, some (.str a), some (.str b), some (.tup [.str p.1, .str p.2]), none, none], [some (wb false zs E), some (.tup [.str a, .str b]), some (.bl false), none, some (.str a), some (.str b), some (.tup [.str p.1, .str p.2]), none, none], by simp [Tg.put, putAll], ?_, fun _ => ⟨[some (wb false zs E), some (.tup [.str a, .str b]), some (.bl false), none, some (.str a), some (.str b), some (.tup [.str p.1, .str p.2]), none, none], ?_⟩⟩
      · unfold T_Web___setitem___1
        simp [sSeq, sIf, mNot, mAnd, mOr, mB, mChain, mOp, mUn, mVar, mMv, mC, mIf, mBor, mCls, mCallN, mCons, mNil, mCall, callM, mAndV, mOrV, mNotV, M.bind, M.opt, M.ok, sNx, sRet, sRetN, sExpr, sAsg, putM, sAsgT, asgT, Tg.put, putAll, mLst, mTup, mApp, ownL, appS, mSeq, mRng1, mRng2, D.bool?, outM, pick, deepE, pair_cl, str_cl, lz2, dl_cons, dl_nil, str_deep, neD, ei]
      · unfold E_Web___setitem___2
        simp [sSeq, sIf, mNot, mAnd, mOr, mB, mChain, mOp, mUn, mVar, mMv, mC, mIf, mBor, mCls, mCallN, mCons, mNil, mCall, callM, mAndV, mOrV, mNotV, M.bind, M.opt, M.ok, sNx, sRet, sRetN, sExpr, sAsg, putM, sAsgT, asgT, Tg.put, putAll, mLst, mTup, mApp, ownL, appS, mSeq, mRng1, mRng2, D.bool?, outM, pick, deepE, pair_cl]
  have kp : ∀ p ∈ E.filter (fun p => decide (p ≠ (a, b))), p ∈ E := fun p hp => (List.mem_filter.mp hp).1
  have okk : okP (E.filter fun p => decide (p ≠ (a, b))) := fun p hp => okp p (kp p hp)
  generalize hk : (E.filter fun p => decide (p ≠ (a, b))) = kept at *
  have lc2 : lc2Loop (.nm 7) mYes I_Web___setitem___5 (.nm 8) T_Web___setitem___3 E_Web___setitem___4 [8] [some (wb false zs E), some (.tup [.str a, .str b]), some (.bl false), some (.lst false (pd kept)), some (.str a), some (.str b), none, none, none] (sd zs) = some (pd (norm zs kept)) := by
    have ck : (D.lst false (pd kept)).cl = true := lst_cl (pd_cl kept)
    rw [lc2Loop_ok (fun d => match d with | .str x => pd ((zs.filter fun y => decide (x ≠ y ∧ (x, y) ∈ kept)).map fun y => (x, y)) | _ => []) (sd zs) ?_]
    · exact congrArg some (pd_fm zs _ _ fun z _ => rfl)
    · intro d hd
      obtain ⟨x, hx, rfl⟩ := sd_mem hd
      refine ⟨[some (wb false zs E), some (.tup [.str a, .str b]), some (.bl false), some (.lst false (pd kept)), some (.str a), some (.str b), none, some (.str x), none], [some (wb false zs E), some (.tup [.str a, .str b]), some (.bl false), some (.lst false (pd kept)), some (.str a), some (.str b), none, some (.str x), none], sd zs, [some (wb false zs E), some (.tup [.str a, .str b]), some (.bl false), some (.lst false (pd kept)), some (.str a), some (.str b), none, some (.str x), none], by simp [Tg.put, putAll], rfl, by unfold I_Web___setitem___5; simp [sSeq, sIf, mNot, mAnd, mOr, mB, mChain, mOp, mUn, mVar, mMv, mC, mIf, mBor, mCls, mCallN, mCons, mNil, mCall, callM, mAndV, mOrV, mNotV, M.bind, M.opt, M.ok, sNx, sRet, sRetN, sExpr, sAsg, putM, sAsgT, asgT, Tg.put, putAll, mLst, mTup, mApp, ownL, appS, mSeq, mRng1, mRng2, D.bool?, outM, pick, deepE, wb_cl, fld1, seq_l], ?_⟩
      have e : wipeE (clE [some (wb false zs E), some (.tup [.str a, .str b]), some (.bl false), some (.lst false (pd kept)), some (.str a), some (.str b), none, some (.str x), none]) [8] = [some (wb false zs E), some (.tup [.str a, .str b]), some (.bl false), some (.lst false (pd kept)), some (.str a), some (.str b), none, some (.str x), none] := by
        simp [wipeE, clE_cons, clE_nil, cl1_some (wb_cl zs E), cl1_some (pair_cl a b), cl1_some (bl_cl false), cl1_some ck, cl1_some (str_cl a), cl1_some (str_cl b), cl1_some (str_cl x), cl1_none]
      rw [e, lcLoop_ok (fun d => match d with | .str y => decide (x ≠ y ∧ (x, y) ∈ kept) | _ => false) (fun d => .tup [.str x, d]) (sd zs) ?_, sd_fm]
      · show some _ = some (pd _)
        unfold pd
        rw [List.map_map]; rfl
      · intro d hd
        obtain ⟨y, hy, rfl⟩ := sd_mem hd
        have ei := in_pl (o := false) okk (h x hx) (h y hy)
        have hxy : (x, y) ∈ kept → x ≠ y := fun hh => (off_mem.mp (hE.subset (kp _ hh))).2.2
        have eb : decide (x ≠ y ∧ (x, y) ∈ kept) = decide ((x, y) ∈ kept) := by
          by_cases h2 : (x, y) ∈ kept
          · simp [h2, hxy h2]
          · simp [h2]
        refine ⟨[some (wb false zs E), some (.tup [.str a, .str b]), some (.bl false), some (.lst false (pd kept)), some (.str a), some (.str b), none, some (.str x), some (.str y)], [some (wb false zs E), some (.tup [.str a, .str b]), some (.bl false), some (.lst false (pd kept)), some (.str a), some (.str b), none, some (.str x), some (.str y)], by simp [Tg.put, putAll], ?_, fun _ => ⟨[some (wb false zs E), some (.tup [.str a, .str b]), some (.bl false), some (.lst false (pd kept)), some (.str a), some (.str b), none, some (.str x), some (.str y)], ?_⟩⟩
        · unfold T_Web___setitem___3
          show _ = (some (Except.ok (decide (x ≠ y ∧ (x, y) ∈ kept)), _) : Rs Bool)
          rw [eb]
          simp [sSeq, sIf, mNot, mAnd, mOr, mB, mChain, mOp, mUn, mVar, mMv, mC, mIf, mBor, mCls, mCallN, mCons, mNil, mCall, callM, mAndV, mOrV, mNotV, M.bind, M.opt, M.ok, sNx, sRet, sRetN, sExpr, sAsg, putM, sAsgT, asgT, Tg.put, putAll, mLst, mTup, mApp, ownL, appS, mSeq, mRng1, mRng2, D.bool?, outM, pick, deepE, str_cl, ck, lz2, dl_cons, dl_nil, str_deep, inD, ei]
        · unfold E_Web___setitem___4
          simp [sSeq, sIf, mNot, mAnd, mOr, mB, mChain, mOp, mUn, mVar, mMv, mC, mIf, mBor, mCls, mCallN, mCons, mNil, mCall, callM, mAndV, mOrV, mNotV, M.bind, M.opt, M.ok, sNx, sRet, sRetN, sExpr, sAsg, putM, sAsgT, asgT, Tg.put, putAll, mLst, mTup, mApp, ownL, appS, mSeq, mRng1, mRng2, D.bool?, outM, pick, deepE, str_cl, lz2, dl_cons, dl_nil, str_deep]
  have imm0 : D.imm .non = true := rfl
  have s1 : (pd E).length ≤ 16777000 := by rw [pd_len]; omega
  have nl := norm_len (ps := kept) h5
  have s2 : (pd (norm zs kept)).length ≤ 16777000 := by rw [pd_len]; omega
  have i1 : (D.lst true (pd kept)).imm = true := by show (true && immL _) = true; rw [pd_imm]; rfl
  have i2 : (D.lst true (pd (norm zs kept))).imm = true := by show (true && immL _) = true; rw [pd_imm]; rfl
  have ck : (D.lst false (pd kept)).cl = true := lst_cl (pd_cl kept)
  unfold F_Web___setitem__ runDef
  simp [sSeq, sIf, mNot, mAnd, mOr, mB, mChain, mOp, mUn, mVar, mMv, mC, mIf, mBor, mCls, mCallN, mCons, mNil, mCall, callM, mAndV, mOrV, mNotV, M.bind, M.opt, M.ok, sNx, sRet, sRetN, sExpr, sAsg, putM, sAsgT, asgT, Tg.put, putAll, mLst, mTup, mApp, ownL, appS, mSeq, mRng1, mRng2, D.bool?, outM, pick, deepE, wb_deep, wb_cl, pair_cl, pair_deep, str_deep, bl_deep, str_cl, bl_cl, fld1, fld2, ca, cb, imm0, eqD, eq_str, hab, mLc, mLc2, seq_l, wipeE, clE_cons, clE_nil, cl1_some (wb_cl zs E), cl1_some (pair_cl a b), cl1_some (bl_cl false), cl1_some ck, cl1_some (str_cl a), cl1_some (str_cl b), cl1_none, lc, lc2, s1, s2, i1, i2, lst_deep, pd_deep, sFldS]
  simp [setFld, wb, putFD, ne1]

end K01

namespace K01
open PySem PySem.Spec L2 Ta
def allp (zs : List Str) : List (Str × Str) := zs.flatMap fun a => zs.map fun b => (a, b)
theorem gl_cl (n : Nat) : (D.gl n).cl = true := rfl
theorem allp_mem {zs : List Str} {p : Str × Str} : p ∈ allp zs ↔ p.1 ∈ zs ∧ p.2 ∈ zs := by
  unfold allp
  rw [List.mem_flatMap]
  constructor
  · rintro ⟨a, ha, hb⟩
    obtain ⟨b, hb2, rfl⟩ := List.mem_map.mp hb
    exact ⟨ha, hb2⟩
  · rintro ⟨h1, h2⟩
    exact ⟨p.1, h1, List.mem_map.mpr ⟨p.2, h2, rfl⟩⟩
theorem allp_len {zs : List Str} (h5 : zs.length ≤ 5) : (allp zs).length ≤ 25 := by
  have h1 : ∀ ys : List Str, (ys.flatMap fun a => zs.map fun b => (a, b)).length ≤ ys.length * 5 := by
    intro ys
    induction ys with
    | nil => simp
    | cons y ys ih => rw [List.flatMap_cons, List.length_append, List.length_map, List.length_cons]; omega
  have := h1 zs
  unfold allp
  omega
theorem full_ok {X : D} {zs : List Str} (hX : Sq (sd zs) X) (h : okS zs) (hn : zs.Nodup) (h1 : 1 ≤ zs.length) (h5 : zs.length ≤ 5) : F_Web_full [.gl 0, X] = some (.ok (wb true zs (norm zs (allp zs))), []) := by
  have cX := hX.cl (sd_cl zs)
  have lc2 : lc2Loop (.nm 2) mYes I_Web_full_2 (.nm 3) mYes E_Web_full_1 [3] [some (.gl 0), some X, none, none] (sd zs) = some (pd (allp zs)) := by
    rw [lc2Loop_ok (fun d => match d with | .str a => pd (zs.map fun b => (a, b)) | _ => []) (sd zs) ?_]
    · exact congrArg some (pd_fm zs _ _ fun z _ => rfl)
    · intro d hd
      obtain ⟨a, ha, rfl⟩ := sd_mem hd
      refine ⟨[some (.gl 0), some X, some (.str a), none], [some (.gl 0), some X, some (.str a), none], sd zs, [some (.gl 0), some X, some (.str a), none], by simp [Tg.put, putAll], rfl, by unfold I_Web_full_2; simp [sSeq, sIf, mNot, mAnd, mOr, mB, mChain, mOp, mUn, mVar, mMv, mC, mIf, mBor, mCls, mCallN, mCons, mNil, mCall, callM, mAndV, mOrV, mNotV, M.bind, M.opt, M.ok, sNx, sRet, sRetN, sExpr, sAsg, putM, sAsgT, asgT, Tg.put, putAll, mLst, mTup, mApp, ownL, appS, mSeq, mRng1, mRng2, D.bool?, outM, pick, deepE, cX, hX.seq], ?_⟩
      have e : wipeE (clE [some (.gl 0), some X, some (.str a), none]) [3] = [some (.gl 0), some X, some (.str a), none] := by
        simp [wipeE, clE_cons, clE_nil, cl1_some (gl_cl 0), cl1_some cX, cl1_some (str_cl a), cl1_none]
      rw [e, lcLoop_ok (fun _ => true) (fun d => .tup [.str a, d]) (sd zs) ?_, sd_fm]
      · show some _ = some (pd _)
        unfold pd
        rw [List.map_map, List.filter_eq_self.mpr (fun _ _ => rfl)]; rfl
      · intro d hd
        obtain ⟨b, hb, rfl⟩ := sd_mem hd
        refine ⟨[some (.gl 0), some X, some (.str a), some (.str b)], [some (.gl 0), some X, some (.str a), some (.str b)], by simp [Tg.put, putAll], rfl, fun _ => ⟨[some (.gl 0), some X, some (.str a), some (.str b)], ?_⟩⟩
        unfold E_Web_full_1
        simp [sSeq, sIf, mNot, mAnd, mOr, mB, mChain, mOp, mUn, mVar, mMv, mC, mIf, mBor, mCls, mCallN, mCons, mNil, mCall, callM, mAndV, mOrV, mNotV, M.bind, M.opt, M.ok, sNx, sRet, sRetN, sExpr, sAsg, putM, sAsgT, asgT, Tg.put, putAll, mLst, mTup, mApp, ownL, appS, mSeq, mRng1, mRng2, D.bool?, outM, pick, deepE, str_cl, lz2, dl_cons, dl_nil, str_deep]
  have al := allp_len h5
  have s1 : (pd (allp zs)).length ≤ 16777000 := by rw [pd_len]; omega
  have m := mk_ok (Y := .lst false (pd (allp zs))) hX .l h hn h1 h5 fun p hp => allp_mem.mp hp
  unfold F_Web_full runDef
  simp [sSeq, sIf, mNot, mAnd, mOr, mB, mChain, mOp, mUn, mVar, mMv, mC, mIf, mBor, mCls, mCallN, mCons, mNil, mCall, callM, mAndV, mOrV, mNotV, M.bind, M.opt, M.ok, sNx, sRet, sRetN, sExpr, sAsg, putM, sAsgT, asgT, Tg.put, putAll, mLst, mTup, mApp, ownL, appS, mSeq, mRng1, mRng2, D.bool?, outM, pick, deepE, cX, gl_cl, mMakeL, isGlM, mMake, mLc2, hX.seq, wipeE, clE_cons, clE_nil, cl1_some (gl_cl 0), cl1_some cX, cl1_none, lc2, s1, lst_deep, pd_deep, m]
theorem zipD_sd (xs ys : List Str) : zipD (sd xs) (sd ys) = pd (xs.zip ys) := by
  unfold zipD sd pd
  rw [List.zip_map, List.map_map]; rfl
theorem cut1 {zs : List Str} (h1 : 1 ≤ zs.length) : cutD (sd zs) (some 1) none = sd (zs.drop 1) := by
  unfold cutD
  have e1 : HT.sIx (sd zs).length 0 (some 1) = 1 := by
    show HT.sIx (sd zs).length 0 (some ((1 : Nat) : Int)) = 1
    rw [HT.sIx_nat, sd_len]; omega
  rw [e1, HT.sIx_none, List.take_of_length_le (by rw [List.length_drop]; omega)]
  unfold sd
  rw [List.map_drop]
theorem chain_ok {X : D} {zs : List Str} (hX : Sq (sd zs) X) (h : okS zs) (hn : zs.Nodup) (h1 : 1 ≤ zs.length) (h5 : zs.length ≤ 5) : F_Web_chain [.gl 0, X] = some (.ok (wb true zs (norm zs (zs.zip (zs.drop 1)))), []) := by
  have cX := hX.cl (sd_cl zs)
  have m := mk_ok (Y := .lst false (pd (zs.zip (zs.drop 1)))) hX .l h hn h1 h5 fun p hp => by
    obtain ⟨ha, hb⟩ := List.of_mem_zip (a := p.1) (b := p.2) hp
    exact ⟨ha, List.mem_of_mem_drop hb⟩
  have q1 : lzSeq X = some (sd zs) := by
    cases hX with
    | l => show (if clL (sd zs) = true then some (sd zs) else none) = _; rw [if_pos (sd_cl zs)]
    | t => rfl
  have s0 : (sd zs).length ≤ sizeLine := by rw [sd_len, sizeLine_eq]; omega
  have q2 : ∃ Y, slD X (some 1) none = some Y ∧ lzSeq Y = some (sd (zs.drop 1)) := by
    cases hX with
    | l => exact ⟨.lst true (sd (zs.drop 1)), by show some (D.lst true (cutD _ _ _)) = _; rw [cut1 h1], by show (if clL (sd (zs.drop 1)) = true then _ else none) = _; rw [if_pos (sd_cl _)]⟩
    | t =>
      refine ⟨.tup (sd (zs.drop 1)), ?_, rfl⟩
      show (if HT.sIx (sd zs).length 0 (some 1) = 0 ∧ _ then none else some (D.tup (deepL (cutD (sd zs) (some 1) none)))) = _
      have e1 : HT.sIx (sd zs).length 0 (some 1) = 1 := by
        show HT.sIx (sd zs).length 0 (some ((1 : Nat) : Int)) = 1
        rw [HT.sIx_nat, sd_len]; omega
      rw [e1, if_neg (by simp), cut1 h1, sd_deep]
  obtain ⟨Y, e1, e2⟩ := q2
  have lz : lzD [X, Y] = some (.lst true (pd (zs.zip (zs.drop 1)))) := by
    show (match lzSeq X, lzSeq Y with | some xs, some ys => if xs.length ≤ sizeLine then some (D.lst true (zipD xs ys)) else none | _, _ => none) = _
    rw [q1, e2]
    show (if _ then _ else _) = _
    rw [if_pos s0, zipD_sd]
  generalize zs.zip (zs.drop 1) = zz at *
  unfold F_Web_chain runDef
  simp [sSeq, sIf, mNot, mAnd, mOr, mB, mChain, mOp, mUn, mVar, mMv, mC, mIf, mBor, mCls, mCallN, mCons, mNil, mCall, callM, mAndV, mOrV, mNotV, M.bind, M.opt, M.ok, sNx, sRet, sRetN, sExpr, sAsg, putM, sAsgT, asgT, Tg.put, putAll, mLst, mTup, mApp, ownL, appS, mSeq, mRng1, mRng2, D.bool?, outM, pick, deepE, cX, gl_cl, mMakeL, isGlM, mMake, mLz, mSl, mPart, mNo, D.int?, e1, lz, lst_deep, pd_deep, m]
/-! ### the law's small defs -/
theorem isi_int (n : Int) : isiD isiT [.int n, .gl 1] = some (.bl true) := rfl
theorem isi_int2 (n : Int) : isiD isiT [.int n, .gl 2] = some (.bl false) := rfl
theorem isi_bl (n : Bool) : isiD isiT [.bl n, .gl 2] = some (.bl true) := rfl
theorem isi_str (n : Str) : isiD isiT [.str n, .gl 3] = some (.bl true) := rfl
theorem isi_lst (o xs) : isiD isiT [.lst o xs, .gl 4] = some (.bl true) := rfl
theorem isi_tup (xs) : isiD isiT [.tup xs, .gl 5] = some (.bl true) := rfl
theorem isint_ok (n : Int) : F__law_is_integer [.int n] = some (.ok (.bl true), []) := by
  unfold F__law_is_integer runDef
  simp [sSeq, sIf, mNot, mAnd, mOr, mB, mChain, mOp, mUn, mVar, mMv, mC, mIf, mBor, mCls, mCallN, mCons, mNil, mCall, callM, mAndV, mOrV, mNotV, M.bind, M.opt, M.ok, sNx, sRet, sRetN, sExpr, sAsg, putM, sAsgT, asgT, Tg.put, putAll, mLst, mTup, mApp, ownL, appS, mSeq, mRng1, mRng2, D.bool?, outM, pick, deepE, int_cl, isi_int, isi_int2]
theorem eq_bl (b : Bool) : eqB (.bl b) (.bl b) = some true := by cases b <;> rfl
theorem truth_ok (b : Bool) : F__law_truth [.bl b, .bl b] = some (.ok (.bl true), []) := by
  unfold F__law_truth runDef
  simp [sSeq, sIf, mNot, mAnd, mOr, mB, mChain, mOp, mUn, mVar, mMv, mC, mIf, mBor, mCls, mCallN, mCons, mNil, mCall, callM, mAndV, mOrV, mNotV, M.bind, M.opt, M.ok, sNx, sRet, sRetN, sExpr, sAsg, putM, sAsgT, asgT, Tg.put, putAll, mLst, mTup, mApp, ownL, appS, mSeq, mRng1, mRng2, D.bool?, outM, pick, deepE, bl_cl, isi_bl, eqD, eq_bl]
theorem istexts_ok {zs : List Str} (hl : zs.length ≤ 100) : F__law_is_texts [.lst false (sd zs)] = some (.ok (.bl true), []) := by
  have c := lst_cl (sd_cl zs)
  have lc : lcLoop (.nm 1) mYes E__law_is_texts_1 [some (.lst false (sd zs)), none] (sd zs) = some (List.replicate (sd zs).length (.bl true)) := by
    rw [lcLoop_ok (fun _ => true) (fun _ => .bl true) (sd zs) ?_]
    · rw [List.filter_eq_self.mpr (fun _ _ => rfl), List.map_const']
    · intro d hd
      obtain ⟨b, hb, rfl⟩ := sd_mem hd
      refine ⟨[some (.lst false (sd zs)), some (.str b)], [some (.lst false (sd zs)), some (.str b)], by simp [Tg.put, putAll], rfl, fun _ => ⟨[some (.lst false (sd zs)), some (.str b)], ?_⟩⟩
      unfold E__law_is_texts_1
      simp [sSeq, sIf, mNot, mAnd, mOr, mB, mChain, mOp, mUn, mVar, mMv, mC, mIf, mBor, mCls, mCallN, mCons, mNil, mCall, callM, mAndV, mOrV, mNotV, M.bind, M.opt, M.ok, sNx, sRet, sRetN, sExpr, sAsg, putM, sAsgT, asgT, Tg.put, putAll, mLst, mTup, mApp, ownL, appS, mSeq, mRng1, mRng2, D.bool?, outM, pick, deepE, str_cl, isi_str]
  have sl : (sd zs).length ≤ 16777000 := by rw [sd_len]; omega
  unfold F__law_is_texts runDef
  simp [sSeq, sIf, mNot, mAnd, mOr, mB, mChain, mOp, mUn, mVar, mMv, mC, mIf, mBor, mCls, mCallN, mCons, mNil, mCall, callM, mAndV, mOrV, mNotV, M.bind, M.opt, M.ok, sNx, sRet, sRetN, sExpr, sAsg, putM, sAsgT, asgT, Tg.put, putAll, mLst, mTup, mApp, ownL, appS, mSeq, mRng1, mRng2, D.bool?, outM, pick, deepE, c, isi_lst, mLc, seq_l, wipeE, clE_cons, clE_nil, cl1_some c, cl1_none, lc, sl, allD, blsD_rep]
theorem same_ok {zs : List Str} (h : okS zs) (hl : zs.length ≤ 100) : F__law_same_texts [.lst false (sd zs), .lst false (sd zs)] = some (.ok (.bl true), []) := by
  have c := lst_cl (sd_cl zs)
  unfold F__law_same_texts runDef
  simp [sSeq, sIf, mNot, mAnd, mOr, mB, mChain, mOp, mUn, mVar, mMv, mC, mIf, mBor, mCls, mCallN, mCons, mNil, mCall, callM, mAndV, mOrV, mNotV, M.bind, M.opt, M.ok, sNx, sRet, sRetN, sExpr, sAsg, putM, sAsgT, asgT, Tg.put, putAll, mLst, mTup, mApp, ownL, appS, mSeq, mRng1, mRng2, D.bool?, outM, pick, deepE, c, istexts_ok hl, eqD, eq_sd h h]
/-! ### ordered -/
theorem ord_in {zs : List Str} {ps acc : List (Str × Str)} {a : Str} (h : okS zs) (hp : okP ps) (ha : a ∈ zs) (h5 : zs.length ≤ 5) (hl : acc.length ≤ 100) (x : Option D) :
    ∃ ρ', sLoop (.nm 4) B__law_ordered_1 (sd zs) [some (.lst false (sd zs)), some (.lst false (pd ps)), some (.lst true (pd acc)), some (.str a), x] = some (.ok .nx, ρ') ∧
      ∃ y, ρ' = [some (.lst false (sd zs)), some (.lst false (pd ps)), some (.lst true (pd (acc ++ (zs.filter fun b => decide (a ≠ b ∧ (a, b) ∈ ps)).map fun b => (a, b)))), some (.str a), y] := by
  have cp := lst_cl (pd_cl ps)
  obtain ⟨ρ', e1, y, e2⟩ := sLoop_inv (t := .nm 4) (m := B__law_ordered_1) (sd zs) (fun i ρ => ∃ y, ρ = [some (.lst false (sd zs)), some (.lst false (pd ps)), some (.lst true (pd (acc ++ ((zs.take i).filter fun b => decide (a ≠ b ∧ (a, b) ∈ ps)).map fun b => (a, b)))), some (.str a), y]) (fun i d ρ hd hq => by
    obtain ⟨y, rfl⟩ := hq
    obtain ⟨b, hz, rfl⟩ := sd_get hd
    have hb : b ∈ zs := List.mem_of_getElem? hz
    have hi : i < zs.length := (List.getElem?_eq_some_iff.mp hz).1
    have ei := in_pl (o := false) hp (h a ha) (h b hb)
    have tk : zs.take (i + 1) = zs.take i ++ [b] := by rw [List.take_add_one, hz]; rfl
    rw [tk, List.filter_append, List.map_append, ← List.append_assoc]
    have hfl := List.length_filter_le (fun b => decide (a ≠ b ∧ (a, b) ∈ ps)) (zs.take i)
    generalize hacc : acc ++ ((zs.take i).filter fun b => decide (a ≠ b ∧ (a, b) ∈ ps)).map (fun b => (a, b)) = ac at *
    have lt : (pd ac).length < sizeLine := by
      rw [pd_len, ← hacc, List.length_append, List.length_map, sizeLine_eq]
      rw [List.length_take] at hfl
      omega
    by_cases hc : a ≠ b ∧ (a, b) ∈ ps
    · refine ⟨[some (.lst false (sd zs)), some (.lst false (pd ps)), some (.lst true (pd ac)), some (.str a), some (.str b)], [some (.lst false (sd zs)), some (.lst false (pd ps)), some (.lst true (pd (ac ++ [(a, b)]))), some (.str a), some (.str b)], by simp [Tg.put, putAll], ?_, some (.str b), by simp [hc.1, hc.2]⟩
      rw [pd_app]
      unfold B__law_ordered_1
      simp [sSeq, sIf, mNot, mAnd, mOr, mB, mChain, mOp, mUn, mVar, mMv, mC, mIf, mBor, mCls, mCallN, mCons, mNil, mCall, callM, mAndV, mOrV, mNotV, M.bind, M.opt, M.ok, sNx, sRet, sRetN, sExpr, sAsg, putM, sAsgT, asgT, Tg.put, putAll, mLst, mTup, mApp, ownL, appS, mSeq, mRng1, mRng2, D.bool?, outM, pick, deepE, str_cl, cp, neD, eq_str, lz2, dl_cons, dl_nil, str_deep, inD, ei, lt, hc.1, hc.2]
      rfl
    · refine ⟨[some (.lst false (sd zs)), some (.lst false (pd ps)), some (.lst true (pd ac)), some (.str a), some (.str b)], [some (.lst false (sd zs)), some (.lst false (pd ps)), some (.lst true (pd ac)), some (.str a), some (.str b)], by simp [Tg.put, putAll], ?_, some (.str b), ?_⟩
      · unfold B__law_ordered_1
        by_cases hab : a = b
        · simp [sSeq, sIf, mNot, mAnd, mOr, mB, mChain, mOp, mUn, mVar, mMv, mC, mIf, mBor, mCls, mCallN, mCons, mNil, mCall, callM, mAndV, mOrV, mNotV, M.bind, M.opt, M.ok, sNx, sRet, sRetN, sExpr, sAsg, putM, sAsgT, asgT, Tg.put, putAll, mLst, mTup, mApp, ownL, appS, mSeq, mRng1, mRng2, D.bool?, outM, pick, deepE, str_cl, cp, neD, eq_str, hab]
        · have hm : (a, b) ∉ ps := fun hm => hc ⟨hab, hm⟩
          simp [sSeq, sIf, mNot, mAnd, mOr, mB, mChain, mOp, mUn, mVar, mMv, mC, mIf, mBor, mCls, mCallN, mCons, mNil, mCall, callM, mAndV, mOrV, mNotV, M.bind, M.opt, M.ok, sNx, sRet, sRetN, sExpr, sAsg, putM, sAsgT, asgT, Tg.put, putAll, mLst, mTup, mApp, ownL, appS, mSeq, mRng1, mRng2, D.bool?, outM, pick, deepE, str_cl, cp, neD, eq_str, lz2, dl_cons, dl_nil, str_deep, inD, ei, hab, hm]
      · rw [List.filter_cons_of_neg (by simpa using fun h1 h2 => hc ⟨h1, h2⟩)]
        simp) [some (.lst false (sd zs)), some (.lst false (pd ps)), some (.lst true (pd acc)), some (.str a), x] ⟨x, by simp⟩
  refine ⟨ρ', e1, y, ?_⟩
  rw [e2, sd_len, List.take_length]
theorem ordered_ok {zs : List Str} {ps : List (Str × Str)} (h : okS zs) (hp : okP ps) (h5 : zs.length ≤ 5) : F__law_ordered [.lst false (sd zs), .lst false (pd ps)] = some (.ok (.lst true (pd (norm zs ps))), []) := by
  have cz := lst_cl (sd_cl zs)
  have cp := lst_cl (pd_cl ps)
  obtain ⟨ρ', e1, x, y, rfl⟩ := sLoop_inv (t := .nm 3) (m := B__law_ordered_2) (sd zs) (fun i ρ => ∃ x y, ρ = [some (.lst false (sd zs)), some (.lst false (pd ps)), some (.lst true (pd ((zs.take i).flatMap fun a => (zs.filter fun b => decide (a ≠ b ∧ (a, b) ∈ ps)).map fun b => (a, b)))), x, y]) (fun i d ρ hd hq => by
    obtain ⟨x, y, rfl⟩ := hq
    obtain ⟨a, hz, rfl⟩ := sd_get hd
    have ha : a ∈ zs := List.mem_of_getElem? hz
    have hi : i < zs.length := (List.getElem?_eq_some_iff.mp hz).1
    have tk : zs.take (i + 1) = zs.take i ++ [a] := by rw [List.take_add_one, hz]; rfl
    have al : ((zs.take i).flatMap fun a => (zs.filter fun b => decide (a ≠ b ∧ (a, b) ∈ ps)).map fun b => (a, b)).length ≤ 25 := by
      have h1 : ∀ ys : List Str, (ys.flatMap fun a => (zs.filter fun b => decide (a ≠ b ∧ (a, b) ∈ ps)).map fun b => (a, b)).length ≤ ys.length * 5 := by
        intro ys
        induction ys with
        | nil => simp
        | cons y ys ih =>
          rw [List.flatMap_cons, List.length_append, List.length_map, List.length_cons]
          have := List.length_filter_le (fun b => decide (y ≠ b ∧ (y, b) ∈ ps)) zs
          omega
      have := h1 (zs.take i)
      rw [List.length_take] at this
      omega
    obtain ⟨ρ2, q1, y2, rfl⟩ := ord_in (ps := ps) h hp ha h5 (Nat.le_trans al (by decide)) y
    refine ⟨[some (.lst false (sd zs)), some (.lst false (pd ps)), some (.lst true (pd ((zs.take i).flatMap fun a => (zs.filter fun b => decide (a ≠ b ∧ (a, b) ∈ ps)).map fun b => (a, b)))), some (.str a), y], _, by simp [Tg.put, putAll], ?_, some (.str a), y2, rfl⟩
    rw [tk, List.flatMap_append]
    unfold B__law_ordered_2
    simp only [List.flatMap_cons, List.flatMap_nil, List.append_nil]
    unfold sFor M.bind
    have e0 : ∀ o x y, mSeq (mVar 0) [some (.lst false (sd zs)), o, x, some (.str a), y] = some (.ok (sd zs), [some (.lst false (sd zs)), o, x, some (.str a), y]) := fun o x y => by simp [sSeq, sIf, mNot, mAnd, mOr, mB, mChain, mOp, mUn, mVar, mMv, mC, mIf, mBor, mCls, mCallN, mCons, mNil, mCall, callM, mAndV, mOrV, mNotV, M.bind, M.opt, M.ok, sNx, sRet, sRetN, sExpr, sAsg, putM, sAsgT, asgT, Tg.put, putAll, mLst, mTup, mApp, ownL, appS, mSeq, mRng1, mRng2, D.bool?, outM, pick, deepE, cz, seq_l]
    rw [e0]
    exact q1) [some (.lst false (sd zs)), some (.lst false (pd ps)), some (.lst true []), none, none] ⟨none, none, rfl⟩
  have e3 : (zs.take (sd zs).length).flatMap (fun a => (zs.filter fun b => decide (a ≠ b ∧ (a, b) ∈ ps)).map fun b => (a, b)) = norm zs ps := by rw [sd_len, List.take_length]; rfl
  rw [e3] at e1
  unfold F__law_ordered runDef
  simp [sSeq, sIf, mNot, mAnd, mOr, mB, mChain, mOp, mUn, mVar, mMv, mC, mIf, mBor, mCls, mCallN, mCons, mNil, mCall, callM, mAndV, mOrV, mNotV, M.bind, M.opt, M.ok, sNx, sRet, sRetN, sExpr, sAsg, putM, sAsgT, asgT, Tg.put, putAll, mLst, mTup, mApp, ownL, appS, mSeq, mRng1, mRng2, D.bool?, outM, pick, deepE, cz, sFor, seq_l, e1]

end K01

namespace K01
open PySem PySem.Spec L2 Ta
theorem wb_isC (o zs ps) : (wb o zs ps).isC 0 = true := rfl
theorem wb_no1 (o zs ps) : noFld "audience" (wb o zs ps) = true := rfl
theorem wb_no2 (o zs ps) : noFld "tellers" (wb o zs ps) = true := rfl
theorem itL_wb (zs ps) : itL 0 "_pairs" (wb false zs ps) = some (pd ps) := rfl
theorem inO_wb {zs : List Str} {ps : List (Str × Str)} {a b : Str} (hp : okP ps) (ha : PyData.strOk a = true) (hb : PyData.strOk b = true) : inO 0 "_pairs" (.tup [.str a, .str b]) (wb false zs ps) = some (decide ((a, b) ∈ ps)) := by
  unfold inO
  rw [itL_wb]
  exact in_pl (o := false) hp ha hb
theorem lenO_wb {zs : List Str} {ps : List (Str × Str)} (hl : ps.length ≤ 100) : lenO 0 F_Web___len__ [wb false zs ps] = some (.int ps.length) := by
  unfold lenO
  simp only [wb_isC, len_ok, okD, if_true]
  rw [if_pos (by omega)]
theorem listO_wb {zs : List Str} {ps : List (Str × Str)} (hl : ps.length ≤ 100) : listO 0 "_pairs" F_Web___len__ [wb false zs ps] = some (.lst true (pd ps)) := by
  unfold listO
  simp only [itL_wb, len_ok, okD]
  rw [if_pos ⟨by omega, by omega, by rw [pd_len, sizeLine_eq]; omega⟩]
theorem ixO_wb {zs : List Str} {ps : List (Str × Str)} {a b : Str} (h : okS zs) (hp : okP ps) (ha : a ∈ zs) (hb : b ∈ zs) : ixO 0 F_Web___getitem__ (wb false zs ps) (.tup [.str a, .str b]) = some (.bl (decide (a = b) || decide ((a, b) ∈ ps))) := by
  unfold ixO
  simp only [wb_isC, getitem_ok h hp ha hb, okD, if_true]
theorem rng_get {n i : Nat} {d : D} (h : (rngL 0 n)[i]? = some d) : i < n ∧ d = .int i := by
  unfold rngL at h
  rw [List.getElem?_map] at h
  cases q : (List.range n)[i]? with
  | none => rw [q] at h; cases h
  | some k =>
    rw [q] at h
    have hi : i < n := by
      have := (List.getElem?_eq_some_iff.mp q).1
      simpa using this
    rw [List.getElem?_range hi] at q
    cases q
    exact ⟨hi, by cases h; simp⟩
theorem rng1_ok {ms : M (List D)} {ρ ρ' : Rho} {n : Nat} (h : ms ρ = some (.ok [.int n], ρ')) (h1 : n ≤ 1000000) : mRng1 ms ρ = some (.ok (rngL 0 n), ρ') := by
  unfold mRng1 M.bind
  rw [h]
  show M.opt (if -(2 ^ 62) ≤ (n : Int) ∧ (n : Int) < 2 ^ 62 then some (rngL 0 (n : Int).toNat) else none) ρ' = _
  rw [if_pos ⟨by omega, by omega⟩, Int.toNat_natCast]; rfl
theorem rng_len (n : Nat) : (rngL 0 n).length = n := by simp [rngL]
theorem ix_pd {ps : List (Str × Str)} {i : Nat} {o : Bool} {p : Str × Str} (h : ps[i]? = some p) : idxD (.lst o (pd ps)) (.int i) = some (.tup [.str p.1, .str p.2]) := by
  show atI (pd ps) (i : Int) = _
  refine atI_nat ?_
  unfold pd
  rw [List.getElem?_map, h]; rfl
theorem ix_sd {zs : List Str} {i : Nat} {o : Bool} {z : Str} (h : zs[i]? = some z) : idxD (.lst o (sd zs)) (.int i) = some (.str z) := by
  show atI (sd zs) (i : Int) = _
  refine atI_nat ?_
  unfold sd
  rw [List.getElem?_map, h]; rfl
theorem eq_int (a b : Int) : eqB (.int a) (.int b) = some (decide (a = b)) := rfl
theorem eq_blbl (a b : Bool) : eqB (.bl a) (.bl b) = some (decide (a = b)) := by cases a <;> cases b <;> rfl
def fr (zs : List Str) (ps : List (Str × Str)) (x4 x5 x6 : Option D) : Rho := [some (wb false zs ps), some (.lst false (sd zs)), some (.lst false (pd ps)), some (.lst false (pd ps)), x4, x5, x6]
theorem wi1 {zs : List Str} {ps : List (Str × Str)} (okp : okP ps) (x4 x5 x6 : Option D) : ∃ ρ', sLoop (.nm 4) B__law_web_is_1 (rngL 0 ps.length) (fr zs ps x4 x5 x6) = some (.ok .nx, ρ') ∧ ∃ y, ρ' = fr zs ps y x5 x6 := by
  have cp := lst_cl (pd_cl ps)
  obtain ⟨ρ', e1, e2⟩ := sLoop_inv (t := .nm 4) (m := B__law_web_is_1) (rngL 0 ps.length) (fun i ρ => ∃ y, ρ = fr zs ps y x5 x6) (fun i d ρ hd hq => by
    obtain ⟨y, rfl⟩ := hq
    obtain ⟨hi, rfl⟩ := rng_get hd
    have hp : ps[i]? = some ps[i] := List.getElem?_eq_getElem hi
    have ix := ix_pd (o := false) hp
    have hm : ps[i] ∈ ps := List.getElem_mem hi
    have ee := eq_pq (okp _ hm).1 (okp _ hm).2 (okp _ hm).1 (okp _ hm).2
    generalize ps[i] = p at *
    refine ⟨fr zs ps (some (.int i)) x5 x6, fr zs ps (some (.int i)) x5 x6, by simp [Tg.put, putAll, fr], ?_, _, rfl⟩
    unfold B__law_web_is_1 fr
    simp [sSeq, sIf, mNot, mAnd, mOr, mB, mChain, mOp, mUn, mVar, mMv, mC, mIf, mBor, mCls, mCallN, mCons, mNil, mCall, callM, mAndV, mOrV, mNotV, M.bind, M.opt, M.ok, sNx, sRet, sRetN, sExpr, sAsg, putM, sAsgT, asgT, Tg.put, putAll, mLst, mTup, mApp, ownL, appS, mSeq, mRng1, mRng2, D.bool?, outM, pick, deepE, cp, int_cl, ix, isi_tup, neD, ee]) (fr zs ps x4 x5 x6) ⟨x4, rfl⟩
  exact ⟨ρ', e1, e2⟩
theorem wi2 {zs : List Str} {ps : List (Str × Str)} (h : okS zs) (okp : okP ps) {a : Str} (ha : a ∈ zs) (x4 x6 : Option D) : ∃ ρ', sLoop (.nm 6) B__law_web_is_2 (sd zs) (fr zs ps x4 (some (.str a)) x6) = some (.ok .nx, ρ') ∧ ∃ y, ρ' = fr zs ps x4 (some (.str a)) y := by
  have cp := lst_cl (pd_cl ps)
  obtain ⟨ρ', e1, e2⟩ := sLoop_inv (t := .nm 6) (m := B__law_web_is_2) (sd zs) (fun i ρ => ∃ y, ρ = fr zs ps x4 (some (.str a)) y) (fun i d ρ hd hq => by
    obtain ⟨y, rfl⟩ := hq
    obtain ⟨b, hz, rfl⟩ := sd_get hd
    have hb : b ∈ zs := List.mem_of_getElem? hz
    have ei := in_pl (o := false) okp (h a ha) (h b hb)
    have eo := inO_wb (zs := zs) okp (h a ha) (h b hb)
    have ex := ixO_wb h okp ha hb
    refine ⟨fr zs ps x4 (some (.str a)) (some (.str b)), fr zs ps x4 (some (.str a)) (some (.str b)), by simp [Tg.put, putAll, fr], ?_, _, rfl⟩
    unfold B__law_web_is_2 fr
    by_cases hab : a = b
    · subst hab
      rw [decide_eq_true rfl, Bool.true_or] at ex
      simp [sSeq, sIf, mNot, mAnd, mOr, mB, mChain, mOp, mUn, mVar, mMv, mC, mIf, mBor, mCls, mCallN, mCons, mNil, mCall, callM, mAndV, mOrV, mNotV, M.bind, M.opt, M.ok, sNx, sRet, sRetN, sExpr, sAsg, putM, sAsgT, asgT, Tg.put, putAll, mLst, mTup, mApp, ownL, appS, mSeq, mRng1, mRng2, D.bool?, outM, pick, deepE, wb_cl, cp, str_cl, lz2, dl_cons, dl_nil, str_deep, ex, eqD, eq_str, truth_ok, neD, eo, inD, ei, eq_blbl]
    · rw [decide_eq_false hab, Bool.false_or] at ex
      simp [sSeq, sIf, mNot, mAnd, mOr, mB, mChain, mOp, mUn, mVar, mMv, mC, mIf, mBor, mCls, mCallN, mCons, mNil, mCall, callM, mAndV, mOrV, mNotV, M.bind, M.opt, M.ok, sNx, sRet, sRetN, sExpr, sAsg, putM, sAsgT, asgT, Tg.put, putAll, mLst, mTup, mApp, ownL, appS, mSeq, mRng1, mRng2, D.bool?, outM, pick, deepE, wb_cl, cp, str_cl, lz2, dl_cons, dl_nil, str_deep, ex, eqD, eq_str, hab, truth_ok, neD, eo, inD, ei, eq_blbl]) (fr zs ps x4 (some (.str a)) x6) ⟨x6, rfl⟩
  exact ⟨ρ', e1, e2⟩
theorem wi7 {zs : List Str} {ps : List (Str × Str)} (h : okS zs) (okp : okP ps) (h5 : zs.length ≤ 5) (x4 x5 x6 : Option D) : ∃ ρ', sLoop (.nm 5) B__law_web_is_7 (sd zs) (fr zs ps x4 x5 x6) = some (.ok .nx, ρ') ∧ ∃ y z, ρ' = fr zs ps x4 y z := by
  have cp := lst_cl (pd_cl ps)
  have cz := lst_cl (sd_cl zs)
  obtain ⟨ρ', e1, e2⟩ := sLoop_inv (t := .nm 5) (m := B__law_web_is_7) (sd zs) (fun i ρ => ∃ y z, ρ = fr zs ps x4 y z) (fun i d ρ hd hq => by
    obtain ⟨y, z, rfl⟩ := hq
    obtain ⟨a, hz, rfl⟩ := sd_get hd
    have ha : a ∈ zs := List.mem_of_getElem? hz
    obtain ⟨ρ2, q1, y2, rfl⟩ := wi2 h okp ha x4 z
    have lc1 : ∀ x4 x5, lcLoop (.nm 6) T__law_web_is_3 E__law_web_is_4 [x4, some (.lst false (sd zs)), some (.lst false (pd ps)), some (.lst false (pd ps)), x5, some (.str a), none] (sd zs) = some (sd (zs.filter fun b => decide ((a, b) ∈ ps))) := fun x4 x5 => by
      rw [lcLoop_ok (fun d => match d with | .str b => decide ((a, b) ∈ ps) | _ => false) id (sd zs) ?_, sd_fm]
      · rfl
      · intro d hd
        obtain ⟨b, hb, rfl⟩ := sd_mem hd
        have ei := in_pl (o := false) okp (h a ha) (h b hb)
        refine ⟨[x4, some (.lst false (sd zs)), some (.lst false (pd ps)), some (.lst false (pd ps)), x5, some (.str a), some (.str b)], [x4, some (.lst false (sd zs)), some (.lst false (pd ps)), some (.lst false (pd ps)), x5, some (.str a), some (.str b)], by simp [Tg.put, putAll], ?_, fun _ => ⟨[x4, some (.lst false (sd zs)), some (.lst false (pd ps)), some (.lst false (pd ps)), x5, some (.str a), some (.str b)], ?_⟩⟩
        · unfold T__law_web_is_3
          simp [sSeq, sIf, mNot, mAnd, mOr, mB, mChain, mOp, mUn, mVar, mMv, mC, mIf, mBor, mCls, mCallN, mCons, mNil, mCall, callM, mAndV, mOrV, mNotV, M.bind, M.opt, M.ok, sNx, sRet, sRetN, sExpr, sAsg, putM, sAsgT, asgT, Tg.put, putAll, mLst, mTup, mApp, ownL, appS, mSeq, mRng1, mRng2, D.bool?, outM, pick, deepE, cp, str_cl, lz2, dl_cons, dl_nil, str_deep, inD, ei]
        · unfold E__law_web_is_4
          simp [sSeq, sIf, mNot, mAnd, mOr, mB, mChain, mOp, mUn, mVar, mMv, mC, mIf, mBor, mCls, mCallN, mCons, mNil, mCall, callM, mAndV, mOrV, mNotV, M.bind, M.opt, M.ok, sNx, sRet, sRetN, sExpr, sAsg, putM, sAsgT, asgT, Tg.put, putAll, mLst, mTup, mApp, ownL, appS, mSeq, mRng1, mRng2, D.bool?, outM, pick, deepE, str_cl]
    have lc2 : ∀ x4 x5, lcLoop (.nm 6) T__law_web_is_5 E__law_web_is_6 [x4, some (.lst false (sd zs)), some (.lst false (pd ps)), some (.lst false (pd ps)), x5, some (.str a), none] (sd zs) = some (sd (zs.filter fun b => decide ((b, a) ∈ ps))) := fun x4 x5 => by
      rw [lcLoop_ok (fun d => match d with | .str b => decide ((b, a) ∈ ps) | _ => false) id (sd zs) ?_, sd_fm]
      · rfl
      · intro d hd
        obtain ⟨b, hb, rfl⟩ := sd_mem hd
        have ei := in_pl (o := false) okp (h b hb) (h a ha)
        refine ⟨[x4, some (.lst false (sd zs)), some (.lst false (pd ps)), some (.lst false (pd ps)), x5, some (.str a), some (.str b)], [x4, some (.lst false (sd zs)), some (.lst false (pd ps)), some (.lst false (pd ps)), x5, some (.str a), some (.str b)], by simp [Tg.put, putAll], ?_, fun _ => ⟨[x4, some (.lst false (sd zs)), some (.lst false (pd ps)), some (.lst false (pd ps)), x5, some (.str a), some (.str b)], ?_⟩⟩
        · unfold T__law_web_is_5
          simp [sSeq, sIf, mNot, mAnd, mOr, mB, mChain, mOp, mUn, mVar, mMv, mC, mIf, mBor, mCls, mCallN, mCons, mNil, mCall, callM, mAndV, mOrV, mNotV, M.bind, M.opt, M.ok, sNx, sRet, sRetN, sExpr, sAsg, putM, sAsgT, asgT, Tg.put, putAll, mLst, mTup, mApp, ownL, appS, mSeq, mRng1, mRng2, D.bool?, outM, pick, deepE, cp, str_cl, lz2, dl_cons, dl_nil, str_deep, inD, ei]
        · unfold E__law_web_is_6
          simp [sSeq, sIf, mNot, mAnd, mOr, mB, mChain, mOp, mUn, mVar, mMv, mC, mIf, mBor, mCls, mCallN, mCons, mNil, mCall, callM, mAndV, mOrV, mNotV, M.bind, M.opt, M.ok, sNx, sRet, sRetN, sExpr, sAsg, putM, sAsgT, asgT, Tg.put, putAll, mLst, mTup, mApp, ownL, appS, mSeq, mRng1, mRng2, D.bool?, outM, pick, deepE, str_cl]
    have au := aud_ok h okp ha h5
    have te := tel_ok h okp ha h5
    have l1 := List.length_filter_le (fun b => decide ((a, b) ∈ ps)) zs
    have l2 := List.length_filter_le (fun b => decide ((b, a) ∈ ps)) zs
    have o1 : okS (zs.filter fun b => decide ((a, b) ∈ ps)) := fun y hy => h y (List.mem_filter.mp hy).1
    have o2 : okS (zs.filter fun b => decide ((b, a) ∈ ps)) := fun y hy => h y (List.mem_filter.mp hy).1
    have s1 := same_ok o1 (by omega)
    have s2 := same_ok o2 (by omega)
    have sl : (sd zs).length ≤ 16777000 := by rw [sd_len]; omega
    generalize hA : (zs.filter fun b => decide ((a, b) ∈ ps)) = A1 at *
    generalize hB : (zs.filter fun b => decide ((b, a) ∈ ps)) = A2 at *
    refine ⟨fr zs ps x4 (some (.str a)) z, fr zs ps x4 (some (.str a)) y2, by simp [Tg.put, putAll, fr], ?_, _, _, rfl⟩
    unfold B__law_web_is_7 fr
    unfold fr at q1
    simp [sSeq, sIf, mNot, mAnd, mOr, mB, mChain, mOp, mUn, mVar, mMv, mC, mIf, mBor, mCls, mCallN, mCons, mNil, mCall, callM, mAndV, mOrV, mNotV, M.bind, M.opt, M.ok, sNx, sRet, sRetN, sExpr, sAsg, putM, sAsgT, asgT, Tg.put, putAll, mLst, mTup, mApp, ownL, appS, mSeq, mRng1, mRng2, D.bool?, outM, pick, deepE, wb_cl, cp, cz, str_cl, sFor, seq_l, q1, mMeth, wb_isC, wb_no1, wb_no2, au, te, mLc, wipeE, clE_cons, clE_nil, cl1_some (wb_cl zs ps), cl1_some cp, cl1_some cz, cl1_some (str_cl a), cl1_none, lc1, lc2, sl, lst_deep, sd_deep, s1, s2]) (fr zs ps x4 x5 x6) ⟨x5, x6, rfl⟩
  exact ⟨ρ', e1, e2⟩
theorem webis_ok {zs : List Str} {ps : List (Str × Str)} (h : okS zs) (okp : okP ps) (h5 : zs.length ≤ 5) (hl : ps.length ≤ 100) : F__law_web_is [wb false zs ps, .lst false (sd zs), .lst false (pd ps)] = some (.ok (.bl true), []) := by
  have cp := lst_cl (pd_cl ps)
  have cz := lst_cl (sd_cl zs)
  have st := same_ok h (by omega)
  have ac := actors_ok zs ps
  have pr : propD 0 F_Web_actors (wb false zs ps) = some (.lst true (sd zs)) := by unfold propD; rw [if_pos (wb_isC _ _ _), ac]; rfl
  have li := listO_wb (zs := zs) hl
  have le := lenO_wb (zs := zs) hl
  have ii := isint_ok ps.length
  have l1 : lenD [.lst false (pd ps)] = some (.int ps.length) := by show some (D.int (pd ps).length) = _; rw [pd_len]
  obtain ⟨ρ1, q1, y, rfl⟩ := wi1 (zs := zs) okp none none none
  obtain ⟨ρ2, q2, y2, z2, rfl⟩ := wi7 h okp h5 y none none
  unfold fr at q1 q2
  have r1 : R__law_web_is_1 [some (wb false zs ps), some (.lst false (sd zs)), some (.lst false (pd ps)), some (.lst false (pd ps)), none, none, none] = some (.ok (rngL 0 ps.length), [some (wb false zs ps), some (.lst false (sd zs)), some (.lst false (pd ps)), some (.lst false (pd ps)), none, none, none]) := by
    unfold R__law_web_is_1
    exact rng1_ok (by simp [sSeq, sIf, mNot, mAnd, mOr, mB, mChain, mOp, mUn, mVar, mMv, mC, mIf, mBor, mCls, mCallN, mCons, mNil, mCall, callM, mAndV, mOrV, mNotV, M.bind, M.opt, M.ok, sNx, sRet, sRetN, sExpr, sAsg, putM, sAsgT, asgT, Tg.put, putAll, mLst, mTup, mApp, ownL, appS, mSeq, mRng1, mRng2, D.bool?, outM, pick, deepE, cp, l1]) (by omega)
  unfold F__law_web_is runDef
  simp [sSeq, sIf, mNot, mAnd, mOr, mB, mChain, mOp, mUn, mVar, mMv, mC, mIf, mBor, mCls, mCallN, mCons, mNil, mCall, callM, mAndV, mOrV, mNotV, M.bind, M.opt, M.ok, sNx, sRet, sRetN, sExpr, sAsg, putM, sAsgT, asgT, Tg.put, putAll, mLst, mTup, mApp, ownL, appS, mSeq, mRng1, mRng2, D.bool?, outM, pick, deepE, wb_cl, cp, cz, gl_cl, isiW, mProp, pr, lst_deep, sd_deep, pd_deep, st, li, le, ii, l1, neD, eq_int, sFor, r1, q1, seq_l, q2]

end K01

namespace K01
open PySem PySem.Spec L2 Ta
theorem binO_of {F : Fn} {x y d : D} {es : List D} (hx : x.isC 0 = true) (hy : y.isC 0 = true) (h : F [x, y] = some (.ok d, es)) : binO 0 F x y = some d := by
  unfold binO
  rw [hx, hy, h]; rfl
theorem neO_of {F : Fn} {x y : D} {b : Bool} {es : List D} (hx : x.isC 0 = true) (hy : y.isC 0 = true) (h : F [x, y] = some (.ok (.bl b), es)) : neO 0 F x y = some (.bl (!b)) := by
  unfold neO
  rw [binO_of hx hy h]; rfl
theorem twins_ok {zs : List Str} {ps E : List (Str × Str)} (h : okS zs) (hn : zs.Nodup) (h1 : 1 ≤ zs.length) (h5 : zs.length ≤ 5) (hp : ∀ p ∈ ps, p.1 ∈ zs ∧ p.2 ∈ zs) (hE : E = norm zs ps) :
    F__law_twins [wb false zs E, .lst false (sd zs), .lst false (pd ps), .lst false (pd E)] = some (.ok (.bl true), []) := by
  have hs : E.Sublist (offD zs zs) := by rw [hE]; exact norm_is zs ps
  have okp : okP E := in_okP h (sub_in hs)
  have hl := sub_len hn hs h5
  have nE : norm zs E = E := norm_sub hn hs
  have nEE : norm zs (E ++ E) = E := by rw [norm_congr (qs := E) (fun p => by simp), nE]
  have cz := lst_cl (sd_cl zs)
  have cp := lst_cl (pd_cl ps)
  have cE := lst_cl (pd_cl E)
  have t1 : tupleD [.lst false (sd zs)] = some (.tup (sd zs)) := by show some (D.tup (deepL (sd zs))) = _; rw [sd_deep]
  have t2 : tupleD [.lst false (pd ps)] = some (.tup (pd ps)) := by show some (D.tup (deepL (pd ps))) = _; rw [pd_deep]
  have i1 := init_ok (X := .tup (sd zs)) (Y := .tup (pd ps)) .t .t h hn h1 h5 hp
  rw [← hE] at i1
  have nk : ∀ ρ, newK 0 3 F_Web___init__ 2 1 (fun a b => a ++ b) [.tup (sd zs)] [.tup (pd ps)] ρ = some (.ok (wb true zs E), ρ) := fun ρ => by
    unfold newK
    rw [if_pos ⟨rfl, rfl, rfl⟩]
    show (match F_Web___init__ [.ins true 0 [] [], .tup (sd zs), .tup (pd ps)] with | some (.ok .non, [d]) => (some (Except.ok d, ρ) : Option (Except Exc D × Rho)) | _ => none) = _
    rw [i1]
  have nm : ∀ ρ, newM 0 3 F_Web___init__ [.lst false (sd zs), .lst false (pd E)] ρ = some (.ok (wb true zs E), ρ) := fun ρ => by
    have := mk_ok (X := .lst false (sd zs)) (Y := .lst false (pd E)) .l .l h hn h1 h5 (sub_in hs) ρ
    rw [nE] at this; exact this
  have wi := webis_ok h okp h5 (by omega : E.length ≤ 100)
  have ls : ∀ o xs, listD [.lst o xs] = some (.lst true xs) := fun _ _ => rfl
  have be := binO_of (wb_isC false zs E) (wb_isC false zs E) (eq_ok h okp)
  have bn := neO_of (wb_isC false zs E) (wb_isC false zs E) (eq_ok h okp)
  have bl := binO_of (wb_isC false zs E) (wb_isC false zs E) (le_ok h okp (by omega))
  have bo := binO_of (wb_isC false zs E) (wb_isC false zs E) (or_ok h hn h1 h5 (sub_in hs) (by omega))
  have ba := binO_of (wb_isC false zs E) (wb_isC false zs E) (and_ok h hn h1 h5 (sub_in hs) (by omega))
  rw [nEE] at bo
  rw [nE] at ba
  have cw := wb_cl zs E
  have dz : (D.tup (sd zs)).deep = .tup (sd zs) := by show D.tup (deepL (sd zs)) = _; rw [sd_deep]
  have dp : (D.tup (pd ps)).deep = .tup (pd ps) := by show D.tup (deepL (pd ps)) = _; rw [pd_deep]
  have lz3 : (2 : Nat) + 1 ≤ sizeLine := by rw [sizeLine_eq]; decide
  have lz4 : (3 : Nat) ≤ sizeLine := by rw [sizeLine_eq]; decide
  generalize hw : wb false zs E = Wd at *
  have dw : ∀ o, (wb o zs E).deep = Wd := fun o => by rw [wb_deep, hw]
  have dWd : Wd.deep = Wd := by rw [← hw, wb_deep]
  have inner : ∀ x6 x7, x6 = some Wd → ∃ ρ', sLoop (.nm 7) B__law_twins_1 [Wd, Wd, Wd] [some Wd, some (.lst false (sd zs)), some (.lst false (pd ps)), some (.lst false (pd E)), some Wd, some Wd, x6, x7] = some (.ok .nx, ρ') ∧ ∃ y, ρ' = [some Wd, some (.lst false (sd zs)), some (.lst false (pd ps)), some (.lst false (pd E)), some Wd, some Wd, some Wd, y] := by
    rintro x6 x7 rfl
    obtain ⟨ρ', e1, e2⟩ := sLoop_inv (t := .nm 7) (m := B__law_twins_1) [Wd, Wd, Wd] (fun i ρ => ∃ y, ρ = [some Wd, some (.lst false (sd zs)), some (.lst false (pd ps)), some (.lst false (pd E)), some Wd, some Wd, some Wd, y]) (fun i d ρ hd hq => by
      obtain ⟨y, rfl⟩ := hq
      have hdw : d = Wd := by
        have := List.mem_of_getElem? hd
        simpa using this
      subst hdw
      refine ⟨[some d, some (.lst false (sd zs)), some (.lst false (pd ps)), some (.lst false (pd E)), some d, some d, some d, some d], [some d, some (.lst false (sd zs)), some (.lst false (pd ps)), some (.lst false (pd E)), some d, some d, some d, some d], by simp [Tg.put, putAll], ?_, _, rfl⟩
      unfold B__law_twins_1
      simp [sSeq, sIf, mNot, mAnd, mOr, mB, mChain, mOp, mUn, mVar, mMv, mC, mIf, mBor, mCls, mCallN, mCons, mNil, mCall, callM, mAndV, mOrV, mNotV, M.bind, M.opt, M.ok, sNx, sRet, sRetN, sExpr, sAsg, putM, sAsgT, asgT, Tg.put, putAll, mLst, mTup, mApp, ownL, appS, mSeq, mRng1, mRng2, D.bool?, outM, pick, deepE, cw, be, bn, bl, truth_ok]) [some Wd, some (.lst false (sd zs)), some (.lst false (pd ps)), some (.lst false (pd E)), some Wd, some Wd, some Wd, x7] ⟨x7, rfl⟩
    exact ⟨ρ', e1, e2⟩
  obtain ⟨ρ', e1, y6, y7, rfl⟩ := sLoop_inv (t := .nm 6) (m := B__law_twins_2) [Wd, Wd, Wd] (fun i ρ => ∃ y z, ρ = [some Wd, some (.lst false (sd zs)), some (.lst false (pd ps)), some (.lst false (pd E)), some Wd, some Wd, y, z]) (fun i d ρ hd hq => by
    obtain ⟨y, z, rfl⟩ := hq
    have hdw : d = Wd := by
      have := List.mem_of_getElem? hd
      simpa using this
    subst hdw
    obtain ⟨ρ2, q1, y2, rfl⟩ := inner (some d) z rfl
    refine ⟨[some d, some (.lst false (sd zs)), some (.lst false (pd ps)), some (.lst false (pd E)), some d, some d, some d, z], [some d, some (.lst false (sd zs)), some (.lst false (pd ps)), some (.lst false (pd E)), some d, some d, some d, y2], by simp [Tg.put, putAll], ?_, _, _, rfl⟩
    unfold B__law_twins_2
    simp [sSeq, sIf, mNot, mAnd, mOr, mB, mChain, mOp, mUn, mVar, mMv, mC, mIf, mBor, mCls, mCallN, mCons, mNil, mCall, callM, mAndV, mOrV, mNotV, M.bind, M.opt, M.ok, sNx, sRet, sRetN, sExpr, sAsg, putM, sAsgT, asgT, Tg.put, putAll, mLst, mTup, mApp, ownL, appS, mSeq, mRng1, mRng2, D.bool?, outM, pick, deepE, cw, lz4, lst_deep, dl_cons, dl_nil, dWd, sFor, seq_l, q1]) [some Wd, some (.lst false (sd zs)), some (.lst false (pd ps)), some (.lst false (pd E)), some Wd, some Wd, none, none] ⟨none, none, rfl⟩
  unfold F__law_twins runDef
  simp [sSeq, sIf, mNot, mAnd, mOr, mB, mChain, mOp, mUn, mVar, mMv, mC, mIf, mBor, mCls, mCallN, mCons, mNil, mCall, callM, mAndV, mOrV, mNotV, M.bind, M.opt, M.ok, sNx, sRet, sRetN, sExpr, sAsg, putM, sAsgT, asgT, Tg.put, putAll, mLst, mTup, mApp, ownL, appS, mSeq, mRng1, mRng2, D.bool?, outM, pick, deepE, cw, cz, cp, cE, t1, t2, dz, dp, mMakeK, nk, dw, mMake, ls, lst_deep, sd_deep, pd_deep, nm, wi, lz4, dl_cons, dl_nil, dWd, sFor, seq_l, e1, bo, ba]
/-! ### numbers -/
theorem mulS_r (a k : Int) (h1 : -(2 ^ 64) < k) (h2 : k < 2 ^ 64) : mulSD (.int a) (.int k) = some (.int (a * k)) := by
  show (if (-(2 ^ 64) < a ∧ a < 2 ^ 64) ∨ (-(2 ^ 64) < k ∧ k < 2 ^ 64) then some (D.int (a * k)) else none) = _
  exact if_pos (.inr ⟨h1, h2⟩)
theorem pw_ok (i : Int) (n : Nat) (h : 0 ≤ (n : Int) ∧ (n : Int) ≤ 1000000 ∧ i.natAbs < 2 ^ 64) : powD (.int i) (.int n) = some (.int (i ^ n)) := by
  show (if 0 ≤ (n : Int) ∧ (n : Int) ≤ 1000000 ∧ i.natAbs < 2 ^ 64 then some (D.int (i ^ (n : Int).toNat)) else none) = _
  exact if_pos h
theorem geT (c T : Int) (h : T ≤ c) : geD (.int c) (.int T) = some (.bl true) := by show some (D.bl (decide (T ≤ c))) = _; rw [decide_eq_true h]
theorem geF (c T : Int) (h : ¬ T ≤ c) : geD (.int c) (.int T) = some (.bl false) := by show some (D.bl (decide (T ≤ c))) = _; rw [decide_eq_false h]
theorem mod_r (a k : Int) (h : k ≠ 0) : modD (.int a) (.int k) = some (.int (a.fmod k)) := by show (if k ≠ 0 then _ else _) = _; rw [if_pos h]
theorem fdiv_r (a k : Int) (h : k ≠ 0) (h2 : k.natAbs < 1073741824) : fdivD (.int a) (.int k) = some (.int (a.fdiv k)) := by show (if k ≠ 0 ∧ k.natAbs < 1073741824 then _ else _) = _; rw [if_pos ⟨h, h2⟩]
def fw (c salt many lim : Int) (xs : List Int) (l : Int) (y z : Option D) : Rho := [some (.int c), some (.int salt), some (.int many), some (.int lim), some (.lst true (xs.map .int)), some (.int l), y, z]
def m1F (c i salt : Int) : Int := (c * 31 + i * 57 + salt * 101 + 5).fmod 1009
def m2F (m i : Int) : Int := (m * m + i * 13 + 3).fmod 997
theorem row_step (c salt many lim i l : Int) (xs : List Int) (z : Option D) (hl0 : ¬ 0 < l) (hl : 0 < lim) (lt : xs.length < sizeLine) :
    B__law_row_1 (fw c salt many lim xs l (some (.int i)) z) = some (.ok .nx, fw c salt many lim (xs ++ [((m2F (m1F c i salt) i).fdiv 4).fmod lim]) l (some (.int i)) (some (.int (m2F (m1F c i salt) i)))) := by
  have hne : lim ≠ 0 := by omega
  have b1 : 0 ≤ m1F c i salt ∧ m1F c i salt < 1009 := ⟨Int.fmod_nonneg_of_pos _ (by decide), Int.fmod_lt_of_pos _ (by decide)⟩
  have g1 : modD (.int (c * 31 + i * 57 + salt * 101 + 5)) (.int 1009) = some (.int (m1F c i salt)) := mod_r _ _ (by decide)
  generalize m1F c i salt = m1 at *
  have k1 : mulSD (.int m1) (.int m1) = some (.int (m1 * m1)) := mulS_r _ _ (by omega) (by omega)
  have g2 : modD (.int (m1 * m1 + i * 13 + 3)) (.int 997) = some (.int (m2F m1 i)) := mod_r _ _ (by decide)
  generalize m2F m1 i = m2 at *
  have e1 : mulSD (.int c) (.int 31) = some (.int (c * 31)) := mulS_r _ _ (by decide) (by decide)
  have e2 : mulSD (.int i) (.int 57) = some (.int (i * 57)) := mulS_r _ _ (by decide) (by decide)
  have e3 : mulSD (.int salt) (.int 101) = some (.int (salt * 101)) := mulS_r _ _ (by decide) (by decide)
  have e4 : mulSD (.int i) (.int 13) = some (.int (i * 13)) := mulS_r _ _ (by decide) (by decide)
  have g3 : fdivD (.int m2) (.int 4) = some (.int (m2.fdiv 4)) := fdiv_r _ _ (by decide) (by decide)
  have g4 : modD (.int (m2.fdiv 4)) (.int lim) = some (.int ((m2.fdiv 4).fmod lim)) := mod_r _ _ hne
  unfold B__law_row_1 fw
  simp [sSeq, sIf, mNot, mAnd, mOr, mB, mChain, mOp, mUn, mVar, mMv, mC, mIf, mBor, mCls, mCallN, mCons, mNil, mCall, callM, mAndV, mOrV, mNotV, M.bind, M.opt, M.ok, sNx, sRet, sRetN, sExpr, sAsg, putM, sAsgT, asgT, Tg.put, putAll, mLst, mTup, mApp, ownL, appS, mSeq, mRng1, mRng2, D.bool?, outM, pick, deepE, int_cl, gtD, cmpD, hl0, intD, e1, e2, e3, e4, addD, g1, k1, g2, g3, g4, int_deep, List.map_append, lt]
theorem row_loop (c salt : Int) (many : Nat) (lim : Int) (hm : many ≤ 1000) (hl : 0 < lim) (hl2 : lim < 1000000) (hs : -1000 ≤ salt ∧ salt ≤ 1000) (l0 : Int) :
    ∃ ρ', sLoop (.nm 6) B__law_row_1 (rngL 0 many) (fw c salt many lim [] l0 none none) = some (.ok .nx, ρ') ∧ ∃ xs l y z, ρ' = fw c salt many lim xs l y z ∧ xs.length = many ∧ ∀ x ∈ xs, 0 ≤ x ∧ x < lim := by
  have hne : lim ≠ 0 := by omega
  have hna : lim.natAbs < 1073741824 := by omega
  have mr : ∀ a : Int, 0 ≤ a.fmod lim ∧ a.fmod lim < lim := fun a => ⟨Int.fmod_nonneg_of_pos a hl, Int.fmod_lt_of_pos a hl⟩
  have q := sLoop_inv (t := .nm 6) (m := B__law_row_1) (rngL 0 many) (fun i ρ => ∃ xs l y z, ρ = fw c salt many lim xs l y z ∧ xs.length = i ∧ ∀ x ∈ xs, 0 ≤ x ∧ x < lim) (fun i d ρ hd hq => by
    obtain ⟨xs, l, y, z, rfl, hxl, hxr⟩ := hq
    obtain ⟨hi, rfl⟩ := rng_get hd
    have lt : xs.length < sizeLine := by rw [sizeLine_eq]; omega
    have ap : ∀ v : Int, 0 ≤ v ∧ v < lim → (xs ++ [v]).length = i + 1 ∧ ∀ x ∈ xs ++ [v], 0 ≤ x ∧ x < lim := fun v h0 => ⟨by simp [hxl], fun x hx => by
      rcases List.mem_append.mp hx with hx | hx
      · exact hxr x hx
      · have : x = v := by simpa using hx
        subst this; exact h0⟩
    by_cases hl0 : 0 < l
    · refine ⟨fw c salt many lim xs l (some (.int i)) z, fw c salt many lim (xs ++ [l.fmod lim]) (l.fdiv lim) (some (.int i)) z, by simp [Tg.put, putAll, fw], ?_, _, _, _, _, rfl, ap _ (mr l)⟩
      unfold B__law_row_1 fw
      simp [sSeq, sIf, mNot, mAnd, mOr, mB, mChain, mOp, mUn, mVar, mMv, mC, mIf, mBor, mCls, mCallN, mCons, mNil, mCall, callM, mAndV, mOrV, mNotV, M.bind, M.opt, M.ok, sNx, sRet, sRetN, sExpr, sAsg, putM, sAsgT, asgT, Tg.put, putAll, mLst, mTup, mApp, ownL, appS, mSeq, mRng1, mRng2, D.bool?, outM, pick, deepE, int_cl, gtD, cmpD, hl0, intD, mod_r, fdiv_r, hne, hna, int_deep, List.map_append, lt]
    · exact ⟨fw c salt many lim xs l (some (.int i)) z, fw c salt many lim (xs ++ [((m2F (m1F c i salt) i).fdiv 4).fmod lim]) l (some (.int i)) (some (.int (m2F (m1F c i salt) i))), by simp [Tg.put, putAll, fw], row_step c salt many lim i l xs z hl0 hl lt, _, _, _, _, rfl, ap _ (mr _)⟩) (fw c salt many lim [] l0 none none) ⟨[], l0, none, none, rfl, rfl, fun x hx => nomatch hx⟩
  rw [rng_len] at q
  exact q
theorem row_top (c : Int) (x1 x2 x3 x4 x5 x6 x7 : Option D) : mB (mOp geD (mVar 0) (mOp powD (mC (.int 10)) (mC (.int 18)))) [some (.int c), x1, x2, x3, x4, x5, x6, x7] = some (.ok (decide (10 ^ 18 ≤ c)), [some (.int c), x1, x2, x3, x4, x5, x6, x7]) := by
  have pw : powD (.int 10) (.int 18) = some (.int (10 ^ 18)) := pw_ok 10 18 (by decide)
  have g : geD (.int c) (.int (10 ^ 18)) = some (.bl (decide (10 ^ 18 ≤ c))) := rfl
  generalize ((10 : Int) ^ 18) = T at *
  generalize powD = F at *
  simp [sSeq, sIf, mNot, mAnd, mOr, mB, mChain, mOp, mUn, mVar, mMv, mC, mIf, mBor, mCls, mCallN, mCons, mNil, mCall, callM, mAndV, mOrV, mNotV, M.bind, M.opt, M.ok, sNx, sRet, sRetN, sExpr, sAsg, putM, sAsgT, asgT, Tg.put, putAll, mLst, mTup, mApp, ownL, appS, mSeq, mRng1, mRng2, D.bool?, outM, pick, deepE, int_cl, pw, g]
section
variable (c salt N0 lim : Int)
theorem ra1 (x5 x6 x7 : Option D) : sAsg 4 (mLst mNil) [some (.int c), some (.int salt), some (.int N0), some (.int lim), none, x5, x6, x7] = some (.ok .nx, [some (.int c), some (.int salt), some (.int N0), some (.int lim), some (.lst true []), x5, x6, x7]) := by
  simp [sSeq, sIf, mNot, mAnd, mOr, mB, mChain, mOp, mUn, mVar, mMv, mC, mIf, mBor, mCls, mCallN, mCons, mNil, mCall, callM, mAndV, mOrV, mNotV, M.bind, M.opt, M.ok, sNx, sRet, sRetN, sExpr, sAsg, putM, sAsgT, asgT, Tg.put, putAll, mLst, mTup, mApp, ownL, appS, mSeq, mRng1, mRng2, D.bool?, outM, pick, deepE]
theorem ra2 (x4 x6 x7 : Option D) : sAsg 5 (mC (.int 0)) [some (.int c), some (.int salt), some (.int N0), some (.int lim), x4, none, x6, x7] = some (.ok .nx, [some (.int c), some (.int salt), some (.int N0), some (.int lim), x4, some (.int 0), x6, x7]) := by
  simp [sSeq, sIf, mNot, mAnd, mOr, mB, mChain, mOp, mUn, mVar, mMv, mC, mIf, mBor, mCls, mCallN, mCons, mNil, mCall, callM, mAndV, mOrV, mNotV, M.bind, M.opt, M.ok, sNx, sRet, sRetN, sExpr, sAsg, putM, sAsgT, asgT, Tg.put, putAll, mLst, mTup, mApp, ownL, appS, mSeq, mRng1, mRng2, D.bool?, outM, pick, deepE]
theorem ra3 (x4 x5 x6 x7 : Option D) : sAsg 5 (mCls (mVar 0)) [some (.int c), some (.int salt), some (.int N0), some (.int lim), x4, x5, x6, x7] = some (.ok .nx, [some (.int c), some (.int salt), some (.int N0), some (.int lim), x4, some (.int c), x6, x7]) := by
  simp [sSeq, sIf, mNot, mAnd, mOr, mB, mChain, mOp, mUn, mVar, mMv, mC, mIf, mBor, mCls, mCallN, mCons, mNil, mCall, callM, mAndV, mOrV, mNotV, M.bind, M.opt, M.ok, sNx, sRet, sRetN, sExpr, sAsg, putM, sAsgT, asgT, Tg.put, putAll, mLst, mTup, mApp, ownL, appS, mSeq, mRng1, mRng2, D.bool?, outM, pick, deepE, int_cl, int_deep]
theorem ra4 (xs : List D) (x5 x6 x7 : Option D) : outM [] (sRet (mMv 4) [some (.int c), some (.int salt), some (.int N0), some (.int lim), some (.lst true xs), x5, x6, x7]) = some (.ok (.lst true xs), []) := by
  simp [sSeq, sIf, mNot, mAnd, mOr, mB, mChain, mOp, mUn, mVar, mMv, mC, mIf, mBor, mCls, mCallN, mCons, mNil, mCall, callM, mAndV, mOrV, mNotV, M.bind, M.opt, M.ok, sNx, sRet, sRetN, sExpr, sAsg, putM, sAsgT, asgT, Tg.put, putAll, mLst, mTup, mApp, ownL, appS, mSeq, mRng1, mRng2, D.bool?, outM, pick, deepE]
end
theorem sSeq_ok {m n : MS} {ρ ρ' : Rho} (h : m ρ = some (.ok .nx, ρ')) : sSeq m n ρ = n ρ' := by
  unfold sSeq M.bind
  rw [h]
theorem sFor_ok {t : Tg} {r : M (List D)} {b : MS} {ds : List D} {ρ ρ' : Rho} (h : r ρ = some (.ok ds, ρ')) : sFor t r b ρ = sLoop t b ds ρ' := by
  unfold sFor M.bind
  rw [h]
theorem sIf_ok {mb : M Bool} {m n : MS} {b : Bool} {ρ ρ' : Rho} (h : mb ρ = some (.ok b, ρ')) : sIf mb m n ρ = (if b then m else n) ρ' := by
  unfold sIf M.bind
  rw [h]
theorem row_ok (c salt : Int) (many : Nat) (lim : Int) (hm : many ≤ 1000) (hl : 0 < lim) (hl2 : lim < 1000000) (hs : -1000 ≤ salt ∧ salt ≤ 1000) :
    ∃ xs : List Int, F__law_row [.int c, .int salt, .int many, .int lim] = some (.ok (.lst true (xs.map .int)), []) ∧ xs.length = many ∧ ∀ x ∈ xs, 0 ≤ x ∧ x < lim := by
  have tp := row_top c
  generalize hb : decide ((10 : Int) ^ 18 ≤ c) = b at *
  obtain ⟨ρ', e1, xs, l, y, z, rfl, el, er⟩ := row_loop c salt many lim hm hl hl2 hs (if b then c else 0)
  refine ⟨xs, ?_, el, er⟩
  have r1 : ∀ l, R__law_row_1 (fw c salt many lim [] l none none) = some (.ok (rngL 0 many), fw c salt many lim [] l none none) := fun l => by
    unfold R__law_row_1
    exact rng1_ok (by simp [sSeq, sIf, mNot, mAnd, mOr, mB, mChain, mOp, mUn, mVar, mMv, mC, mIf, mBor, mCls, mCallN, mCons, mNil, mCall, callM, mAndV, mOrV, mNotV, M.bind, M.opt, M.ok, sNx, sRet, sRetN, sExpr, sAsg, putM, sAsgT, asgT, Tg.put, putAll, mLst, mTup, mApp, ownL, appS, mSeq, mRng1, mRng2, D.bool?, outM, pick, deepE, int_cl, fw]) (by omega)
  have st : sIf (mB (mOp geD (mVar 0) (mOp powD (mC (.int 10)) (mC (.int 18))))) (sAsg 5 (mCls (mVar 0))) sNx [some (.int c), some (.int salt), some (.int many), some (.int lim), some (.lst true []), some (.int 0), none, none] = some (.ok .nx, fw c salt many lim [] (if b then c else 0) none none) := by
    rw [sIf_ok (tp _ _ _ _ _ _ _)]
    cases b with
    | true => exact ra3 _ _ _ _ _ _ _ _
    | false => rfl
  show outM [] (sSeq _ _ [some (.int c), some (.int salt), some (.int many), some (.int lim), none, none, none, none]) = _
  rw [sSeq_ok (ra1 _ _ _ _ _ _ _), sSeq_ok (ra2 _ _ _ _ _ _ _), sSeq_ok st, sSeq_ok ((sFor_ok (r1 _)).trans e1)]
  exact ra4 _ _ _ _ _ _ _ _

end K01

namespace K01
open PySem PySem.Spec L2 Ta
/-! ### texts of signs -/
def ofL (l : List Nat) : Str := ⟨l.toArray⟩
theorem ofL_inj {a b : List Nat} (h : ofL a = ofL b) : a = b := by
  have := congrArg (fun z : Str => z.cps.toList) h
  simpa [ofL] using this
theorem ofL_len (l : List Nat) : (ofL l).length = l.length := by simp [ofL, Str.length]
theorem ofL_ok {l : List Nat} (h : ∀ c ∈ l, c < 0x110000) : PyData.strOk (ofL l) = true := by
  unfold PyData.strOk ofL
  simp only [List.all_toArray]
  exact List.all_eq_true.mpr fun c hc => decide_eq_true (h c hc)
theorem add_ofL (a b : List Nat) (h : a.length + b.length ≤ 1000) : addD (.str (ofL a)) (.str (ofL b)) = some (.str (ofL (a ++ b))) := by
  have e : ofL a ++ ofL b = ofL (a ++ b) := by show Str.append _ _ = _; unfold Str.append ofL; simp
  show (if (ofL a).length + (ofL b).length ≤ sizeLine then some (D.str (ofL a ++ ofL b)) else none) = _
  rw [ofL_len, ofL_len, e]
  exact if_pos (by rw [sizeLine_eq]; omega)
theorem mul_ofL (c : Nat) (n : Nat) (h : n ≤ 1000) : mulSD (.str (ofL [c])) (.int n) = some (.str (ofL (List.replicate n c))) := by
  have e : repS (ofL [c]) n = ofL (List.replicate n c) := by
    unfold repS ofL
    have : ∀ n, (List.replicate n [c]).flatten = List.replicate n c := fun n => by
      induction n with
      | zero => rfl
      | succ n ih => rw [List.replicate_succ, List.flatten_cons, ih, List.replicate_succ]; rfl
    simp only [this]
  show (if (ofL [c]).length ≤ 1000 ∧ -1000 ≤ (n : Int) ∧ (n : Int) ≤ 1000 then some (D.str (repS (ofL [c]) (n : Int).toNat)) else none) = _
  rw [ofL_len, Int.toNat_natCast, e]
  exact if_pos ⟨by simp, by omega, by omega⟩
theorem ix_ofL {l : List Nat} {i c : Nat} (h : l[i]? = some c) (hl : l.length ≤ 1000) : idxD (.str (ofL l)) (.int i) = some (.str (ofL [c])) := by
  show (if (ofL l).length ≤ sizeLine then (atI (ofL l).cps.toList i).map fun c => D.str ⟨#[c]⟩ else none) = _
  rw [ofL_len, if_pos (by rw [sizeLine_eq]; omega)]
  have : (ofL l).cps.toList = l := by simp [ofL]
  rw [this, atI_nat h]; rfl
def sg1 : Str := " !\"#$&'()*+,-./0123456789:;<=>?@ABCDEFGHIJKLMNOPQRSTUVWXYZ"
def sg2 : Str := "[\\]^_`abcdefghijklmnopqrstuvwxyz{|}~"
def sgL : List Nat := sg1.cps.toList ++ sg2.cps.toList
theorem sg_len : sgL.length = 94 := by decide +kernel
theorem sg_nd : sgL.Nodup := by decide +kernel
theorem sg_lt : ∀ c ∈ sgL, c < 0x110000 := by decide +kernel
theorem sg_add : addD (.str sg1) (.str sg2) = some (.str (ofL sgL)) := by
  have a : sg1 = ofL sg1.cps.toList := by simp [ofL]
  have b : sg2 = ofL sg2.cps.toList := by simp [ofL]
  rw [a, b, add_ofL]
  · rfl
  · have := sg_len
    unfold sgL at this
    rw [List.length_append] at this
    have a' : sg1.cps.toList = (ofL sg1.cps.toList).cps.toList := by rw [← a]
    have b' : sg2.cps.toList = (ofL sg2.cps.toList).cps.toList := by rw [← b]
    omega
theorem sg_get {i : Nat} (h : i < 94) : ∃ c, sgL[i]? = some c ∧ c < 0x110000 :=
  ⟨sgL[i]'(by rw [sg_len]; exact h), List.getElem?_eq_getElem _, sg_lt _ (List.getElem_mem _)⟩
theorem sg_inj {i j c : Nat} (h1 : sgL[i]? = some c) (h2 : sgL[j]? = some c) (hi : i < 94) : i = j := by
  rw [← h1] at h2
  exact ((List.getElem?_inj (by rw [sg_len]; exact hi) sg_nd).mp h2.symm)
theorem lc_rng {t : Tg} {me : M D} {ρc : Rho} (zf : Nat → D) (n : Nat) (h : ∀ k < n, ∃ ρ1 ρ3, t.put (.int k) ρc = some ρ1 ∧ me ρ1 = some (.ok (zf k), ρ3)) : lcLoop t mYes me ρc (rngL 0 n) = some ((List.range n).map zf) := by
  rw [lcLoop_ok (fun _ => true) (fun d => match d with | .int i => zf i.toNat | _ => .non) (rngL 0 n) ?_]
  · unfold rngL
    rw [List.filter_eq_self.mpr (fun _ _ => rfl), List.map_map]
    congr 1
    apply List.map_congr_left
    intro k _
    show zf (0 + (k : Int)).toNat = zf k
    rw [Int.zero_add, Int.toNat_natCast]
  · intro d hd
    unfold rngL at hd
    obtain ⟨k, hk, rfl⟩ := List.mem_map.mp hd
    obtain ⟨ρ1, ρ3, e1, e2⟩ := h k (List.mem_range.mp hk)
    refine ⟨ρ1, ρ1, ?_, rfl, fun _ => ⟨ρ3, ?_⟩⟩
    · rw [Int.zero_add]; exact e1
    · rw [e2]
      show _ = some (Except.ok (zf (0 + (k : Int)).toNat), ρ3)
      rw [Int.zero_add, Int.toNat_natCast]
def nmF (zf : Nat → List Nat) (n : Nat) : List Str := (List.range n).map fun k => ofL (zf k)
theorem nmF_sd (zf n) : (List.range n).map (fun k => D.str (ofL (zf k))) = sd (nmF zf n) := by unfold sd nmF; rw [List.map_map]; rfl
theorem nmF_nd {zf : Nat → List Nat} {n : Nat} (h : ∀ i < n, ∀ j < n, zf i = zf j → i = j) : (nmF zf n).Nodup := by
  unfold nmF
  rw [List.nodup_iff_pairwise_ne, List.pairwise_map]
  exact (List.nodup_range).imp_of_mem fun ha hb hne e => hne (h _ (List.mem_range.mp ha) _ (List.mem_range.mp hb) (ofL_inj e))
theorem nmF_ok {zf : Nat → List Nat} {n : Nat} (h : ∀ i < n, ∀ c ∈ zf i, c < 0x110000) : okS (nmF zf n) := fun z hz => by
  obtain ⟨k, hk, rfl⟩ := List.mem_map.mp hz
  exact ofL_ok (h k (List.mem_range.mp hk))
/-! ### the names -/
def fnv (c salt many : Int) (ns : List D) (x5 x6 x7 x8 : Option D) : Rho := [some (.int c), some (.int salt), some (.int many), some (.str (ofL sgL)), some (.lst false ns), x5, x6, x7, x8]
theorem mod_n (a k m : Nat) (h : a % k = m) (hk : 0 < k) (A : Int) (hA : A = a) (K : Int) (hK : K = k) : modD (.int A) (.int K) = some (.int m) := by
  subst hA; subst hK
  rw [mod_r _ _ (by omega), Int.fmod_eq_emod_of_nonneg _ (by omega)]
  congr 2
  omega
section
variable (c salt N0 : Int) (L : D) (hL : L.cl = true)
include hL
theorem nmE1 (x5 x6 x7 : Option D) (k n1 n2 m : Int) (z r : Str) (i1 : idxD L (.int 1) = some (.int n1)) (i2 : idxD L (.int 2) = some (.int n2)) (i3 : idxD (.str (ofL sgL)) (.int n1) = some (.str z))
    (e1 : mulSD (.int k) (.int 3) = some (.int (k * 3))) (g1 : modD (.int (k * 3 + n2)) (.int 11) = some (.int m)) (m1 : mulSD (.str z) (.int (1 + m)) = some (.str r)) :
    E__law_names_1 [some (.int c), some (.int salt), some (.int N0), some (.str (ofL sgL)), some L, x5, x6, x7, some (.int k)] = some (.ok (.str r), [some (.int c), some (.int salt), some (.int N0), some (.str (ofL sgL)), some L, x5, x6, x7, some (.int k)]) := by
  unfold E__law_names_1
  simp [sSeq, sIf, mNot, mAnd, mOr, mB, mChain, mOp, mUn, mVar, mMv, mC, mIf, mBor, mCls, mCallN, mCons, mNil, mCall, callM, mAndV, mOrV, mNotV, M.bind, M.opt, M.ok, sNx, sRet, sRetN, sExpr, sAsg, putM, sAsgT, asgT, Tg.put, putAll, mLst, mTup, mApp, ownL, appS, mSeq, mRng1, mRng2, D.bool?, outM, pick, deepE, hL, int_cl, str_cl, i1, i2, i3, intD, addD, e1, g1, m1]
theorem nmE2 (k n1 st j : Int) (hd tl z w v : Str) (i1 : idxD L (.int 1) = some (.int n1)) (e1 : mulSD (.int k) (.int st) = some (.int (k * st))) (g1 : modD (.int (n1 + k * st)) (.int 94) = some (.int j)) (i3 : idxD (.str (ofL sgL)) (.int j) = some (.str z))
    (a1 : addD (.str hd) (.str z) = some (.str w)) (a2 : addD (.str w) (.str tl) = some (.str v)) :
    E__law_names_2 [some (.int c), some (.int salt), some (.int N0), some (.str (ofL sgL)), some L, some (.int st), some (.str hd), some (.str tl), some (.int k)] = some (.ok (.str v), [some (.int c), some (.int salt), some (.int N0), some (.str (ofL sgL)), some L, some (.int st), some (.str hd), some (.str tl), some (.int k)]) := by
  have ad : addD (.int n1) (.int (k * st)) = some (.int (n1 + k * st)) := rfl
  unfold E__law_names_2
  simp [sSeq, sIf, mNot, mAnd, mOr, mB, mChain, mOp, mUn, mVar, mMv, mC, mIf, mBor, mCls, mCallN, mCons, mNil, mCall, callM, mAndV, mOrV, mNotV, M.bind, M.opt, M.ok, sNx, sRet, sRetN, sExpr, sAsg, putM, sAsgT, asgT, Tg.put, putAll, mLst, mTup, mApp, ownL, appS, mSeq, mRng1, mRng2, D.bool?, outM, pick, deepE, hL, int_cl, str_cl, i1, i3, intD, ad, e1, g1, a1, a2]
end
theorem nm1 (c salt N0 : Int) (L : D) (hL : L.cl = true) (many n1 n2 c1 : Nat) (i1 : idxD L (.int 1) = some (.int n1)) (i2 : idxD L (.int 2) = some (.int n2)) (h1 : sgL[n1]? = some c1) (x5 x6 x7 : Option D) :
    lcLoop (.nm 8) mYes E__law_names_1 [some (.int c), some (.int salt), some (.int N0), some (.str (ofL sgL)), some L, x5, x6, x7, none] (rngL 0 many) = some (sd (nmF (fun k => List.replicate (1 + (k * 3 + n2) % 11) c1) many)) := by
  rw [lc_rng (fun k => .str (ofL (List.replicate (1 + (k * 3 + n2) % 11) c1))) many ?_, ← nmF_sd]
  intro k hk
  refine ⟨_, _, rfl, nmE1 c salt N0 L hL x5 x6 x7 k n1 n2 ((k * 3 + n2) % 11 : Nat) (ofL [c1]) _ i1 i2 (ix_ofL h1 (by rw [sg_len]; decide)) (mulS_r k 3 (by decide) (by decide)) (mod_n _ 11 _ rfl (by decide) _ (by omega) _ rfl) ?_⟩
  have m1 := mul_ofL c1 (1 + (k * 3 + n2) % 11) (by omega)
  have ee : (((1 + (k * 3 + n2) % 11 : Nat) : Int)) = 1 + (((k * 3 + n2) % 11 : Nat) : Int) := by omega
  rw [ee] at m1
  exact m1
def ccF (n1 st k : Nat) : Nat := sgL.getD ((n1 + k * st) % 94) 0
theorem ccF_get (n1 st k : Nat) : sgL[(n1 + k * st) % 94]? = some (ccF n1 st k) := by
  obtain ⟨x, hx, _⟩ := sg_get (Nat.mod_lt (n1 + k * st) (by decide : 0 < 94))
  unfold ccF
  rw [List.getD_eq_getElem?_getD, hx]; rfl
theorem nm2 (c salt N0 : Int) (L : D) (hL : L.cl = true) (many n1 st : Nat) (hd tl : List Nat) (h1 : hd.length ≤ 3) (h2 : tl.length ≤ 3) (hs : st ≤ 100) (i1 : idxD L (.int 1) = some (.int n1)) :
    lcLoop (.nm 8) mYes E__law_names_2 [some (.int c), some (.int salt), some (.int N0), some (.str (ofL sgL)), some L, some (.int st), some (.str (ofL hd)), some (.str (ofL tl)), none] (rngL 0 many) = some (sd (nmF (fun k => hd ++ [ccF n1 st k] ++ tl) many)) := by
  rw [lc_rng (fun k => .str (ofL (hd ++ [ccF n1 st k] ++ tl))) many ?_, ← nmF_sd]
  intro k hk
  refine ⟨_, _, rfl, nmE2 c salt N0 L hL k n1 st ((n1 + k * st) % 94 : Nat) _ _ (ofL [ccF n1 st k]) _ _ i1 (mulS_r k st (by omega) (by omega)) (mod_n _ 94 _ rfl (by decide) _ (by rw [Int.natCast_add, Int.natCast_mul]) _ rfl) (ix_ofL (ccF_get n1 st k) (by rw [sg_len]; decide)) (add_ofL _ _ (by simp; omega)) (add_ofL _ _ (by simp; omega))⟩
theorem nodup1 (n2 c1 many : Nat) (hm : many ≤ 5) : (nmF (fun k => List.replicate (1 + (k * 3 + n2) % 11) c1) many).Nodup := nmF_nd fun i hi j hj e => by
  have := congrArg List.length e
  simp only [List.length_replicate] at this
  omega
theorem nodup2 (n1 st many : Nat) (hd tl : List Nat) (hm : many ≤ 5) (hs : st = 1 ∨ st = 5 ∨ st = 27 ∨ st = 93) : (nmF (fun k => hd ++ [ccF n1 st k] ++ tl) many).Nodup := nmF_nd fun i hi j hj e => by
  have e2 : ccF n1 st i = ccF n1 st j := by simpa using e
  have q := ccF_get n1 st i
  rw [e2] at q
  have := sg_inj q (ccF_get n1 st j) (Nat.mod_lt _ (by decide))
  rcases hs with rfl | rfl | rfl | rfl <;> omega
theorem ccF_lt (n1 st k : Nat) : ccF n1 st k < 0x110000 := sg_lt _ (List.mem_of_getElem? (ccF_get n1 st k))
section
variable (c salt N0 : Int)
theorem na1 : sAsg 3 (mC (.str sg1)) [some (.int c), some (.int salt), some (.int N0), none, none, none, none, none, none] = some (.ok .nx, [some (.int c), some (.int salt), some (.int N0), some (.str sg1), none, none, none, none, none]) := by
  simp [sSeq, sIf, mNot, mAnd, mOr, mB, mChain, mOp, mUn, mVar, mMv, mC, mIf, mBor, mCls, mCallN, mCons, mNil, mCall, callM, mAndV, mOrV, mNotV, M.bind, M.opt, M.ok, sNx, sRet, sRetN, sExpr, sAsg, putM, sAsgT, asgT, Tg.put, putAll, mLst, mTup, mApp, ownL, appS, mSeq, mRng1, mRng2, D.bool?, outM, pick, deepE]
theorem na2 : sAsg 3 (mCls (mOp addD (mVar 3) (mC (.str sg2)))) [some (.int c), some (.int salt), some (.int N0), some (.str sg1), none, none, none, none, none] = some (.ok .nx, [some (.int c), some (.int salt), some (.int N0), some (.str (ofL sgL)), none, none, none, none, none]) := by
  simp [sSeq, sIf, mNot, mAnd, mOr, mB, mChain, mOp, mUn, mVar, mMv, mC, mIf, mBor, mCls, mCallN, mCons, mNil, mCall, callM, mAndV, mOrV, mNotV, M.bind, M.opt, M.ok, sNx, sRet, sRetN, sExpr, sAsg, putM, sAsgT, asgT, Tg.put, putAll, mLst, mTup, mApp, ownL, appS, mSeq, mRng1, mRng2, D.bool?, outM, pick, deepE, str_cl, sg_add, str_deep]
theorem na3 {R L : D} (er : F__law_row [.int c, .int salt, .int 6, .int 94] = some (.ok R, [])) (hR : R.deep = L) : sAsg 4 (mCls (mCall 4 F__law_row [] (mCons (mVar 0) (mCons (mVar 1) (mCons (mC (.int 6)) (mCons (mC (.int 94)) mNil)))))) [some (.int c), some (.int salt), some (.int N0), some (.str (ofL sgL)), none, none, none, none, none] = some (.ok .nx, [some (.int c), some (.int salt), some (.int N0), some (.str (ofL sgL)), some L, none, none, none, none]) := by
  simp [sSeq, sIf, mNot, mAnd, mOr, mB, mChain, mOp, mUn, mVar, mMv, mC, mIf, mBor, mCls, mCallN, mCons, mNil, mCall, callM, mAndV, mOrV, mNotV, M.bind, M.opt, M.ok, sNx, sRet, sRetN, sExpr, sAsg, putM, sAsgT, asgT, Tg.put, putAll, mLst, mTup, mApp, ownL, appS, mSeq, mRng1, mRng2, D.bool?, outM, pick, deepE, int_cl, er, hR]
variable (L : D) (hL : L.cl = true)
include hL
theorem na4 {n5 m : Int} (i5 : idxD L (.int 5) = some (.int n5)) (g : modD (.int n5) (.int 4) = some (.int m)) (hl : leD (.int N0) (.int 11) = some (.bl true)) (x5 x6 x7 x8 : Option D) :
    mAnd (mB (mOp eqD (mOp modD (mCallN intD (mCons (mOp idxD (mVar 4) (mC (.int 5))) mNil)) (mC (.int 4))) (mC (.int 0)))) (mB (mOp leD (mVar 2) (mC (.int 11)))) [some (.int c), some (.int salt), some (.int N0), some (.str (ofL sgL)), some L, x5, x6, x7, x8] = some (.ok (decide (m = 0)), [some (.int c), some (.int salt), some (.int N0), some (.str (ofL sgL)), some L, x5, x6, x7, x8]) := by
  by_cases h : m = 0
  · simp [sSeq, sIf, mNot, mAnd, mOr, mB, mChain, mOp, mUn, mVar, mMv, mC, mIf, mBor, mCls, mCallN, mCons, mNil, mCall, callM, mAndV, mOrV, mNotV, M.bind, M.opt, M.ok, sNx, sRet, sRetN, sExpr, sAsg, putM, sAsgT, asgT, Tg.put, putAll, mLst, mTup, mApp, ownL, appS, mSeq, mRng1, mRng2, D.bool?, outM, pick, deepE, hL, int_cl, i5, intD, g, eqD, eq_int, h, hl]
  · simp [sSeq, sIf, mNot, mAnd, mOr, mB, mChain, mOp, mUn, mVar, mMv, mC, mIf, mBor, mCls, mCallN, mCons, mNil, mCall, callM, mAndV, mOrV, mNotV, M.bind, M.opt, M.ok, sNx, sRet, sRetN, sExpr, sAsg, putM, sAsgT, asgT, Tg.put, putAll, mLst, mTup, mApp, ownL, appS, mSeq, mRng1, mRng2, D.bool?, outM, pick, deepE, hL, int_cl, i5, intD, g, eqD, eq_int, h, hl]
theorem na5 {n0 m st : Int} (i0 : idxD L (.int 0) = some (.int n0)) (g : modD (.int n0) (.int 4) = some (.int m)) (s : idxD (.lst true [.int 1, .int 5, .int 27, .int 93]) (.int m) = some (.int st)) :
    sAsg 5 (mCls (mOp idxD (mLst (mCons (mC (.int 1)) (mCons (mC (.int 5)) (mCons (mC (.int 27)) (mCons (mC (.int 93)) mNil))))) (mOp modD (mCallN intD (mCons (mOp idxD (mVar 4) (mC (.int 0))) mNil)) (mC (.int 4))))) [some (.int c), some (.int salt), some (.int N0), some (.str (ofL sgL)), some L, none, none, none, none] = some (.ok .nx, [some (.int c), some (.int salt), some (.int N0), some (.str (ofL sgL)), some L, some (.int st), none, none, none]) := by
  have lz : (4 : Nat) ≤ sizeLine := by rw [sizeLine_eq]; decide
  simp [sSeq, sIf, mNot, mAnd, mOr, mB, mChain, mOp, mUn, mVar, mMv, mC, mIf, mBor, mCls, mCallN, mCons, mNil, mCall, callM, mAndV, mOrV, mNotV, M.bind, M.opt, M.ok, sNx, sRet, sRetN, sExpr, sAsg, putM, sAsgT, asgT, Tg.put, putAll, mLst, mTup, mApp, ownL, appS, mSeq, mRng1, mRng2, D.bool?, outM, pick, deepE, hL, int_cl, i0, intD, g, s, int_deep, lz, dl_cons, dl_nil]
theorem na6 {n1 n2 m : Int} {z hd : Str} (i1 : idxD L (.int 1) = some (.int n1)) (i3 : idxD (.str (ofL sgL)) (.int n1) = some (.str z)) (i2 : idxD L (.int 2) = some (.int n2)) (g : modD (.int n2) (.int 4) = some (.int m)) (s : mulSD (.str z) (.int m) = some (.str hd)) (x5 : Option D) :
    sAsg 6 (mCls (mOp mulSD (mOp idxD (mVar 3) (mOp idxD (mVar 4) (mC (.int 1)))) (mOp modD (mCallN intD (mCons (mOp idxD (mVar 4) (mC (.int 2))) mNil)) (mC (.int 4))))) [some (.int c), some (.int salt), some (.int N0), some (.str (ofL sgL)), some L, x5, none, none, none] = some (.ok .nx, [some (.int c), some (.int salt), some (.int N0), some (.str (ofL sgL)), some L, x5, some (.str hd), none, none]) := by
  simp [sSeq, sIf, mNot, mAnd, mOr, mB, mChain, mOp, mUn, mVar, mMv, mC, mIf, mBor, mCls, mCallN, mCons, mNil, mCall, callM, mAndV, mOrV, mNotV, M.bind, M.opt, M.ok, sNx, sRet, sRetN, sExpr, sAsg, putM, sAsgT, asgT, Tg.put, putAll, mLst, mTup, mApp, ownL, appS, mSeq, mRng1, mRng2, D.bool?, outM, pick, deepE, hL, int_cl, str_cl, i1, i2, i3, intD, g, s, str_deep]
theorem na7 {n1 n2 m : Int} {z hd : Str} (i1 : idxD L (.int 3) = some (.int n1)) (i3 : idxD (.str (ofL sgL)) (.int n1) = some (.str z)) (i2 : idxD L (.int 4) = some (.int n2)) (g : modD (.int n2) (.int 4) = some (.int m)) (s : mulSD (.str z) (.int m) = some (.str hd)) (x5 x6 : Option D) :
    sAsg 7 (mCls (mOp mulSD (mOp idxD (mVar 3) (mOp idxD (mVar 4) (mC (.int 3)))) (mOp modD (mCallN intD (mCons (mOp idxD (mVar 4) (mC (.int 4))) mNil)) (mC (.int 4))))) [some (.int c), some (.int salt), some (.int N0), some (.str (ofL sgL)), some L, x5, x6, none, none] = some (.ok .nx, [some (.int c), some (.int salt), some (.int N0), some (.str (ofL sgL)), some L, x5, x6, some (.str hd), none]) := by
  simp [sSeq, sIf, mNot, mAnd, mOr, mB, mChain, mOp, mUn, mVar, mMv, mC, mIf, mBor, mCls, mCallN, mCons, mNil, mCall, callM, mAndV, mOrV, mNotV, M.bind, M.opt, M.ok, sNx, sRet, sRetN, sExpr, sAsg, putM, sAsgT, asgT, Tg.put, putAll, mLst, mTup, mApp, ownL, appS, mSeq, mRng1, mRng2, D.bool?, outM, pick, deepE, hL, int_cl, str_cl, i1, i2, i3, intD, g, s, str_deep]
end
theorem mLc_ok {own : List Nat} {t : Tg} {mi : M (List D)} {mt : M Bool} {me : M D} {ρ ρ' ρc : Rho} {ds ys : List D} (h : mi ρ = some (.ok ds, ρ')) (hw : wipeE (clE ρ') own = ρc) (h2 : lcLoop t mt me ρc ds = some ys) (h3 : ds.length ≤ 16777000) : mLc own t mi mt me ρ = some (.ok (.lst true ys), ρ') := by
  unfold mLc M.bind
  rw [h]
  dsimp only
  rw [hw, h2]
  exact if_pos h3
theorem sRet_ok {m : M D} {ρ ρ' : Rho} {d : D} (h : m ρ = some (.ok d, ρ')) : outM [] (sRet m ρ) = some (.ok d, []) := by
  unfold sRet M.bind
  rw [h]; rfl
theorem sRet_ok' {m : M D} {ρ ρ' : Rho} {d : D} (h : m ρ = some (.ok d, ρ')) : sRet m ρ = some (.ok (.ret d), ρ') := by
  unfold sRet M.bind
  rw [h]; rfl
theorem sSeq_ret {m n : MS} {ρ ρ' : Rho} {d : D} (h : m ρ = some (.ok (.ret d), ρ')) : outM [] (sSeq m n ρ) = some (.ok d, []) := by
  unfold sSeq M.bind
  rw [h]; rfl
theorem sIf_t {mb : M Bool} {m n : MS} {b : Bool} {ρ ρ' : Rho} (h : mb ρ = some (.ok b, ρ')) (hb : b = true) : sIf mb m n ρ = m ρ' := by
  rw [sIf_ok h, hb]; rfl
theorem names_ok (c salt : Int) (many : Nat) (hm : many ≤ 5) (hs : -1000 ≤ salt ∧ salt ≤ 1000) :
    ∃ zs : List Str, F__law_names [.int c, .int salt, .int many] = some (.ok (.lst true (sd zs)), []) ∧ zs.length = many ∧ zs.Nodup ∧ okS zs := by
  obtain ⟨xs, er, el, eb⟩ := row_ok c salt 6 94 (by decide) (by decide) (by decide) hs
  obtain ⟨a0, a1, a2, a3, a4, a5, rfl⟩ : ∃ a0 a1 a2 a3 a4 a5, xs = [a0, a1, a2, a3, a4, a5] := by
    match xs, el with
    | [a0, a1, a2, a3, a4, a5], _ => exact ⟨_, _, _, _, _, _, rfl⟩
  simp only [List.mem_cons, List.not_mem_nil, or_false, forall_eq_or_imp, forall_eq] at eb
  obtain ⟨b0, b1, b2, b3, b4, b5⟩ := eb
  obtain ⟨n0, rfl⟩ := Int.eq_ofNat_of_zero_le b0.1
  obtain ⟨n1, rfl⟩ := Int.eq_ofNat_of_zero_le b1.1
  obtain ⟨n2, rfl⟩ := Int.eq_ofNat_of_zero_le b2.1
  obtain ⟨n3, rfl⟩ := Int.eq_ofNat_of_zero_le b3.1
  obtain ⟨n4, rfl⟩ := Int.eq_ofNat_of_zero_le b4.1
  obtain ⟨n5, rfl⟩ := Int.eq_ofNat_of_zero_le b5.1
  have er' : F__law_row [.int c, .int salt, .int 6, .int 94] = some (.ok (.lst true [.int n0, .int n1, .int n2, .int n3, .int n4, .int n5]), []) := er
  have hR : (D.lst true [.int n0, .int n1, .int n2, .int n3, .int n4, .int n5]).deep = .lst false [.int n0, .int n1, .int n2, .int n3, .int n4, .int n5] := rfl
  have hL : (D.lst false [.int n0, .int n1, .int n2, .int n3, .int n4, .int n5]).cl = true := rfl
  have i0 : idxD (.lst false [.int n0, .int n1, .int n2, .int n3, .int n4, .int n5]) (.int 0) = some (.int n0) := rfl
  have i1 : idxD (.lst false [.int n0, .int n1, .int n2, .int n3, .int n4, .int n5]) (.int 1) = some (.int n1) := rfl
  have i2 : idxD (.lst false [.int n0, .int n1, .int n2, .int n3, .int n4, .int n5]) (.int 2) = some (.int n2) := rfl
  have i3 : idxD (.lst false [.int n0, .int n1, .int n2, .int n3, .int n4, .int n5]) (.int 3) = some (.int n3) := rfl
  have i4 : idxD (.lst false [.int n0, .int n1, .int n2, .int n3, .int n4, .int n5]) (.int 4) = some (.int n4) := rfl
  have i5 : idxD (.lst false [.int n0, .int n1, .int n2, .int n3, .int n4, .int n5]) (.int 5) = some (.int n5) := rfl
  generalize D.lst false [.int n0, .int n1, .int n2, .int n3, .int n4, .int n5] = L at *
  generalize D.lst true [.int n0, .int n1, .int n2, .int n3, .int n4, .int n5] = R at *
  obtain ⟨c1, hc1, lc1⟩ := sg_get (i := n1) (by omega)
  obtain ⟨c3, hc3, lc3⟩ := sg_get (i := n3) (by omega)
  have hl : leD (.int many) (.int 11) = some (.bl true) := by show some (D.bl (decide ((many : Int) ≤ 11))) = _; rw [decide_eq_true (by omega)]
  have g5 : modD (.int n5) (.int 4) = some (.int (n5 % 4 : Nat)) := mod_n n5 4 _ rfl (by decide) _ rfl _ rfl
  have g0 : modD (.int n0) (.int 4) = some (.int (n0 % 4 : Nat)) := mod_n n0 4 _ rfl (by decide) _ rfl _ rfl
  have g2 : modD (.int n2) (.int 4) = some (.int (n2 % 4 : Nat)) := mod_n n2 4 _ rfl (by decide) _ rfl _ rfl
  have g4 : modD (.int n4) (.int 4) = some (.int (n4 % 4 : Nat)) := mod_n n4 4 _ rfl (by decide) _ rfl _ rfl
  have rg : ∀ x5 x6 x7 x8, mRng1 (mCons (mVar 2) mNil) [some (.int c), some (.int salt), some (.int many), some (.str (ofL sgL)), some L, x5, x6, x7, x8] = some (.ok (rngL 0 many), [some (.int c), some (.int salt), some (.int many), some (.str (ofL sgL)), some L, x5, x6, x7, x8]) := fun x5 x6 x7 x8 => by
    refine rng1_ok ?_ (by omega)
    generalize (many : Int) = N0
    simp [sSeq, sIf, mNot, mAnd, mOr, mB, mChain, mOp, mUn, mVar, mMv, mC, mIf, mBor, mCls, mCallN, mCons, mNil, mCall, callM, mAndV, mOrV, mNotV, M.bind, M.opt, M.ok, sNx, sRet, sRetN, sExpr, sAsg, putM, sAsgT, asgT, Tg.put, putAll, mLst, mTup, mApp, ownL, appS, mSeq, mRng1, mRng2, D.bool?, outM, pick, deepE, int_cl]
  have rl : (rngL 0 many).length ≤ 16777000 := by rw [rng_len]; omega
  have start : ∀ m : MS, outM [] (sSeq (sAsg 3 (mC (.str sg1))) (sSeq (sAsg 3 (mCls (mOp addD (mVar 3) (mC (.str sg2))))) (sSeq (sAsg 4 (mCls (mCall 4 F__law_row [] (mCons (mVar 0) (mCons (mVar 1) (mCons (mC (.int 6)) (mCons (mC (.int 94)) mNil))))))) m)) [some (.int c), some (.int salt), some (.int many), none, none, none, none, none, none]) = outM [] (m [some (.int c), some (.int salt), some (.int many), some (.str (ofL sgL)), some L, none, none, none, none]) := fun m => by
    rw [sSeq_ok (na1 _ _ _), sSeq_ok (na2 _ _ _), sSeq_ok (na3 _ _ _ er' hR)]
  by_cases h5 : n5 % 4 = 0
  · refine ⟨nmF (fun k => List.replicate (1 + (k * 3 + n2) % 11) c1) many, ?_, by unfold nmF; rw [List.length_map, List.length_range], nodup1 n2 c1 many hm, nmF_ok fun i _ x hx => by rw [List.eq_of_mem_replicate hx]; exact lc1⟩
    unfold F__law_names
    refine (start _).trans ?_
    have iff : ∀ m n : MS, sIf (mAnd (mB (mOp eqD (mOp modD (mCallN intD (mCons (mOp idxD (mVar 4) (mC (.int 5))) mNil)) (mC (.int 4))) (mC (.int 0)))) (mB (mOp leD (mVar 2) (mC (.int 11))))) m n [some (.int c), some (.int salt), some (.int many), some (.str (ofL sgL)), some L, none, none, none, none] = m [some (.int c), some (.int salt), some (.int many), some (.str (ofL sgL)), some L, none, none, none, none] := fun m n => by
      exact sIf_t (na4 _ _ _ _ hL i5 g5 hl _ _ _ _) (decide_eq_true (by rw [h5]; rfl))
    have lm := mLc_ok (own := [8]) (rg none none none none) (by simp only [clE_cons, clE_nil, cl1_some hL, cl1_none]; rfl) (nm1 c salt many L hL many n1 n2 c1 i1 i2 hc1 none none none) rl
    exact sSeq_ret ((iff _ _).trans (sRet_ok' lm))
  · obtain ⟨st, hst, s5⟩ : ∃ st : Nat, (st = 1 ∨ st = 5 ∨ st = 27 ∨ st = 93) ∧ idxD (.lst true [.int 1, .int 5, .int 27, .int 93]) (.int (n0 % 4 : Nat)) = some (.int st) := by
      have : n0 % 4 < 4 := Nat.mod_lt _ (by decide)
      generalize n0 % 4 = q at *
      match q, this with
      | 0, _ => exact ⟨1, .inl rfl, rfl⟩
      | 1, _ => exact ⟨5, .inr (.inl rfl), rfl⟩
      | 2, _ => exact ⟨27, .inr (.inr (.inl rfl)), rfl⟩
      | 3, _ => exact ⟨93, .inr (.inr (.inr rfl)), rfl⟩
    have l2 : (List.replicate (n2 % 4) c1).length ≤ 3 := by rw [List.length_replicate]; omega
    have l4 : (List.replicate (n4 % 4) c3).length ≤ 3 := by rw [List.length_replicate]; omega
    refine ⟨nmF (fun k => List.replicate (n2 % 4) c1 ++ [ccF n1 st k] ++ List.replicate (n4 % 4) c3) many, ?_, by unfold nmF; rw [List.length_map, List.length_range], nodup2 n1 st many _ _ hm hst, nmF_ok fun i _ x hx => by
      rcases List.mem_append.mp hx with hx | hx
      · rcases List.mem_append.mp hx with hx | hx
        · rw [List.eq_of_mem_replicate hx]; exact lc1
        · rw [List.mem_singleton.mp hx]; exact ccF_lt _ _ _
      · rw [List.eq_of_mem_replicate hx]; exact lc3⟩
    unfold F__law_names
    refine (start _).trans ?_
    have iff : ∀ m : MS, sIf (mAnd (mB (mOp eqD (mOp modD (mCallN intD (mCons (mOp idxD (mVar 4) (mC (.int 5))) mNil)) (mC (.int 4))) (mC (.int 0)))) (mB (mOp leD (mVar 2) (mC (.int 11))))) m sNx [some (.int c), some (.int salt), some (.int many), some (.str (ofL sgL)), some L, none, none, none, none] = some (.ok .nx, [some (.int c), some (.int salt), some (.int many), some (.str (ofL sgL)), some L, none, none, none, none]) := fun m => by
      rw [sIf_ok (na4 _ _ _ _ hL i5 g5 hl _ _ _ _), decide_eq_false (by omega)]; rfl
    have lm := mLc_ok (own := [8]) (rg (some (.int st)) (some (.str (ofL (List.replicate (n2 % 4) c1)))) (some (.str (ofL (List.replicate (n4 % 4) c3)))) none) (by simp only [clE_cons, clE_nil, cl1_some hL, cl1_none]; rfl) (nm2 c salt many L hL many n1 st _ _ l2 l4 (by omega) i1) rl
    refine (congrArg (outM []) (sSeq_ok (iff _))).trans ?_
    refine (congrArg (outM []) (sSeq_ok (na5 _ _ _ _ hL i0 g0 s5))).trans ?_
    refine (congrArg (outM []) (sSeq_ok (na6 _ _ _ _ hL i1 (ix_ofL hc1 (by rw [sg_len]; decide)) i2 g2 (mul_ofL c1 _ (by omega)) _))).trans ?_
    refine (congrArg (outM []) (sSeq_ok (na7 _ _ _ _ hL i3 (ix_ofL hc3 (by rw [sg_len]; decide)) i4 g4 (mul_ofL c3 _ (by omega)) _ _))).trans ?_
    exact sRet_ok lm

end K01

namespace K01
open PySem PySem.Spec L2 Ta
def fd (Z : D) (E1 E2 : List (Str × Str)) (x3 x5 : Option D) : Rho := [some Z, some (.lst true (pd E1)), some (.lst true (pd E2)), x3, none, x5, none, none, none, none]
theorem db_step (Z : D) (hZ : Z.cl = true) (E1 E2 : List (Str × Str)) (k j : Int) (a b : Str) (ik : idxD Z (.int k) = some (.str a)) (ij : idxD Z (.int j) = some (.str b)) (l1 : E1.length < 1000) (l2 : E2.length < 1000) :
    B__law_doors_1 (fd Z E1 E2 (some (.int k)) (some (.int j))) = some (.ok .nx, fd Z (if k ≠ j then E1 ++ [(a, b)] else E1) (if j = k + 1 then E2 ++ [(a, b)] else E2) (some (.int k)) (some (.int j))) := by
  have ad : addD (.int k) (.int 1) = some (.int (k + 1)) := rfl
  have q1 : (pd E1).length < sizeLine := by rw [pd_len, sizeLine_eq]; omega
  have q2 : (pd E2).length < sizeLine := by rw [pd_len, sizeLine_eq]; omega
  have lz : (2 : Nat) ≤ sizeLine := by rw [sizeLine_eq]; decide
  have p1 : ∀ E : List (Str × Str), pd (E ++ [(a, b)]) = pd E ++ [.tup [.str a, .str b]] := fun E => pd_app _ _
  have ee : eqB (.int k) (.int j) = some (decide (k = j)) := rfl
  have ef : eqB (.int j) (.int (k + 1)) = some (decide (j = k + 1)) := rfl
  generalize hk1 : k + 1 = k1 at *
  unfold B__law_doors_1 fd
  by_cases hk : k = j
  · have hj : ¬ j = k1 := by omega
    rw [if_neg (not_not_intro hk), if_neg hj]
    rw [decide_eq_true hk] at ee
    rw [decide_eq_false hj] at ef
    simp [sSeq, sIf, mNot, mAnd, mOr, mB, mChain, mOp, mUn, mVar, mMv, mC, mIf, mBor, mCls, mCallN, mCons, mNil, mCall, callM, mAndV, mOrV, mNotV, M.bind, M.opt, M.ok, sNx, sRet, sRetN, sExpr, sAsg, putM, sAsgT, asgT, Tg.put, putAll, mLst, mTup, mApp, ownL, appS, mSeq, mRng1, mRng2, D.bool?, outM, pick, deepE, hZ, int_cl, neD, eqD, ee, ef, ad]
  · rw [if_pos hk, p1]
    rw [decide_eq_false hk] at ee
    by_cases hj : j = k1
    · rw [if_pos hj, p1]
      rw [decide_eq_true hj] at ef
      simp [sSeq, sIf, mNot, mAnd, mOr, mB, mChain, mOp, mUn, mVar, mMv, mC, mIf, mBor, mCls, mCallN, mCons, mNil, mCall, callM, mAndV, mOrV, mNotV, M.bind, M.opt, M.ok, sNx, sRet, sRetN, sExpr, sAsg, putM, sAsgT, asgT, Tg.put, putAll, mLst, mTup, mApp, ownL, appS, mSeq, mRng1, mRng2, D.bool?, outM, pick, deepE, hZ, int_cl, neD, eqD, ee, ef, ad, ik, ij, str_cl, lz, dl_cons, dl_nil, str_deep, q1, q2]
    · rw [if_neg hj]
      rw [decide_eq_false hj] at ef
      simp [sSeq, sIf, mNot, mAnd, mOr, mB, mChain, mOp, mUn, mVar, mMv, mC, mIf, mBor, mCls, mCallN, mCons, mNil, mCall, callM, mAndV, mOrV, mNotV, M.bind, M.opt, M.ok, sNx, sRet, sRetN, sExpr, sAsg, putM, sAsgT, asgT, Tg.put, putAll, mLst, mTup, mApp, ownL, appS, mSeq, mRng1, mRng2, D.bool?, outM, pick, deepE, hZ, int_cl, neD, eqD, ee, ef, ad, ik, ij, str_cl, lz, dl_cons, dl_nil, str_deep, q1, q2]
/-! ### the lists by hand -/
def zp (zs : List Str) : List (Str × Str) := zs.zip (zs.drop 1)
theorem zp_len (zs : List Str) : (zp zs).length = zs.length - 1 := by simp [zp]
theorem zp_take {zs : List Str} {k : Nat} (hk : k < zs.length) : (zp zs).take (k + 1) = (zp zs).take k ++ (if h : k + 1 < zs.length then [(zs[k], zs[k + 1])] else []) := by
  by_cases h : k + 1 < zs.length
  · rw [dif_pos h, List.take_succ]
    congr 1
    have hl : k < (zp zs).length := by rw [zp_len]; omega
    rw [List.getElem?_eq_getElem hl]
    simp [zp]
  · rw [dif_neg h, List.append_nil, List.take_of_length_le (by rw [zp_len]; omega), List.take_of_length_le (by rw [zp_len]; omega)]
theorem off_take {zs : List Str} {k : Nat} (hk : k < zs.length) : offD zs (zs.take (k + 1)) = offD zs (zs.take k) ++ (zs.filter fun b => decide (zs[k] ≠ b)).map fun b => (zs[k], b) := by
  unfold offD
  rw [List.take_succ, List.getElem?_eq_getElem hk, List.flatMap_append]
  simp
theorem fil_take {zs : List Str} {a : Str} {j : Nat} (hj : j < zs.length) : (zs.take (j + 1)).filter (fun b => decide (a ≠ b)) = (zs.take j).filter (fun b => decide (a ≠ b)) ++ (if a ≠ zs[j] then [zs[j]] else []) := by
  rw [List.take_succ, List.getElem?_eq_getElem hj, List.filter_append]
  congr 1
  by_cases h : a = zs[j] <;> simp [h]

theorem off_len {zs ys : List Str} (h1 : zs.length ≤ 5) (h2 : ys.length ≤ 5) : (offD zs ys).length ≤ 25 := by
  have : ∀ ys : List Str, (offD zs ys).length ≤ ys.length * 5 := fun ys => by
    induction ys with
    | nil => simp [offD]
    | cons y ys ih =>
      have e : offD zs (y :: ys) = ((zs.filter fun b => decide (y ≠ b)).map fun b => (y, b)) ++ offD zs ys := rfl
      rw [e, List.length_append, List.length_map, List.length_cons]
      have := List.length_filter_le (fun b => decide (y ≠ b)) zs
      omega
  have := this ys
  omega
theorem db_in {zs : List Str} (hn : zs.Nodup) (h5 : zs.length ≤ 5) {k : Nat} (hk : k < zs.length) (x5 : Option D) :
    ∃ ρ', sLoop (.nm 5) B__law_doors_1 (rngL 0 zs.length) (fd (.lst false (sd zs)) (offD zs (zs.take k)) ((zp zs).take k) (some (.int k)) x5) = some (.ok .nx, ρ') ∧ ∃ y, ρ' = fd (.lst false (sd zs)) (offD zs (zs.take (k + 1))) ((zp zs).take (k + 1)) (some (.int k)) y := by
  have lk := off_len (zs := zs) (ys := zs.take k) h5 (by rw [List.length_take]; omega)
  have lz : ((zp zs).take k).length ≤ 5 := by rw [List.length_take]; omega
  have hk1 : zs[k]? = some zs[k] := List.getElem?_eq_getElem hk
  obtain ⟨ρ', e1, y, e2⟩ := sLoop_inv (t := .nm 5) (m := B__law_doors_1) (rngL 0 zs.length) (fun j ρ => ∃ y, ρ = fd (.lst false (sd zs)) (offD zs (zs.take k) ++ ((zs.take j).filter fun b => decide (zs[k] ≠ b)).map fun b => (zs[k], b)) ((zp zs).take k ++ (if h : k + 1 < zs.length ∧ k + 1 < j then [(zs[k], zs[k + 1])] else [])) (some (.int k)) y) (fun j d ρ hd hq => by
    obtain ⟨y, rfl⟩ := hq
    obtain ⟨hj, rfl⟩ := rng_get hd
    have hj1 : zs[j]? = some zs[j] := List.getElem?_eq_getElem hj
    have la : (offD zs (zs.take k) ++ ((zs.take j).filter fun b => decide (zs[k] ≠ b)).map fun b => (zs[k], b)).length < 1000 := by
      rw [List.length_append, List.length_map]
      have a := List.length_filter_le (fun b => decide (zs[k] ≠ b)) (zs.take j)
      rw [List.length_take] at a
      omega
    have lb : ((zp zs).take k ++ (if h : k + 1 < zs.length ∧ k + 1 < j then [(zs[k], zs[k + 1])] else [])).length < 1000 := by
      rw [List.length_append]
      split <;> simp <;> omega
    have st := db_step (.lst false (sd zs)) (lst_cl (sd_cl zs)) _ _ k j _ _ (ix_sd hk1) (ix_sd hj1) la lb
    have f1 : (if (k : Int) ≠ j then offD zs (zs.take k) ++ ((zs.take j).filter fun b => decide (zs[k] ≠ b)).map (fun b => (zs[k], b)) ++ [(zs[k], zs[j])] else offD zs (zs.take k) ++ ((zs.take j).filter fun b => decide (zs[k] ≠ b)).map (fun b => (zs[k], b))) = offD zs (zs.take k) ++ ((zs.take (j + 1)).filter fun b => decide (zs[k] ≠ b)).map fun b => (zs[k], b) := by
      rw [fil_take hj, List.map_append]
      by_cases h : k = j
      · subst h; simp
      · have h2 : zs[k] ≠ zs[j] := fun e => h ((List.getElem_inj hn).mp e)
        rw [if_pos (by omega), if_pos h2, List.append_assoc]; rfl
    have f2 : (if (j : Int) = k + 1 then (zp zs).take k ++ (if h : k + 1 < zs.length ∧ k + 1 < j then [(zs[k], zs[k + 1])] else []) ++ [(zs[k], zs[j])] else (zp zs).take k ++ (if h : k + 1 < zs.length ∧ k + 1 < j then [(zs[k], zs[k + 1])] else [])) = (zp zs).take k ++ (if h : k + 1 < zs.length ∧ k + 1 < j + 1 then [(zs[k], zs[k + 1])] else []) := by
      by_cases h : j = k + 1
      · subst h
        rw [if_pos (by omega), dif_neg (by omega), dif_pos ⟨hj, by omega⟩, List.append_nil]
      · rw [if_neg (by omega)]
        by_cases h3 : k + 1 < zs.length ∧ k + 1 < j
        · rw [dif_pos h3, dif_pos ⟨h3.1, by omega⟩]
        · rw [dif_neg h3, dif_neg (by omega)]
    rw [f1, f2] at st
    exact ⟨_, _, rfl, st, some (.int j), rfl⟩) (fd (.lst false (sd zs)) (offD zs (zs.take k)) ((zp zs).take k) (some (.int k)) x5) ⟨x5, by rw [dif_neg (by omega)]; simp⟩
  refine ⟨ρ', e1, y, ?_⟩
  rw [e2, rng_len, off_take hk, zp_take hk, List.take_length]
  congr 2
  by_cases h : k + 1 < zs.length
  · rw [dif_pos ⟨h, h⟩, dif_pos h]
  · rw [dif_neg (by omega), dif_neg h]
theorem db_out {zs : List Str} (hn : zs.Nodup) (h5 : zs.length ≤ 5) :
    ∃ ρ', sLoop (.nm 3) B__law_doors_2 (rngL 0 zs.length) (fd (.lst false (sd zs)) [] [] none none) = some (.ok .nx, ρ') ∧ ∃ x y, ρ' = fd (.lst false (sd zs)) (offD zs zs) (zp zs) x y := by
  have cz := lst_cl (sd_cl zs)
  have l1 : lenD [.lst false (sd zs)] = some (.int zs.length) := by show some (D.int (sd zs).length) = _; rw [sd_len]
  obtain ⟨ρ', e1, x, y, e2⟩ := sLoop_inv (t := .nm 3) (m := B__law_doors_2) (rngL 0 zs.length) (fun k ρ => ∃ x y, ρ = fd (.lst false (sd zs)) (offD zs (zs.take k)) ((zp zs).take k) x y) (fun k d ρ hd hq => by
    obtain ⟨x, y, rfl⟩ := hq
    obtain ⟨hk, rfl⟩ := rng_get hd
    obtain ⟨ρ2, q1, y2, rfl⟩ := db_in hn h5 hk y
    refine ⟨fd (.lst false (sd zs)) (offD zs (zs.take k)) ((zp zs).take k) (some (.int k)) y, fd (.lst false (sd zs)) (offD zs (zs.take (k + 1))) ((zp zs).take (k + 1)) (some (.int k)) y2, rfl, ?_, some (.int k), y2, rfl⟩
    unfold B__law_doors_2
    refine (sFor_ok (?_ : R__law_doors_1 _ = some (.ok (rngL 0 zs.length), _))).trans q1
    unfold R__law_doors_1
    refine rng1_ok ?_ (by omega)
    generalize (zs.length : Int) = N0 at *
    generalize (k : Int) = K0 at *
    simp [sSeq, sIf, mNot, mAnd, mOr, mB, mChain, mOp, mUn, mVar, mMv, mC, mIf, mBor, mCls, mCallN, mCons, mNil, mCall, callM, mAndV, mOrV, mNotV, M.bind, M.opt, M.ok, sNx, sRet, sRetN, sExpr, sAsg, putM, sAsgT, asgT, Tg.put, putAll, mLst, mTup, mApp, ownL, appS, mSeq, mRng1, mRng2, D.bool?, outM, pick, deepE, cz, l1, fd]) (fd (.lst false (sd zs)) [] [] none none) ⟨none, none, by simp [offD, pd]⟩
  refine ⟨ρ', e1, x, y, ?_⟩
  rw [e2, rng_len, List.take_length, List.take_of_length_le (by rw [zp_len]; omega)]

theorem zp_sub (W : List Str) : ∀ ys : List Str, ys.Nodup → (∀ y ∈ ys, y ∈ W) → (zp ys).Sublist (offD W ys)
  | [], _, _ => by simp [zp, offD]
  | [a], _, _ => by simp [zp]
  | a :: b :: r, hn, hw => by
    have e1 : zp (a :: b :: r) = [(a, b)] ++ zp (b :: r) := rfl
    have e2 : offD W (a :: b :: r) = ((W.filter fun b => decide (a ≠ b)).map fun b => (a, b)) ++ offD W (b :: r) := rfl
    rw [e1, e2]
    refine List.Sublist.append ?_ (zp_sub W (b :: r) (List.nodup_cons.mp hn).2 fun y hy => hw y (List.mem_cons_of_mem _ hy))
    refine List.singleton_sublist.mpr (List.mem_map.mpr ⟨b, List.mem_filter.mpr ⟨hw b (by simp), decide_eq_true fun e => ?_⟩, rfl⟩)
    exact (List.nodup_cons.mp hn).1 (by rw [e]; simp)
theorem full_is (zs : List Str) : norm zs (allp zs) = offD zs zs := by
  rw [norm_off]
  exact List.filter_eq_self.mpr fun p hp => decide_eq_true (allp_mem.mpr ⟨(off_mem.mp hp).1, (off_mem.mp hp).2.1⟩)
theorem chain_is {zs : List Str} (hn : zs.Nodup) : norm zs (zs.zip (zs.drop 1)) = zp zs := norm_sub hn (zp_sub zs zs hn fun _ h => h)
theorem off_one (a : Str) : offD [a] [a] = [] := by simp [offD]
theorem off_two {a b : Str} {r : List Str} (h : a ≠ b) : offD (a :: b :: r) (a :: b :: r) = (a, b) :: (offD (a :: b :: r) (a :: b :: r)).drop 1 := by
  simp [offD, h]
theorem cut_pd (E : List (Str × Str)) : cutD (pd E) (some 1) none = pd (E.drop 1) := by
  cases E with
  | nil => rfl
  | cons p ps =>
    unfold cutD
    have e1 : HT.sIx (pd (p :: ps)).length 0 (some 1) = 1 := by
      show HT.sIx (pd (p :: ps)).length 0 (some ((1 : Nat) : Int)) = 1
      rw [HT.sIx_nat, pd_len, List.length_cons]; omega
    rw [e1, HT.sIx_none, List.take_of_length_le (by rw [List.length_drop]; omega)]
    unfold pd
    rw [List.map_drop]
theorem drop_flt {E : List (Str × Str)} {p : Str × Str} (hn : E.Nodup) (h : E = p :: E.drop 1) : (E.filter fun q => decide (q ≠ p)) = E.drop 1 := by
  generalize E.drop 1 = r at h
  subst h
  have := List.nodup_cons.mp hn
  rw [List.filter_cons_of_neg (by simp)]
  exact List.filter_eq_self.mpr fun q hq => decide_eq_true fun e => this.1 (e ▸ hq)

end K01

namespace K01
open PySem PySem.Spec L2 Ta
section
variable {zs : List Str} {E1 E2 E : List (Str × Str)} {x3 x5 x6 x7 x8 x9 : Option D}
theorem dz1 (o : Bool) (i : Int) (hi : idxD (.lst true [.lst false (pd E1), .lst false (pd E2)]) (.int i) = some (.lst false (pd E))) :
    sAsg 6 (mCls (mOp idxD (mLst (mCons (mClsV 1) (mCons (mClsV 2) mNil))) (mVar 4))) [some (.lst false (sd zs)), some (.lst o (pd E1)), some (.lst o (pd E2)), x3, some (.int i), x5, x6, x7, x8, x9] = some (.ok .nx, [some (.lst false (sd zs)), some (.lst false (pd E1)), some (.lst false (pd E2)), x3, some (.int i), x5, some (.lst false (pd E)), x7, x8, x9]) := by
  simp [sSeq, sIf, mNot, mAnd, mOr, mB, mChain, mOp, mUn, mVar, mMv, mC, mIf, mBor, mCls, mCallN, mCons, mNil, mCall, callM, mAndV, mOrV, mNotV, M.bind, M.opt, M.ok, sNx, sRet, sRetN, sExpr, sAsg, putM, sAsgT, asgT, Tg.put, putAll, mLst, mTup, mApp, ownL, appS, mSeq, mRng1, mRng2, D.bool?, outM, pick, deepE, mClsV, lst_deep, pd_deep, int_cl, lz2, dl_cons, dl_nil, hi]
theorem dz2 {y4 : Option D} {d1 d2 : D} : sAsg 7 (mCallN listD (mCons (mVar 0) mNil)) [some (.lst false (sd zs)), some d1, some d2, x3, y4, x5, x6, x7, x8, x9] = some (.ok .nx, [some (.lst false (sd zs)), some d1, some d2, x3, y4, x5, x6, some (.lst true (sd zs)), x8, x9]) := by
  have cz := lst_cl (sd_cl zs)
  have ls : listD [.lst false (sd zs)] = some (.lst true (sd zs)) := rfl
  simp [sSeq, sIf, mNot, mAnd, mOr, mB, mChain, mOp, mUn, mVar, mMv, mC, mIf, mBor, mCls, mCallN, mCons, mNil, mCall, callM, mAndV, mOrV, mNotV, M.bind, M.opt, M.ok, sNx, sRet, sRetN, sExpr, sAsg, putM, sAsgT, asgT, Tg.put, putAll, mLst, mTup, mApp, ownL, appS, mSeq, mRng1, mRng2, D.bool?, outM, pick, deepE, cz, ls]
theorem dz3 (F : Fn) (hF : ∀ X, Sq (sd zs) X → F [.gl 0, X] = some (.ok (wb true zs E), [])) :
    sSeq (sAsg 8 (mBor D.imm (mCMeth 0 2 F [] (mCons (mVar 7) mNil)))) (sAsg 9 (mCls (mCMeth 0 2 F [] (mCons (mCls (mCallN tupleD (mCons (mVar 0) mNil))) mNil)))) [some (.lst false (sd zs)), some (.lst false (pd E1)), some (.lst false (pd E2)), x3, some (.int i), x5, some (.lst false (pd E)), some (.lst true (sd zs)), x8, x9] = some (.ok .nx, [some (.lst false (sd zs)), some (.lst false (pd E1)), some (.lst false (pd E2)), x3, some (.int i), x5, some (.lst false (pd E)), some (.lst true (sd zs)), some (wb true zs E), some (wb false zs E)]) := by
  have f1 := hF _ (.l)
  have f2 := hF _ (.t)
  have cz := lst_cl (sd_cl zs)
  have t1 : tupleD [.lst false (sd zs)] = some (.tup (sd zs)) := by show some (D.tup (deepL (sd zs))) = _; rw [sd_deep]
  have dz : (D.tup (sd zs)).deep = .tup (sd zs) := by show D.tup (deepL (sd zs)) = _; rw [sd_deep]
  simp [sSeq, sIf, mNot, mAnd, mOr, mB, mChain, mOp, mUn, mVar, mMv, mC, mIf, mBor, mCls, mCallN, mCons, mNil, mCall, callM, mAndV, mOrV, mNotV, M.bind, M.opt, M.ok, sNx, sRet, sRetN, sExpr, sAsg, putM, sAsgT, asgT, Tg.put, putAll, mLst, mTup, mApp, ownL, appS, mSeq, mRng1, mRng2, D.bool?, outM, pick, deepE, lst_deep, sd_deep, pd_deep, cz, t1, dz, mCMeth, callOk, f1, f2, wb_imm, wb_deep]
theorem dz4 (h : okS zs) : sIf (mBor (fun _ => true) (mB (mOp neD (mVar 7) (mVar 0)))) (sRet (mC (.bl false))) sNx [some (.lst false (sd zs)), some (.lst false (pd E1)), some (.lst false (pd E2)), x3, some (.int i), x5, some (.lst false (pd E)), some (.lst true (sd zs)), some (wb true zs E), some (wb false zs E)] = some (.ok .nx, [some (.lst false (sd zs)), some (.lst false (pd E1)), some (.lst false (pd E2)), x3, some (.int i), x5, some (.lst false (pd E)), some (.lst true (sd zs)), some (wb true zs E), some (wb false zs E)]) := by
  have e := eq_sd (o := false) (o' := false) h h
  have cz := lst_cl (sd_cl zs)
  simp [sSeq, sIf, mNot, mAnd, mOr, mB, mChain, mOp, mUn, mVar, mMv, mC, mIf, mBor, mCls, mCallN, mCons, mNil, mCall, callM, mAndV, mOrV, mNotV, M.bind, M.opt, M.ok, sNx, sRet, sRetN, sExpr, sAsg, putM, sAsgT, asgT, Tg.put, putAll, mLst, mTup, mApp, ownL, appS, mSeq, mRng1, mRng2, D.bool?, outM, pick, deepE, lst_deep, sd_deep, pd_deep, cz, neD, e]
theorem dz5 : sExpr (mClear 7) [some (.lst false (sd zs)), some (.lst false (pd E1)), some (.lst false (pd E2)), x3, some (.int i), x5, some (.lst false (pd E)), some (.lst true (sd zs)), some (wb true zs E), some (wb false zs E)] = some (.ok .nx, [some (.lst false (sd zs)), some (.lst false (pd E1)), some (.lst false (pd E2)), x3, some (.int i), x5, some (.lst false (pd E)), some (.lst true ([])), some (wb true zs E), some (wb false zs E)]) := by
  simp [sSeq, sIf, mNot, mAnd, mOr, mB, mChain, mOp, mUn, mVar, mMv, mC, mIf, mBor, mCls, mCallN, mCons, mNil, mCall, callM, mAndV, mOrV, mNotV, M.bind, M.opt, M.ok, sNx, sRet, sRetN, sExpr, sAsg, putM, sAsgT, asgT, Tg.put, putAll, mLst, mTup, mApp, ownL, appS, mSeq, mRng1, mRng2, D.bool?, outM, pick, deepE, mClear]
theorem dz6 (h : okS zs) (okp : okP E) (h5 : zs.length ≤ 5) (hl : E.length ≤ 100) : sIf (mBor (fun _ => true) (mOr (mNot (mB (mCall 3 F__law_web_is [] (mCons (mVar 8) (mCons (mVar 0) (mCons (mVar 6) mNil)))))) (mNot (mB (mCall 3 F__law_web_is [] (mCons (mVar 9) (mCons (mVar 0) (mCons (mVar 6) mNil)))))))) (sRet (mC (.bl false))) sNx [some (.lst false (sd zs)), some (.lst false (pd E1)), some (.lst false (pd E2)), x3, some (.int i), x5, some (.lst false (pd E)), some (.lst true ([])), some (wb true zs E), some (wb false zs E)] = some (.ok .nx, [some (.lst false (sd zs)), some (.lst false (pd E1)), some (.lst false (pd E2)), x3, some (.int i), x5, some (.lst false (pd E)), some (.lst true ([])), some (wb true zs E), some (wb false zs E)]) := by
  have wi := webis_ok h okp h5 hl
  have cz := lst_cl (sd_cl zs)
  have cE := lst_cl (pd_cl E)
  simp [sSeq, sIf, mNot, mAnd, mOr, mB, mChain, mOp, mUn, mVar, mMv, mC, mIf, mBor, mCls, mCallN, mCons, mNil, mCall, callM, mAndV, mOrV, mNotV, M.bind, M.opt, M.ok, sNx, sRet, sRetN, sExpr, sAsg, putM, sAsgT, asgT, Tg.put, putAll, mLst, mTup, mApp, ownL, appS, mSeq, mRng1, mRng2, D.bool?, outM, pick, deepE, lst_deep, sd_deep, pd_deep, cz, cE, wb_deep, wb_cl, wi]
theorem dz7 (h : okS zs) (okp : okP E) (hE : E.Sublist (offD zs zs)) (hn : zs.Nodup) (h1 : 1 ≤ zs.length) (h5 : zs.length ≤ 5) (hl : E.length ≤ 100) : sIf (mBor (fun _ => true) (mOr (mNot (mB (mCall 2 F__law_truth [] (mCons (mOp (binO 0 F_Web___eq__) (mVar 8) (mVar 9)) (mCons (mC (.bl true)) mNil))))) (mB (mOp (neO 0 F_Web___eq__) (mVar 8) (mCls (mMake 0 3 F_Web___init__ [] (mCons (mCls (mCallN listD (mCons (mVar 0) mNil))) (mCons (mCls (mCallN listD (mCons (mVar 6) mNil))) mNil)))))))) (sRet (mC (.bl false))) sNx [some (.lst false (sd zs)), some (.lst false (pd E1)), some (.lst false (pd E2)), x3, some (.int i), x5, some (.lst false (pd E)), some (.lst true ([])), some (wb true zs E), some (wb false zs E)] = some (.ok .nx, [some (.lst false (sd zs)), some (.lst false (pd E1)), some (.lst false (pd E2)), x3, some (.int i), x5, some (.lst false (pd E)), some (.lst true ([])), some (wb true zs E), some (wb false zs E)]) := by
  have cz := lst_cl (sd_cl zs)
  have cE := lst_cl (pd_cl E)
  have ls : ∀ o xs, listD [.lst o xs] = some (.lst true xs) := fun _ _ => rfl
  have be := binO_of (wb_isC false zs E) (wb_isC false zs E) (eq_ok h okp)
  have bn := neO_of (wb_isC false zs E) (wb_isC false zs E) (eq_ok h okp)
  have nm : ∀ ρ, newM 0 3 F_Web___init__ [.lst false (sd zs), .lst false (pd E)] ρ = some (.ok (wb true zs E), ρ) := fun ρ => by
    have := mk_ok (X := .lst false (sd zs)) (Y := .lst false (pd E)) .l .l h hn h1 h5 (sub_in hE) ρ
    rw [norm_sub hn hE] at this; exact this
  simp [sSeq, sIf, mNot, mAnd, mOr, mB, mChain, mOp, mUn, mVar, mMv, mC, mIf, mBor, mCls, mCallN, mCons, mNil, mCall, callM, mAndV, mOrV, mNotV, M.bind, M.opt, M.ok, sNx, sRet, sRetN, sExpr, sAsg, putM, sAsgT, asgT, Tg.put, putAll, mLst, mTup, mApp, ownL, appS, mSeq, mRng1, mRng2, D.bool?, outM, pick, deepE, lst_deep, sd_deep, pd_deep, cz, cE, wb_deep, wb_cl, be, bn, truth_ok, mMake, ls, nm]
theorem dz8a (h1 : zs.length = 1) : sIf (mB (mOp gtD (mCallN lenD (mCons (mVar 0) mNil)) (mC (.int 1)))) (sSetO 0 8 F_Web___setitem__ (mC (.bl false)) (mTup (mCons (mOp idxD (mVar 0) (mC (.int 0))) (mCons (mOp idxD (mVar 0) (mC (.int 1))) mNil)))) sNx [some (.lst false (sd zs)), some (.lst false (pd E1)), some (.lst false (pd E2)), x3, some (.int i), x5, some (.lst false (pd E)), some (.lst true ([])), some (wb true zs E), some (wb false zs E)] = some (.ok .nx, [some (.lst false (sd zs)), some (.lst false (pd E1)), some (.lst false (pd E2)), x3, some (.int i), x5, some (.lst false (pd E)), some (.lst true ([])), some (wb true zs E), some (wb false zs E)]) := by
  have cz := lst_cl (sd_cl zs)
  have l1 : lenD [.lst false (sd zs)] = some (.int 1) := by show some (D.int (sd zs).length) = _; rw [sd_len, h1]; rfl
  simp [sSeq, sIf, mNot, mAnd, mOr, mB, mChain, mOp, mUn, mVar, mMv, mC, mIf, mBor, mCls, mCallN, mCons, mNil, mCall, callM, mAndV, mOrV, mNotV, M.bind, M.opt, M.ok, sNx, sRet, sRetN, sExpr, sAsg, putM, sAsgT, asgT, Tg.put, putAll, mLst, mTup, mApp, ownL, appS, mSeq, mRng1, mRng2, D.bool?, outM, pick, deepE, cz, l1, gtD, cmpD]
theorem dz8b {a b : Str} (h : okS zs) (hn : zs.Nodup) (hE : E.Sublist (offD zs zs)) (h5 : zs.length ≤ 5) (ha : zs[0]? = some a) (hb : zs[1]? = some b) (hab : a ≠ b) (hl : 1 < zs.length) (hd : norm zs (E.filter fun p => decide (p ≠ (a, b))) = E.drop 1) : sIf (mB (mOp gtD (mCallN lenD (mCons (mVar 0) mNil)) (mC (.int 1)))) (sSetO 0 8 F_Web___setitem__ (mC (.bl false)) (mTup (mCons (mOp idxD (mVar 0) (mC (.int 0))) (mCons (mOp idxD (mVar 0) (mC (.int 1))) mNil)))) sNx [some (.lst false (sd zs)), some (.lst false (pd E1)), some (.lst false (pd E2)), x3, some (.int i), x5, some (.lst false (pd E)), some (.lst true ([])), some (wb true zs E), some (wb false zs E)] = some (.ok .nx, [some (.lst false (sd zs)), some (.lst false (pd E1)), some (.lst false (pd E2)), x3, some (.int i), x5, some (.lst false (pd E)), some (.lst true ([])), some (wb true zs (E.drop 1)), some (wb false zs E)]) := by
  have cz := lst_cl (sd_cl zs)
  have l1 : lenD [.lst false (sd zs)] = some (.int zs.length) := by show some (D.int (sd zs).length) = _; rw [sd_len]
  have i0 : idxD (.lst false (sd zs)) (.int 0) = some (.str a) := ix_sd ha
  have i1 : idxD (.lst false (sd zs)) (.int 1) = some (.str b) := ix_sd hb
  have g : gtD (.int zs.length) (.int 1) = some (.bl true) := by show some (D.bl (decide ((1 : Int) < zs.length))) = _; rw [decide_eq_true (by omega)]
  have st := set_ok h hn hE h5 (List.mem_of_getElem? ha) (List.mem_of_getElem? hb) hab
  rw [hd] at st
  have c := wb_isC true zs E
  generalize (zs.length : Int) = N0 at *
  generalize E.drop 1 = E' at *
  simp [sSeq, sIf, mNot, mAnd, mOr, mB, mChain, mOp, mUn, mVar, mMv, mC, mIf, mBor, mCls, mCallN, mCons, mNil, mCall, callM, mAndV, mOrV, mNotV, M.bind, M.opt, M.ok, sNx, sRet, sRetN, sExpr, sAsg, putM, sAsgT, asgT, Tg.put, putAll, mLst, mTup, mApp, ownL, appS, mSeq, mRng1, mRng2, D.bool?, outM, pick, deepE, cz, l1, g, sSetO, hasC, callI, c, i0, i1, str_cl, lz2, dl_cons, dl_nil, str_deep, st]
theorem dz9 (h : okS zs) (okp : okP E) (h5 : zs.length ≤ 5) (hl : E.length ≤ 100) : sIf (mBor (fun _ => true) (mOr (mNot (mB (mCall 3 F__law_web_is [] (mCons (mVar 8) (mCons (mVar 0) (mCons (mCls (mSl slD (mVar 6) (mPart (mC (.int 1))) mNo)) mNil)))))) (mNot (mB (mCall 3 F__law_web_is [] (mCons (mVar 9) (mCons (mVar 0) (mCons (mVar 6) mNil)))))))) (sRet (mC (.bl false))) sNx [some (.lst false (sd zs)), some (.lst false (pd E1)), some (.lst false (pd E2)), x3, some (.int i), x5, some (.lst false (pd E)), some (.lst true ([])), some (wb true zs (E.drop 1)), some (wb false zs E)] = some (.ok .nx, [some (.lst false (sd zs)), some (.lst false (pd E1)), some (.lst false (pd E2)), x3, some (.int i), x5, some (.lst false (pd E)), some (.lst true ([])), some (wb true zs (E.drop 1)), some (wb false zs E)]) := by
  have wi := webis_ok h okp h5 hl
  have wj := webis_ok (ps := E.drop 1) h (fun p hp => okp p (List.drop_subset _ _ hp)) h5 (by rw [List.length_drop]; omega)
  have cz := lst_cl (sd_cl zs)
  have cE := lst_cl (pd_cl E)
  have cw1 := wb_cl zs (E.drop 1)
  have dw1 := wb_deep true zs (E.drop 1)
  have cu := cut_pd E
  have dd := pd_deep (E.drop 1)
  generalize E.drop 1 = E' at *
  simp [sSeq, sIf, mNot, mAnd, mOr, mB, mChain, mOp, mUn, mVar, mMv, mC, mIf, mBor, mCls, mCallN, mCons, mNil, mCall, callM, mAndV, mOrV, mNotV, M.bind, M.opt, M.ok, sNx, sRet, sRetN, sExpr, sAsg, putM, sAsgT, asgT, Tg.put, putAll, mLst, mTup, mApp, ownL, appS, mSeq, mRng1, mRng2, D.bool?, outM, pick, deepE, lst_deep, sd_deep, pd_deep, cz, cE, wb_deep, wb_cl, wi, wj, mSl, mPart, mNo, D.int?, slD, cu]
end
/-! ### one door -/
theorem dz0 (i : Int) (x0 x1 x2 x3 x5 x6 x7 x8 x9 : Option D) : mB (mOp eqD (mVar 4) (mC (.int 0))) [x0, x1, x2, x3, some (.int i), x5, x6, x7, x8, x9] = some (.ok (decide (i = 0)), [x0, x1, x2, x3, some (.int i), x5, x6, x7, x8, x9]) := by
  have e : eqB (.int i) (.int 0) = some (decide (i = 0)) := rfl
  simp [sSeq, sIf, mNot, mAnd, mOr, mB, mChain, mOp, mUn, mVar, mMv, mC, mIf, mBor, mCls, mCallN, mCons, mNil, mCall, callM, mAndV, mOrV, mNotV, M.bind, M.opt, M.ok, sNx, sRet, sRetN, sExpr, sAsg, putM, sAsgT, asgT, Tg.put, putAll, mLst, mTup, mApp, ownL, appS, mSeq, mRng1, mRng2, D.bool?, outM, pick, deepE, int_cl, eqD, e]
theorem door_ok {zs : List Str} {E1 E2 E : List (Str × Str)} {x3 x5 x6 x7 x8 x9 : Option D} (o : Bool) (i : Int) (hi : idxD (.lst true [.lst false (pd E1), .lst false (pd E2)]) (.int i) = some (.lst false (pd E)))
    (h : okS zs) (hn : zs.Nodup) (h1 : 1 ≤ zs.length) (h5 : zs.length ≤ 5) (hE : E.Sublist (offD zs zs)) (hen : E.Nodup)
    (hz : zs.length = 1 → E = []) (hh : ∀ a b r, zs = a :: b :: r → E = (a, b) :: E.drop 1)
    (hF : (i = 0 ∧ ∀ X, Sq (sd zs) X → F_Web_full [.gl 0, X] = some (.ok (wb true zs E), [])) ∨ (i ≠ 0 ∧ ∀ X, Sq (sd zs) X → F_Web_chain [.gl 0, X] = some (.ok (wb true zs E), []))) :
    B__law_doors_3 [some (.lst false (sd zs)), some (.lst o (pd E1)), some (.lst o (pd E2)), x3, some (.int i), x5, x6, x7, x8, x9] = some (.ok .nx, [some (.lst false (sd zs)), some (.lst false (pd E1)), some (.lst false (pd E2)), x3, some (.int i), x5, some (.lst false (pd E)), some (.lst true ([])), some (wb true zs (E.drop 1)), some (wb false zs E)]) := by
  have okp : okP E := in_okP h (sub_in hE)
  have hl : E.length ≤ 100 := by have := sub_len hn hE h5; omega
  have s3 : sIf (mB (mOp eqD (mVar 4) (mC (.int 0)))) (sSeq (sAsg 8 (mBor D.imm (mCMeth 0 2 F_Web_full [] (mCons (mVar 7) mNil)))) (sAsg 9 (mCls (mCMeth 0 2 F_Web_full [] (mCons (mCls (mCallN tupleD (mCons (mVar 0) mNil))) mNil))))) (sSeq (sAsg 8 (mBor D.imm (mCMeth 0 2 F_Web_chain [] (mCons (mVar 7) mNil)))) (sAsg 9 (mCls (mCMeth 0 2 F_Web_chain [] (mCons (mCls (mCallN tupleD (mCons (mVar 0) mNil))) mNil))))) [some (.lst false (sd zs)), some (.lst false (pd E1)), some (.lst false (pd E2)), x3, some (.int i), x5, some (.lst false (pd E)), some (.lst true (sd zs)), x8, x9] = some (.ok .nx, [some (.lst false (sd zs)), some (.lst false (pd E1)), some (.lst false (pd E2)), x3, some (.int i), x5, some (.lst false (pd E)), some (.lst true (sd zs)), some (wb true zs E), some (wb false zs E)]) := by
    rw [sIf_ok (dz0 i _ _ _ _ _ _ _ _ _)]
    rcases hF with ⟨hi0, hF⟩ | ⟨hi0, hF⟩
    · rw [decide_eq_true hi0]
      exact dz3 _ hF
    · rw [decide_eq_false hi0]
      exact dz3 _ hF
  have s8 : sIf (mB (mOp gtD (mCallN lenD (mCons (mVar 0) mNil)) (mC (.int 1)))) (sSetO 0 8 F_Web___setitem__ (mC (.bl false)) (mTup (mCons (mOp idxD (mVar 0) (mC (.int 0))) (mCons (mOp idxD (mVar 0) (mC (.int 1))) mNil)))) sNx [some (.lst false (sd zs)), some (.lst false (pd E1)), some (.lst false (pd E2)), x3, some (.int i), x5, some (.lst false (pd E)), some (.lst true ([])), some (wb true zs E), some (wb false zs E)] = some (.ok .nx, [some (.lst false (sd zs)), some (.lst false (pd E1)), some (.lst false (pd E2)), x3, some (.int i), x5, some (.lst false (pd E)), some (.lst true ([])), some (wb true zs (E.drop 1)), some (wb false zs E)]) := by
    match zs, h1, hn, hh, hz, hE, h5, h with
    | [a], _, _, _, hz, _, _, _ =>
      have : E = [] := hz rfl
      subst this
      exact dz8a rfl
    | a :: b :: r, _, hn, hh, _, hE, h5, h =>
      have e := hh a b r rfl
      have hab : a ≠ b := fun e => (List.nodup_cons.mp hn).1 (by rw [e]; simp)
      refine dz8b h hn hE h5 rfl rfl hab (by simp) ?_
      rw [drop_flt hen e]
      exact norm_sub hn ((List.drop_sublist 1 E).trans hE)
  unfold B__law_doors_3
  rw [sSeq_ok (dz1 o i hi), sSeq_ok dz2, sSeq_ok s3, sSeq_ok (dz4 h), sSeq_ok dz5, sSeq_ok (dz6 h okp h5 hl), sSeq_ok (dz7 h okp hE hn h1 h5 hl), sSeq_ok s8]
  exact dz9 h okp h5 hl
theorem off_len1 {zs : List Str} (h : zs.length = 1) : offD zs zs = [] := by
  obtain ⟨a, rfl⟩ := List.length_eq_one_iff.mp h
  exact off_one a
theorem zp_len1 {zs : List Str} (h : zs.length = 1) : zp zs = [] := by
  obtain ⟨a, rfl⟩ := List.length_eq_one_iff.mp h
  rfl
theorem doors_ok {zs : List Str} (h : okS zs) (hn : zs.Nodup) (h1 : 1 ≤ zs.length) (h5 : zs.length ≤ 5) : F__law_doors [.lst false (sd zs)] = some (.ok (.bl true), []) := by
  have n1 := off_nodup hn zs hn
  have sz := zp_sub zs zs hn fun _ h => h
  have fF : ∀ X, Sq (sd zs) X → F_Web_full [.gl 0, X] = some (.ok (wb true zs (offD zs zs)), []) := fun X hX => by rw [full_ok hX h hn h1 h5, full_is]
  have fC : ∀ X, Sq (sd zs) X → F_Web_chain [.gl 0, X] = some (.ok (wb true zs (zp zs)), []) := fun X hX => by rw [chain_ok hX h hn h1 h5, chain_is hn]
  obtain ⟨ρ1, q1, x, y, rfl⟩ := db_out hn h5
  obtain ⟨ρ2, q2, q3⟩ := sLoop_inv (t := .nm 4) (m := B__law_doors_3) (rngL 0 2) (fun i ρ => ∃ o x3 x4 x5 x6 x7 x8 x9, ρ = [some (.lst false (sd zs)), some (.lst o (pd (offD zs zs))), some (.lst o (pd (zp zs))), x3, x4, x5, x6, x7, x8, x9]) (fun i d ρ hd hq => by
    obtain ⟨o, x3, x4, x5, x6, x7, x8, x9, rfl⟩ := hq
    match i, hd with
    | 0, hd =>
      have : d = .int 0 := by
        have : some (D.int (0 + ((0 : Nat) : Int))) = some d := hd
        cases this; rfl
      subst this
      exact ⟨_, _, rfl, door_ok (E := offD zs zs) o 0 rfl h hn h1 h5 (List.Sublist.refl _) n1 (fun e => off_len1 e) (fun a b r e => by
        subst e
        exact off_two fun e => (List.nodup_cons.mp hn).1 (by rw [e]; simp)) (.inl ⟨rfl, fF⟩), false, _, _, _, _, _, _, _, rfl⟩
    | 1, hd =>
      have : d = .int 1 := by
        have : some (D.int (0 + ((1 : Nat) : Int))) = some d := hd
        cases this; rfl
      subst this
      exact ⟨_, _, rfl, door_ok (E := zp zs) o 1 rfl h hn h1 h5 sz (sz.nodup n1) (fun e => zp_len1 e) (fun a b r e => by
        subst e; rfl) (.inr ⟨by decide, fC⟩), false, _, _, _, _, _, _, _, rfl⟩
    | n + 2, hd => exact absurd (rng_get hd).1 (by omega)) (fd (.lst false (sd zs)) (offD zs zs) (zp zs) x y) ⟨true, _, _, _, _, _, _, _, rfl⟩
  have r2 : R__law_doors_2 (fd (.lst false (sd zs)) [] [] none none) = some (.ok (rngL 0 zs.length), fd (.lst false (sd zs)) [] [] none none) := by
    have cz := lst_cl (sd_cl zs)
    have l1 : lenD [.lst false (sd zs)] = some (.int zs.length) := by show some (D.int (sd zs).length) = _; rw [sd_len]
    unfold R__law_doors_2
    refine rng1_ok ?_ (by omega)
    generalize (zs.length : Int) = N0 at *
    simp [sSeq, sIf, mNot, mAnd, mOr, mB, mChain, mOp, mUn, mVar, mMv, mC, mIf, mBor, mCls, mCallN, mCons, mNil, mCall, callM, mAndV, mOrV, mNotV, M.bind, M.opt, M.ok, sNx, sRet, sRetN, sExpr, sAsg, putM, sAsgT, asgT, Tg.put, putAll, mLst, mTup, mApp, ownL, appS, mSeq, mRng1, mRng2, D.bool?, outM, pick, deepE, cz, l1, fd]
  have r3 : R__law_doors_3 (fd (.lst false (sd zs)) (offD zs zs) (zp zs) x y) = some (.ok (rngL 0 2), fd (.lst false (sd zs)) (offD zs zs) (zp zs) x y) := by
    unfold R__law_doors_3
    exact rng1_ok (n := 2) rfl (by decide)
  have a1 : sAsg 1 (mLst mNil) [some (.lst false (sd zs)), none, none, none, none, none, none, none, none, none] = some (.ok .nx, [some (.lst false (sd zs)), some (.lst true []), none, none, none, none, none, none, none, none]) := by simp [sSeq, sIf, mNot, mAnd, mOr, mB, mChain, mOp, mUn, mVar, mMv, mC, mIf, mBor, mCls, mCallN, mCons, mNil, mCall, callM, mAndV, mOrV, mNotV, M.bind, M.opt, M.ok, sNx, sRet, sRetN, sExpr, sAsg, putM, sAsgT, asgT, Tg.put, putAll, mLst, mTup, mApp, ownL, appS, mSeq, mRng1, mRng2, D.bool?, outM, pick, deepE]
  have a2 : sAsg 2 (mLst mNil) [some (.lst false (sd zs)), some (.lst true []), none, none, none, none, none, none, none, none] = some (.ok .nx, fd (.lst false (sd zs)) [] [] none none) := by
    unfold fd pd
    simp [sSeq, sIf, mNot, mAnd, mOr, mB, mChain, mOp, mUn, mVar, mMv, mC, mIf, mBor, mCls, mCallN, mCons, mNil, mCall, callM, mAndV, mOrV, mNotV, M.bind, M.opt, M.ok, sNx, sRet, sRetN, sExpr, sAsg, putM, sAsgT, asgT, Tg.put, putAll, mLst, mTup, mApp, ownL, appS, mSeq, mRng1, mRng2, D.bool?, outM, pick, deepE]
  unfold F__law_doors
  show outM [] (sSeq _ _ [some (.lst false (sd zs)), none, none, none, none, none, none, none, none, none]) = _
  rw [sSeq_ok a1, sSeq_ok a2, sSeq_ok ((sFor_ok r2).trans q1), sSeq_ok ((sFor_ok r3).trans q2)]
  rfl

end K01

namespace K01
open PySem PySem.Spec L2 Ta
theorem scr_cl (ns : List Int) : (D.scr ns).cl = true := rfl
theorem cell_ok (ns : List Int) (k : Nat) (hk : k < 100) : ∃ c : Int, F__law_cell [.scr ns, .int k] = some (.ok (.int c), []) := by
  have l1 : lenD [.scr ns] = some (.int ns.length) := rfl
  by_cases h : k < ns.length
  · have i1 : idxD (.scr ns) (.int k) = some (.int ns[k]) := by
      show (atI ns (k : Int)).map D.int = _
      rw [atI_nat (List.getElem?_eq_getElem h)]; rfl
    have g : ltD (.int k) (.int ns.length) = some (.bl true) := by show some (D.bl (decide ((k : Int) < ns.length))) = _; rw [decide_eq_true (by omega)]
    refine ⟨ns[k], ?_⟩
    generalize ns[k] = c at *
    generalize (k : Int) = K at *
    generalize (ns.length : Int) = N at *
    unfold F__law_cell runDef
    simp [sSeq, sIf, mNot, mAnd, mOr, mB, mChain, mOp, mUn, mVar, mMv, mC, mIf, mBor, mCls, mCallN, mCons, mNil, mCall, callM, mAndV, mOrV, mNotV, M.bind, M.opt, M.ok, sNx, sRet, sRetN, sExpr, sAsg, putM, sAsgT, asgT, Tg.put, putAll, mLst, mTup, mApp, ownL, appS, mSeq, mRng1, mRng2, D.bool?, outM, pick, deepE, scr_cl, int_cl, l1, g, i1]
  · have g : ltD (.int k) (.int ns.length) = some (.bl false) := by show some (D.bl (decide ((k : Int) < ns.length))) = _; rw [decide_eq_false (by omega)]
    refine ⟨0, ?_⟩
    generalize (k : Int) = K at *
    generalize (ns.length : Int) = N at *
    unfold F__law_cell runDef
    simp [sSeq, sIf, mNot, mAnd, mOr, mB, mChain, mOp, mUn, mVar, mMv, mC, mIf, mBor, mCls, mCallN, mCons, mNil, mCall, callM, mAndV, mOrV, mNotV, M.bind, M.opt, M.ok, sNx, sRet, sRetN, sExpr, sAsg, putM, sAsgT, asgT, Tg.put, putAll, mLst, mTup, mApp, ownL, appS, mSeq, mRng1, mRng2, D.bool?, outM, pick, deepE, scr_cl, int_cl, l1, g]
section
variable {ns : List Int} {x2 x3 x4 x5 x6 x7 x8 x9 x10 : Option D}
theorem lw1 {c : Int} {R L : D} (hc : F__law_cell [.scr ns, .int 0] = some (.ok (.int c), [])) (hr : F__law_row [.int c, .int 1, .int 8, .int 60] = some (.ok R, [])) (hR : R.deep = L) :
    sAsg 1 (mCls (mCall 4 F__law_row [] (mCons (mCls (mCall 2 F__law_cell [] (mCons (mVar 0) (mCons (mC (.int 0)) mNil)))) (mCons (mC (.int 1)) (mCons (mC (.int 8)) (mCons (mC (.int 60)) mNil)))))) [some (.scr ns), none, x2, x3, x4, x5, x6, x7, x8, x9, x10] = some (.ok .nx, [some (.scr ns), some L, x2, x3, x4, x5, x6, x7, x8, x9, x10]) := by
  simp [sSeq, sIf, mNot, mAnd, mOr, mB, mChain, mOp, mUn, mVar, mMv, mC, mIf, mBor, mCls, mCallN, mCons, mNil, mCall, callM, mAndV, mOrV, mNotV, M.bind, M.opt, M.ok, sNx, sRet, sRetN, sExpr, sAsg, putM, sAsgT, asgT, Tg.put, putAll, mLst, mTup, mApp, ownL, appS, mSeq, mRng1, mRng2, D.bool?, outM, pick, deepE, scr_cl, int_deep, hc, hr, hR]
theorem lw2 {L : D} (hL : L.cl = true) {a m : Int} (i0 : idxD L (.int 0) = some (.int a)) (g : modD (.int a) (.int 5) = some (.int m)) :
    sAsg 2 (mCls (mOp addD (mC (.int 1)) (mOp modD (mCallN intD (mCons (mOp idxD (mVar 1) (mC (.int 0))) mNil)) (mC (.int 5))))) [some (.scr ns), some L, none, x3, x4, x5, x6, x7, x8, x9, x10] = some (.ok .nx, [some (.scr ns), some L, some (.int (1 + m)), x3, x4, x5, x6, x7, x8, x9, x10]) := by
  have ad : addD (.int 1) (.int m) = some (.int (1 + m)) := rfl
  simp [sSeq, sIf, mNot, mAnd, mOr, mB, mChain, mOp, mUn, mVar, mMv, mC, mIf, mBor, mCls, mCallN, mCons, mNil, mCall, callM, mAndV, mOrV, mNotV, M.bind, M.opt, M.ok, sNx, sRet, sRetN, sExpr, sAsg, putM, sAsgT, asgT, Tg.put, putAll, mLst, mTup, mApp, ownL, appS, mSeq, mRng1, mRng2, D.bool?, outM, pick, deepE, hL, int_deep, i0, intD, g, ad]
theorem lw3 {c W0 : Int} {L R Z : D} (hc : F__law_cell [.scr ns, .int 1] = some (.ok (.int c), [])) (hr : F__law_names [.int c, .int 2, .int W0] = some (.ok R, [])) (hR : R.deep = Z) :
    sAsg 3 (mCls (mCall 3 F__law_names [] (mCons (mCls (mCall 2 F__law_cell [] (mCons (mVar 0) (mCons (mC (.int 1)) mNil)))) (mCons (mC (.int 2)) (mCons (mVar 2) mNil))))) [some (.scr ns), some L, some (.int W0), none, x4, x5, x6, x7, x8, x9, x10] = some (.ok .nx, [some (.scr ns), some L, some (.int W0), some Z, x4, x5, x6, x7, x8, x9, x10]) := by
  simp [sSeq, sIf, mNot, mAnd, mOr, mB, mChain, mOp, mUn, mVar, mMv, mC, mIf, mBor, mCls, mCallN, mCons, mNil, mCall, callM, mAndV, mOrV, mNotV, M.bind, M.opt, M.ok, sNx, sRet, sRetN, sExpr, sAsg, putM, sAsgT, asgT, Tg.put, putAll, mLst, mTup, mApp, ownL, appS, mSeq, mRng1, mRng2, D.bool?, outM, pick, deepE, scr_cl, int_cl, int_deep, hc, hr, hR]
theorem lw4 {c W0 a m : Int} {L R Z Q : D} (hL : L.cl = true) (hc : F__law_cell [.scr ns, .int 2] = some (.ok (.int c), [])) (i1 : idxD L (.int 1) = some (.int a)) (g : modD (.int a) (.int 24) = some (.int m)) (mm : mulSD (.int 2) (.int m) = some (.int (2 * m))) (hr : F__law_row [.int c, .int 13, .int (2 * m), .int W0] = some (.ok R, [])) (hR : R.deep = Q) :
    sAsg 4 (mCls (mCall 4 F__law_row [] (mCons (mCls (mCall 2 F__law_cell [] (mCons (mVar 0) (mCons (mC (.int 2)) mNil)))) (mCons (mC (.int 13)) (mCons (mCls (mOp mulSD (mC (.int 2)) (mOp modD (mCallN intD (mCons (mOp idxD (mVar 1) (mC (.int 1))) mNil)) (mC (.int 24))))) (mCons (mVar 2) mNil)))))) [some (.scr ns), some L, some (.int W0), some Z, none, x5, x6, x7, x8, x9, x10] = some (.ok .nx, [some (.scr ns), some L, some (.int W0), some Z, some Q, x5, x6, x7, x8, x9, x10]) := by
  simp [sSeq, sIf, mNot, mAnd, mOr, mB, mChain, mOp, mUn, mVar, mMv, mC, mIf, mBor, mCls, mCallN, mCons, mNil, mCall, callM, mAndV, mOrV, mNotV, M.bind, M.opt, M.ok, sNx, sRet, sRetN, sExpr, sAsg, putM, sAsgT, asgT, Tg.put, putAll, mLst, mTup, mApp, ownL, appS, mSeq, mRng1, mRng2, D.bool?, outM, pick, deepE, scr_cl, int_cl, int_deep, hL, hc, i1, intD, g, mm, hr, hR]
theorem lwE {W0 k p q k1 k2 : Int} {L Z Q : D} {a b : Str} (hZ : Z.cl = true) (hQ : Q.cl = true) (m1 : mulSD (.int 2) (.int k) = some (.int k1)) (ad : addD (.int k1) (.int 1) = some (.int k2)) (i1 : idxD Q (.int k1) = some (.int p)) (i2 : idxD Q (.int k2) = some (.int q)) (z1 : idxD Z (.int p) = some (.str a)) (z2 : idxD Z (.int q) = some (.str b)) :
    E_law_1 [some (.scr ns), some L, some (.int W0), some Z, some Q, x5, some (.int k), x7, x8, x9, x10] = some (.ok (.tup [.str a, .str b]), [some (.scr ns), some L, some (.int W0), some Z, some Q, x5, some (.int k), x7, x8, x9, x10]) := by
  unfold E_law_1
  simp [sSeq, sIf, mNot, mAnd, mOr, mB, mChain, mOp, mUn, mVar, mMv, mC, mIf, mBor, mCls, mCallN, mCons, mNil, mCall, callM, mAndV, mOrV, mNotV, M.bind, M.opt, M.ok, sNx, sRet, sRetN, sExpr, sAsg, putM, sAsgT, asgT, Tg.put, putAll, mLst, mTup, mApp, ownL, appS, mSeq, mRng1, mRng2, D.bool?, outM, pick, deepE, hZ, hQ, int_cl, m1, ad, i1, i2, z1, z2, str_cl, lz2, dl_cons, dl_nil, str_deep]
theorem lwB {W0 k v p q f : Int} {L Z Q : D} {a b : Str} {ps : List (Str × Str)} (hZ : Z.cl = true) (hl : ps.length < 1000) (i1 : idxD (.scr ns) (.int k) = some (.int v)) (g1 : modD (.int v) (.int W0) = some (.int p)) (fd : fdivD (.int v) (.int W0) = some (.int f)) (g2 : modD (.int f) (.int W0) = some (.int q)) (z1 : idxD Z (.int p) = some (.str a)) (z2 : idxD Z (.int q) = some (.str b)) :
    B_law_2 [some (.scr ns), some L, some (.int W0), some Z, some Q, some (.lst true (pd ps)), some (.int k), x7, x8, x9, x10] = some (.ok .nx, [some (.scr ns), some L, some (.int W0), some Z, some Q, some (.lst true (pd (ps ++ [(a, b)]))), some (.int k), x7, x8, x9, x10]) := by
  have q1 : (pd ps).length < sizeLine := by rw [pd_len, sizeLine_eq]; omega
  have p1 : pd (ps ++ [(a, b)]) = pd ps ++ [.tup [.str a, .str b]] := pd_app _ _
  rw [p1]
  unfold B_law_2
  simp [sSeq, sIf, mNot, mAnd, mOr, mB, mChain, mOp, mUn, mVar, mMv, mC, mIf, mBor, mCls, mCallN, mCons, mNil, mCall, callM, mAndV, mOrV, mNotV, M.bind, M.opt, M.ok, sNx, sRet, sRetN, sExpr, sAsg, putM, sAsgT, asgT, Tg.put, putAll, mLst, mTup, mApp, ownL, appS, mSeq, mRng1, mRng2, D.bool?, outM, pick, deepE, scr_cl, hZ, int_cl, i1, intD, g1, fd, g2, z1, z2, str_cl, lz2, dl_cons, dl_nil, str_deep, q1]
end
section
variable {zs : List Str} {ps E : List (Str × Str)} {a0 a1 a2 a4 a6 x7 x8 x9 x10 : Option D}
theorem lx7 (hO : F__law_ordered [.lst false (sd zs), .lst false (pd ps)] = some (.ok (.lst true (pd E)), [])) : sAsg 7 (mCls (mCall 2 F__law_ordered [] (mCons (mVar 3) (mCons (mClsV 5) mNil)))) [a0, a1, a2, some (.lst false (sd zs)), a4, some (.lst true (pd ps)), a6, x7, x8, x9, x10] = some (.ok .nx, [a0, a1, a2, some (.lst false (sd zs)), a4, some (.lst false (pd ps)), a6, some (.lst false (pd E)), x8, x9, x10]) := by
  have cz := lst_cl (sd_cl zs)
  simp [sSeq, sIf, mNot, mAnd, mOr, mB, mChain, mOp, mUn, mVar, mMv, mC, mIf, mBor, mCls, mCallN, mCons, mNil, mCall, callM, mAndV, mOrV, mNotV, M.bind, M.opt, M.ok, sNx, sRet, sRetN, sExpr, sAsg, putM, sAsgT, asgT, Tg.put, putAll, mLst, mTup, mApp, ownL, appS, mSeq, mRng1, mRng2, D.bool?, outM, pick, deepE, mClsV, lst_deep, pd_deep, cz, hO]
theorem lx8 : sAsg 8 (mLst (mCons (mCallN listD (mCons (mVar 3) mNil)) (mCons (mCallN listD (mCons (mClsV 5) mNil)) mNil))) [a0, a1, a2, some (.lst false (sd zs)), a4, some (.lst false (pd ps)), a6, some (.lst false (pd E)), x8, x9, x10] = some (.ok .nx, [a0, a1, a2, some (.lst false (sd zs)), a4, some (.lst false (pd ps)), a6, some (.lst false (pd E)), some (.lst true [.lst true (sd zs), .lst true (pd ps)]), x9, x10]) := by
  have cz := lst_cl (sd_cl zs)
  have ls : ∀ o xs, listD [.lst o xs] = some (.lst true xs) := fun _ _ => rfl
  simp [sSeq, sIf, mNot, mAnd, mOr, mB, mChain, mOp, mUn, mVar, mMv, mC, mIf, mBor, mCls, mCallN, mCons, mNil, mCall, callM, mAndV, mOrV, mNotV, M.bind, M.opt, M.ok, sNx, sRet, sRetN, sExpr, sAsg, putM, sAsgT, asgT, Tg.put, putAll, mLst, mTup, mApp, ownL, appS, mSeq, mRng1, mRng2, D.bool?, outM, pick, deepE, mClsV, lst_deep, pd_deep, cz, ls, lz2]
theorem lx9 (nm : ∀ ρ, newM 0 3 F_Web___init__ [.lst false (sd zs), .lst false (pd ps)] ρ = some (.ok (wb true zs E), ρ)) : sAsg 9 (mCls (mBor D.imm (mMake 0 3 F_Web___init__ [] (mCons (mOp idxD (mVar 8) (mC (.int 0))) (mCons (mOp idxD (mVar 8) (mC (.int 1))) mNil))))) [a0, a1, a2, some (.lst false (sd zs)), a4, some (.lst false (pd ps)), a6, some (.lst false (pd E)), some (.lst true [.lst true (sd zs), .lst true (pd ps)]), x9, x10] = some (.ok .nx, [a0, a1, a2, some (.lst false (sd zs)), a4, some (.lst false (pd ps)), a6, some (.lst false (pd E)), some (.lst true [.lst true (sd zs), .lst true (pd ps)]), some (wb false zs E), x10]) := by
  have i0 : ∀ o X Y, idxD (.lst o [X, Y]) (.int 0) = some X := fun _ _ _ => rfl
  have i1 : ∀ o X Y, idxD (.lst o [X, Y]) (.int 1) = some Y := fun _ _ _ => rfl
  have cc : (D.lst false [.lst false (sd zs), .lst false (pd ps)]).cl = true := by
    show (!false && (D.cl (.lst false (sd zs)) && (D.cl (.lst false (pd ps)) && true))) = true
    rw [lst_cl (sd_cl zs), lst_cl (pd_cl ps)]; rfl
  simp [sSeq, sIf, mNot, mAnd, mOr, mB, mChain, mOp, mUn, mVar, mMv, mC, mIf, mBor, mCls, mCallN, mCons, mNil, mCall, callM, mAndV, mOrV, mNotV, M.bind, M.opt, M.ok, sNx, sRet, sRetN, sExpr, sAsg, putM, sAsgT, asgT, Tg.put, putAll, mLst, mTup, mApp, ownL, appS, mSeq, mRng1, mRng2, D.bool?, outM, pick, deepE, lst_deep, dl_cons, dl_nil, sd_deep, pd_deep, cc, i0, i1, mMake, nm, wb_imm, wb_deep]
theorem lx10 (h : okS zs) (hp : okP ps) : sIf (mBor (fun _ => true) (mOr (mB (mOp neD (mOp idxD (mVar 8) (mC (.int 0))) (mVar 3))) (mB (mOp neD (mOp idxD (mVar 8) (mC (.int 1))) (mVar 5))))) (sRet (mC (.bl false))) sNx [a0, a1, a2, some (.lst false (sd zs)), a4, some (.lst false (pd ps)), a6, some (.lst false (pd E)), some (.lst true [.lst true (sd zs), .lst true (pd ps)]), some (wb false zs E), x10] = some (.ok .nx, [a0, a1, a2, some (.lst false (sd zs)), a4, some (.lst false (pd ps)), a6, some (.lst false (pd E)), some (.lst true [.lst true (sd zs), .lst true (pd ps)]), some (wb false zs E), x10]) := by
  have i0 : ∀ o X Y, idxD (.lst o [X, Y]) (.int 0) = some X := fun _ _ _ => rfl
  have i1 : ∀ o X Y, idxD (.lst o [X, Y]) (.int 1) = some Y := fun _ _ _ => rfl
  have cz := lst_cl (sd_cl zs)
  have cp := lst_cl (pd_cl ps)
  have cc : (D.lst false [.lst false (sd zs), .lst false (pd ps)]).cl = true := by
    show (!false && (D.cl (.lst false (sd zs)) && (D.cl (.lst false (pd ps)) && true))) = true
    rw [lst_cl (sd_cl zs), lst_cl (pd_cl ps)]; rfl
  have e1 := eq_sd (o := false) (o' := false) h h
  have e2 := eq_pd (o := false) (o' := false) hp hp
  simp [sSeq, sIf, mNot, mAnd, mOr, mB, mChain, mOp, mUn, mVar, mMv, mC, mIf, mBor, mCls, mCallN, mCons, mNil, mCall, callM, mAndV, mOrV, mNotV, M.bind, M.opt, M.ok, sNx, sRet, sRetN, sExpr, sAsg, putM, sAsgT, asgT, Tg.put, putAll, mLst, mTup, mApp, ownL, appS, mSeq, mRng1, mRng2, D.bool?, outM, pick, deepE, lst_deep, dl_cons, dl_nil, sd_deep, pd_deep, cc, cz, cp, i0, i1, neD, e1, e2]
theorem lx11 : sExpr (mClearP 8 0) [a0, a1, a2, some (.lst false (sd zs)), a4, some (.lst false (pd ps)), a6, some (.lst false (pd E)), some (.lst true [.lst true (sd zs), .lst true (pd ps)]), some (wb false zs E), x10] = some (.ok .nx, [a0, a1, a2, some (.lst false (sd zs)), a4, some (.lst false (pd ps)), a6, some (.lst false (pd E)), some (.lst true [.lst true [], .lst true (pd ps)]), some (wb false zs E), x10]) := by
  simp [sSeq, sIf, mNot, mAnd, mOr, mB, mChain, mOp, mUn, mVar, mMv, mC, mIf, mBor, mCls, mCallN, mCons, mNil, mCall, callM, mAndV, mOrV, mNotV, M.bind, M.opt, M.ok, sNx, sRet, sRetN, sExpr, sAsg, putM, sAsgT, asgT, Tg.put, putAll, mLst, mTup, mApp, ownL, appS, mSeq, mRng1, mRng2, D.bool?, outM, pick, deepE, mClearP]
theorem lx12 : sExpr (mClearP 8 1) [a0, a1, a2, some (.lst false (sd zs)), a4, some (.lst false (pd ps)), a6, some (.lst false (pd E)), some (.lst true [.lst true [], .lst true (pd ps)]), some (wb false zs E), x10] = some (.ok .nx, [a0, a1, a2, some (.lst false (sd zs)), a4, some (.lst false (pd ps)), a6, some (.lst false (pd E)), some (.lst true [.lst true [], .lst true []]), some (wb false zs E), x10]) := by
  simp [sSeq, sIf, mNot, mAnd, mOr, mB, mChain, mOp, mUn, mVar, mMv, mC, mIf, mBor, mCls, mCallN, mCons, mNil, mCall, callM, mAndV, mOrV, mNotV, M.bind, M.opt, M.ok, sNx, sRet, sRetN, sExpr, sAsg, putM, sAsgT, asgT, Tg.put, putAll, mLst, mTup, mApp, ownL, appS, mSeq, mRng1, mRng2, D.bool?, outM, pick, deepE, mClearP]
theorem lx13 : sAsg 10 (mProp 0 F_Web_actors (mVar 9)) [a0, a1, a2, some (.lst false (sd zs)), a4, some (.lst false (pd ps)), a6, some (.lst false (pd E)), some (.lst true [.lst true [], .lst true []]), some (wb false zs E), x10] = some (.ok .nx, [a0, a1, a2, some (.lst false (sd zs)), a4, some (.lst false (pd ps)), a6, some (.lst false (pd E)), some (.lst true [.lst true [], .lst true []]), some (wb false zs E), some (.lst true (sd zs))]) := by
  have ac := actors_ok zs E
  have pr : propD 0 F_Web_actors (wb false zs E) = some (.lst true (sd zs)) := by unfold propD; rw [if_pos (wb_isC _ _ _), ac]; rfl
  simp [sSeq, sIf, mNot, mAnd, mOr, mB, mChain, mOp, mUn, mVar, mMv, mC, mIf, mBor, mCls, mCallN, mCons, mNil, mCall, callM, mAndV, mOrV, mNotV, M.bind, M.opt, M.ok, sNx, sRet, sRetN, sExpr, sAsg, putM, sAsgT, asgT, Tg.put, putAll, mLst, mTup, mApp, ownL, appS, mSeq, mRng1, mRng2, D.bool?, outM, pick, deepE, wb_cl, mProp, pr]
theorem lx14 {X : Option D} (wi : F__law_web_is [wb false zs E, .lst false (sd zs), .lst false (pd E)] = some (.ok (.bl true), [])) : sIf (mNot (mB (mCall 3 F__law_web_is [] (mCons (mVar 9) (mCons (mVar 3) (mCons (mVar 7) mNil)))))) (sRet (mC (.bl false))) sNx [a0, a1, a2, some (.lst false (sd zs)), a4, some (.lst false (pd ps)), a6, some (.lst false (pd E)), some (.lst true [.lst true [], .lst true []]), some (wb false zs E), X] = some (.ok .nx, [a0, a1, a2, some (.lst false (sd zs)), a4, some (.lst false (pd ps)), a6, some (.lst false (pd E)), some (.lst true [.lst true [], .lst true []]), some (wb false zs E), X]) := by
  have cz := lst_cl (sd_cl zs)
  have cE := lst_cl (pd_cl E)
  simp [sSeq, sIf, mNot, mAnd, mOr, mB, mChain, mOp, mUn, mVar, mMv, mC, mIf, mBor, mCls, mCallN, mCons, mNil, mCall, callM, mAndV, mOrV, mNotV, M.bind, M.opt, M.ok, sNx, sRet, sRetN, sExpr, sAsg, putM, sAsgT, asgT, Tg.put, putAll, mLst, mTup, mApp, ownL, appS, mSeq, mRng1, mRng2, D.bool?, outM, pick, deepE, wb_cl, cz, cE, wi]
theorem lx15 {l : List D} : sExpr (mClear 10) [a0, a1, a2, some (.lst false (sd zs)), a4, some (.lst false (pd ps)), a6, some (.lst false (pd E)), some (.lst true [.lst true [], .lst true []]), some (wb false zs E), some (.lst true l)] = some (.ok .nx, [a0, a1, a2, some (.lst false (sd zs)), a4, some (.lst false (pd ps)), a6, some (.lst false (pd E)), some (.lst true [.lst true [], .lst true []]), some (wb false zs E), some (.lst true [])]) := by
  simp [sSeq, sIf, mNot, mAnd, mOr, mB, mChain, mOp, mUn, mVar, mMv, mC, mIf, mBor, mCls, mCallN, mCons, mNil, mCall, callM, mAndV, mOrV, mNotV, M.bind, M.opt, M.ok, sNx, sRet, sRetN, sExpr, sAsg, putM, sAsgT, asgT, Tg.put, putAll, mLst, mTup, mApp, ownL, appS, mSeq, mRng1, mRng2, D.bool?, outM, pick, deepE, mClear]
theorem lx16 {X : Option D} (hl : E.length ≤ 100) : sAsg 10 (mCallN (listO 0 "_pairs" F_Web___len__) (mCons (mVar 9) mNil)) [a0, a1, a2, some (.lst false (sd zs)), a4, some (.lst false (pd ps)), a6, some (.lst false (pd E)), some (.lst true [.lst true [], .lst true []]), some (wb false zs E), X] = some (.ok .nx, [a0, a1, a2, some (.lst false (sd zs)), a4, some (.lst false (pd ps)), a6, some (.lst false (pd E)), some (.lst true [.lst true [], .lst true []]), some (wb false zs E), some (.lst true (pd E))]) := by
  have li := listO_wb (zs := zs) hl
  simp [sSeq, sIf, mNot, mAnd, mOr, mB, mChain, mOp, mUn, mVar, mMv, mC, mIf, mBor, mCls, mCallN, mCons, mNil, mCall, callM, mAndV, mOrV, mNotV, M.bind, M.opt, M.ok, sNx, sRet, sRetN, sExpr, sAsg, putM, sAsgT, asgT, Tg.put, putAll, mLst, mTup, mApp, ownL, appS, mSeq, mRng1, mRng2, D.bool?, outM, pick, deepE, wb_cl, li]
theorem lx17 {X : Option D} {a : Str} {r : List Str} (ha : zs[0]? = some a) (au : F_Web_audience [wb false zs E, .str a] = some (.ok (.lst true (sd r)), [])) : sAsg 10 (mMeth 0 "audience" 2 F_Web_audience [] (mVar 9) (mCons (mOp idxD (mVar 3) (mC (.int 0))) mNil)) [a0, a1, a2, some (.lst false (sd zs)), a4, some (.lst false (pd ps)), a6, some (.lst false (pd E)), some (.lst true [.lst true [], .lst true []]), some (wb false zs E), X] = some (.ok .nx, [a0, a1, a2, some (.lst false (sd zs)), a4, some (.lst false (pd ps)), a6, some (.lst false (pd E)), some (.lst true [.lst true [], .lst true []]), some (wb false zs E), some (.lst true (sd r))]) := by
  have cz := lst_cl (sd_cl zs)
  have i0 : idxD (.lst false (sd zs)) (.int 0) = some (.str a) := ix_sd ha
  simp [sSeq, sIf, mNot, mAnd, mOr, mB, mChain, mOp, mUn, mVar, mMv, mC, mIf, mBor, mCls, mCallN, mCons, mNil, mCall, callM, mAndV, mOrV, mNotV, M.bind, M.opt, M.ok, sNx, sRet, sRetN, sExpr, sAsg, putM, sAsgT, asgT, Tg.put, putAll, mLst, mTup, mApp, ownL, appS, mSeq, mRng1, mRng2, D.bool?, outM, pick, deepE, wb_cl, cz, str_cl, i0, mMeth, wb_isC, wb_no1, au]
theorem lx18 {X : Option D} {a : Str} {r : List Str} (ha : zs[0]? = some a) (au : F_Web_tellers [wb false zs E, .str a] = some (.ok (.lst true (sd r)), [])) : sAsg 10 (mMeth 0 "tellers" 2 F_Web_tellers [] (mVar 9) (mCons (mOp idxD (mVar 3) (mC (.int 0))) mNil)) [a0, a1, a2, some (.lst false (sd zs)), a4, some (.lst false (pd ps)), a6, some (.lst false (pd E)), some (.lst true [.lst true [], .lst true []]), some (wb false zs E), X] = some (.ok .nx, [a0, a1, a2, some (.lst false (sd zs)), a4, some (.lst false (pd ps)), a6, some (.lst false (pd E)), some (.lst true [.lst true [], .lst true []]), some (wb false zs E), some (.lst true (sd r))]) := by
  have cz := lst_cl (sd_cl zs)
  have i0 : idxD (.lst false (sd zs)) (.int 0) = some (.str a) := ix_sd ha
  simp [sSeq, sIf, mNot, mAnd, mOr, mB, mChain, mOp, mUn, mVar, mMv, mC, mIf, mBor, mCls, mCallN, mCons, mNil, mCall, callM, mAndV, mOrV, mNotV, M.bind, M.opt, M.ok, sNx, sRet, sRetN, sExpr, sAsg, putM, sAsgT, asgT, Tg.put, putAll, mLst, mTup, mApp, ownL, appS, mSeq, mRng1, mRng2, D.bool?, outM, pick, deepE, wb_cl, cz, str_cl, i0, mMeth, wb_isC, wb_no2, au]
theorem lx19 {X : Option D} (nm : ∀ ρ, newM 0 3 F_Web___init__ [.lst false (sd zs), .tup []] ρ = some (.ok (wb true zs []), ρ)) (wi : F__law_web_is [wb false zs [], .lst false (sd zs), .lst false []] = some (.ok (.bl true), [])) : sIf (mNot (mB (mCall 3 F__law_web_is [] (mCons (mCls (mMake 0 3 F_Web___init__ [.tup []] (mCons (mCls (mCallN listD (mCons (mVar 3) mNil))) mNil))) (mCons (mVar 3) (mCons (mCls (mLst mNil)) mNil)))))) (sRet (mC (.bl false))) sNx [a0, a1, a2, some (.lst false (sd zs)), a4, some (.lst false (pd ps)), a6, some (.lst false (pd E)), some (.lst true [.lst true [], .lst true []]), some (wb false zs E), X] = some (.ok .nx, [a0, a1, a2, some (.lst false (sd zs)), a4, some (.lst false (pd ps)), a6, some (.lst false (pd E)), some (.lst true [.lst true [], .lst true []]), some (wb false zs E), X]) := by
  have cz := lst_cl (sd_cl zs)
  have ls : ∀ o xs, listD [.lst o xs] = some (.lst true xs) := fun _ _ => rfl
  simp [sSeq, sIf, mNot, mAnd, mOr, mB, mChain, mOp, mUn, mVar, mMv, mC, mIf, mBor, mCls, mCallN, mCons, mNil, mCall, callM, mAndV, mOrV, mNotV, M.bind, M.opt, M.ok, sNx, sRet, sRetN, sExpr, sAsg, putM, sAsgT, asgT, Tg.put, putAll, mLst, mTup, mApp, ownL, appS, mSeq, mRng1, mRng2, D.bool?, outM, pick, deepE, cz, ls, lst_deep, sd_deep, dl_nil, mMake, nm, wb_deep, wi]
theorem lx20 {X : Option D} (tw : F__law_twins [wb false zs E, .lst false (sd zs), .lst false (pd ps), .lst false (pd E)] = some (.ok (.bl true), [])) (dr : F__law_doors [.lst false (sd zs)] = some (.ok (.bl true), [])) : sIf (mOr (mNot (mB (mCall 4 F__law_twins [] (mCons (mVar 9) (mCons (mVar 3) (mCons (mClsV 5) (mCons (mVar 7) mNil))))))) (mNot (mB (mCall 1 F__law_doors [] (mCons (mVar 3) mNil))))) (sRet (mC (.bl false))) sNx [a0, a1, a2, some (.lst false (sd zs)), a4, some (.lst false (pd ps)), a6, some (.lst false (pd E)), some (.lst true [.lst true [], .lst true []]), some (wb false zs E), X] = some (.ok .nx, [a0, a1, a2, some (.lst false (sd zs)), a4, some (.lst false (pd ps)), a6, some (.lst false (pd E)), some (.lst true [.lst true [], .lst true []]), some (wb false zs E), X]) := by
  have cz := lst_cl (sd_cl zs)
  have cE := lst_cl (pd_cl E)
  simp [sSeq, sIf, mNot, mAnd, mOr, mB, mChain, mOp, mUn, mVar, mMv, mC, mIf, mBor, mCls, mCallN, mCons, mNil, mCall, callM, mAndV, mOrV, mNotV, M.bind, M.opt, M.ok, sNx, sRet, sRetN, sExpr, sAsg, putM, sAsgT, asgT, Tg.put, putAll, mLst, mTup, mApp, ownL, appS, mSeq, mRng1, mRng2, D.bool?, outM, pick, deepE, mClsV, lst_deep, pd_deep, wb_cl, cz, cE, tw, dr]
theorem lx21 {ρ : Rho} : outM [] (sRet (mAndV (mCall 1 F__law_is_integer [] (mCons (mC (.int 5)) mNil)) (mOp eqD (mC (.int 5)) (mC (.int 5)))) ρ) = some (.ok (.bl true), []) := by
  have ii := isint_ok 5
  have e : eqB (.int 5) (.int 5) = some true := rfl
  simp [sSeq, sIf, mNot, mAnd, mOr, mB, mChain, mOp, mUn, mVar, mMv, mC, mIf, mBor, mCls, mCallN, mCons, mNil, mCall, callM, mAndV, mOrV, mNotV, M.bind, M.opt, M.ok, sNx, sRet, sRetN, sExpr, sAsg, putM, sAsgT, asgT, Tg.put, putAll, mLst, mTup, mApp, ownL, appS, mSeq, mRng1, mRng2, D.bool?, outM, pick, deepE, ii, eqD, e]
end

end K01

namespace K01
open PySem PySem.Spec L2 Ta
theorem id_deep : ∀ xs : List Int, deepL (xs.map .int) = xs.map .int
  | [] => rfl
  | x :: xs => by show D.int x :: deepL (xs.map .int) = _; rw [id_deep xs]; rfl
theorem id_cl : ∀ xs : List Int, clL (xs.map .int) = true
  | [] => rfl
  | x :: xs => by show (true && clL (xs.map .int)) = true; rw [id_cl xs]; rfl
theorem ix_id {xs : List Int} {i : Nat} {o : Bool} {v : Int} (h : xs[i]? = some v) : idxD (.lst o (xs.map .int)) (.int i) = some (.int v) := by
  show atI (xs.map D.int) (i : Int) = _
  refine atI_nat ?_
  rw [List.getElem?_map, h]; rfl
def pk (zs : List Str) (y : Int) : Str := zs.getD y.toNat (ofL [])
theorem pk_ok {zs : List Str} {y : Int} (h0 : 0 ≤ y) (h1 : y < zs.length) : idxD (.lst false (sd zs)) (.int y) = some (.str (pk zs y)) ∧ pk zs y ∈ zs := by
  obtain ⟨n, rfl⟩ := Int.eq_ofNat_of_zero_le h0
  have hn : n < zs.length := by omega
  have e : zs[n]? = some (pk zs n) := by
    unfold pk
    rw [Int.toNat_natCast, List.getD_eq_getElem?_getD, List.getElem?_eq_getElem hn]; rfl
  exact ⟨ix_sd e, List.mem_of_getElem? e⟩
theorem rng3_get {n i : Nat} {d : D} (h : (rngL 3 n)[i]? = some d) : i < n ∧ d = .int ((3 + i : Nat) : Int) := by
  unfold rngL at h
  rw [List.getElem?_map] at h
  cases q : (List.range n)[i]? with
  | none => rw [q] at h; cases h
  | some k =>
    rw [q] at h
    have hi : i < n := by
      have := (List.getElem?_eq_some_iff.mp q).1
      simpa using this
    rw [List.getElem?_range hi] at q
    cases q
    refine ⟨hi, ?_⟩
    cases h
    congr 1
theorem rng2_ok {ms : M (List D)} {ρ ρ' : Rho} {n : Nat} (h : ms ρ = some (.ok [.int 3, .int n], ρ')) (h1 : n ≤ 1000000) : mRng2 ms ρ = some (.ok (rngL 3 (n - 3)), ρ') := by
  unfold mRng2 M.bind
  rw [h]
  show M.opt (if -(2 ^ 62) ≤ (3 : Int) ∧ (3 : Int) < 2 ^ 62 ∧ -(2 ^ 62) ≤ (n : Int) ∧ (n : Int) < 2 ^ 62 then some (rngL 3 ((n : Int) - 3).toNat) else none) ρ' = _
  rw [if_pos ⟨by omega, by omega, by omega, by omega⟩]
  have : ((n : Int) - 3).toNat = n - 3 := by omega
  rw [this]; rfl
theorem mul_nn (a b : Nat) (h : b < 1000000) : mulSD (.int a) (.int b) = some (.int (a * b : Nat)) := by
  rw [mulS_r _ _ (by omega) (by omega), Int.natCast_mul]
theorem law5 {ns : List Int} {zs : List Str} {L : D} {W0 : Int} {ys : List Int} {m : Nat} (hm : m < 24) (hy : ys.length = 2 * m) (hr : ∀ y ∈ ys, 0 ≤ y ∧ y < zs.length) (cl : clE [some (.scr ns), some L, some (.int W0), some (.lst false (sd zs)), some (.lst false (ys.map .int)), none, none, none, none, none, none] = [some (.scr ns), some L, some (.int W0), some (.lst false (sd zs)), some (.lst false (ys.map .int)), none, none, none, none, none, none]) :
    ∃ ps : List (Str × Str), ps.length = m ∧ (∀ p ∈ ps, p.1 ∈ zs ∧ p.2 ∈ zs) ∧ sAsg 5 (mLc [6] (.nm 6) (mRng1 (mCons (mOp fdivD (mCallN lenD (mCons (mVar 4) mNil)) (mC (.int 2))) mNil)) mYes E_law_1) [some (.scr ns), some L, some (.int W0), some (.lst false (sd zs)), some (.lst false (ys.map .int)), none, none, none, none, none, none] = some (.ok .nx, [some (.scr ns), some L, some (.int W0), some (.lst false (sd zs)), some (.lst false (ys.map .int)), some (.lst true (pd ps)), none, none, none, none, none]) := by
  have cq := lst_cl (id_cl ys)
  have cz := lst_cl (sd_cl zs)
  have rg : mRng1 (mCons (mOp fdivD (mCallN lenD (mCons (mVar 4) mNil)) (mC (.int 2))) mNil) [some (.scr ns), some L, some (.int W0), some (.lst false (sd zs)), some (.lst false (ys.map .int)), none, none, none, none, none, none] = some (.ok (rngL 0 m), [some (.scr ns), some L, some (.int W0), some (.lst false (sd zs)), some (.lst false (ys.map .int)), none, none, none, none, none, none]) := by
    refine rng1_ok ?_ (by omega)
    have l1 : lenD [.lst false (ys.map .int)] = some (.int (2 * m : Nat)) := by show some (D.int (ys.map D.int).length) = _; rw [List.length_map, hy]
    have f1 : fdivD (.int (2 * m : Nat)) (.int 2) = some (.int m) := by
      rw [fdiv_r _ _ (by decide) (by decide), Int.fdiv_eq_ediv_of_nonneg _ (by decide)]
      congr 2
      omega
    generalize ((2 * m : Nat) : Int) = A at *
    generalize (m : Int) = B at *
    simp [sSeq, sIf, mNot, mAnd, mOr, mB, mChain, mOp, mUn, mVar, mMv, mC, mIf, mBor, mCls, mCallN, mCons, mNil, mCall, callM, mAndV, mOrV, mNotV, M.bind, M.opt, M.ok, sNx, sRet, sRetN, sExpr, sAsg, putM, sAsgT, asgT, Tg.put, putAll, mLst, mTup, mApp, ownL, appS, mSeq, mRng1, mRng2, D.bool?, outM, pick, deepE, cq, l1, f1]
  refine ⟨(List.range m).map fun k => (pk zs (ys.getD (2 * k) 0), pk zs (ys.getD (2 * k + 1) 0)), by rw [List.length_map, List.length_range], ?_, ?_⟩
  · intro p hp
    obtain ⟨k, hk, rfl⟩ := List.mem_map.mp hp
    have hk := List.mem_range.mp hk
    have a1 : ys.getD (2 * k) 0 ∈ ys := by rw [List.getD_eq_getElem?_getD, List.getElem?_eq_getElem (by omega)]; exact List.getElem_mem _
    have a2 : ys.getD (2 * k + 1) 0 ∈ ys := by rw [List.getD_eq_getElem?_getD, List.getElem?_eq_getElem (by omega)]; exact List.getElem_mem _
    exact ⟨(pk_ok (hr _ a1).1 (hr _ a1).2).2, (pk_ok (hr _ a2).1 (hr _ a2).2).2⟩
  · have lc := lc_rng (t := .nm 6) (me := E_law_1) (ρc := [some (.scr ns), some L, some (.int W0), some (.lst false (sd zs)), some (.lst false (ys.map .int)), none, none, none, none, none, none]) (fun k => .tup [.str (pk zs (ys.getD (2 * k) 0)), .str (pk zs (ys.getD (2 * k + 1) 0))]) m (fun k hk => by
      have e1 : ys[2 * k]? = some (ys.getD (2 * k) 0) := by rw [List.getD_eq_getElem?_getD, List.getElem?_eq_getElem (by omega)]; rfl
      have e2 : ys[2 * k + 1]? = some (ys.getD (2 * k + 1) 0) := by rw [List.getD_eq_getElem?_getD, List.getElem?_eq_getElem (by omega)]; rfl
      have b1 := hr _ (List.mem_of_getElem? e1)
      have b2 := hr _ (List.mem_of_getElem? e2)
      have m1 := mul_nn 2 k (by omega)
      have ad : addD (.int (2 * k : Nat)) (.int 1) = some (.int (2 * k + 1 : Nat)) := rfl
      exact ⟨_, _, rfl, lwE cz cq m1 ad (ix_id e1) (ix_id e2) (pk_ok b1.1 b1.2).1 (pk_ok b2.1 b2.2).1⟩)
    have lm := mLc_ok (own := [6]) (mt := mYes) rg (by rw [cl]; rfl) lc (by rw [rng_len]; omega)
    unfold sAsg M.bind
    rw [lm]
    dsimp only
    have : (List.range m).map (fun k => D.tup [.str (pk zs (ys.getD (2 * k) 0)), .str (pk zs (ys.getD (2 * k + 1) 0))]) = pd ((List.range m).map fun k => (pk zs (ys.getD (2 * k) 0), pk zs (ys.getD (2 * k + 1) 0))) := by unfold pd; rw [List.map_map]; rfl
    rw [this]; rfl

end K01

namespace K01
open PySem PySem.Spec L2 Ta
theorem law6 {ns : List Int} {zs : List Str} {L Q : D} {W0 : Int} {ps0 : List (Str × Str)} (hns : ns.length ≤ 63) (hw : W0 = zs.length) (h1 : 1 ≤ zs.length) (h5 : zs.length ≤ 5) (h0 : ps0.length ≤ 23) (hp0 : ∀ p ∈ ps0, p.1 ∈ zs ∧ p.2 ∈ zs) :
    ∃ ρ', sFor (.nm 6) R_law_1 B_law_2 [some (.scr ns), some L, some (.int W0), some (.lst false (sd zs)), some Q, some (.lst true (pd ps0)), none, none, none, none, none] = some (.ok .nx, ρ') ∧ ∃ ps x6, ρ' = [some (.scr ns), some L, some (.int W0), some (.lst false (sd zs)), some Q, some (.lst true (pd ps)), x6, none, none, none, none] ∧ ∀ p ∈ ps, p.1 ∈ zs ∧ p.2 ∈ zs := by
  have cz := lst_cl (sd_cl zs)
  have hw0 : W0 ≠ 0 := by omega
  have rg : R_law_1 [some (.scr ns), some L, some (.int W0), some (.lst false (sd zs)), some Q, some (.lst true (pd ps0)), none, none, none, none, none] = some (.ok (rngL 3 (ns.length - 3)), [some (.scr ns), some L, some (.int W0), some (.lst false (sd zs)), some Q, some (.lst true (pd ps0)), none, none, none, none, none]) := by
    unfold R_law_1
    refine rng2_ok ?_ (by omega)
    have l1 : lenD [.scr ns] = some (.int ns.length) := rfl
    generalize (ns.length : Int) = N0 at *
    simp [sSeq, sIf, mNot, mAnd, mOr, mB, mChain, mOp, mUn, mVar, mMv, mC, mIf, mBor, mCls, mCallN, mCons, mNil, mCall, callM, mAndV, mOrV, mNotV, M.bind, M.opt, M.ok, sNx, sRet, sRetN, sExpr, sAsg, putM, sAsgT, asgT, Tg.put, putAll, mLst, mTup, mApp, ownL, appS, mSeq, mRng1, mRng2, D.bool?, outM, pick, deepE, scr_cl, l1]
  obtain ⟨ρ', e1, ps, x6, e2, _, e4⟩ := sLoop_inv (t := .nm 6) (m := B_law_2) (rngL 3 (ns.length - 3)) (fun i ρ => ∃ ps x6, ρ = [some (.scr ns), some L, some (.int W0), some (.lst false (sd zs)), some Q, some (.lst true (pd ps)), x6, none, none, none, none] ∧ ps.length ≤ 23 + i ∧ ∀ p ∈ ps, p.1 ∈ zs ∧ p.2 ∈ zs) (fun i d ρ hd hq => by
    obtain ⟨ps, x6, rfl, hl, hp⟩ := hq
    obtain ⟨hi, rfl⟩ := rng3_get hd
    have hlt : 3 + i < ns.length := by omega
    have i1 : idxD (.scr ns) (.int (3 + i : Nat)) = some (.int ns[3 + i]) := by
      show (atI ns ((3 + i : Nat) : Int)).map D.int = _
      rw [atI_nat (List.getElem?_eq_getElem hlt)]; rfl
    have mr : ∀ a : Int, 0 ≤ a.fmod W0 ∧ a.fmod W0 < zs.length := fun a => ⟨Int.fmod_nonneg_of_pos a (by omega), by rw [← hw]; exact Int.fmod_lt_of_pos a (by omega)⟩
    have k1 := pk_ok (mr ns[3 + i]).1 (mr ns[3 + i]).2
    have k2 := pk_ok (mr (ns[3 + i].fdiv W0)).1 (mr (ns[3 + i].fdiv W0)).2
    refine ⟨_, _, rfl, lwB cz (by omega) i1 (mod_r _ _ hw0) (fdiv_r _ _ hw0 (by omega)) (mod_r _ _ hw0) k1.1 k2.1, _, _, rfl, by rw [List.length_append, List.length_singleton]; omega, fun p hp2 => ?_⟩
    rcases List.mem_append.mp hp2 with hp2 | hp2
    · exact hp p hp2
    · rw [List.mem_singleton.mp hp2]
      exact ⟨k1.2, k2.2⟩) [some (.scr ns), some L, some (.int W0), some (.lst false (sd zs)), some Q, some (.lst true (pd ps0)), none, none, none, none, none] ⟨ps0, none, rfl, by omega, hp0⟩
  exact ⟨ρ', (sFor_ok rg).trans e1, ps, x6, e2, e4⟩
theorem law_true (ns : List Int) (hns : ns.length ≤ 63) : F_law [.scr ns] = some (.ok (.bl true), []) := by
  obtain ⟨c0, hc0⟩ := cell_ok ns 0 (by decide)
  obtain ⟨c1, hc1⟩ := cell_ok ns 1 (by decide)
  obtain ⟨c2, hc2⟩ := cell_ok ns 2 (by decide)
  have hc0 : F__law_cell [.scr ns, .int 0] = some (.ok (.int c0), []) := hc0
  have hc1 : F__law_cell [.scr ns, .int 1] = some (.ok (.int c1), []) := hc1
  have hc2 : F__law_cell [.scr ns, .int 2] = some (.ok (.int c2), []) := hc2
  obtain ⟨xs, er, el, eb⟩ := row_ok c0 1 8 60 (by decide) (by decide) (by decide) (by decide)
  have er : F__law_row [.int c0, .int 1, .int 8, .int 60] = some (.ok (.lst true (xs.map .int)), []) := er
  have g0 : xs[0]? = some (xs.getD 0 0) := by rw [List.getD_eq_getElem?_getD, List.getElem?_eq_getElem (by omega)]; rfl
  have g1 : xs[1]? = some (xs.getD 1 0) := by rw [List.getD_eq_getElem?_getD, List.getElem?_eq_getElem (by omega)]; rfl
  have b0 := eb _ (List.mem_of_getElem? g0)
  have b1 := eb _ (List.mem_of_getElem? g1)
  obtain ⟨n0, hn0⟩ := Int.eq_ofNat_of_zero_le b0.1
  obtain ⟨n1, hn1⟩ := Int.eq_ofNat_of_zero_le b1.1
  rw [hn0] at g0
  rw [hn1] at g1
  have i0 : idxD (.lst false (xs.map .int)) (.int 0) = some (.int n0) := ix_id g0
  have i1 : idxD (.lst false (xs.map .int)) (.int 1) = some (.int n1) := ix_id g1
  have cL := lst_cl (id_cl xs)
  have dL : (D.lst true (xs.map .int)).deep = .lst false (xs.map .int) := by rw [lst_deep, id_deep]
  obtain ⟨W0, hW⟩ : ∃ W0 : Int, W0 = 1 + ((n0 % 5 : Nat) : Int) := ⟨_, rfl⟩
  have hW2 : W0 = ((1 + n0 % 5 : Nat) : Int) := by omega
  obtain ⟨zs, ez, lz, hn, h⟩ := names_ok c1 2 (1 + n0 % 5) (by omega) (by decide)
  rw [← hW2] at ez
  have h1 : 1 ≤ zs.length := by omega
  have h5 : zs.length ≤ 5 := by omega
  obtain ⟨ys, ey, ly, hy⟩ := row_ok c2 13 (2 * (n1 % 24)) W0 (by omega) (by omega) (by omega) (by decide)
  have e2m : ((2 * (n1 % 24) : Nat) : Int) = 2 * ((n1 % 24 : Nat) : Int) := by omega
  rw [e2m] at ey
  have cQ := lst_cl (id_cl ys)
  have dQ : (D.lst true (ys.map .int)).deep = .lst false (ys.map .int) := by rw [lst_deep, id_deep]
  have dZ : (D.lst true (sd zs)).deep = .lst false (sd zs) := by rw [lst_deep, sd_deep]
  have cZ := lst_cl (sd_cl zs)
  have mo0 : modD (.int n0) (.int 5) = some (.int (n0 % 5 : Nat)) := mod_n n0 5 _ rfl (by decide) _ rfl _ rfl
  have mo1 : modD (.int n1) (.int 24) = some (.int (n1 % 24 : Nat)) := mod_n n1 24 _ rfl (by decide) _ rfl _ rfl
  have mm := mul_nn 2 (n1 % 24) (by omega)
  rw [e2m] at mm
  have mm : mulSD (.int 2) (.int (n1 % 24 : Nat)) = some (.int (2 * ((n1 % 24 : Nat) : Int))) := mm
  have s2 := lw2 (ns := ns) (x3 := none) (x4 := none) (x5 := none) (x6 := none) (x7 := none) (x8 := none) (x9 := none) (x10 := none) cL i0 mo0
  rw [← hW] at s2
  obtain ⟨ps0, lp0, hp0, s5⟩ := law5 (ns := ns) (zs := zs) (L := .lst false (xs.map .int)) (W0 := W0) (ys := ys) (m := n1 % 24) (by omega) ly (fun y hq => by have := hy y hq; omega) (by simp only [clE_cons, clE_nil, cl1_some cL, cl1_some cZ, cl1_some cQ, cl1_none]; rfl)
  obtain ⟨ρ', s6, ps, x6, rfl, hp⟩ := law6 (L := .lst false (xs.map .int)) (Q := .lst false (ys.map .int)) (W0 := W0) hns (by omega) h1 h5 (by omega) hp0
  have okp := in_okP h hp
  have hE := norm_is zs ps
  have okE : okP (norm zs ps) := norm_ok h
  have lE : (norm zs ps).length ≤ 100 := by have := norm_len (ps := ps) h5; omega
  have wi := webis_ok h okE h5 lE
  have tw := twins_ok h hn h1 h5 hp rfl
  have dr := doors_ok h hn h1 h5
  have nm := mk_ok (X := .lst false (sd zs)) (Y := .lst false (pd ps)) .l .l h hn h1 h5 hp
  have nil0 : norm zs [] = [] := by
    unfold norm
    simp
  have nm0 := mk_ok (X := .lst false (sd zs)) (Y := .tup (pd [])) .l .t h hn h1 h5 (ps := []) (fun p hp => nomatch hp)
  rw [nil0] at nm0
  have wi0 := webis_ok (ps := []) h (fun p hp => nomatch hp) h5 (by simp)
  obtain ⟨a, ha⟩ : ∃ a, zs[0]? = some a := ⟨zs[0], List.getElem?_eq_getElem _⟩
  have hav := List.mem_of_getElem? ha
  have au := aud_ok h okE hav h5
  have te := tel_ok h okE hav h5
  unfold F_law
  show outM [] (sSeq _ _ [some (.scr ns), none, none, none, none, none, none, none, none, none, none]) = _
  rw [sSeq_ok (lw1 hc0 er dL), sSeq_ok s2, sSeq_ok (lw3 hc1 ez dZ), sSeq_ok (lw4 cL hc2 i1 mo1 mm ey dQ), sSeq_ok s5, sSeq_ok s6, sSeq_ok (lx7 (ordered_ok h okp h5)), sSeq_ok lx8, sSeq_ok (lx9 nm), sSeq_ok (lx10 h okp), sSeq_ok lx11, sSeq_ok lx12, sSeq_ok lx13, sSeq_ok (lx14 wi), sSeq_ok lx15, sSeq_ok (lx16 lE), sSeq_ok lx15, sSeq_ok (lx17 ha au), sSeq_ok lx15, sSeq_ok (lx18 ha te), sSeq_ok lx15, sSeq_ok (lx14 wi), sSeq_ok (lx19 nm0 wi0), sSeq_ok (lx20 tw dr)]
  exact lx21

end K01


namespace K01
open PySem PySem.Spec L2 Ta PyProof.Rows
/-! ### the head's facts -/
def fa0 : List He.Fa := [.free "len", .free "range", .free "list", .free "tuple", .free "int", .free "bool", .free "str", .free "all", .free "zip", .free "iter", .free "isinstance", .glo "Web", .cls "Web", .noat "Web" "_actors", .noat "Web" "_pairs", .noat "Web" "__contains__", .mkr "Web", .glo "check_list", .glo "check_actor", .glo "check_same_actors", .meth "Web" "__init__", .meth "Web" "__getitem__", .meth "Web" "__setitem__", .meth "Web" "__len__", .meth "Web" "__eq__", .meth "Web" "__or__", .meth "Web" "__and__", .meth "Web" "__le__", .meth "Web" "audience", .meth "Web" "tellers"]
def fa1 : List He.Fa := [.glo "_law_cell", .glo "_law_row", .glo "_law_names", .glo "_law_is_integer", .glo "_law_is_texts", .glo "_law_same_texts", .glo "_law_truth", .glo "_law_ordered", .glo "_law_web_is", .glo "_law_twins", .glo "_law_doors", .glo "law", .meth "Web" "__iter__"]
def fa : List He.Fa := fa0 ++ fa1
def fn : List He5.DefA := [
  { at_ := at_check_list, name := "check_list", qual := "check_list", params := defArgs s_check_list, body := defBody s_check_list, scope := defScope s_check_list },
  { at_ := at_check_actor, name := "check_actor", qual := "check_actor", params := defArgs s_check_actor, body := defBody s_check_actor, scope := defScope s_check_actor },
  { at_ := at_check_same_actors, name := "check_same_actors", qual := "check_same_actors", params := defArgs s_check_same_actors, body := defBody s_check_same_actors, scope := defScope s_check_same_actors },
  { at_ := at_Web___init__, name := "__init__", qual := "Web.__init__", params := defArgs s_Web___init__, body := defBody s_Web___init__, scope := defScope s_Web___init__, dfl := [.adr (He.dflAt ("Web", some "__init__") 0)] },
  { at_ := at_Web_full, name := "full", qual := "Web.full", params := defArgs s_Web_full, body := defBody s_Web_full, scope := defScope s_Web_full },
  { at_ := at_Web_chain, name := "chain", qual := "Web.chain", params := defArgs s_Web_chain, body := defBody s_Web_chain, scope := defScope s_Web_chain },
  { at_ := at_Web_actors, name := "actors", qual := "Web.actors", params := defArgs s_Web_actors, body := defBody s_Web_actors, scope := defScope s_Web_actors },
  { at_ := at_Web___getitem__, name := "__getitem__", qual := "Web.__getitem__", params := defArgs s_Web___getitem__, body := defBody s_Web___getitem__, scope := defScope s_Web___getitem__ },
  { at_ := at_Web___setitem__, name := "__setitem__", qual := "Web.__setitem__", params := defArgs s_Web___setitem__, body := defBody s_Web___setitem__, scope := defScope s_Web___setitem__ },
  { at_ := at_Web___len__, name := "__len__", qual := "Web.__len__", params := defArgs s_Web___len__, body := defBody s_Web___len__, scope := defScope s_Web___len__ },
  { at_ := at_Web___eq__, name := "__eq__", qual := "Web.__eq__", params := defArgs s_Web___eq__, body := defBody s_Web___eq__, scope := defScope s_Web___eq__ },
  { at_ := at_Web___or__, name := "__or__", qual := "Web.__or__", params := defArgs s_Web___or__, body := defBody s_Web___or__, scope := defScope s_Web___or__ },
  { at_ := at_Web___and__, name := "__and__", qual := "Web.__and__", params := defArgs s_Web___and__, body := defBody s_Web___and__, scope := defScope s_Web___and__ },
  { at_ := at_Web___le__, name := "__le__", qual := "Web.__le__", params := defArgs s_Web___le__, body := defBody s_Web___le__, scope := defScope s_Web___le__ },
  { at_ := at_Web_audience, name := "audience", qual := "Web.audience", params := defArgs s_Web_audience, body := defBody s_Web_audience, scope := defScope s_Web_audience },
  { at_ := at_Web_tellers, name := "tellers", qual := "Web.tellers", params := defArgs s_Web_tellers, body := defBody s_Web_tellers, scope := defScope s_Web_tellers },
  { at_ := at__law_cell, name := "_law_cell", qual := "_law_cell", params := defArgs s__law_cell, body := defBody s__law_cell, scope := defScope s__law_cell },
  { at_ := at__law_row, name := "_law_row", qual := "_law_row", params := defArgs s__law_row, body := defBody s__law_row, scope := defScope s__law_row },
  { at_ := at__law_names, name := "_law_names", qual := "_law_names", params := defArgs s__law_names, body := defBody s__law_names, scope := defScope s__law_names },
  { at_ := at__law_is_integer, name := "_law_is_integer", qual := "_law_is_integer", params := defArgs s__law_is_integer, body := defBody s__law_is_integer, scope := defScope s__law_is_integer },
  { at_ := at__law_is_texts, name := "_law_is_texts", qual := "_law_is_texts", params := defArgs s__law_is_texts, body := defBody s__law_is_texts, scope := defScope s__law_is_texts },
  { at_ := at__law_same_texts, name := "_law_same_texts", qual := "_law_same_texts", params := defArgs s__law_same_texts, body := defBody s__law_same_texts, scope := defScope s__law_same_texts },
  { at_ := at__law_truth, name := "_law_truth", qual := "_law_truth", params := defArgs s__law_truth, body := defBody s__law_truth, scope := defScope s__law_truth },
  { at_ := at__law_ordered, name := "_law_ordered", qual := "_law_ordered", params := defArgs s__law_ordered, body := defBody s__law_ordered, scope := defScope s__law_ordered },
  { at_ := at__law_web_is, name := "_law_web_is", qual := "_law_web_is", params := defArgs s__law_web_is, body := defBody s__law_web_is, scope := defScope s__law_web_is },
  { at_ := at__law_twins, name := "_law_twins", qual := "_law_twins", params := defArgs s__law_twins, body := defBody s__law_twins, scope := defScope s__law_twins },
  { at_ := at__law_doors, name := "_law_doors", qual := "_law_doors", params := defArgs s__law_doors, body := defBody s__law_doors, scope := defScope s__law_doors },
  { at_ := at_law, name := "law", qual := "law", params := defArgs s_law, body := defBody s_law, scope := defScope s_law },
  { at_ := at_Web___iter__, name := "__iter__", qual := "Web.__iter__", params := defArgs s_Web___iter__, body := defBody s_Web___iter__, scope := defScope s_Web___iter__ }]
def gvU (K : PySem.W.Frag) (n : Nat) : Value := match n with | 0 => .ref (web K) | 1 => .type "int" | 2 => .type "bool" | 3 => .type "str" | 4 => .type "list" | _ => .type "tuple"
theorem gvU_ok (K : PySem.W.Frag) (n : Nat) : ClsV ((G K).gv n) (gvU K n) := by
  match n with
  | 0 => exact .own _
  | 1 => exact .ty _
  | 2 => exact .ty _
  | 3 => exact .ty _
  | 4 => exact .ty _
  | _ + 5 => exact .ty _
def getB (K : PySem.W.Frag) (m : Str) : Bool := match PySem.W.findCls K (.ref (web K)) (.type "type") m with
  | some (.get (.builtin b) (.ref p) .none (.ref C)) => decide (b = "classmethod.__get__") && (decide (p = He.ma K (web K) m) && decide (C = web K))
  | _ => false
theorem getB_ok {K : PySem.W.Frag} {m : Str} (h : getB K m = true) : PySem.W.findCls K (.ref (web K)) (.type "type") m = some (.get (.builtin "classmethod.__get__") (.ref (He.ma K (web K) m)) .none (.ref (web K))) := by
  unfold getB at h
  split at h
  next b p C e =>
    obtain ⟨h1, h2⟩ := Bool.and_eq_true_iff.mp h
    obtain ⟨h3, h4⟩ := Bool.and_eq_true_iff.mp h2
    rw [e, of_decide_eq_true h1, of_decide_eq_true h3, of_decide_eq_true h4]
  next => cases h
def recB (K : PySem.W.Frag) (p : Addr) (t : String) : Bool := match PySem.W.recIn K p t with
  | some (.ref _ :: _) => true
  | _ => false
theorem recB_ok {K : PySem.W.Frag} {p : Addr} {t : String} (h : recB K p t = true) : ∃ rest, PySem.W.recIn K p t = some (.ref (rec0 K p t) :: rest) := by
  unfold recB at h
  split at h
  next g r e => exact ⟨r, by unfold rec0; rw [e]⟩
  next => cases h
def valB (K : PySem.W.Frag) (m : Str) (n : Int) : Bool := match PySem.W.findCls K (.ref (web K)) (.type "type") m with
  | some (.val (.int i _)) => decide (i = n)
  | _ => false
theorem valB_ok {K : PySem.W.Frag} {m : Str} {n : Int} (h : valB K m n = true) : ∃ u, ClX.CVal K (web K) (.type "type") m (.int n) u := by
  unfold valB at h
  split at h
  next i t e => exact ⟨.int i t, e, ⟨t, by rw [of_decide_eq_true h]⟩⟩
  next => cases h
def tupB (K : PySem.W.Frag) (a : Addr) : Bool := match K.lookup a with
  | some ⟨.type c, _, .seq its _, _⟩ => decide (c = "tuple") && its.isEmpty
  | _ => false
theorem tupB_ok {K : PySem.W.Frag} {a : Addr} (h : tupB K a = true) : SqT K (fun _ => none) a [] := by
  unfold tupB at h
  split at h
  next c d its n sl e =>
    obtain ⟨h1, h2⟩ := Bool.and_eq_true_iff.mp h
    have e1 := of_decide_eq_true h1
    have e2 : its = #[] := Array.isEmpty_iff.mp h2
    subst e1 e2
    exact .inr ⟨_, #[], n, e, rfl, rfl, Nat.zero_le _, .nil⟩
  next => cases h
def exL (K : PySem.W.Frag) : List Bool := [
  He.eqO (PySem.W.findIn K (.ref (web K)) "__ne__") (some (some (.builtin "object.__ne__"))),
  decide (PySem.W.mroIn K (web K) (.type "object") = some true),
  PySem.W.selfFirst K (web K),
  PySem.W.noSeq K (web K),
  PySem.W.readsIn K (web K) (.type "type"),
  He.eqO (PySem.W.specialIn K (.ref (web K)) "__getattribute__") (some (some (.builtin "type.__getattribute__"))),
  valB K "MOST_ACTORS" 5,
  He.conB K "Web" "MOST_ACTORS" (.int 5),
  isiT.all fun p => decide (PySem.W.kitOne K (p.1.1.v (G K)) (gvU K p.1.2) = some p.2),
  He.eqO (PySem.W.findIn K (.ref (web K)) "__class__") (some (some (.builtin "object.__class__"))),
  He.eqO (PySem.W.specialIn K (.builtin "object.__class__") "__get__") (some (some (.builtin "getset_descriptor.__get__"))),
  decide (PySem.W.takesIn K (.builtin "object.__class__") = some true),
  tupB K (He.dflAt ("Web", some "__init__") 0 K),
  getB K "full", recB K (He.ma K (web K) "full") "classmethod", PySem.W.fnIn K (at_Web_full K),
  getB K "chain", recB K (He.ma K (web K) "chain") "classmethod", PySem.W.fnIn K (at_Web_chain K),
  He.eqO (PySem.W.findIn K (.ref (web K)) "actors") (some (some (.ref (He.ma K (web K) "actors")))),
  He.eqO (PySem.W.specialIn K (.ref (He.ma K (web K) "actors")) "__get__") (some (some (.builtin "property.__get__"))),
  decide (PySem.W.takesIn K (.ref (He.ma K (web K) "actors")) = some true),
  recB K (He.ma K (web K) "actors") "property",
  PySem.W.fnIn K (at_Web___getitem__ K)]
def ex (K : PySem.W.Frag) : Bool := (exL K).all id
theorem ex_get {K : PySem.W.Frag} (h : ex K = true) {i : Nat} {b : Bool} (e : (exL K)[i]? = some b) : b = true := List.all_eq_true.mp h b (List.mem_of_getElem? e)
theorem isi_ok {K : PySem.W.Frag} (cl : Cls K (web K)) (h : ex K = true) : IsiOk K (G K) isiT := fun t n b hm => by
  have h8 := ex_get h (i := 8) rfl
  refine ⟨⟨gvU K n, gvU_ok K n, of_decide_eq_true (List.all_eq_true.mp h8 _ hm)⟩, fun c _ => ⟨cl, He.eqO_ok (ex_get h (i := 9) rfl), He.eqO_ok (ex_get h (i := 10) rfl), of_decide_eq_true (ex_get h (i := 11) rfl), of_decide_eq_true (ex_get h (i := 1) rfl)⟩⟩
theorem env_of {P : Program} {w : World} {K : PySem.W.Frag} {h : Heap} {mg : Str → Option Value} {base : Heap} (X : K.In h) (Gm : h.Ns mainGlobals mg) (c : He5.SaysA fa fn K) (x : ex K = true) : Env P w K mg base where
  f_len := He.free_ok X Gm (c.fact 0 rfl)
  f_range := He.free_ok X Gm (c.fact 1 rfl)
  f_list := He.free_ok X Gm (c.fact 2 rfl)
  f_tuple := He.free_ok X Gm (c.fact 3 rfl)
  f_int := He.free_ok X Gm (c.fact 4 rfl)
  f_bool := He.free_ok X Gm (c.fact 5 rfl)
  f_str := He.free_ok X Gm (c.fact 6 rfl)
  f_all := He.free_ok X Gm (c.fact 7 rfl)
  f_zip := He.free_ok X Gm (c.fact 8 rfl)
  f_iter := He.free_ok X Gm (c.fact 9 rfl)
  f_isinstance := He.free_ok X Gm (c.fact 10 rfl)
  gWeb := He.glo_ok X Gm (c.fact 11 rfl)
  cls := He.cls_ok (c.fact 12 rfl)
  no__actors := He.noat_ok (c.fact 13 rfl)
  no__pairs := He.noat_ok (c.fact 14 rfl)
  nocon := He.noat_ok (c.fact 15 rfl)
  mkr := He.mkr_ok (c.fact 16 rfl)
  ne := He.eqO_ok (ex_get x (i := 0) rfl)
  mo := of_decide_eq_true (ex_get x (i := 1) rfl)
  sf := ex_get x (i := 2) rfl
  nosq := ex_get x (i := 3) rfl
  cread := ⟨ex_get x (i := 4) rfl, He.eqO_ok (ex_get x (i := 5) rfl)⟩
  cval_MOST_ACTORS := valB_ok (ex_get x (i := 6) rfl)
  con_MOST_ACTORS := He.conB_ok (ex_get x (i := 7) rfl)
  isi := isi_ok (He.cls_ok (c.fact 12 rfl)) x
  dfl := tupB_ok (ex_get x (i := 12) rfl)
  d_check_list := c.def_ 0 rfl
  g_check_list := He.glo_ok X Gm (c.fact 17 rfl)
  k_check_list := let ⟨_, F⟩ := c.def_ 0 rfl; F.kp
  d_check_actor := c.def_ 1 rfl
  g_check_actor := He.glo_ok X Gm (c.fact 18 rfl)
  k_check_actor := let ⟨_, F⟩ := c.def_ 1 rfl; F.kp
  d_check_same_actors := c.def_ 2 rfl
  g_check_same_actors := He.glo_ok X Gm (c.fact 19 rfl)
  k_check_same_actors := let ⟨_, F⟩ := c.def_ 2 rfl; F.kp
  d_Web___init__ := c.def_ 3 rfl
  mt___init__ := He.meth_ok (c.fact 20 rfl)
  d_Web_full := c.def_ 4 rfl
  cm_full := ⟨getB_ok (ex_get x (i := 13) rfl), recB_ok (ex_get x (i := 14) rfl), ex_get x (i := 15) rfl⟩
  d_Web_chain := c.def_ 5 rfl
  cm_chain := ⟨getB_ok (ex_get x (i := 16) rfl), recB_ok (ex_get x (i := 17) rfl), ex_get x (i := 18) rfl⟩
  d_Web_actors := c.def_ 6 rfl
  prop_actors := ⟨He.eqO_ok (ex_get x (i := 19) rfl), He.eqO_ok (ex_get x (i := 20) rfl), of_decide_eq_true (ex_get x (i := 21) rfl), recB_ok (ex_get x (i := 22) rfl)⟩
  d_Web___getitem__ := c.def_ 7 rfl
  mt___getitem__ := He.meth_ok (c.fact 21 rfl)
  d_Web___setitem__ := c.def_ 8 rfl
  mt___setitem__ := He.meth_ok (c.fact 22 rfl)
  d_Web___len__ := c.def_ 9 rfl
  mt___len__ := He.meth_ok (c.fact 23 rfl)
  d_Web___eq__ := c.def_ 10 rfl
  mt___eq__ := He.meth_ok (c.fact 24 rfl)
  d_Web___or__ := c.def_ 11 rfl
  mt___or__ := He.meth_ok (c.fact 25 rfl)
  d_Web___and__ := c.def_ 12 rfl
  mt___and__ := He.meth_ok (c.fact 26 rfl)
  d_Web___le__ := c.def_ 13 rfl
  mt___le__ := He.meth_ok (c.fact 27 rfl)
  d_Web_audience := c.def_ 14 rfl
  mt_audience := He.meth_ok (c.fact 28 rfl)
  d_Web_tellers := c.def_ 15 rfl
  mt_tellers := He.meth_ok (c.fact 29 rfl)
  d__law_cell := c.def_ 16 rfl
  g__law_cell := He.glo_ok X Gm (c.fact 30 rfl)
  k__law_cell := let ⟨_, F⟩ := c.def_ 16 rfl; F.kp
  d__law_row := c.def_ 17 rfl
  g__law_row := He.glo_ok X Gm (c.fact 31 rfl)
  k__law_row := let ⟨_, F⟩ := c.def_ 17 rfl; F.kp
  d__law_names := c.def_ 18 rfl
  g__law_names := He.glo_ok X Gm (c.fact 32 rfl)
  k__law_names := let ⟨_, F⟩ := c.def_ 18 rfl; F.kp
  d__law_is_integer := c.def_ 19 rfl
  g__law_is_integer := He.glo_ok X Gm (c.fact 33 rfl)
  k__law_is_integer := let ⟨_, F⟩ := c.def_ 19 rfl; F.kp
  d__law_is_texts := c.def_ 20 rfl
  g__law_is_texts := He.glo_ok X Gm (c.fact 34 rfl)
  k__law_is_texts := let ⟨_, F⟩ := c.def_ 20 rfl; F.kp
  d__law_same_texts := c.def_ 21 rfl
  g__law_same_texts := He.glo_ok X Gm (c.fact 35 rfl)
  k__law_same_texts := let ⟨_, F⟩ := c.def_ 21 rfl; F.kp
  d__law_truth := c.def_ 22 rfl
  g__law_truth := He.glo_ok X Gm (c.fact 36 rfl)
  k__law_truth := let ⟨_, F⟩ := c.def_ 22 rfl; F.kp
  d__law_ordered := c.def_ 23 rfl
  g__law_ordered := He.glo_ok X Gm (c.fact 37 rfl)
  k__law_ordered := let ⟨_, F⟩ := c.def_ 23 rfl; F.kp
  d__law_web_is := c.def_ 24 rfl
  g__law_web_is := He.glo_ok X Gm (c.fact 38 rfl)
  k__law_web_is := let ⟨_, F⟩ := c.def_ 24 rfl; F.kp
  d__law_twins := c.def_ 25 rfl
  g__law_twins := He.glo_ok X Gm (c.fact 39 rfl)
  k__law_twins := let ⟨_, F⟩ := c.def_ 25 rfl; F.kp
  d__law_doors := c.def_ 26 rfl
  g__law_doors := He.glo_ok X Gm (c.fact 40 rfl)
  k__law_doors := let ⟨_, F⟩ := c.def_ 26 rfl; F.kp
  d_law := c.def_ 27 rfl
  g_law := He.glo_ok X Gm (c.fact 41 rfl)
  k_law := let ⟨_, F⟩ := c.def_ 27 rfl; F.kp
  d_Web___iter__ := c.def_ 28 rfl
  mt___iter__ := He.meth_ok (c.fact 42 rfl)
  fi___getitem__ := ex_get x (i := 23) rfl
def spLaw (K : PySem.W.Frag) : Sp := fun vs H Q _ => ∃ (a : Addr) (ns : List Int), vs = [.ref a] ∧ SqL K H a (ns.map V.int) ∧ ns.length ≤ 63 ∧ ∀ H', Q (.bl true) H'
theorem law_fn {P : Program} {w : World} {K : PySem.W.Frag} {mg : Str → Option Value} {base : Heap} (E : Env P w K mg base) {fd : FuncData} (FD : FunD K "law" "law" (defArgs s_law) (defBody s_law) (defScope s_law) [] [] (at_law K) fd) : FnOk P w K mg base CX0 7 (at_law K) fd ["_law_script"] (spLaw K) := by
  have F := fn_law E FD
  refine ⟨fun vs H Q E h => ?_, fun A outer s H args us vs Q E' hr e0 hb r h => ?_⟩
  · obtain ⟨a, ns, rfl, _⟩ := h; rfl
  obtain ⟨a, ns, rfl, hS, hl, q⟩ := h
  have hsp : spOf (G K) 1 [] F_law [.ref a] H Q (fun _ _ _ => False) := by
    refine ⟨H, [.scr ns], [], ⟨Same.refl _, .nil, fun _ h => (nomatch h), fun _ h => (nomatch h)⟩, .one ⟨a, rfl, rfl, hS⟩, rfl, ?_⟩
    rw [law_true ns hl]
    intro v S' H' fp FQ st rp _
    rw [rp.1]
    exact q H'
  refine codeAny_mono (F.run A outer s H args us [.ref a] Q (fun _ _ _ => False) hr e0 hb r hsp) fun r s' hq => ?_
  cases r with
  | error e => exact (cx_false hq).elim
  | ok fl =>
    cases fl with
    | ret u => exact hq
    | next => exact hq.elim
    | brk => exact hq.elim
    | cont => exact hq.elim
abbrev Rw : PySem.W.OpenRow := PySem.W.OpenLaw.row PySem.Challenge.rw_toldalong_k01_web_pairs
abbrev hk : PySem.W.Hook := hookE 6 fa fn ex
def ob (s : PySem.W.SharedT) : He.AlD × Bool := obsE 6 fa fn ex (HandSHeadRun.getT s)
theorem ob_eq (s : PySem.W.SharedT) : ob s = hk.obs s.abs := obsE_eq (HandSHeadRun.getT_eq s)
def loose : List Str := ["_wall", "ToldError", "WrongCount", "DuplicateName", "UnknownName", "UnknownActor", "SelfPair", "OtherActors", "check_list", "check_actor", "check_same_actors", "Web", "_law_cell", "_law_row", "_law_names", "_law_is_integer", "_law_is_texts", "_law_same_texts", "_law_truth", "_law_ordered", "_law_web_is", "_law_twins", "_law_doors"]
theorem run (w : World) : HandSHeadRun.RunEq Rw (PySem.W.view Rw.prog [26]) hk ob 4000 loose w := by
  intro os
  kernel_rfl
end K01
open PySem PySem.W PySem.Calls PyProof.Rows
theorem PySem.Challenge.cw_toldalong_k01_web_pairs_holds : PySem.Challenge.rw_toldalong_k01_web_pairs.Holds := by
  w_on; o_law
  refine HandSHeadRun.head_any (r := OpenLaw.row PySem.Challenge.rw_toldalong_k01_web_pairs) (q := view (OpenLaw.row PySem.Challenge.rw_toldalong_k01_web_pairs).prog [26]) (H := K01.hk) (ob := K01.ob) (M := 4000) (loose := K01.loose) (d := HandSHeadRun.topDef (OpenLaw.row PySem.Challenge.rw_toldalong_k01_web_pairs).prog 26) (kwd := []) K01.ob_eq
    (by kernel_rfl) (fun s => by kernel_rfl) K01.run (by kernel_rfl) (by kernel_rfl) (by kernel_rfl) (by rfl) (by first | assumption | decide +kernel) (by decide +kernel) ⟨rfl, rfl, rfl, rfl, rfl, by decide +kernel⟩ ?hw ?hc
  case hw => w_witness2
  case hc =>
    refine L2.walk_ofE (l := PySem.Challenge.rw_toldalong_k01_web_pairs) (n := 63) (k := 7) (x := "_law_script") (CX := L2.CX0) rfl (by decide) (by kernel_rfl) ⟨rfl, by decide, by decide⟩ ?F (fun _ _ _ _ z => z)
    intro w mg fa h Y G hmg0
    obtain ⟨K, KX, c, x⟩ := Y
    have hmg : mg ("law" : PySem.Str) = some (.ref fa) := by
      have e : (HandSHeadRun.topDef (OpenLaw.row PySem.Challenge.rw_toldalong_k01_web_pairs).prog 26).name = ("law" : PySem.Str) := by kernel_rfl
      rw [← e]
      exact hmg0
    obtain ⟨fd, FD⟩ : ∃ fd, L2.FunD K "law" "law" (L2.defArgs K01.s_law) (L2.defBody K01.s_law) (L2.defScope K01.s_law) [] [] (K01.at_law K) fd := c.def_ 27 rfl
    have e := hmg.symm.trans (He.glo_ok KX G (c.fact 41 rfl))
    cases e
    have b := L2.FunD.bindsA (ps := ["_law_script"]) FD fun _ _ _ _ _ _ us hl => match us, hl with | [_], _ => rfl
    exact ⟨K, fd, K01.spLaw K, KX, fun s v => b s [v] rfl, fun H a ns hl _ hS => ⟨a, ns, rfl, hS, hl, fun _ => rfl⟩, fun base hb hm => K01.law_fn (K01.env_of hb hm c x) FD⟩

