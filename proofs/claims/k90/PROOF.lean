import PyProof.Rows.All
import Wide.All
import OpenK.AllK
import Wide.FinOn
import HandS.ForMost
import HandS.Lambda
import HandS.Conv
import HandS.Deep
import HandS.TupAny
import HandS.Style
import HandS.WideBits
import HandS.SortInts
import HandS.SortRule
import HandS.Flow
import HandS.Codes
import HandS.Defaults
import HandS.Small
import HandS.MakeKwOnly
import HandS.IsInst
import HandS.TupLe
import HandS.NoneIn
import HandS.More
import HandS.DictComp
import HandS.SortKw
import KE.KDictDisplayH
import PyProof.ReprLen
import PySem.Challenge.RW_gapswaps_k90_whole_counts_that_pairs_nee
set_option Elab.async false
set_option linter.all false
set_option maxRecDepth 100000
set_option maxHeartbeats 4000000
/-! G1: data without a heap (D), how a heap holds it (Sees, Deep, Rep), what a step of a heap keeps -/
namespace G
open PySem PySem.Spec PyProof.Rows L2

/-- data -/
inductive D where
  | non
  | bl (b : Bool)
  | int (i : Int)
  | str (x : Str)
  | lst (xs : List D)
  | tup (xs : List D)
  | dk (ks : List Key) (vs : List D)
  | dt (ks : List (List Key)) (vs : List D)
  | ins (c : Nat) (vs : List D)
  | scr (ns : List Int)   -- the script

/-- how a value is held: by others too; its top by us alone; all of it by us alone -/
inductive M where
  | sh | o1 | dp
  deriving DecidableEq

mutual
/-- no list, dict or instance in it -/
def imm : D → Bool
  | .non => true
  | .bl _ => true
  | .int _ => true
  | .str _ => true
  | .lst _ => false
  | .tup xs => immL xs
  | .dk _ _ => false
  | .dt _ _ => false
  | .ins _ _ => false
  | .scr _ => false
def immL : List D → Bool
  | [] => true
  | d :: ds => imm d && immL ds
end
/-- how what is read is held -/
def im (d : D) : M := if imm d then .dp else .sh

/-- the program's tables: code tables, the classes' addresses and fields -/
structure Tx where
  tabs : List (Addr × Str)
  cl : Nat → Addr
  fl : Nat → List Str

/-- a tuple stands at p -/
def TupAt (_ : PySem.W.Frag) (H : Hp) (p : Addr) (vs : List V) : Prop := H p = some (.tup vs)
theorem TupAt.sq {K : PySem.W.Frag} {H : Hp} {p : Addr} {vs : List V} (r : TupAt K H p vs) : SqT K H p vs := SqT.of r
theorem TupAt.keep {K : PySem.W.Frag} {H H' : Hp} {p : Addr} {vs : List V} (k : ∀ a xs, H a = some (.tup xs) → H' a = some (.tup xs)) (r : TupAt K H p vs) : TupAt K H' p vs := k _ _ r
/-- all of s but its code tables stands in h -/
structure Sub (s h : Hp) : Prop where
  at_ : ∀ b o, s b = some o → (∀ ps, o ≠ .tbl ps) → h b = some o
  no : ∀ b, h b = none → s b = none
theorem Sub.rfl' {s : Hp} : Sub s s := ⟨fun _ _ h _ => h, fun _ h => h⟩
theorem Sub.trans {s h j : Hp} (a : Sub s h) (b : Sub h j) : Sub s j := ⟨fun c o q n => b.at_ c o (a.at_ c o q n) n, fun c q => a.no c (b.no c q)⟩

section
variable (K : PySem.W.Frag) (T : Tx)
mutual
def Sees (H : Hp) : V → D → Prop
  | v, .non => v = .non
  | v, .bl b => v = .bl b
  | v, .int i => v = .int i
  | v, .str x => v = .str x
  | v, .lst ds => ∃ p vs, v = .ref p ∧ H p = some (.lst vs) ∧ SeesL H vs ds
  | v, .tup ds => ∃ p vs, v = .ref p ∧ TupAt K H p vs ∧ SeesL H vs ds
  | v, .dk ks ds => ∃ p vs, v = .ref p ∧ Rd H p (.dK (ks.zip vs)) ∧ ks.length = vs.length ∧ SeesL H vs ds
  | v, .dt ks ds => ∃ p vs, v = .ref p ∧ Rd H p (.dT (ks.zip vs)) ∧ ks.length = vs.length ∧ SeesL H vs ds
  | v, .ins c ds => ∃ p dx vs, v = .ref p ∧ H p = some (.ins (T.cl c) dx ((T.fl c).zip vs)) ∧ vs.length ≤ (T.fl c).length ∧ SeesL H vs ds
  | v, .scr ns => ∃ p, v = .ref p ∧ SqL K H p (ns.map V.int)
def SeesL (H : Hp) : List V → List D → Prop
  | vs, [] => vs = []
  | vs, d :: ds => ∃ v r, vs = v :: r ∧ Sees H v d ∧ SeesL H r ds
end
mutual
def Deep (H : Hp) : V → D → List Addr → Prop
  | v, .non, B => v = .non ∧ B = []
  | v, .bl b, B => v = .bl b ∧ B = []
  | v, .int i, B => v = .int i ∧ B = []
  | v, .str x, B => v = .str x ∧ B = []
  | v, .lst ds, B => ∃ p vs C, v = .ref p ∧ H p = some (.lst vs) ∧ B = p :: C ∧ DeepL H vs ds C
  | v, .tup ds, B => ∃ p vs, v = .ref p ∧ TupAt K H p vs ∧ DeepL H vs ds B
  | v, .dk ks ds, B => ∃ p vs C, v = .ref p ∧ H p = some (.dK (ks.zip vs)) ∧ ks.length = vs.length ∧ B = p :: C ∧ DeepL H vs ds C
  | v, .dt ks ds, B => ∃ p vs C, v = .ref p ∧ H p = some (.dT (ks.zip vs)) ∧ ks.length = vs.length ∧ B = p :: C ∧ DeepL H vs ds C
  | v, .ins c ds, B => ∃ p dx vs C, v = .ref p ∧ H p = some (.ins (T.cl c) dx ((T.fl c).zip vs)) ∧ vs.length ≤ (T.fl c).length ∧ B = p :: C ∧ DeepL H vs ds C
  | _, .scr _, _ => False
def DeepL (H : Hp) : List V → List D → List Addr → Prop
  | vs, [], B => vs = [] ∧ B = []
  | vs, d :: ds, B => ∃ v r B1 B2, vs = v :: r ∧ B = B1 ++ B2 ∧ Deep H v d B1 ∧ DeepL H r ds B2
end
/-- the top stands at p in h, what it holds is seen in s -/
def Top (s h : Hp) (p : Addr) : D → Prop
  | .lst ds => ∃ vs, h p = some (.lst vs) ∧ SeesL K T s vs ds
  | .dk ks ds => ∃ vs, h p = some (.dK (ks.zip vs)) ∧ ks.length = vs.length ∧ SeesL K T s vs ds
  | .dt ks ds => ∃ vs, h p = some (.dT (ks.zip vs)) ∧ ks.length = vs.length ∧ SeesL K T s vs ds
  | .ins c ds => ∃ dx vs, h p = some (.ins (T.cl c) dx ((T.fl c).zip vs)) ∧ vs.length ≤ (T.fl c).length ∧ SeesL K T s vs ds
  | _ => False
def Rep (s h : Hp) (v : V) (d : D) (m : M) (B : List Addr) : Prop := match m with
  | .sh => B = [] ∧ Sees K T s v d
  | .o1 => ∃ p, v = .ref p ∧ B = [p] ∧ Top K T s h p d
  | .dp => Deep K T h v d B
end

/-! ### what stays seen -/
section
variable {K : PySem.W.Frag} {T : Tx} {s s' h h' : Hp}
theorem rd_ext {p : Addr} {o : HO} (e : Sub s s') (n : ∀ ps, o ≠ .tbl ps) (r : Rd s p o) : Rd s' p o := by
  rcases r with r | ⟨ob, r⟩
  · exact .inl (e.at_ _ _ r n)
  · exact .inr ⟨ob, e.at_ _ _ r (by intro ps z; cases z)⟩
theorem sqL_ext {p : Addr} {vs : List V} (e : Sub s s') (r : SqL K s p vs) : SqL K s' p vs := by
  rcases r with r | r
  · exact .inl (rd_ext e (by intro ps z; cases z) r)
  · exact .inr r
theorem sqT_ext {p : Addr} {vs : List V} (e : Sub s s') (r : TupAt K s p vs) : TupAt K s' p vs := r.keep fun _ _ q => e.at_ _ _ q (by intro ps z; cases z)
mutual
theorem Sees.ext (e : Sub s s') : ∀ {v : V} (d : D), Sees K T s v d → Sees K T s' v d
  | _, .non, r => by simpa only [Sees] using r
  | _, .bl _, r => by simpa only [Sees] using r
  | _, .int _, r => by simpa only [Sees] using r
  | _, .str _, r => by simpa only [Sees] using r
  | _, .lst ds, r => by
    simp only [Sees] at r ⊢
    obtain ⟨p, vs, e1, e2, e3⟩ := r
    exact ⟨p, vs, e1, e.at_ _ _ e2 (by intro ps z; cases z), SeesL.ext e ds e3⟩
  | _, .tup ds, r => by
    simp only [Sees] at r ⊢
    obtain ⟨p, vs, e1, e2, e3⟩ := r
    exact ⟨p, vs, e1, sqT_ext e e2, SeesL.ext e ds e3⟩
  | _, .dk ks ds, r => by
    simp only [Sees] at r ⊢
    obtain ⟨p, vs, e1, e2, e3, e4⟩ := r
    exact ⟨p, vs, e1, rd_ext e (by intro ps z; cases z) e2, e3, SeesL.ext e ds e4⟩
  | _, .dt ks ds, r => by
    simp only [Sees] at r ⊢
    obtain ⟨p, vs, e1, e2, e3, e4⟩ := r
    exact ⟨p, vs, e1, rd_ext e (by intro ps z; cases z) e2, e3, SeesL.ext e ds e4⟩
  | _, .ins c ds, r => by
    simp only [Sees] at r ⊢
    obtain ⟨p, dx, vs, e1, e2, e3, e4⟩ := r
    exact ⟨p, dx, vs, e1, e.at_ _ _ e2 (by intro ps z; cases z), e3, SeesL.ext e ds e4⟩
  | _, .scr ns, r => by
    simp only [Sees] at r ⊢
    obtain ⟨p, e1, e2⟩ := r
    exact ⟨p, e1, sqL_ext e e2⟩
theorem SeesL.ext (e : Sub s s') : ∀ {vs : List V} (ds : List D), SeesL K T s vs ds → SeesL K T s' vs ds
  | _, [], r => by simpa only [SeesL] using r
  | _, d :: ds, r => by
    simp only [SeesL] at r ⊢
    obtain ⟨v, q, e1, e2, e3⟩ := r
    exact ⟨v, q, e1, Sees.ext e d e2, SeesL.ext e ds e3⟩
end
mutual
theorem Deep.sees : ∀ {v : V} (d : D) {B : List Addr}, Deep K T h v d B → Sees K T h v d
  | _, .non, _, r => by simp only [Deep] at r; simp only [Sees]; exact r.1
  | _, .bl _, _, r => by simp only [Deep] at r; simp only [Sees]; exact r.1
  | _, .int _, _, r => by simp only [Deep] at r; simp only [Sees]; exact r.1
  | _, .str _, _, r => by simp only [Deep] at r; simp only [Sees]; exact r.1
  | _, .lst ds, _, r => by
    simp only [Deep] at r
    simp only [Sees]
    obtain ⟨p, vs, C, e1, e2, _, e3⟩ := r
    exact ⟨p, vs, e1, e2, DeepL.sees ds e3⟩
  | _, .tup ds, _, r => by
    simp only [Deep] at r
    simp only [Sees]
    obtain ⟨p, vs, e1, e2, e3⟩ := r
    exact ⟨p, vs, e1, e2, DeepL.sees ds e3⟩
  | _, .dk ks ds, _, r => by
    simp only [Deep] at r
    simp only [Sees]
    obtain ⟨p, vs, C, e1, e2, e3, _, e4⟩ := r
    exact ⟨p, vs, e1, .inl e2, e3, DeepL.sees ds e4⟩
  | _, .dt ks ds, _, r => by
    simp only [Deep] at r
    simp only [Sees]
    obtain ⟨p, vs, C, e1, e2, e3, _, e4⟩ := r
    exact ⟨p, vs, e1, .inl e2, e3, DeepL.sees ds e4⟩
  | _, .ins c ds, _, r => by
    simp only [Deep] at r
    simp only [Sees]
    obtain ⟨p, dx, vs, C, e1, e2, e3, _, e4⟩ := r
    exact ⟨p, dx, vs, e1, e2, e3, DeepL.sees ds e4⟩
  | _, .scr _, _, r => by simp only [Deep] at r
theorem DeepL.sees : ∀ {vs : List V} (ds : List D) {B : List Addr}, DeepL K T h vs ds B → SeesL K T h vs ds
  | _, [], _, r => by simp only [DeepL] at r; simp only [SeesL]; exact r.1
  | _, d :: ds, _, r => by
    simp only [DeepL] at r
    simp only [SeesL]
    obtain ⟨v, q, B1, B2, e1, _, e2, e3⟩ := r
    exact ⟨v, q, e1, Deep.sees d e2, DeepL.sees ds e3⟩
end
/-- what may be owned -/
def Mu (o : HO) : Prop := match o with
  | .lst _ => True
  | .dK _ => True
  | .dT _ => True
  | .ins _ _ _ => True
  | _ => False
mutual
theorem Deep.mem : ∀ {v : V} (d : D) {B : List Addr}, Deep K T h v d B → ∀ b ∈ B, ∃ o, h b = some o ∧ Mu o
  | _, .non, _, r => by simp only [Deep] at r; rw [r.2]; intro b hb; cases hb
  | _, .bl _, _, r => by simp only [Deep] at r; rw [r.2]; intro b hb; cases hb
  | _, .int _, _, r => by simp only [Deep] at r; rw [r.2]; intro b hb; cases hb
  | _, .str _, _, r => by simp only [Deep] at r; rw [r.2]; intro b hb; cases hb
  | _, .lst ds, _, r => by
    simp only [Deep] at r
    obtain ⟨p, vs, C, _, e2, rfl, e3⟩ := r
    intro b hb
    rcases List.mem_cons.mp hb with rfl | hb
    · exact ⟨_, e2, trivial⟩
    · exact DeepL.mem ds e3 b hb
  | _, .tup ds, _, r => by
    simp only [Deep] at r
    obtain ⟨p, vs, _, _, e3⟩ := r
    exact DeepL.mem ds e3
  | _, .dk ks ds, _, r => by
    simp only [Deep] at r
    obtain ⟨p, vs, C, _, e2, _, rfl, e3⟩ := r
    intro b hb
    rcases List.mem_cons.mp hb with rfl | hb
    · exact ⟨_, e2, trivial⟩
    · exact DeepL.mem ds e3 b hb
  | _, .dt ks ds, _, r => by
    simp only [Deep] at r
    obtain ⟨p, vs, C, _, e2, _, rfl, e3⟩ := r
    intro b hb
    rcases List.mem_cons.mp hb with rfl | hb
    · exact ⟨_, e2, trivial⟩
    · exact DeepL.mem ds e3 b hb
  | _, .ins c ds, _, r => by
    simp only [Deep] at r
    obtain ⟨p, dx, vs, C, _, e2, _, rfl, e3⟩ := r
    intro b hb
    rcases List.mem_cons.mp hb with rfl | hb
    · exact ⟨_, e2, trivial⟩
    · exact DeepL.mem ds e3 b hb
  | _, .scr _, _, r => by simp only [Deep] at r
theorem DeepL.mem : ∀ {vs : List V} (ds : List D) {B : List Addr}, DeepL K T h vs ds B → ∀ b ∈ B, ∃ o, h b = some o ∧ Mu o
  | _, [], _, r => by simp only [DeepL] at r; rw [r.2]; intro b hb; cases hb
  | _, d :: ds, _, r => by
    simp only [DeepL] at r
    obtain ⟨v, q, B1, B2, _, rfl, e2, e3⟩ := r
    intro b hb
    rcases List.mem_append.mp hb with hb | hb
    · exact Deep.mem d e2 b hb
    · exact DeepL.mem ds e3 b hb
end
mutual
theorem Deep.keep (kt : ∀ a xs, h a = some (.tup xs) → h' a = some (.tup xs)) : ∀ {v : V} (d : D) {B : List Addr}, Deep K T h v d B → (∀ b ∈ B, h' b = h b) → Deep K T h' v d B
  | _, .non, _, r, _ => by simpa only [Deep] using r
  | _, .bl _, _, r, _ => by simpa only [Deep] using r
  | _, .int _, _, r, _ => by simpa only [Deep] using r
  | _, .str _, _, r, _ => by simpa only [Deep] using r
  | _, .lst ds, _, r, k => by
    simp only [Deep] at r ⊢
    obtain ⟨p, vs, C, e1, e2, rfl, e3⟩ := r
    exact ⟨p, vs, C, e1, (k p List.mem_cons_self).trans e2, rfl, DeepL.keep kt ds e3 fun b hb => k b (List.mem_cons_of_mem _ hb)⟩
  | _, .tup ds, _, r, k => by
    simp only [Deep] at r ⊢
    obtain ⟨p, vs, e1, e2, e3⟩ := r
    exact ⟨p, vs, e1, e2.keep kt, DeepL.keep kt ds e3 k⟩
  | _, .dk ks ds, _, r, k => by
    simp only [Deep] at r ⊢
    obtain ⟨p, vs, C, e1, e2, e4, rfl, e3⟩ := r
    exact ⟨p, vs, C, e1, (k p List.mem_cons_self).trans e2, e4, rfl, DeepL.keep kt ds e3 fun b hb => k b (List.mem_cons_of_mem _ hb)⟩
  | _, .dt ks ds, _, r, k => by
    simp only [Deep] at r ⊢
    obtain ⟨p, vs, C, e1, e2, e4, rfl, e3⟩ := r
    exact ⟨p, vs, C, e1, (k p List.mem_cons_self).trans e2, e4, rfl, DeepL.keep kt ds e3 fun b hb => k b (List.mem_cons_of_mem _ hb)⟩
  | _, .ins c ds, _, r, k => by
    simp only [Deep] at r ⊢
    obtain ⟨p, dx, vs, C, e1, e2, e4, rfl, e3⟩ := r
    exact ⟨p, dx, vs, C, e1, (k p List.mem_cons_self).trans e2, e4, rfl, DeepL.keep kt ds e3 fun b hb => k b (List.mem_cons_of_mem _ hb)⟩
  | _, .scr _, _, r, _ => by simp only [Deep] at r
theorem DeepL.keep (kt : ∀ a xs, h a = some (.tup xs) → h' a = some (.tup xs)) : ∀ {vs : List V} (ds : List D) {B : List Addr}, DeepL K T h vs ds B → (∀ b ∈ B, h' b = h b) → DeepL K T h' vs ds B
  | _, [], _, r, _ => by simpa only [DeepL] using r
  | _, d :: ds, _, r, k => by
    simp only [DeepL] at r ⊢
    obtain ⟨v, q, B1, B2, e1, rfl, e2, e3⟩ := r
    exact ⟨v, q, B1, B2, e1, rfl, Deep.keep kt d e2 fun b hb => k b (List.mem_append_left _ hb), DeepL.keep kt ds e3 fun b hb => k b (List.mem_append_right _ hb)⟩
end
mutual
/-- what holds no list is all ours, whoever sees it -/
theorem Sees.deep : ∀ {v : V} (d : D), imm d = true → Sees K T h v d → Deep K T h v d []
  | _, .non, _, r => by simp only [Sees] at r; simp only [Deep]; exact ⟨r, trivial⟩
  | _, .bl _, _, r => by simp only [Sees] at r; simp only [Deep]; exact ⟨r, trivial⟩
  | _, .int _, _, r => by simp only [Sees] at r; simp only [Deep]; exact ⟨r, trivial⟩
  | _, .str _, _, r => by simp only [Sees] at r; simp only [Deep]; exact ⟨r, trivial⟩
  | _, .lst _, i, _ => by simp only [imm] at i; cases i
  | _, .tup ds, i, r => by
    simp only [imm] at i
    simp only [Sees] at r
    simp only [Deep]
    obtain ⟨p, vs, e1, e2, e3⟩ := r
    exact ⟨p, vs, e1, e2, SeesL.deep ds i e3⟩
  | _, .dk _ _, i, _ => by simp only [imm] at i; cases i
  | _, .dt _ _, i, _ => by simp only [imm] at i; cases i
  | _, .ins _ _, i, _ => by simp only [imm] at i; cases i
  | _, .scr _, i, _ => by simp only [imm] at i; cases i
theorem SeesL.deep : ∀ {vs : List V} (ds : List D), immL ds = true → SeesL K T h vs ds → DeepL K T h vs ds []
  | _, [], _, r => by simp only [SeesL] at r; simp only [DeepL]; exact ⟨r, trivial⟩
  | _, d :: ds, i, r => by
    simp only [immL, Bool.and_eq_true] at i
    simp only [SeesL] at r
    simp only [DeepL]
    obtain ⟨v, q, e1, e2, e3⟩ := r
    exact ⟨v, q, [], [], e1, rfl, Sees.deep d i.1 e2, SeesL.deep ds i.2 e3⟩
end
mutual
theorem Deep.nil : ∀ {v : V} (d : D) {B : List Addr}, imm d = true → Deep K T h v d B → B = []
  | _, .non, _, _, r => by simp only [Deep] at r; exact r.2
  | _, .bl _, _, _, r => by simp only [Deep] at r; exact r.2
  | _, .int _, _, _, r => by simp only [Deep] at r; exact r.2
  | _, .str _, _, _, r => by simp only [Deep] at r; exact r.2
  | _, .lst _, _, i, _ => by simp only [imm] at i; cases i
  | _, .tup ds, _, i, r => by
    simp only [imm] at i
    simp only [Deep] at r
    obtain ⟨p, vs, _, _, e3⟩ := r
    exact DeepL.nil ds i e3
  | _, .dk _ _, _, i, _ => by simp only [imm] at i; cases i
  | _, .dt _ _, _, i, _ => by simp only [imm] at i; cases i
  | _, .ins _ _, _, i, _ => by simp only [imm] at i; cases i
  | _, .scr _, _, i, _ => by simp only [imm] at i; cases i
theorem DeepL.nil : ∀ {vs : List V} (ds : List D) {B : List Addr}, immL ds = true → DeepL K T h vs ds B → B = []
  | _, [], _, _, r => by simp only [DeepL] at r; exact r.2
  | _, d :: ds, _, i, r => by
    simp only [immL, Bool.and_eq_true] at i
    simp only [DeepL] at r
    obtain ⟨v, q, B1, B2, _, rfl, e2, e3⟩ := r
    rw [Deep.nil d i.1 e2, DeepL.nil ds i.2 e3]
    rfl
end
/-! ### lists of what is seen -/
theorem SeesL.len : ∀ {vs : List V} (ds : List D), SeesL K T h vs ds → vs.length = ds.length
  | _, [], r => by simp only [SeesL] at r; rw [r]; rfl
  | _, d :: ds, r => by
    simp only [SeesL] at r
    obtain ⟨v, q, rfl, _, e3⟩ := r
    simp only [List.length_cons, SeesL.len ds e3]
theorem SeesL.get : ∀ {vs : List V} {ds : List D} {i : Nat} {d : D}, SeesL K T h vs ds → ds[i]? = some d → ∃ v, vs[i]? = some v ∧ Sees K T h v d
  | _, [], _, _, _, e => by simp at e
  | _, d :: ds, 0, x, r, e => by
    simp only [SeesL] at r
    obtain ⟨v, q, rfl, e2, _⟩ := r
    simp at e
    subst e
    exact ⟨v, by simp, e2⟩
  | _, d :: ds, i + 1, x, r, e => by
    simp only [SeesL] at r
    obtain ⟨v, q, rfl, _, e3⟩ := r
    simpa using SeesL.get (i := i) e3 (by simpa using e)
theorem SeesL.getV : ∀ {vs : List V} {ds : List D} {i : Nat} {v : V}, SeesL K T h vs ds → vs[i]? = some v → ∃ d, ds[i]? = some d ∧ Sees K T h v d
  | _, [], _, _, r, e => by simp only [SeesL] at r; rw [r] at e; simp at e
  | _, d :: ds, 0, x, r, e => by
    simp only [SeesL] at r
    obtain ⟨v, q, rfl, e2, _⟩ := r
    simp at e
    subst e
    exact ⟨d, by simp, e2⟩
  | _, d :: ds, i + 1, x, r, e => by
    simp only [SeesL] at r
    obtain ⟨v, q, rfl, _, e3⟩ := r
    simpa using SeesL.getV (i := i) e3 (by simpa using e)
theorem SeesL.app : ∀ {vs ws : List V} {ds es : List D}, SeesL K T h vs ds → SeesL K T h ws es → SeesL K T h (vs ++ ws) (ds ++ es)
  | _, _, [], _, r, q => by
    simp only [SeesL] at r
    rw [r]
    exact q
  | _, _, d :: ds, _, r, q => by
    simp only [SeesL] at r
    obtain ⟨v, t, rfl, e2, e3⟩ := r
    simp only [List.cons_append, SeesL]
    exact ⟨v, _, rfl, e2, SeesL.app e3 q⟩
theorem SeesL.one {v : V} {d : D} (r : Sees K T h v d) : SeesL K T h [v] [d] := by
  simp only [SeesL]
  exact ⟨v, [], rfl, r, rfl⟩
theorem SeesL.drop : ∀ {vs : List V} {ds : List D} (n : Nat), SeesL K T h vs ds → SeesL K T h (vs.drop n) (ds.drop n)
  | _, _, 0, r => r
  | _, [], n + 1, r => by
    simp only [SeesL] at r
    subst r
    simp [SeesL]
  | _, d :: ds, n + 1, r => by
    simp only [SeesL] at r
    obtain ⟨v, t, rfl, e2, e3⟩ := r
    exact SeesL.drop n e3
theorem SeesL.take : ∀ {vs : List V} {ds : List D} (n : Nat), SeesL K T h vs ds → SeesL K T h (vs.take n) (ds.take n)
  | _, _, 0, r => by simp [SeesL]
  | _, [], n + 1, r => by
    simp only [SeesL] at r
    subst r
    simp [SeesL]
  | _, d :: ds, n + 1, r => by
    simp only [SeesL] at r
    obtain ⟨v, t, rfl, e2, e3⟩ := r
    simp only [List.take_succ_cons, SeesL]
    exact ⟨v, _, rfl, e2, SeesL.take n e3⟩
theorem SeesL.rev : ∀ {vs : List V} {ds : List D}, SeesL K T h vs ds → SeesL K T h vs.reverse ds.reverse
  | _, [], r => by
    simp only [SeesL] at r
    subst r
    simp [SeesL]
  | _, d :: ds, r => by
    simp only [SeesL] at r
    obtain ⟨v, t, rfl, e2, e3⟩ := r
    simp only [List.reverse_cons]
    exact SeesL.app (SeesL.rev e3) (SeesL.one e2)
theorem SeesL.of_get {vs : List V} {ds : List D} (hl : vs.length = ds.length) (g : ∀ (i : Nat) v d, vs[i]? = some v → ds[i]? = some d → Sees K T h v d) : SeesL K T h vs ds := by
  induction ds generalizing vs with
  | nil =>
    simp only [SeesL]
    exact List.length_eq_zero_iff.mp hl
  | cons d ds ih =>
    cases vs with
    | nil => simp at hl
    | cons v r =>
      simp only [SeesL]
      refine ⟨v, r, rfl, g 0 v d rfl rfl, ih (by simpa using hl) fun i v' d' e1 e2 => g (i + 1) v' d' (by simpa using e1) (by simpa using e2)⟩
theorem seesL_ints : ∀ (ns : List Int), SeesL K T h (ns.map V.int) (ns.map D.int)
  | [] => by simp [SeesL]
  | n :: ns => by
    simp only [List.map_cons, SeesL]
    exact ⟨_, _, rfl, by simp only [Sees], seesL_ints ns⟩
theorem seesL_ints_inv : ∀ (ns : List Int) {vs : List V}, SeesL K T h vs (ns.map D.int) → vs = ns.map V.int
  | [], vs, r => by simpa [SeesL] using r
  | n :: ns, vs, r => by
    simp only [List.map_cons, SeesL, Sees] at r
    obtain ⟨v, q, rfl, rfl, e⟩ := r
    rw [seesL_ints_inv ns e]
    rfl
theorem DeepL.len : ∀ {vs : List V} (ds : List D) {B : List Addr}, DeepL K T h vs ds B → vs.length = ds.length := fun ds _ r => SeesL.len ds (DeepL.sees ds r)
theorem DeepL.app : ∀ {vs ws : List V} {ds es : List D} {B C : List Addr}, DeepL K T h vs ds B → DeepL K T h ws es C → DeepL K T h (vs ++ ws) (ds ++ es) (B ++ C)
  | _, _, [], _, _, _, r, q => by
    simp only [DeepL] at r
    rw [r.1, r.2]
    exact q
  | _, _, d :: ds, _, _, _, r, q => by
    simp only [DeepL] at r
    obtain ⟨v, t, B1, B2, rfl, rfl, e2, e3⟩ := r
    simp only [List.cons_append, DeepL]
    exact ⟨v, _, B1, _, rfl, List.append_assoc .., e2, DeepL.app e3 q⟩
theorem DeepL.one {v : V} {d : D} {B : List Addr} (r : Deep K T h v d B) : DeepL K T h [v] [d] B := by
  simp only [DeepL]
  exact ⟨v, [], B, [], rfl, (List.append_nil _).symm, r, rfl, rfl⟩

/-! ### what is held -/
theorem Rep.sees {v : V} {d : D} {m : M} {B : List Addr} (e : Sub s h) (r : Rep K T s h v d m B) : Sees K T h v d := by
  cases m with
  | sh => exact Sees.ext e d r.2
  | dp => exact Deep.sees d r
  | o1 =>
    obtain ⟨p, rfl, _, t⟩ := r
    cases d with
    | lst ds =>
      obtain ⟨vs, e1, e2⟩ := t
      simp only [Sees]
      exact ⟨p, vs, rfl, e1, SeesL.ext e ds e2⟩
    | dk ks ds =>
      obtain ⟨vs, e1, e3, e2⟩ := t
      simp only [Sees]
      exact ⟨p, vs, rfl, .inl e1, e3, SeesL.ext e ds e2⟩
    | dt ks ds =>
      obtain ⟨vs, e1, e3, e2⟩ := t
      simp only [Sees]
      exact ⟨p, vs, rfl, .inl e1, e3, SeesL.ext e ds e2⟩
    | ins c ds =>
      obtain ⟨dx, vs, e1, e3, e2⟩ := t
      simp only [Sees]
      exact ⟨p, dx, vs, rfl, e1, e3, SeesL.ext e ds e2⟩
    | _ => exact t.elim
theorem Rep.mem {v : V} {d : D} {m : M} {B : List Addr} (r : Rep K T s h v d m B) : ∀ b ∈ B, ∃ o, h b = some o ∧ Mu o := by
  cases m with
  | sh => rw [r.1]; intro b hb; cases hb
  | dp => exact Deep.mem d r
  | o1 =>
    obtain ⟨p, rfl, rfl, t⟩ := r
    intro b hb
    have eb : b = p := by simpa using hb
    subst eb
    cases d with
    | lst ds =>
      obtain ⟨vs, e1, e2⟩ := t
      exact ⟨_, e1, trivial⟩
    | dk ks ds =>
      obtain ⟨vs, e1, e3, e2⟩ := t
      exact ⟨_, e1, trivial⟩
    | dt ks ds =>
      obtain ⟨vs, e1, e3, e2⟩ := t
      exact ⟨_, e1, trivial⟩
    | ins c ds =>
      obtain ⟨dx, vs, e1, e3, e2⟩ := t
      exact ⟨_, e1, trivial⟩
    | _ => exact t.elim
theorem Rep.keep {v : V} {d : D} {m : M} {B : List Addr} (e : Sub s s') (kt : ∀ a xs, h a = some (.tup xs) → h' a = some (.tup xs)) (r : Rep K T s h v d m B) (k : ∀ b ∈ B, h' b = h b) : Rep K T s' h' v d m B := by
  cases m with
  | sh => exact ⟨r.1, Sees.ext e d r.2⟩
  | dp => exact Deep.keep kt d r k
  | o1 =>
    obtain ⟨p, rfl, rfl, t⟩ := r
    refine ⟨p, rfl, rfl, ?_⟩
    have kp := k p List.mem_cons_self
    cases d with
    | lst ds =>
      obtain ⟨vs, e1, e2⟩ := t
      exact ⟨vs, kp.trans e1, SeesL.ext e ds e2⟩
    | dk ks ds =>
      obtain ⟨vs, e1, e3, e2⟩ := t
      exact ⟨vs, kp.trans e1, e3, SeesL.ext e ds e2⟩
    | dt ks ds =>
      obtain ⟨vs, e1, e3, e2⟩ := t
      exact ⟨vs, kp.trans e1, e3, SeesL.ext e ds e2⟩
    | ins c ds =>
      obtain ⟨dx, vs, e1, e3, e2⟩ := t
      exact ⟨dx, vs, kp.trans e1, e3, SeesL.ext e ds e2⟩
    | _ => exact t.elim
end
end G
set_option Elab.async false
set_option linter.all false
set_option maxRecDepth 100000
set_option maxHeartbeats 4000000
/-! G2: growth of heaps, environments, the judgements over data -/
namespace G
open PySem PySem.Spec PyProof.Rows L2

abbrev Tabs (T : Tx) (h : Hp) : Prop := LamX.Tabs T.tabs h
/-- nothing is changed, something is new -/
structure Gr (T : Tx) (s h s' h' : Hp) : Prop where
  ss : Sub s s'
  hh : Sub h h'
  tbl : ∀ a ps, h a = some (.tbl ps) → ∃ more, h' a = some (.tbl (ps ++ more))
  sub : Sub s' h'
  new : ∀ a, s' a ≠ none → s a ≠ none ∨ h a = none ∨ ∃ xs, h a = some (.tup xs)
  tab : Tabs T h → Tabs T h'
section
variable {K : PySem.W.Frag} {T : Tx} {s s' s2 h h' h2 : Hp}
theorem Gr.refl (e : Sub s h) : Gr T s h s h := ⟨Sub.rfl', Sub.rfl', fun a ps e => ⟨#[], by rw [e]; simp⟩, e, fun a n => .inl n, id⟩
theorem Gr.non (g : Gr T s h s' h') {a : Addr} (e : h' a = none) : h a = none := g.hh.no a e
theorem Gr.tupB (g : Gr T s h s' h') {a : Addr} {xs : List V} (e : h' a = some (.tup xs)) : h a = none ∨ h a = some (.tup xs) := by
  cases q : h a with
  | none => exact .inl rfl
  | some o =>
    by_cases z : ∃ ps, o = .tbl ps
    · obtain ⟨ps, rfl⟩ := z
      obtain ⟨m, r⟩ := g.tbl a ps q
      rw [r] at e; cases e
    · have := g.hh.at_ a o q fun ps y => z ⟨ps, y⟩
      rw [this] at e; cases e
      exact .inr rfl
theorem Gr.trans (a : Gr T s h s' h') (b : Gr T s' h' s2 h2) : Gr T s h s2 h2 := by
  refine ⟨a.ss.trans b.ss, a.hh.trans b.hh, fun x ps e => ?_, b.sub, fun x n => ?_, b.tab ∘ a.tab⟩
  · obtain ⟨m, e1⟩ := a.tbl x ps e
    obtain ⟨m2, e2⟩ := b.tbl x _ e1
    exact ⟨m ++ m2, by rw [e2, Array.append_assoc]⟩
  · rcases b.new x n with z | z | ⟨xs, z⟩
    · exact a.new x z
    · exact .inr (.inl (a.non z))
    · rcases a.tupB z with z | z
      · exact .inr (.inl z)
      · exact .inr (.inr ⟨xs, z⟩)
theorem sub_upd (e : Sub s h) {p : Addr} {o : HO} (n : h p = none) : Sub s (upd s p o) := ⟨fun b u q z => by
  by_cases hb : b = p
  · subst hb
    rw [e.no b n] at q; cases q
  · rw [upd_ne hb]; exact q, fun b q => by
  by_cases hb : b = p
  · subst hb; exact e.no b n
  · rw [upd_ne hb] at q; exact q⟩
/-- a new object, seen by all -/
theorem Gr.alloc (e : Sub s h) {p : Addr} {o : HO} (n : h p = none) : Gr T s h (upd s p o) (upd h p o) := by
  refine ⟨sub_upd e n, sub_upd Sub.rfl' n, fun a ps q => ⟨#[], ?_⟩, ⟨fun b u q z => ?_, fun b q => ?_⟩, fun a q => ?_, fun t => t.ext fun b u q => ?_⟩
  · rw [upd_ne (ne_of_none q n), q]; simp
  · by_cases hb : b = p
    · subst hb
      rw [upd_same] at q ⊢
      exact q
    · rw [upd_ne hb] at q ⊢
      exact e.at_ b u q z
  · by_cases hb : b = p
    · subst hb
      rw [upd_same] at q; cases q
    · rw [upd_ne hb] at q ⊢
      exact e.no b q
  · by_cases hb : a = p
    · subst hb; exact .inr (.inl n)
    · rw [upd_ne hb] at q; exact .inl q
  · rw [upd_ne (ne_of_none q n)]; exact q
/-- a new object of ours -/
theorem Gr.own (e : Sub s h) {p : Addr} {o : HO} (n : h p = none) : Gr T s h s (upd h p o) := by
  refine ⟨Sub.rfl', sub_upd Sub.rfl' n, fun a ps q => ⟨#[], ?_⟩, ⟨fun b u q z => ?_, fun b q => ?_⟩, fun a q => .inl q, fun t => t.ext fun b u q => ?_⟩
  · rw [upd_ne (ne_of_none q n), q]; simp
  · have := e.at_ b u q z
    rw [upd_ne (ne_of_none this n)]; exact this
  · by_cases hb : b = p
    · subst hb; exact e.no b n
    · rw [upd_ne hb] at q; exact e.no b q
  · rw [upd_ne (ne_of_none q n)]; exact q
/-- what stands at B, and all tuples, is from now on seen by all -/
def shr (s h : Hp) (B : List Addr) : Hp := fun a => if a ∈ B then h a else match h a with
  | some (.tup xs) => some (.tup xs)
  | _ => s a
theorem shr_in {B : List Addr} {a : Addr} (m : a ∈ B) : shr s h B a = h a := if_pos m
theorem shr_tup {B : List Addr} {a : Addr} {xs : List V} (e : h a = some (.tup xs)) : shr s h B a = some (.tup xs) := by
  unfold shr
  split
  · exact e
  · rw [e]
theorem shr_cases {B : List Addr} {a : Addr} : shr s h B a = h a ∨ (shr s h B a = s a ∧ a ∉ B) := by
  unfold shr
  split
  · exact .inl rfl
  · rename_i nb
    split
    · rename_i xs e; exact .inl e.symm
    · exact .inr ⟨rfl, nb⟩
theorem shr_sub {B : List Addr} (e : Sub s h) : Sub (shr s h B) h := ⟨fun a o q z => by
  rcases shr_cases (s := s) (h := h) (B := B) (a := a) with r | ⟨r, _⟩
  · rw [r] at q; exact q
  · rw [r] at q; exact e.at_ a o q z, fun a q => by
  rcases shr_cases (s := s) (h := h) (B := B) (a := a) with r | ⟨r, _⟩
  · rw [r]; exact q
  · rw [r]; exact e.no a q⟩
theorem sub_shr {B : List Addr} (e : Sub s h) : Sub s (shr s h B) := ⟨fun a o q z => by
  rcases shr_cases (s := s) (h := h) (B := B) (a := a) with r | ⟨r, _⟩
  · rw [r]; exact e.at_ a o q z
  · rw [r]; exact q, fun a q => by
  rcases shr_cases (s := s) (h := h) (B := B) (a := a) with r | ⟨r, _⟩
  · rw [r] at q; exact e.no a q
  · rw [r] at q; exact q⟩
theorem shr_new {B : List Addr} {a : Addr} (n : shr s h B a ≠ none) : s a ≠ none ∨ a ∈ B ∨ ∃ xs, h a = some (.tup xs) := by
  unfold shr at n
  split at n
  · rename_i m; exact .inr (.inl m)
  · split at n
    · rename_i xs e; exact .inr (.inr ⟨xs, e⟩)
    · exact .inl n
theorem tupAt_shr {B : List Addr} {p : Addr} {vs : List V} (r : TupAt K h p vs) : TupAt K (shr s h B) p vs := r.keep fun _ _ q => shr_tup q

mutual
/-- what was ours is shared -/
theorem Deep.shr : ∀ {v : V} (d : D) {B C : List Addr}, Deep K T h v d B → (∀ b ∈ B, b ∈ C) → Sees K T (shr s h C) v d
  | _, .non, _, _, r, _ => by simp only [Deep] at r; simp only [Sees]; exact r.1
  | _, .bl _, _, _, r, _ => by simp only [Deep] at r; simp only [Sees]; exact r.1
  | _, .int _, _, _, r, _ => by simp only [Deep] at r; simp only [Sees]; exact r.1
  | _, .str _, _, _, r, _ => by simp only [Deep] at r; simp only [Sees]; exact r.1
  | _, .lst ds, _, C, r, k => by
    simp only [Deep] at r
    simp only [Sees]
    obtain ⟨p, vs, B', e1, e2, rfl, e3⟩ := r
    exact ⟨p, vs, e1, (shr_in (k p List.mem_cons_self)).trans e2, DeepL.shr ds e3 fun b hb => k b (List.mem_cons_of_mem _ hb)⟩
  | _, .tup ds, _, C, r, k => by
    simp only [Deep] at r
    simp only [Sees]
    obtain ⟨p, vs, e1, e2, e3⟩ := r
    exact ⟨p, vs, e1, tupAt_shr e2, DeepL.shr ds e3 k⟩
  | _, .dk ks ds, _, C, r, k => by
    simp only [Deep] at r
    simp only [Sees]
    obtain ⟨p, vs, B', e1, e2, e4, rfl, e3⟩ := r
    exact ⟨p, vs, e1, .inl ((shr_in (k p List.mem_cons_self)).trans e2), e4, DeepL.shr ds e3 fun b hb => k b (List.mem_cons_of_mem _ hb)⟩
  | _, .dt ks ds, _, C, r, k => by
    simp only [Deep] at r
    simp only [Sees]
    obtain ⟨p, vs, B', e1, e2, e4, rfl, e3⟩ := r
    exact ⟨p, vs, e1, .inl ((shr_in (k p List.mem_cons_self)).trans e2), e4, DeepL.shr ds e3 fun b hb => k b (List.mem_cons_of_mem _ hb)⟩
  | _, .ins c ds, _, C, r, k => by
    simp only [Deep] at r
    simp only [Sees]
    obtain ⟨p, dx, vs, B', e1, e2, e4, rfl, e3⟩ := r
    exact ⟨p, dx, vs, e1, (shr_in (k p List.mem_cons_self)).trans e2, e4, DeepL.shr ds e3 fun b hb => k b (List.mem_cons_of_mem _ hb)⟩
  | _, .scr _, _, _, r, _ => by simp only [Deep] at r
theorem DeepL.shr : ∀ {vs : List V} (ds : List D) {B C : List Addr}, DeepL K T h vs ds B → (∀ b ∈ B, b ∈ C) → SeesL K T (shr s h C) vs ds
  | _, [], _, _, r, _ => by simp only [DeepL] at r; simp only [SeesL]; exact r.1
  | _, d :: ds, _, C, r, k => by
    simp only [DeepL] at r
    simp only [SeesL]
    obtain ⟨v, q, B1, B2, e1, rfl, e2, e3⟩ := r
    exact ⟨v, q, e1, Deep.shr d e2 fun b hb => k b (List.mem_append_left _ hb), DeepL.shr ds e3 fun b hb => k b (List.mem_append_right _ hb)⟩
end
theorem Rep.shr {v : V} {d : D} {m : M} {B C : List Addr} (e : Sub s h) (r : Rep K T s h v d m B) (k : ∀ b ∈ B, b ∈ C) : Sees K T (shr s h C) v d := by
  cases m with
  | sh => exact Sees.ext (sub_shr e) d r.2
  | dp => exact Deep.shr d r k
  | o1 =>
    obtain ⟨p, rfl, rfl, t⟩ := r
    have kp : G.shr s h C p = h p := shr_in (k p List.mem_cons_self)
    cases d with
    | lst ds =>
      obtain ⟨vs, e1, e2⟩ := t
      simp only [Sees]
      exact ⟨p, vs, rfl, kp.trans e1, SeesL.ext (sub_shr e) ds e2⟩
    | dk ks ds =>
      obtain ⟨vs, e1, e3, e2⟩ := t
      simp only [Sees]
      exact ⟨p, vs, rfl, .inl (kp.trans e1), e3, SeesL.ext (sub_shr e) ds e2⟩
    | dt ks ds =>
      obtain ⟨vs, e1, e3, e2⟩ := t
      simp only [Sees]
      exact ⟨p, vs, rfl, .inl (kp.trans e1), e3, SeesL.ext (sub_shr e) ds e2⟩
    | ins c ds =>
      obtain ⟨dx, vs, e1, e3, e2⟩ := t
      simp only [Sees]
      exact ⟨p, dx, vs, rfl, kp.trans e1, e3, SeesL.ext (sub_shr e) ds e2⟩
    | _ => exact t.elim
/-- new and not seen by others -/
structure Fresh (h s' : Hp) (B : List Addr) : Prop where
  nd : B.Nodup
  nw : ∀ b ∈ B, h b = none
  ns : ∀ b ∈ B, s' b = none
theorem Fresh.nil : Fresh h s' [] := ⟨List.nodup_nil, (fun _ hb => nomatch hb), (fun _ hb => nomatch hb)⟩
theorem Gr.tupK (g : Gr T s h s' h') : ∀ a xs, h a = some (.tup xs) → h' a = some (.tup xs) := fun a xs e => g.hh.at_ a _ e (by intro ps z; cases z)
/-- what is new is shared at once -/
theorem Gr.shr {B : List Addr} (g : Gr T s h s' h') (f : Fresh h s' B) : Gr T s h (G.shr s' h' B) h' := by
  refine ⟨g.ss.trans (sub_shr g.sub), g.hh, g.tbl, shr_sub g.sub, fun a n => ?_, g.tab⟩
  rcases shr_new n with z | z | ⟨xs, z⟩
  · exact g.new a z
  · exact .inr (.inl (f.nw a z))
  · rcases g.tupB z with z | z
    · exact .inr (.inl z)
    · exact .inr (.inr ⟨xs, z⟩)
/-- what we hold stays through growth that it had no part in -/
theorem Rep.grow {v : V} {d : D} {m : M} {B : List Addr} (g : Gr T s h s' h') (r : Rep K T s h v d m B) : Rep K T s' h' v d m B :=
  r.keep g.ss g.tupK fun b hb => by
    obtain ⟨o, e, mu⟩ := r.mem b hb
    rw [g.hh.at_ b o e fun ps z => by subst z; exact mu, e]
theorem grow_none {b : Addr} {o : HO} (g : Gr T s h s' h') (e : h b = some o) (mu : Mu o) (n : s b = none) : s' b = none := by
  cases q : s' b with
  | none => rfl
  | some u =>
    rcases g.new b (by rw [q]; simp) with z | z | ⟨xs, z⟩
    · exact absurd n z
    · rw [z] at e; cases e
    · rw [z] at e; cases e; exact mu.elim
theorem Fresh.grow {v : V} {d : D} {m : M} {B : List Addr} {hz : Hp} (g : Gr T s h s' h') (r : Rep K T s h v d m B) (f : Fresh hz s B) : Fresh hz s' B :=
  ⟨f.nd, f.nw, fun b hb => by
    obtain ⟨o, e, mu⟩ := r.mem b hb
    exact grow_none g e mu (f.ns b hb)⟩

/-! ### lists of what is held -/
def RepL (K : PySem.W.Frag) (T : Tx) (s h : Hp) : List V → List (D × M) → List Addr → Prop
  | vs, [], B => vs = [] ∧ B = []
  | vs, dm :: r, B => ∃ v q B1 B2, vs = v :: q ∧ B = B1 ++ B2 ∧ Rep K T s h v dm.1 dm.2 B1 ∧ RepL K T s h q r B2
theorem RepL.mem : ∀ {dms : List (D × M)} {vs : List V} {B : List Addr}, RepL K T s h vs dms B → ∀ b ∈ B, ∃ o, h b = some o ∧ Mu o
  | [], _, _, r => by rw [r.2]; intro b hb; cases hb
  | dm :: dms, _, _, r => by
    obtain ⟨v, q, B1, B2, _, rfl, e2, e3⟩ := r
    intro b hb
    rcases List.mem_append.mp hb with hb | hb
    · exact e2.mem b hb
    · exact RepL.mem e3 b hb
theorem RepL.keep (e : Sub s s') (kt : ∀ a xs, h a = some (.tup xs) → h' a = some (.tup xs)) : ∀ {dms : List (D × M)} {vs : List V} {B : List Addr}, RepL K T s h vs dms B → (∀ b ∈ B, h' b = h b) → RepL K T s' h' vs dms B
  | [], _, _, r, _ => r
  | dm :: dms, _, _, r, k => by
    obtain ⟨v, q, B1, B2, e1, rfl, e2, e3⟩ := r
    exact ⟨v, q, B1, B2, e1, rfl, e2.keep e kt fun b hb => k b (List.mem_append_left _ hb), RepL.keep e kt e3 fun b hb => k b (List.mem_append_right _ hb)⟩
theorem RepL.grow {dms : List (D × M)} {vs : List V} {B : List Addr} (g : Gr T s h s' h') (r : RepL K T s h vs dms B) : RepL K T s' h' vs dms B :=
  r.keep g.ss g.tupK fun b hb => by
    obtain ⟨o, e, mu⟩ := r.mem b hb
    rw [g.hh.at_ b o e fun ps z => by subst z; exact mu, e]
theorem RepL.shr (e : Sub s h) : ∀ {dms : List (D × M)} {vs : List V} {B C : List Addr}, RepL K T s h vs dms B → (∀ b ∈ B, b ∈ C) → SeesL K T (shr s h C) vs (dms.map (·.1))
  | [], _, _, _, r, _ => by simp only [List.map_nil, SeesL]; exact r.1
  | dm :: dms, _, _, _, r, k => by
    obtain ⟨v, q, B1, B2, e1, rfl, e2, e3⟩ := r
    simp only [List.map_cons, SeesL]
    exact ⟨v, q, e1, e2.shr e fun b hb => k b (List.mem_append_left _ hb), RepL.shr e e3 fun b hb => k b (List.mem_append_right _ hb)⟩
/-- all of them all ours -/
def allDp (dms : List (D × M)) : Bool := dms.all fun x => decide (x.2 = .dp)
theorem RepL.deep : ∀ {dms : List (D × M)} {vs : List V} {B : List Addr}, allDp dms = true → RepL K T s h vs dms B → DeepL K T h vs (dms.map (·.1)) B
  | [], _, _, _, r => by simp only [List.map_nil, DeepL]; exact r
  | (d, m) :: dms, _, _, a, r => by
    obtain ⟨v, q, B1, B2, e1, e0, e2, e3⟩ := r
    simp only [allDp, List.all_cons, Bool.and_eq_true, decide_eq_true_eq] at a
    simp only [List.map_cons, DeepL]
    have em : m = .dp := a.1
    subst em
    exact ⟨v, q, B1, B2, e1, e0, e2, RepL.deep a.2 e3⟩
theorem RepL.len : ∀ {dms : List (D × M)} {vs : List V} {B : List Addr}, RepL K T s h vs dms B → vs.length = dms.length
  | [], _, _, r => by rw [r.1]; rfl
  | dm :: dms, _, _, r => by
    obtain ⟨v, q, B1, B2, rfl, e0, e2, e3⟩ := r
    simp only [List.length_cons, RepL.len e3]
end

/-! ### the judgements of what only reads -/
abbrev St := L2.St
abbrev VEnv := List (Option D)
def VOk (K : PySem.W.Frag) (T : Tx) (s : Hp) (σ : St) (ve : VEnv) : Prop := ∀ (i : Nat) (d : D), ve[i]? = some (some d) → ∃ v, σ[i]? = some (some v) ∧ Sees K T s v d
theorem VOk.ext {K : PySem.W.Frag} {T : Tx} {s s' : Hp} {σ : St} {ve : VEnv} (e : Sub s s') (o : VOk K T s σ ve) : VOk K T s' σ ve := fun i d q => by
  obtain ⟨v, e1, e2⟩ := o i d q
  exact ⟨v, e1, e2.ext e d⟩
/-- where one stands -/
structure At (K : PySem.W.Frag) (T : Tx) (s h : Hp) (σ : St) (ve : VEnv) : Prop where
  sub : Sub s h
  tab : Tabs T h
  ok : VOk K T s σ ve
  len : ve.length = σ.length
theorem At.grow {K : PySem.W.Frag} {T : Tx} {s h s' h' : Hp} {σ : St} {ve : VEnv} (a : At K T s h σ ve) (g : Gr T s h s' h') : At K T s' h' σ ve := ⟨g.sub, g.tab a.tab, a.ok.ext g.ss, a.len⟩
/-- what stands behind an expression -/
structure Got (K : PySem.W.Frag) (T : Tx) (s h : Hp) (v : V) (d : D) (m : M) (s' h' : Hp) (B : List Addr) : Prop where
  gr : Gr T s h s' h'
  rep : Rep K T s' h' v d m B
  fr : Fresh h s' B
theorem Got.seen {K : PySem.W.Frag} {T : Tx} {s h s' h' : Hp} {v : V} {d : D} {m : M} {B : List Addr} (g : Got K T s h v d m s' h' B) : Gr T s h (shr s' h' B) h' ∧ Sees K T (shr s' h' B) v d :=
  ⟨g.gr.shr g.fr, g.rep.shr g.gr.sub fun _ hb => hb⟩
theorem Got.of {K : PySem.W.Frag} {T : Tx} {s h s' h' : Hp} {v : V} {d : D} (g : Gr T s h s' h') (r : Sees K T s' v d) : Got K T s h v d (im d) s' h' [] := by
  refine ⟨g, ?_, Fresh.nil⟩
  unfold im
  split
  · rename_i i
    exact Sees.deep d i (r.ext g.sub d)
  · exact ⟨rfl, r⟩
/-- behind another growth -/
theorem Got.pre {K : PySem.W.Frag} {T : Tx} {s h s1 h1 s' h' : Hp} {v : V} {d : D} {m : M} {B : List Addr} (g : Gr T s h s1 h1) (r : Got K T s1 h1 v d m s' h' B) : Got K T s h v d m s' h' B :=
  ⟨g.trans r.gr, r.rep, r.fr.nd, fun b hb => g.non (r.fr.nw b hb), r.fr.ns⟩
/-- an expression that only reads -/
def JP (T : Tx) (X : Cx) (e : Expr) (f : VEnv → Option (D × M)) : Prop := ∃ t, PE X e t ∧ ∀ (σ : St) (s h : Hp) (ve : VEnv) (d : D) (m : M) (Q : VK), At X.K T s h σ ve → f ve = some (d, m) → (∀ v s' h' B, Got X.K T s h v d m s' h' B → Q v h') → t σ h Q
/-- a test that only reads -/
def JT (T : Tx) (X : Cx) (e : Expr) (f : VEnv → Option Bool) : Prop := ∃ t, PT X e t ∧ ∀ (σ : St) (s h : Hp) (ve : VEnv) (b : Bool) (Q : Bool → Hp → Prop), At X.K T s h σ ve → f ve = some b → (∀ s' h', Gr T s h s' h' → Q b h') → t σ h Q
/-- arguments that only read -/
def JA (T : Tx) (X : Cx) (es : List Expr) (f : VEnv → Option (List (D × M))) : Prop := ∃ t, PA X es t ∧ ∀ (σ : St) (s h : Hp) (ve : VEnv) (ds : List (D × M)) (Q : List V → Hp → Prop), At X.K T s h σ ve → f ve = some ds →
  (∀ vs s' h' B, Gr T s h s' h' → RepL X.K T s' h' vs ds B → Fresh h s' B → Q vs h') → t σ h Q
/-- an operator of two values, of one -/
def O2 (T : Tx) (X : Cx) (F : Value → Value → Sem Value) (g : D → D → Option (D × M)) : Prop := ∃ r, OpR X F r ∧ ∀ (s h : Hp) (x y : V) (a b d : D) (m : M) (Q : VK), Sub s h → Tabs T h → Sees X.K T s x a → Sees X.K T s y b → g a b = some (d, m) → (∀ v s' h' B, Got X.K T s h v d m s' h' B → Q v h') → r x y h Q
def O1 (T : Tx) (X : Cx) (F : Value → Sem Value) (g : D → Option (D × M)) : Prop := ∃ r, UnR X F r ∧ ∀ (s h : Hp) (x : V) (a d : D) (m : M) (Q : VK), Sub s h → Tabs T h → Sees X.K T s x a → g a = some (d, m) → (∀ v s' h' B, Got X.K T s h v d m s' h' B → Q v h') → r x h Q
/-- a built-in called with values -/
def OC (T : Tx) (X : Cx) (F : Value) (g : List D → Option (D × M)) : Prop := ∃ r, CallR X F r ∧ ∀ (s h : Hp) (xs : List V) (ds : List D) (d : D) (m : M) (Q : VK), Sub s h → Tabs T h → SeesL X.K T s xs ds → g ds = some (d, m) → (∀ v s' h' B, Got X.K T s h v d m s' h' B → Q v h') → r xs h Q

section
variable {X : Cx} {T : Tx} {a b e : Expr} {es : List Expr} {f k : VEnv → Option (D × M)} {pos : Pos}
def pVar (i : Nat) : VEnv → Option (D × M) := fun ve => match ve[i]? with
  | some (some d) => some (d, im d)
  | _ => none
theorem jp_var (i : Nat) {x : Str} (hN : X.N[i]? = some x := by rfl) (hv : Vis X.env.scope x := by first | exact Or.inl rfl | exact Or.inr (Or.inl rfl) | exact Or.inr (Or.inr rfl)) (hd : (x == ("__debug__" : Str)) = false := by decide)
    (hcd : (x == ("__classdict__" : Str)) = false := by decide) : JP T X (.Name x pos) (pVar i) := by
  refine ⟨_, pe_var hN hv hd hcd, fun σ s h ve d m Q A q w => ?_⟩
  unfold pVar at q
  split at q
  · rename_i d' e1
    cases q
    obtain ⟨v, e2, e3⟩ := A.ok i _ e1
    exact ⟨v, e2, w v s h [] (Got.of (Gr.refl A.sub) e3)⟩
  · cases q
def pC (d : D) : VEnv → Option (D × M) := fun _ => some (d, .dp)
theorem got_atom {K : PySem.W.Frag} {T : Tx} {s h : Hp} {v : V} {d : D} (e : Sub s h) (r : Deep K T h v d []) : Got K T s h v d .dp s h [] := ⟨Gr.refl e, r, Fresh.nil⟩
theorem jp_int {i : Int} {j : Nat} : JP T X (.Constant (.int i) j pos) (pC (.int i)) :=
  ⟨_, pe_int, fun σ s h ve d m Q A q w => by cases q; exact w _ s h [] (got_atom A.sub (by simp [Deep]))⟩
theorem jp_bl {i : Bool} {j : Nat} : JP T X (.Constant (.bool i) j pos) (pC (.bl i)) :=
  ⟨_, pe_bl, fun σ s h ve d m Q A q w => by cases q; exact w _ s h [] (got_atom A.sub (by simp [Deep]))⟩
theorem jp_non {j : Nat} : JP T X (.Constant .none j pos) (pC .non) :=
  ⟨_, pe_non, fun σ s h ve d m Q A q w => by cases q; exact w _ s h [] (got_atom A.sub (by simp [Deep]))⟩
theorem jp_str {x : Str} {j : Nat} : JP T X (.Constant (.str x) j pos) (pC (.str x)) :=
  ⟨_, pe_str, fun σ s h ve d m Q A q w => by cases q; exact w _ s h [] (got_atom A.sub (by simp [Deep]))⟩
/-- a module's constant, an int -/
theorem jp_gint {x : Str} {i : Int} {t : Tok} (hg : Gl X x) (hm : X.mg x = some (.int i t)) (hd : (x == ("__debug__" : Str)) = false := by decide) : JP T X (.Name x pos) (pC (.int i)) :=
  ⟨_, pe_glob (v := .int i) hg hm ⟨t, rfl⟩ hd, fun σ s h ve d m Q A q w => by cases q; exact w _ s h [] (got_atom A.sub (by simp [Deep]))⟩
/-- two operands -/
def p2 (g : D → D → Option (D × M)) (f k : VEnv → Option (D × M)) : VEnv → Option (D × M) := fun ve => (f ve).bind fun x => (k ve).bind fun y => g x.1 y.1
def p1 (g : D → Option (D × M)) (f : VEnv → Option (D × M)) : VEnv → Option (D × M) := fun ve => (f ve).bind fun x => g x.1
theorem two_go {F : Value → Value → Sem Value} {g : D → D → Option (D × M)} {ta tb : TE} {r : R2} (ha : ∀ (σ : St) (s h : Hp) (ve : VEnv) (d : D) (m : M) (Q : VK), At X.K T s h σ ve → f ve = some (d, m) → (∀ v s' h' B, Got X.K T s h v d m s' h' B → Q v h') → ta σ h Q)
    (hb : ∀ (σ : St) (s h : Hp) (ve : VEnv) (d : D) (m : M) (Q : VK), At X.K T s h σ ve → k ve = some (d, m) → (∀ v s' h' B, Got X.K T s h v d m s' h' B → Q v h') → tb σ h Q)
    (ho : ∀ (s h : Hp) (x y : V) (a b d : D) (m : M) (Q : VK), Sub s h → Tabs T h → Sees X.K T s x a → Sees X.K T s y b → g a b = some (d, m) → (∀ v s' h' B, Got X.K T s h v d m s' h' B → Q v h') → r x y h Q)
    (σ : St) (s h : Hp) (ve : VEnv) (d : D) (m : M) (Q : VK) (A : At X.K T s h σ ve) (q : p2 g f k ve = some (d, m)) (w : ∀ v s' h' B, Got X.K T s h v d m s' h' B → Q v h') : tOp r ta tb σ h Q := by
  unfold p2 at q
  obtain ⟨⟨da, ma⟩, e1, q⟩ := Option.bind_eq_some_iff.mp q
  obtain ⟨⟨db, mb⟩, e2, q⟩ := Option.bind_eq_some_iff.mp q
  refine ha σ s h ve da ma _ A e1 fun x s1 h1 B1 G1 => ?_
  obtain ⟨g1, r1⟩ := G1.seen
  refine hb σ _ h1 ve db mb _ (A.grow g1) e2 fun y s2 h2 B2 G2 => ?_
  obtain ⟨g2, r2⟩ := G2.seen
  refine ho _ h2 x y da db d m Q g2.sub (g2.tab (g1.tab A.tab)) (r1.ext g2.ss da) r2 q fun v s3 h3 B3 G3 => ?_
  exact w v s3 h3 B3 (G3.pre (g1.trans g2))
theorem jp_bin {op : Operator} {g : D → D → Option (D × M)} (o : O2 T X (binaryOp op) g) (ha : JP T X a f) (hb : JP T X b k) : JP T X (.BinOp a op b pos) (p2 g f k) := by
  obtain ⟨r, o1, o2⟩ := o
  obtain ⟨ta, a1, a2⟩ := ha
  obtain ⟨tb, b1, b2⟩ := hb
  exact ⟨_, pe_op o1 a1 b1, two_go (F := binaryOp op) a2 b2 o2⟩
theorem jp_cmp {op : CmpOp} {g : D → D → Option (D × M)} (o : O2 T X (compareOp op) g) (ha : JP T X a f) (hb : JP T X b k) (hm : behindInMarks op b = false) : JP T X (.Compare a [op] [b] pos) (p2 g f k) := by
  obtain ⟨r, o1, o2⟩ := o
  obtain ⟨ta, a1, a2⟩ := ha
  obtain ⟨tb, b1, b2⟩ := hb
  exact ⟨_, pe_cmpR o1 a1 b1 hm, two_go (F := compareOp op) a2 b2 o2⟩
def asB (x : D × M) : Option Bool := match x.1 with
  | .bl b => some b
  | _ => none
def tOf (f : VEnv → Option (D × M)) : VEnv → Option Bool := fun ve => (f ve).bind asB
theorem jt_cmp {op : CmpOp} {g : D → D → Option (D × M)} (o : O2 T X (compareOp op) g) (ha : JP T X a f) (hb : JP T X b k) (hm : behindInMarks op b = false) : JT T X (.Compare a [op] [b] pos) (tOf (p2 g f k)) := by
  obtain ⟨r, o1, o2⟩ := o
  obtain ⟨ta, a1, a2⟩ := ha
  obtain ⟨tb, b1, b2⟩ := hb
  refine ⟨_, pt_cmpR o1 a1 b1 hm, fun σ s h ve c Q A q w => ?_⟩
  obtain ⟨⟨d, m⟩, e1, q⟩ := Option.bind_eq_some_iff.mp q
  refine two_go (F := compareOp op) a2 b2 o2 σ s h ve d m _ A e1 fun v s' h' B G => ?_
  unfold asB at q
  split at q
  · rename_i z e3
    cases q
    have e4 : d = .bl c := e3
    subst e4
    obtain ⟨g1, r1⟩ := G.seen
    simp only [Sees] at r1
    exact ⟨c, r1, w _ h' g1⟩
  · cases q
theorem jp_un {op : UnaryOp} {g : D → Option (D × M)} (o : O1 T X (unaryOp op) g) (ha : JP T X a f) : JP T X (.UnaryOp op a pos) (p1 g f) := by
  obtain ⟨r, o1, o2⟩ := o
  obtain ⟨ta, a1, a2⟩ := ha
  refine ⟨_, pe_un o1 a1, fun σ s h ve d m Q A q w => ?_⟩
  obtain ⟨⟨da, ma⟩, e1, q⟩ := Option.bind_eq_some_iff.mp q
  refine a2 σ s h ve da ma _ A e1 fun x s1 h1 B1 G1 => ?_
  obtain ⟨g1, r1⟩ := G1.seen
  exact o2 _ h1 x da d m Q g1.sub (g1.tab A.tab) r1 q fun v s3 h3 B3 G3 => w v s3 h3 B3 (G3.pre g1)
/-! arguments -/
def aNil : VEnv → Option (List (D × M)) := fun _ => some []
def aCons (f : VEnv → Option (D × M)) (k : VEnv → Option (List (D × M))) : VEnv → Option (List (D × M)) := fun ve => (f ve).bind fun x => (k ve).bind fun r => some (x :: r)
theorem ja_nil : JA T X [] aNil := ⟨_, pa_nil, fun σ s h ve ds Q A q w => by cases q; exact w [] s h [] (Gr.refl A.sub) ⟨rfl, rfl⟩ Fresh.nil⟩
theorem ja_cons {k : VEnv → Option (List (D × M))} (ha : JP T X e f) (hr : JA T X es k) (hs : starEach (e :: es) X.env = (false, eval e X.env) :: starEach es X.env := by rfl) : JA T X (e :: es) (aCons f k) := by
  obtain ⟨ta, a1, a2⟩ := ha
  obtain ⟨tb, b1, b2⟩ := hr
  refine ⟨_, pa_cons a1 b1 hs, fun σ s h ve ds Q A q w => ?_⟩
  obtain ⟨⟨da, ma⟩, e1, q⟩ := Option.bind_eq_some_iff.mp q
  obtain ⟨dr, e2, q⟩ := Option.bind_eq_some_iff.mp q
  cases q
  refine a2 σ s h ve da ma _ A e1 fun x s1 h1 B1 G1 => ?_
  refine b2 σ s1 h1 ve dr _ (A.grow G1.gr) e2 fun ys s2 h2 B2 g2 r2 f2 => ?_
  refine w (x :: ys) s2 h2 (B1 ++ B2) (G1.gr.trans g2) ⟨x, ys, B1, B2, rfl, rfl, G1.rep.grow g2, r2⟩ ⟨?_, fun b hb => ?_, fun b hb => ?_⟩
  · refine List.nodup_append.mpr ⟨G1.fr.nd, f2.nd, fun b hb c hc e => ?_⟩
    subst e
    obtain ⟨o, e1, _⟩ := G1.rep.mem b hb
    rw [f2.nw b hc] at e1; cases e1
  · rcases List.mem_append.mp hb with hb | hb
    · exact G1.fr.nw b hb
    · exact G1.gr.non (f2.nw b hb)
  · rcases List.mem_append.mp hb with hb | hb
    · exact (G1.fr.grow g2 G1.rep).ns b hb
    · exact f2.ns b hb
/-- a call of a built-in function or class by its name -/
def pCB (g : List D → Option (D × M)) (k : VEnv → Option (List (D × M))) : VEnv → Option (D × M) := fun ve => (k ve).bind fun r => g (r.map (·.1))
theorem args_go {g : List D → Option (D × M)} {k : VEnv → Option (List (D × M))} {ta : TA} {r : List V → Hp → VK → Prop} (ha : ∀ (σ : St) (s h : Hp) (ve : VEnv) (ds : List (D × M)) (Q : List V → Hp → Prop), At X.K T s h σ ve → k ve = some ds →
      (∀ vs s' h' B, Gr T s h s' h' → RepL X.K T s' h' vs ds B → Fresh h s' B → Q vs h') → ta σ h Q)
    (ho : ∀ (s h : Hp) (xs : List V) (ds : List D) (d : D) (m : M) (Q : VK), Sub s h → Tabs T h → SeesL X.K T s xs ds → g ds = some (d, m) → (∀ v s' h' B, Got X.K T s h v d m s' h' B → Q v h') → r xs h Q)
    (σ : St) (s h : Hp) (ve : VEnv) (d : D) (m : M) (Q : VK) (A : At X.K T s h σ ve) (q : pCB g k ve = some (d, m)) (w : ∀ v s' h' B, Got X.K T s h v d m s' h' B → Q v h') : tCB r ta σ h Q := by
  obtain ⟨ds, e1, q⟩ := Option.bind_eq_some_iff.mp q
  refine ha σ s h ve ds _ A e1 fun xs s1 h1 B1 g1 r1 f1 => ?_
  have g2 := g1.shr f1
  exact ho _ h1 xs _ d m Q g2.sub (g2.tab A.tab) (r1.shr g1.sub fun _ hb => hb) q fun v s3 h3 B3 G3 => w v s3 h3 B3 (G3.pre g2)
theorem jp_callB {id : String} {x : Str} {p : Pos} {g : List D → Option (D × M)} {k : VEnv → Option (List (D × M))} (o : OC T X (.builtin id) g) (hg : Gl X x) (hm : X.mg x = none) (hv : bootBuiltins x = some (.builtin id)) (ha : JA T X (e :: es) k)
    (hn : x ≠ "__name__" := by decide) (hdb : (x == ("__debug__" : Str)) = false := by decide) (h1 : starEach (e :: es) X.env = (false, eval e X.env) :: starEach es X.env := by rfl)
    (h2 : (backTo pos (starEach es X.env)).any (·.1) = false := by rfl) : JP T X (.Call (.Name x p) (e :: es) [] pos) (pCB g k) := by
  obtain ⟨r, o1, o2⟩ := o
  obtain ⟨ta, a1, a2⟩ := ha
  exact ⟨_, pe_callB o1 hg hm hv a1 hn hdb h1 h2, args_go a2 o2⟩
end
end G
set_option Elab.async false
set_option linter.all false
set_option maxRecDepth 100000
set_option maxHeartbeats 4000000
/-! G3: operators and built-in functions over data -/
namespace G
open PySem PySem.Spec PyProof.Rows L2
def lim : Nat := 16777216
theorem lim_eq : lim = sizeLine := by rw [sizeLine_eq]; rfl
/-- how a new list is held -/
def lm (ds : List D) : M := if immL ds then .dp else .o1
section
variable {K : PySem.W.Frag} {T : Tx} {s s' h h' : Hp}
theorem got_list {p : Addr} {vs : List V} {ds : List D} (e : Sub s h) (n : h p = none) (r : SeesL K T s vs ds) : Got K T s h (.ref p) (.lst ds) (lm ds) s (upd h p (.lst vs)) [p] := by
  have g : Gr T s h s (upd h p (.lst vs)) := Gr.own e n
  refine ⟨g, ?_, by simp, fun b hb => ?_, fun b hb => ?_⟩
  · unfold lm
    split
    · rename_i i
      simp only [Rep, Deep]
      exact ⟨p, vs, [], rfl, upd_same, rfl, SeesL.deep ds i (r.ext g.sub ds)⟩
    · exact ⟨p, rfl, rfl, vs, upd_same, r⟩
  · rw [List.mem_singleton.mp hb]; exact n
  · rw [List.mem_singleton.mp hb]; exact e.no p n
theorem got_tup {p : Addr} {vs : List V} {ds : List D} (e : Sub s h) (n : h p = none) (r : SeesL K T s vs ds) : Got K T s h (.ref p) (.tup ds) (im (.tup ds)) (upd s p (.tup vs)) (upd h p (.tup vs)) [] := by
  have g : Gr T s h (upd s p (.tup vs)) (upd h p (.tup vs)) := Gr.alloc e n
  refine Got.of g ?_
  simp only [Sees]
  exact ⟨p, vs, rfl, upd_same, r.ext g.ss ds⟩
theorem got_at {v : V} {d : D} (e : Sub s h) (r : Sees K T s v d) : Got K T s h v d (im d) s h [] := Got.of (Gr.refl e) r
theorem got_int {i : Int} (e : Sub s h) : Got K T s h (.int i) (.int i) .dp s h [] := got_atom e (by simp [Deep])
theorem got_bl {b : Bool} (e : Sub s h) : Got K T s h (.bl b) (.bl b) .dp s h [] := got_atom e (by simp [Deep])
theorem got_str {x : Str} (e : Sub s h) : Got K T s h (.str x) (.str x) .dp s h [] := got_atom e (by simp [Deep])
theorem got_non (e : Sub s h) : Got K T s h .non .non .dp s h [] := got_atom e (by simp [Deep])
end
/-! ### + -/
def gAdd : D → D → Option (D × M)
  | .int i, .int j => some (.int (i + j), .dp)
  | .lst xs, .lst ys => if xs.length + ys.length ≤ lim then some (.lst (xs ++ ys), lm (xs ++ ys)) else none
  | .tup xs, .tup ys => if xs.length + ys.length ≤ lim then some (.tup (xs ++ ys), im (.tup (xs ++ ys))) else none
  | .str x, .str y => if x.length + y.length ≤ lim then some (.str (x ++ y), .dp) else none
  | _, _ => none
section
variable {X : Cx} {T : Tx}
theorem o2_add : O2 T X (binaryOp .Add) gAdd := by
  refine ⟨_, op_add.or (op_cat.or (op_catA.or op_add_str)), fun s h x y a b d m Q e tb ra rb q w => ?_⟩
  unfold gAdd at q
  split at q
  · cases q
    simp only [Sees] at ra rb
    exact .inl ⟨_, _, ra, rb, w _ s h [] (got_int e)⟩
  · split at q
    · rename_i hl
      cases q
      simp only [Sees] at ra rb
      obtain ⟨p, vs, e1, e2, e3⟩ := ra
      obtain ⟨p', vs', e1', e2', e3'⟩ := rb
      refine .inr (.inl ⟨p, p', vs, vs', e1, e1', e.at_ _ _ e2 (by intro _ z; cases z), e.at_ _ _ e2' (by intro _ z; cases z), ?_, fun q n => w _ _ _ _ (got_list e n (e3.app e3'))⟩)
      rw [SeesL.len _ e3, SeesL.len _ e3', ← lim_eq]; exact hl
    · cases q
  · split at q
    · rename_i hl
      cases q
      simp only [Sees] at ra rb
      obtain ⟨p, vs, e1, e2, e3⟩ := ra
      obtain ⟨p', vs', e1', e2', e3'⟩ := rb
      refine .inr (.inr (.inl ⟨p, p', vs, vs', e1, e1', (sqT_ext e e2).sq, (sqT_ext e e2').sq, ?_, fun z => ?_, fun z z' => ?_, fun _ _ q n => w _ _ _ _ (got_tup e n (e3.app e3'))⟩))
      · rw [SeesL.len _ e3, SeesL.len _ e3', ← lim_eq]; exact hl
      · have ez := SeesL.len _ e3
        rw [z] at ez
        have ez' : _ = [] := List.length_eq_zero_iff.mp ez.symm
        subst ez'
        refine w _ s h [] (got_at e ?_)
        simp only [Sees, List.nil_append]
        exact ⟨p', vs', rfl, e2', e3'⟩
      · have ez := SeesL.len _ e3'
        rw [z'] at ez
        have ez' : _ = [] := List.length_eq_zero_iff.mp ez.symm
        subst ez'
        refine w _ s h [] (got_at e ?_)
        simp only [Sees, List.append_nil]
        exact ⟨p, vs, rfl, e2, e3⟩
    · cases q
  · split at q
    · rename_i hl
      cases q
      simp only [Sees] at ra rb
      exact .inr (.inr (.inr ⟨_, _, ra, rb, by rw [← lim_eq]; exact hl, w _ s h [] (got_str e)⟩))
    · cases q
  · cases q
/-- an operator of two ints -/
def gI (c : Int → Int → Bool) (f : Int → Int → Int) : D → D → Option (D × M)
  | .int i, .int j => if c i j then some (.int (f i j), .dp) else none
  | _, _ => none
theorem o2_int {F : Value → Value → Sem Value} {C : Int → Int → Prop} {c : Int → Int → Bool} {f : Int → Int → Int} (ho : OpR X F (rI C fun i j => .int (f i j))) (hc : ∀ i j, c i j = true → C i j) : O2 T X F (gI c f) := by
  refine ⟨_, ho, fun s h x y a b d m Q e tb ra rb q w => ?_⟩
  unfold gI at q
  split at q
  · split at q
    · rename_i hh
      cases q
      simp only [Sees] at ra rb
      exact ⟨_, _, ra, rb, hc _ _ hh, w _ s h [] (got_int e)⟩
    · cases q
  · cases q
def gSub := gI (fun _ _ => true) (· - ·)
theorem o2_sub : O2 T X (binaryOp .Sub) gSub := by
  refine ⟨_, op_sub, fun s h x y a b d m Q e tb ra rb q w => ?_⟩
  unfold gSub gI at q
  split at q
  · simp only [if_true] at q
    cases q
    simp only [Sees] at ra rb
    exact ⟨_, _, ra, rb, w _ s h [] (got_int e)⟩
  · cases q
theorem o2_int0 {F : Value → Value → Sem Value} {f : Int → Int → Int} (ho : OpR X F (rI0 fun i j => .int (f i j))) : O2 T X F (gI (fun _ _ => true) f) := by
  refine ⟨_, ho, fun s h x y a b d m Q e tb ra rb q w => ?_⟩
  unfold gI at q
  split at q
  · simp only [if_true] at q
    cases q
    simp only [Sees] at ra rb
    exact ⟨_, _, ra, rb, w _ s h [] (got_int e)⟩
  · cases q
def small64 (i : Int) : Bool := decide (i.natAbs < 2 ^ 64)
theorem small64_b {i : Int} : small64 i = true ↔ (-(2 ^ 64) < i ∧ i < 2 ^ 64) := by
  simp only [small64, decide_eq_true_eq]
  omega
/-- * : two ints one of which is small; a list by an int -/
def gMul : D → D → Option (D × M)
  | .int i, .int j => if small64 i || small64 j then some (.int (i * j), .dp) else none
  | .lst xs, .int k => if small64 (2 * k) && decide (xs.length * k.toNat ≤ lim) then some (.lst (List.replicate k.toNat xs).flatten, lm (List.replicate k.toNat xs).flatten) else none
  | _, _ => none
theorem seesL_rep {K : PySem.W.Frag} {s : Hp} {vs : List V} {ds : List D} (r : SeesL K T s vs ds) : ∀ k, SeesL K T s (List.replicate k vs).flatten (List.replicate k ds).flatten
  | 0 => by simp [SeesL]
  | k + 1 => by
    rw [List.replicate_succ, List.replicate_succ, List.flatten_cons, List.flatten_cons]
    exact r.app (seesL_rep r k)
theorem o2_mul : O2 T X (binaryOp .Mult) gMul := by
  refine ⟨_, op_mul.or op_rep, fun s h x y a b d m Q e tb ra rb q w => ?_⟩
  unfold gMul at q
  split at q
  · split at q
    · rename_i hh
      cases q
      simp only [Sees] at ra rb
      simp only [small64_b, Bool.or_eq_true, Bool.and_eq_true, decide_eq_true_eq] at hh
      exact .inl ⟨_, _, ra, rb, hh, w _ s h [] (got_int e)⟩
    · cases q
  · split at q
    · rename_i hh
      cases q
      simp only [Sees] at ra rb
      obtain ⟨p, vs, e1, e2, e3⟩ := ra
      simp only [small64_b, Bool.and_eq_true, decide_eq_true_eq] at hh
      refine .inr ⟨p, _, vs, e1, rb, e.at_ _ _ e2 (by intro _ z; cases z), by omega, by omega, ?_, fun q n => w _ _ _ _ (got_list e n (seesL_rep e3 _))⟩
      rw [SeesL.len _ e3, ← lim_eq]; exact hh.2
    · cases q
  · cases q
def gFdiv := gI (fun _ j => decide (j ≠ 0) && decide (j.natAbs < 1073741824)) Int.fdiv
theorem o2_fdiv : O2 T X (binaryOp .FloorDiv) gFdiv := o2_int op_fdivN fun i j h => by
  simp only [Bool.and_eq_true, decide_eq_true_eq] at h
  exact h
def gMod := gI (fun _ j => decide (j ≠ 0)) Int.fmod
theorem o2_mod : O2 T X (binaryOp .Mod) gMod := o2_int op_modN fun i j h => by simpa using h
def gPow := gI (fun i j => decide (0 ≤ j) && decide ((Builtin.Int.intBits i : Int) * j ≤ 2 ^ 27)) (fun i j => i ^ j.toNat)
theorem op_powX : OpR X (binaryOp .Pow) (rI (fun i j => 0 ≤ j ∧ (Builtin.Int.intBits i : Int) * j ≤ 2 ^ 27) fun i j => .int (i ^ j.toNat)) := opI fun _ _ _ _ _ _ _ hc q => pow_int hc.1 hc.2 q
theorem o2_pow : O2 T X (binaryOp .Pow) gPow := o2_int op_powX fun i j h => by
  simp only [Bool.and_eq_true, decide_eq_true_eq] at h
  exact h
def gAnd := gI (fun _ _ => true) Builtin.bitAnd
theorem o2_and : O2 T X (binaryOp .BitAnd) gAnd := o2_int0 op_and
def gOr := gI (fun _ _ => true) Builtin.bitOr
theorem o2_or : O2 T X (binaryOp .BitOr) gOr := o2_int0 op_or
def gXor := gI (fun _ _ => true) Builtin.bitXor
theorem o2_xor : O2 T X (binaryOp .BitXor) gXor := o2_int0 op_xor
def gShl := gI (fun i j => decide (0 ≤ j) && decide (j.toNat ≤ 1000000) && small64 i) (fun i j => i * 2 ^ j.toNat)
theorem o2_shl : O2 T X (binaryOp .LShift) gShl := o2_int op_shl fun i j h => by
  simp only [small64_b, Bool.and_eq_true, decide_eq_true_eq] at h
  exact ⟨h.1.1, by omega, by omega⟩
def gShr := gI (fun _ j => decide (0 ≤ j)) (fun i j => i / 2 ^ j.toNat)
theorem o2_shr : O2 T X (binaryOp .RShift) gShr := o2_int op_shr fun i j h => by simpa using h
def gNeg : D → Option (D × M)
  | .int i => some (.int (-i), .dp)
  | _ => none
theorem o1_neg : O1 T X (unaryOp .USub) gNeg := by
  refine ⟨_, un_neg, fun s h x a d m Q e tb ra q w => ?_⟩
  unfold gNeg at q
  split at q
  · cases q
    simp only [Sees] at ra
    exact ⟨_, ra, w _ s h [] (got_int e)⟩
  · cases q
def gInv : D → Option (D × M)
  | .int i => some (.int (Builtin.bitNot i), .dp)
  | _ => none
theorem o1_inv : O1 T X (unaryOp .Invert) gInv := by
  refine ⟨_, un_inv, fun s h x a d m Q e tb ra q w => ?_⟩
  unfold gInv at q
  split at q
  · cases q
    simp only [Sees] at ra
    exact ⟨_, ra, w _ s h [] (got_int e)⟩
  · cases q
/-! ### comparisons of ints -/
def gC (f : Int → Int → Bool) : D → D → Option (D × M)
  | .int i, .int j => some (.bl (f i j), .dp)
  | _, _ => none
theorem o2_cmp {F : Value → Value → Sem Value} {f : Int → Int → Bool} (ho : OpR X F (rI0 fun i j => .bl (f i j))) : O2 T X F (gC f) := by
  refine ⟨_, ho, fun s h x y a b d m Q e tb ra rb q w => ?_⟩
  unfold gC at q
  split at q
  · cases q
    simp only [Sees] at ra rb
    exact ⟨_, _, ra, rb, w _ s h [] (got_bl e)⟩
  · cases q
def gLt := gC fun i j => decide (i < j)
def gLe := gC fun i j => decide (i ≤ j)
def gGt := gC fun i j => decide (j < i)
def gGe := gC fun i j => decide (j ≤ i)
theorem o2_lt : O2 T X (compareOp .Lt) gLt := o2_cmp op_lt
theorem o2_le : O2 T X (compareOp .LtE) gLe := o2_cmp op_le
theorem o2_gt : O2 T X (compareOp .Gt) gGt := o2_cmp op_gt
theorem o2_ge : O2 T X (compareOp .GtE) gGe := o2_cmp op_ge
/-! ### == of plain data -/
mutual
def py : D → PyData
  | .non => .none
  | .bl b => .bool b
  | .int i => .int i
  | .str x => .str x
  | .lst xs => .list (pyL xs)
  | .tup xs => .tuple (pyL xs)
  | .dk _ _ => .dict []
  | .dt _ _ => .dict []
  | .ins _ _ => .dict []
  | .scr _ => .dict []
def pyL : List D → List PyData
  | [] => []
  | d :: ds => py d :: pyL ds
end
def eqOk (d : D) : Bool := SeqAt.shaped (py d)
mutual
theorem Sees.dp {K : PySem.W.Frag} {s h : Hp} (e : Sub s h) : ∀ {v : V} (d : D), (py d).canLay0 = true → Sees K T s v d → Dp K h v (py d)
  | _, .non, _, r => by simp only [Sees] at r; subst r; simp only [py]; exact .non
  | _, .bl b, _, r => by simp only [Sees] at r; subst r; simp only [py]; exact .bl b
  | _, .int i, _, r => by simp only [Sees] at r; subst r; simp only [py]; exact .int i
  | _, .str x, _, r => by simp only [Sees] at r; subst r; simp only [py]; exact .str x
  | _, .lst xs, c, r => by
    simp only [Sees] at r
    simp only [py, PyData.canLay0] at c
    obtain ⟨p, vs, rfl, e2, e3⟩ := r
    simp only [py]
    exact .lst (SqL.of (e.at_ _ _ e2 (by intro _ z; cases z))) (SeesL.dp e xs c e3)
  | _, .tup xs, c, r => by
    simp only [Sees] at r
    simp only [py, PyData.canLay0] at c
    obtain ⟨p, vs, rfl, e2, e3⟩ := r
    simp only [py]
    exact .tup (sqT_ext e e2).sq (SeesL.dp e xs c e3)
  | _, .dk _ _, c, _ => by simp [py, PyData.canLay0] at c
  | _, .dt _ _, c, _ => by simp [py, PyData.canLay0] at c
  | _, .ins _ _, c, _ => by simp [py, PyData.canLay0] at c
  | _, .scr _, c, _ => by simp [py, PyData.canLay0] at c
theorem SeesL.dp {K : PySem.W.Frag} {s h : Hp} (e : Sub s h) : ∀ {vs : List V} (ds : List D), PyData.canLayAll0 (pyL ds) = true → SeesL K T s vs ds → DpAll K h vs (pyL ds)
  | _, [], _, r => by simp only [SeesL] at r; subst r; simp only [pyL]; exact .nil
  | _, d :: ds, c, r => by
    simp only [SeesL] at r
    simp only [pyL, PyData.canLayAll0, Bool.and_eq_true] at c
    obtain ⟨v, q, rfl, e2, e3⟩ := r
    simp only [pyL]
    exact .cons (Sees.dp e d c.1 e2) (SeesL.dp e ds c.2 e3)
end
theorem eqOk_lay {d : D} (h : eqOk d = true) : (py d).canLay0 = true := SeqAt.canLay_of_shaped h
def gEq (a b : D) : Option (D × M) := if eqOk a && eqOk b then some (.bl (PyData.eqv (py a) (py b)), .dp) else none
def gNe (a b : D) : Option (D × M) := if eqOk a && eqOk b then some (.bl (!PyData.eqv (py a) (py b)), .dp) else none
theorem o2_eq (hu : X.A.units + 64 < cLine) : O2 T X (compareOp .Eq) gEq := by
  refine ⟨_, op_eqD hu, fun s h x y a b d m Q e tb ra rb q w => ?_⟩
  unfold gEq at q
  split at q
  · rename_i hh
    cases q
    rw [Bool.and_eq_true] at hh
    exact ⟨py a, py b, ra.dp e a (eqOk_lay hh.1), rb.dp e b (eqOk_lay hh.2), hh.1, hh.2, w _ s h [] (got_bl e)⟩
  · cases q
theorem o2_ne (hu : X.A.units + 64 < cLine) : O2 T X (compareOp .NotEq) gNe := by
  refine ⟨_, op_neD hu, fun s h x y a b d m Q e tb ra rb q w => ?_⟩
  unfold gNe at q
  split at q
  · rename_i hh
    cases q
    rw [Bool.and_eq_true] at hh
    exact ⟨py a, py b, ra.dp e a (eqOk_lay hh.1), rb.dp e b (eqOk_lay hh.2), hh.1, hh.2, w _ s h [] (got_bl e)⟩
  · cases q
/-! ### in -/
def isKey : D → Option Key
  | .int i => some (.inl i)
  | .str x => some (.inr x)
  | _ => none
def keysOf : List D → Option (List Key)
  | [] => some []
  | d :: ds => (isKey d).bind fun k => (keysOf ds).bind fun r => some (k :: r)
/-- a tuple of ints and texts -/
def isKeyT : D → Option (List Key)
  | .tup ds => keysOf ds
  | _ => none
/-- the item under a key -/
def look {κ : Type} [DecidableEq κ] : List κ → List D → κ → Option D
  | k :: ks, d :: ds, x => if k = x then some d else look ks ds x
  | _, _, _ => none
theorem look_some {κ : Type} [DecidableEq κ] {K : PySem.W.Frag} {s : Hp} {x : κ} : ∀ {ks : List κ} {vs : List V} {ds : List D} {d : D}, ks.length = vs.length → SeesL K T s vs ds → look ks ds x = some d → ∃ v, valV (ks.zip vs) x = some v ∧ Sees K T s v d
  | [], _, _, _, _, _, q => by simp [look] at q
  | k :: ks, [], _, _, hl, _, _ => by simp at hl
  | k :: ks, v :: vs, [], _, _, r, q => by simp [look] at q
  | k :: ks, v :: vs, d' :: ds, d, hl, r, q => by
    simp only [SeesL] at r
    obtain ⟨v', vr, e0, e2, e3⟩ := r
    cases e0
    unfold look at q
    rw [List.zip_cons_cons]
    split at q
    · rename_i hk
      cases q
      exact ⟨v, valV_pos hk, e2⟩
    · rename_i hk
      rw [valV_neg (p := (k, v)) (k := x) hk]
      exact look_some (by simpa using hl) e3 q
theorem look_none {κ : Type} [DecidableEq κ] {K : PySem.W.Frag} {s : Hp} {x : κ} : ∀ {ks : List κ} {vs : List V} {ds : List D}, ks.length = vs.length → SeesL K T s vs ds → (valV (ks.zip vs) x).isSome = (look ks ds x).isSome
  | [], _, _, _, _ => by simp [look, valV]
  | k :: ks, [], _, hl, _ => by simp at hl
  | k :: ks, v :: vs, [], _, r => by simp [SeesL] at r
  | k :: ks, v :: vs, d' :: ds, hl, r => by
    simp only [SeesL] at r
    obtain ⟨v', vr, e0, e2, e3⟩ := r
    cases e0
    unfold look
    rw [List.zip_cons_cons]
    split
    · rename_i hk
      rw [valV_pos (p := (k, v)) hk]
      rfl
    · rename_i hk
      rw [valV_neg (p := (k, v)) (k := x) hk]
      exact look_none (by simpa using hl) e3
theorem op_inK (hu : X.A.units + 1 < cLine) : OpR X (compareOp .In) (fun y x H Q => ∃ a o, x = .ref a ∧ DGet H a y o ∧ Q (.bl o.isSome) H) := by
  intro pins s σ H x y v u Q I rx ry h
  obtain ⟨a, o, rfl, g, q⟩ := h
  obtain rfl : u = Value.ref a := ry
  exact d_in hu I g rx fun s3 I3 => ⟨.bl o.isSome, H, I3, rfl, q⟩
theorem op_notInK (hu : X.A.units + 1 < cLine) : OpR X (compareOp .NotIn) (fun y x H Q => ∃ a o, x = .ref a ∧ DGet H a y o ∧ Q (.bl (!o.isSome)) H) := by
  intro pins s σ H x y v u Q I rx ry h
  obtain ⟨a, o, rfl, g, q⟩ := h
  obtain rfl : u = Value.ref a := ry
  exact d_notIn hu I g rx fun s3 I3 => ⟨.bl (!o.isSome), H, I3, rfl, q⟩
def inB : D → D → Option Bool
  | a, .lst ds => if eqOk a && eqOk (.lst ds) then some ((pyL ds).any fun z => PyData.eqv z (py a)) else none
  | a, .dk ks ds => (isKey a).bind fun k => some (look ks ds k).isSome
  | a, .dt ks ds => (isKeyT a).bind fun k => some (look ks ds k).isSome
  | _, _ => none
def gIn (a b : D) : Option (D × M) := (inB a b).bind fun c => some (.bl c, .dp)
def gNotIn (a b : D) : Option (D × M) := (inB a b).bind fun c => some (.bl (!c), .dp)
theorem key_sees {K : PySem.W.Frag} {s : Hp} {v : V} {d : D} {k : Key} (h : isKey d = some k) (r : Sees K T s v d) : v = kV k := by
  unfold isKey at h
  split at h
  · cases h; simp only [Sees] at r; exact r
  · cases h; simp only [Sees] at r; exact r
  · cases h
theorem keysOf_sees {K : PySem.W.Frag} {s : Hp} : ∀ {ds : List D} {vs : List V} {ks : List Key}, keysOf ds = some ks → SeesL K T s vs ds → vs = ks.map kV
  | [], vs, ks, h, r => by
    cases h
    simpa only [SeesL, List.map_nil] using r
  | d :: ds, vs, ks, h, r => by
    obtain ⟨k, e1, h⟩ := Option.bind_eq_some_iff.mp h
    obtain ⟨kr, e2, h⟩ := Option.bind_eq_some_iff.mp h
    cases h
    simp only [SeesL] at r
    obtain ⟨v, q, rfl, r1, r2⟩ := r
    rw [key_sees e1 r1, keysOf_sees e2 r2]
    rfl
theorem key_seesT {K : PySem.W.Frag} {s : Hp} {v : V} {d : D} {k : List Key} (h : isKeyT d = some k) (r : Sees K T s v d) : ∃ b, v = .ref b ∧ s b = some (.tup (k.map kV)) := by
  unfold isKeyT at h
  split at h
  · simp only [Sees] at r
    obtain ⟨p, vs, rfl, e2, e3⟩ := r
    refine ⟨p, rfl, ?_⟩
    rw [← keysOf_sees h e3]
    exact e2
  · cases h
theorem inB_go {K : PySem.W.Frag} {s h : Hp} {x y : V} {a b : D} {c : Bool} (e : Sub s h) (ra : Sees K T s x a) (rb : Sees K T s y b) (q : inB a b = some c) :
    (∃ d ds, Dp K h x d ∧ Dp K h y (.list ds) ∧ SeqAt.shaped d = true ∧ SeqAt.shaped (.list ds) = true ∧ c = ds.any fun z => PyData.eqv z d) ∨ ∃ p o, y = .ref p ∧ DGet h p x o ∧ c = o.isSome := by
  unfold inB at q
  split at q
  · rename_i ds
    split at q
    · rename_i hh
      cases q
      rw [Bool.and_eq_true] at hh
      have h2 : eqOk (.lst ds) = true := hh.2
      have hb := rb.dp e _ (eqOk_lay h2)
      simp only [py] at hb
      refine .inl ⟨py a, pyL ds, ra.dp e a (eqOk_lay hh.1), hb, hh.1, ?_, rfl⟩
      simpa only [eqOk, py] using h2
    · cases q
  · obtain ⟨k, hk, q⟩ := Option.bind_eq_some_iff.mp q
    cases q
    simp only [Sees] at rb
    obtain ⟨p, vs, rfl, e2, e3, e4⟩ := rb
    refine .inr ⟨p, valV (_root_.List.zip _ vs) k, rfl, .inl ⟨_, k, rd_ext e (by intro _ z; cases z) e2, key_sees hk ra, rfl⟩, (look_none e3 e4).symm⟩
  · obtain ⟨k, hk, q⟩ := Option.bind_eq_some_iff.mp q
    cases q
    simp only [Sees] at rb
    obtain ⟨p, vs, rfl, e2, e3, e4⟩ := rb
    obtain ⟨b, rfl, eb⟩ := key_seesT hk ra
    refine .inr ⟨p, valV (_root_.List.zip _ vs) k, rfl, .inr ⟨_, k, b, rd_ext e (by intro _ z; cases z) e2, rfl, e.at_ _ _ eb (by intro _ z; cases z), rfl⟩, (look_none e3 e4).symm⟩
  · cases q
theorem o2_in (hu : X.A.units + 65 < cLine) : O2 T X (compareOp .In) gIn := by
  refine ⟨_, (op_inD hu).or (op_inK (by omega)), fun s h x y a b d m Q e tb ra rb q w => ?_⟩
  obtain ⟨c, hc, q⟩ := Option.bind_eq_some_iff.mp q
  cases q
  rcases inB_go e ra rb hc with ⟨d, ds, h1, h2, h3, h4, rfl⟩ | ⟨p, o, h1, h2, rfl⟩
  · exact .inl ⟨d, ds, h1, h2, h3, h4, w _ s h [] (got_bl e)⟩
  · exact .inr ⟨p, o, h1, h2, w _ s h [] (got_bl e)⟩
theorem o2_notIn (hu : X.A.units + 65 < cLine) : O2 T X (compareOp .NotIn) gNotIn := by
  refine ⟨_, (op_notInD hu).or (op_notInK (by omega)), fun s h x y a b d m Q e tb ra rb q w => ?_⟩
  obtain ⟨c, hc, q⟩ := Option.bind_eq_some_iff.mp q
  cases q
  rcases inB_go e ra rb hc with ⟨d, ds, h1, h2, h3, h4, rfl⟩ | ⟨p, o, h1, h2, rfl⟩
  · exact .inl ⟨d, ds, h1, h2, h3, h4, w _ s h [] (got_bl e)⟩
  · exact .inr ⟨p, o, h1, h2, w _ s h [] (got_bl e)⟩
/-! ### is None, is of bools -/
def isB : D → D → Option Bool
  | .bl a, .bl b => some (decide (a = b))
  | .non, .non => some true
  | _, .non => some false
  | _, _ => none
def gIs (a b : D) : Option (D × M) := (isB a b).bind fun c => some (.bl c, .dp)
def gIsNot (a b : D) : Option (D × M) := (isB a b).bind fun c => some (.bl (!c), .dp)
theorem isB_go {K : PySem.W.Frag} {s : Hp} {x y : V} {a b : D} {c : Bool} (ra : Sees K T s x a) (rb : Sees K T s y b) (q : isB a b = some c) :
    (y = .non ∧ c = decide (x = .non)) ∨ ∃ i j, x = .bl i ∧ y = .bl j ∧ c = decide (i = j) := by
  cases b with
  | non =>
    simp only [Sees] at rb
    left
    refine ⟨rb, ?_⟩
    cases a <;> simp only [isB, Option.some.injEq] at q <;> simp only [Sees] at ra <;> subst q
    case non => rw [ra]; rfl
    case bl => rw [ra]; rfl
    case int => rw [ra]; rfl
    case str => rw [ra]; rfl
    all_goals
      obtain ⟨p, ra⟩ := ra
      simp [ra]
    case dk => obtain ⟨_, ra, _⟩ := ra; simp [ra]
    case dt => obtain ⟨_, ra, _⟩ := ra; simp [ra]
    case ins => obtain ⟨_, _, ra, _⟩ := ra; simp [ra]
    case lst => obtain ⟨_, ra, _⟩ := ra; simp [ra]
    case tup => obtain ⟨_, ra, _⟩ := ra; simp [ra]
  | bl j =>
    cases a with
    | bl i =>
      simp only [isB, Option.some.injEq] at q
      simp only [Sees] at ra rb
      exact .inr ⟨i, j, ra, rb, q.symm⟩
    | _ => simp [isB] at q
  | _ => cases a <;> simp [isB] at q
theorem o2_is : O2 T X (compareOp .Is) gIs := by
  refine ⟨_, op_isN.or op_isBl, fun s h x y a b d m Q e tb ra rb q w => ?_⟩
  obtain ⟨c, hc, q⟩ := Option.bind_eq_some_iff.mp q
  cases q
  rcases isB_go ra rb hc with ⟨h1, rfl⟩ | ⟨i, j, h1, h2, rfl⟩
  · exact .inl ⟨h1, w _ s h [] (got_bl e)⟩
  · exact .inr ⟨i, j, h1, h2, w _ s h [] (got_bl e)⟩
theorem o2_isNot : O2 T X (compareOp .IsNot) gIsNot := by
  refine ⟨_, op_notN.or op_notBl, fun s h x y a b d m Q e tb ra rb q w => ?_⟩
  obtain ⟨c, hc, q⟩ := Option.bind_eq_some_iff.mp q
  cases q
  rcases isB_go ra rb hc with ⟨h1, rfl⟩ | ⟨i, j, h1, h2, rfl⟩
  · exact .inl ⟨h1, w _ s h [] (got_bl e)⟩
  · exact .inr ⟨i, j, h1, h2, w _ s h [] (got_bl e)⟩
end
end G
set_option Elab.async false
set_option linter.all false
set_option maxRecDepth 100000
set_option maxHeartbeats 4000000
/-! G4: tests, displays, subscripts, slices, built-in functions over data -/
namespace G
open PySem PySem.Spec PyProof.Rows L2
/-! ### truth -/
def tru : D → Option Bool
  | .non => some false
  | .bl b => some b
  | .int i => some (i != 0)
  | .str x => if x.length ≤ lim then some ((x.length : Int) != 0) else none
  | .lst xs => some (!xs.isEmpty)
  | .tup xs => some (!xs.isEmpty)
  | .scr ns => some (!ns.isEmpty)
  | _ => none
theorem isEmpty_len {α β : Type} {xs : List α} {ys : List β} (h : xs.length = ys.length) : xs.isEmpty = ys.isEmpty := by
  cases xs <;> cases ys <;> simp_all
section
variable {X : Cx} {T : Tx} {a b c e : Expr} {es rest : List Expr} {f k : VEnv → Option (D × M)} {ft kt : VEnv → Option Bool} {pos : Pos}
theorem tru_go {K : PySem.W.Frag} {s h : Hp} {v : V} {d : D} {z : Bool} (e : Sub s h) (r : Sees K T s v d) (q : tru d = some z) : TruV K v h z := by
  cases d with
  | non => simp only [Sees] at r; subst r; simp only [tru, Option.some.injEq] at q; exact q.symm
  | bl b => simp only [Sees] at r; subst r; simp only [tru, Option.some.injEq] at q; exact q.symm
  | int i => simp only [Sees] at r; subst r; simp only [tru, Option.some.injEq] at q; exact q.symm
  | str x =>
    simp only [Sees] at r; subst r
    simp only [tru] at q
    split at q
    · rename_i hl
      simp only [Option.some.injEq] at q
      exact ⟨by rw [← lim_eq]; exact hl, q.symm⟩
    · cases q
  | lst xs =>
    simp only [Sees] at r
    obtain ⟨p, vs, rfl, e2, e3⟩ := r
    simp only [tru, Option.some.injEq] at q
    exact .inl ⟨vs, SqL.of (e.at_ _ _ e2 (by intro _ z; cases z)), by rw [← q, isEmpty_len (SeesL.len _ e3)]⟩
  | tup xs =>
    simp only [Sees] at r
    obtain ⟨p, vs, rfl, e2, e3⟩ := r
    simp only [tru, Option.some.injEq] at q
    exact .inr (.inl ⟨vs, (sqT_ext e e2).sq, by rw [← q, isEmpty_len (SeesL.len _ e3)]⟩)
  | scr ns =>
    simp only [Sees] at r
    obtain ⟨p, rfl, e2⟩ := r
    simp only [tru, Option.some.injEq] at q
    exact .inl ⟨_, sqL_ext e e2, by rw [← q]; cases ns <;> rfl⟩
  | _ => simp [tru] at q
def bTru (f : VEnv → Option (D × M)) : VEnv → Option Bool := fun ve => (f ve).bind fun x => tru x.1
theorem jt_val (ha : JP T X e f) (he : ∀ whole, isTrue e X.env whole = (do let v ← whole; standAt e.pos; holding [v] (truthy v)) := by intro _; rfl) : JT T X e (bTru f) := by
  obtain ⟨t, a1, a2⟩ := ha
  refine ⟨_, pt_truth a1 he, fun σ s h ve z Q A q w => ?_⟩
  obtain ⟨⟨d, m⟩, e1, q⟩ := Option.bind_eq_some_iff.mp q
  refine a2 σ s h ve d m _ A e1 fun v s' h' B G1 => ?_
  obtain ⟨g1, r1⟩ := G1.seen
  exact ⟨z, tru_go g1.sub r1 q, w _ h' g1⟩
def bNot (f : VEnv → Option Bool) : VEnv → Option Bool := fun ve => (f ve).bind fun x => some (!x)
theorem jt_not (ha : JT T X a ft) : JT T X (.UnaryOp .Not a pos) (bNot ft) := by
  obtain ⟨t, a1, a2⟩ := ha
  refine ⟨_, pt_not a1, fun σ s h ve z Q A q w => ?_⟩
  obtain ⟨c, e1, q⟩ := Option.bind_eq_some_iff.mp q
  cases q
  exact a2 σ s h ve c _ A e1 w
/-- a chain of and, of or, as a test -/
def JW (T : Tx) (X : Cx) (e : Expr) (f : VEnv → Option Bool) : Prop := ∃ t, PW X e t ∧ ∀ (σ : St) (s h : Hp) (ve : VEnv) (b : Bool) (Q : Bool → Hp → Prop), At X.K T s h σ ve → f ve = some b → (∀ s' h', Gr T s h s' h' → Q b h') → t σ h Q
theorem jt_w (h : JW T X e ft) : JT T X e ft := by
  obtain ⟨t, a1, a2⟩ := h
  exact ⟨t, a1.pt, a2⟩
theorem jw_and1 (h : JT T X a ft) : JW T X (.BoolOp .And [a] pos) ft := by
  obtain ⟨t, a1, a2⟩ := h
  exact ⟨t, pw_and1 a1, a2⟩
theorem jw_or1 (h : JT T X a ft) : JW T X (.BoolOp .Or [a] pos) ft := by
  obtain ⟨t, a1, a2⟩ := h
  exact ⟨t, pw_or1 a1, a2⟩
def bAnd (f k : VEnv → Option Bool) : VEnv → Option Bool := fun ve => (f ve).bind fun x => if x = true then k ve else some false
def bOr (f k : VEnv → Option Bool) : VEnv → Option Bool := fun ve => (f ve).bind fun x => if x = true then some true else k ve
theorem jw_and (ha : JT T X a ft) (hb : JW T X (.BoolOp .And (b :: rest) pos) kt) : JW T X (.BoolOp .And (a :: b :: rest) pos) (bAnd ft kt) := by
  obtain ⟨t, a1, a2⟩ := ha
  obtain ⟨u, b1, b2⟩ := hb
  refine ⟨_, pw_and a1 b1, fun σ s h ve z Q A q w => ?_⟩
  obtain ⟨c, e1, q⟩ := Option.bind_eq_some_iff.mp q
  refine a2 σ s h ve c _ A e1 fun s' h' g => ?_
  cases c with
  | true =>
    simp only [if_true] at q ⊢
    exact b2 σ s' h' ve z _ (A.grow g) q fun s2 h2 g2 => w s2 h2 (g.trans g2)
  | false =>
    simp only [Bool.false_eq_true, if_false] at q ⊢
    cases q
    exact w s' h' g
theorem jw_or (ha : JT T X a ft) (hb : JW T X (.BoolOp .Or (b :: rest) pos) kt) : JW T X (.BoolOp .Or (a :: b :: rest) pos) (bOr ft kt) := by
  obtain ⟨t, a1, a2⟩ := ha
  obtain ⟨u, b1, b2⟩ := hb
  refine ⟨_, pw_or a1 b1, fun σ s h ve z Q A q w => ?_⟩
  obtain ⟨c, e1, q⟩ := Option.bind_eq_some_iff.mp q
  refine a2 σ s h ve c _ A e1 fun s' h' g => ?_
  cases c with
  | false =>
    simp only [Bool.false_eq_true, if_false] at q ⊢
    exact b2 σ s' h' ve z _ (A.grow g) q fun s2 h2 g2 => w s2 h2 (g.trans g2)
  | true =>
    simp only [if_true] at q ⊢
    cases q
    exact w s' h' g
/-! as values -/
theorem jp_one {op : BoolOp} (h : JP T X a f) : JP T X (.BoolOp op [a] pos) f := by
  obtain ⟨t, a1, a2⟩ := h
  exact ⟨t, pe_one a1, a2⟩
def pAnd (f k : VEnv → Option (D × M)) : VEnv → Option (D × M) := fun ve => (f ve).bind fun x => (tru x.1).bind fun z => if z = true then k ve else some x
def pOr (f k : VEnv → Option (D × M)) : VEnv → Option (D × M) := fun ve => (f ve).bind fun x => (tru x.1).bind fun z => if z = true then some x else k ve
theorem jp_and (ha : JP T X a f) (hb : JP T X (.BoolOp .And (b :: rest) pos) k) : JP T X (.BoolOp .And (a :: b :: rest) pos) (pAnd f k) := by
  obtain ⟨t, a1, a2⟩ := ha
  obtain ⟨u, b1, b2⟩ := hb
  refine ⟨_, pe_andT a1 b1, fun σ s h ve d m Q A q w => ?_⟩
  obtain ⟨⟨d1, m1⟩, e1, q⟩ := Option.bind_eq_some_iff.mp q
  obtain ⟨z, e2, q⟩ := Option.bind_eq_some_iff.mp q
  refine a2 σ s h ve d1 m1 _ A e1 fun v s' h' B G1 => ?_
  refine ⟨z, tru_go G1.seen.1.sub G1.seen.2 e2, ?_⟩
  cases z with
  | true =>
    simp only [if_true] at q ⊢
    exact b2 σ s' h' ve d m _ (A.grow G1.gr) q fun v2 s2 h2 B2 G2 => w v2 s2 h2 B2 (G2.pre G1.gr)
  | false =>
    simp only [Bool.false_eq_true, if_false] at q ⊢
    cases q
    exact w v s' h' B G1
theorem jp_or (ha : JP T X a f) (hb : JP T X (.BoolOp .Or (b :: rest) pos) k) : JP T X (.BoolOp .Or (a :: b :: rest) pos) (pOr f k) := by
  obtain ⟨t, a1, a2⟩ := ha
  obtain ⟨u, b1, b2⟩ := hb
  refine ⟨_, pe_orT a1 b1, fun σ s h ve d m Q A q w => ?_⟩
  obtain ⟨⟨d1, m1⟩, e1, q⟩ := Option.bind_eq_some_iff.mp q
  obtain ⟨z, e2, q⟩ := Option.bind_eq_some_iff.mp q
  refine a2 σ s h ve d1 m1 _ A e1 fun v s' h' B G1 => ?_
  refine ⟨z, tru_go G1.seen.1.sub G1.seen.2 e2, ?_⟩
  cases z with
  | false =>
    simp only [Bool.false_eq_true, if_false] at q ⊢
    exact b2 σ s' h' ve d m _ (A.grow G1.gr) q fun v2 s2 h2 B2 G2 => w v2 s2 h2 B2 (G2.pre G1.gr)
  | true =>
    simp only [if_true] at q ⊢
    cases q
    exact w v s' h' B G1
def pNot (f : VEnv → Option (D × M)) : VEnv → Option (D × M) := fun ve => (f ve).bind fun x => (tru x.1).bind fun z => some (.bl (!z), .dp)
theorem jp_not (ha : JP T X a f) : JP T X (.UnaryOp .Not a pos) (pNot f) := by
  obtain ⟨t, a1, a2⟩ := ha
  refine ⟨_, pe_notT a1, fun σ s h ve d m Q A q w => ?_⟩
  obtain ⟨⟨d1, m1⟩, e1, q⟩ := Option.bind_eq_some_iff.mp q
  obtain ⟨z, e2, q⟩ := Option.bind_eq_some_iff.mp q
  cases q
  refine a2 σ s h ve d1 m1 _ A e1 fun v s' h' B G1 => ?_
  exact ⟨z, tru_go G1.seen.1.sub G1.seen.2 e2, w _ _ _ _ ((got_bl G1.seen.1.sub).pre G1.seen.1)⟩
def pIf (t : VEnv → Option Bool) (f k : VEnv → Option (D × M)) : VEnv → Option (D × M) := fun ve => (t ve).bind fun x => if x = true then f ve else k ve
theorem jp_if (hc : JT T X c ft) (ha : JP T X a f) (hb : JP T X b k) : JP T X (.IfExp c a b pos) (pIf ft f k) := by
  obtain ⟨t, c1, c2⟩ := hc
  obtain ⟨u, a1, a2⟩ := ha
  obtain ⟨u', b1, b2⟩ := hb
  refine ⟨_, pe_ifExp c1 a1 b1, fun σ s h ve d m Q A q w => ?_⟩
  obtain ⟨z, e1, q⟩ := Option.bind_eq_some_iff.mp q
  refine c2 σ s h ve z _ A e1 fun s' h' g => ?_
  cases z with
  | true =>
    simp only [if_true] at q ⊢
    exact a2 σ s' h' ve d m _ (A.grow g) q fun v2 s2 h2 B2 G2 => w v2 s2 h2 B2 (G2.pre g)
  | false =>
    simp only [Bool.false_eq_true, if_false] at q ⊢
    exact b2 σ s' h' ve d m _ (A.grow g) q fun v2 s2 h2 B2 G2 => w v2 s2 h2 B2 (G2.pre g)
/-- a < b < c -/
def pChain (g g' : D → D → Option (D × M)) (f k l : VEnv → Option (D × M)) : VEnv → Option (D × M) := fun ve => (f ve).bind fun x => (k ve).bind fun y => (g x.1 y.1).bind fun z => (asB z).bind fun c => if c = true then (l ve).bind fun u => g' y.1 u.1 else some (.bl false, .dp)
theorem asB_bl {z : D × M} {c : Bool} (h : asB z = some c) : z.1 = .bl c := by
  unfold asB at h
  split at h
  · rename_i e; cases h; exact e
  · cases h
theorem jp_chain {op op' : CmpOp} {g g' : D → D → Option (D × M)} {l : VEnv → Option (D × M)} (o : O2 T X (compareOp op) g) (o' : O2 T X (compareOp op') g') (ha : JP T X a f) (hb : JP T X b k) (hc : JP T X c l) (hmk : lastMarks [op, op'] [b, c] = false := by rfl) : JP T X (.Compare a [op, op'] [b, c] pos) (pChain g g' f k l) := by
  obtain ⟨r, o1, o2⟩ := o
  obtain ⟨r', o1', o2'⟩ := o'
  obtain ⟨t, a1, a2⟩ := ha
  obtain ⟨u, b1, b2⟩ := hb
  obtain ⟨u', c1, c2⟩ := hc
  refine ⟨_, pe_chain o1 o1' a1 b1 c1 hmk, fun σ s h ve d m Q A q w => ?_⟩
  obtain ⟨⟨d1, m1⟩, e1, q⟩ := Option.bind_eq_some_iff.mp q
  obtain ⟨⟨d2, m2⟩, e2, q⟩ := Option.bind_eq_some_iff.mp q
  obtain ⟨z, e3, q⟩ := Option.bind_eq_some_iff.mp q
  obtain ⟨cc, e4, q⟩ := Option.bind_eq_some_iff.mp q
  refine a2 σ s h ve d1 m1 _ A e1 fun x s1 h1 B1 G1 => ?_
  obtain ⟨g1, r1⟩ := G1.seen
  refine b2 σ _ h1 ve d2 m2 _ (A.grow g1) e2 fun y s2 h2 B2 G2 => ?_
  obtain ⟨g2, r2⟩ := G2.seen
  refine o2 _ h2 x y d1 d2 z.1 z.2 _ g2.sub (g2.tab (g1.tab A.tab)) (r1.ext g2.ss d1) r2 e3 fun v s3 h3 B3 G3 => ?_
  obtain ⟨g3, r3⟩ := G3.seen
  rw [asB_bl e4] at r3
  simp only [Sees] at r3
  refine ⟨cc, r3, ?_⟩
  have g123 := (g1.trans g2).trans g3
  cases cc with
  | false =>
    simp only [Bool.false_eq_true, if_false] at q ⊢
    cases q
    exact w _ _ _ _ ((got_bl g3.sub).pre g123)
  | true =>
    simp only [if_true] at q ⊢
    obtain ⟨⟨d4, m4⟩, e5, q⟩ := Option.bind_eq_some_iff.mp q
    refine c2 σ _ h3 ve d4 m4 _ (A.grow g123) e5 fun u s4 h4 B4 G4 => ?_
    obtain ⟨g4, r4⟩ := G4.seen
    exact o2' _ h4 y u d2 d4 d m Q g4.sub (g4.tab (g123.tab A.tab)) ((r2.ext g3.ss d2).ext g4.ss d2) r4 q fun v5 s5 h5 B5 G5 => w v5 s5 h5 B5 (G5.pre (g123.trans g4))
def tChn (f : VEnv → Option (D × M)) : VEnv → Option Bool := tOf f
theorem jt_chain {op op' : CmpOp} {g g' : D → D → Option (D × M)} {l : VEnv → Option (D × M)} (o : O2 T X (compareOp op) g) (o' : O2 T X (compareOp op') g') (ha : JP T X a f) (hb : JP T X b k) (hc : JP T X c l) (hmk : lastMarks [op, op'] [b, c] = false := by rfl) : JT T X (.Compare a [op, op'] [b, c] pos) (tOf (pChain g g' f k l)) := by
  obtain ⟨r, o1, o2⟩ := o
  obtain ⟨r', o1', o2'⟩ := o'
  obtain ⟨t, a1, a2⟩ := ha
  obtain ⟨u, b1, b2⟩ := hb
  obtain ⟨u', c1, c2⟩ := hc
  refine ⟨_, pt_chain o1 o1' a1 b1 c1 hmk, fun σ s h ve fin Q A q w => ?_⟩
  obtain ⟨⟨d, m⟩, q, e9⟩ := Option.bind_eq_some_iff.mp q
  have ed := asB_bl e9
  have ed' : d = .bl fin := ed
  subst ed'
  obtain ⟨⟨d1, m1⟩, e1, q⟩ := Option.bind_eq_some_iff.mp q
  obtain ⟨⟨d2, m2⟩, e2, q⟩ := Option.bind_eq_some_iff.mp q
  obtain ⟨z, e3, q⟩ := Option.bind_eq_some_iff.mp q
  obtain ⟨cc, e4, q⟩ := Option.bind_eq_some_iff.mp q
  refine a2 σ s h ve d1 m1 _ A e1 fun x s1 h1 B1 G1 => ?_
  obtain ⟨g1, r1⟩ := G1.seen
  refine b2 σ _ h1 ve d2 m2 _ (A.grow g1) e2 fun y s2 h2 B2 G2 => ?_
  obtain ⟨g2, r2⟩ := G2.seen
  refine o2 _ h2 x y d1 d2 z.1 z.2 _ g2.sub (g2.tab (g1.tab A.tab)) (r1.ext g2.ss d1) r2 e3 fun v s3 h3 B3 G3 => ?_
  obtain ⟨g3, r3⟩ := G3.seen
  rw [asB_bl e4] at r3
  simp only [Sees] at r3
  refine ⟨cc, r3, ?_⟩
  have g123 := (g1.trans g2).trans g3
  cases cc with
  | false =>
    simp only [Bool.false_eq_true, if_false] at q ⊢
    cases q
    exact ⟨false, rfl, w _ _ g123⟩
  | true =>
    simp only [if_true] at q ⊢
    obtain ⟨⟨d4, m4⟩, e5, q⟩ := Option.bind_eq_some_iff.mp q
    refine c2 σ _ h3 ve d4 m4 _ (A.grow g123) e5 fun u s4 h4 B4 G4 => ?_
    obtain ⟨g4, r4⟩ := G4.seen
    refine o2' _ h4 y u d2 d4 _ m _ g4.sub (g4.tab (g123.tab A.tab)) ((r2.ext g3.ss d2).ext g4.ss d2) r4 q fun v5 s5 h5 B5 G5 => ?_
    obtain ⟨g5, r5⟩ := G5.seen
    simp only [Sees] at r5
    exact ⟨fin, r5, w _ _ ((g123.trans g4).trans g5)⟩
/-! ### displays -/
/-- how a display is held -/
def dm (ds : List (D × M)) : M := if allDp ds then .dp else .o1
def pLst (k : VEnv → Option (List (D × M))) : VEnv → Option (D × M) := fun ve => (k ve).bind fun r => if r.length ≤ lim then some (.lst (r.map (·.1)), dm r) else none
def pTup (k : VEnv → Option (List (D × M))) : VEnv → Option (D × M) := fun ve => (k ve).bind fun r => if r.length ≤ lim then some (.tup (r.map (·.1)), if allDp r then .dp else .sh) else none
theorem jp_lst {k : VEnv → Option (List (D × M))} (ha : JA T X es k) : JP T X (.List es pos) (pLst k) := by
  obtain ⟨t, a1, a2⟩ := ha
  refine ⟨_, pe_lst a1, fun σ s h ve d m Q A q w => ?_⟩
  obtain ⟨r, e1, q⟩ := Option.bind_eq_some_iff.mp q
  split at q
  · rename_i hl
    cases q
    refine a2 σ s h ve r _ A e1 fun vs s1 h1 B g1 r1 f1 => ⟨by rw [r1.len, ← lim_eq]; exact hl, fun p n => ?_⟩
    by_cases hd : allDp r = true
    · have g2 : Gr T s1 h1 s1 (upd h1 p (.lst vs)) := Gr.own g1.sub n
      refine w _ s1 _ (p :: B) ⟨g1.trans g2, ?_, ?_, fun b hb => ?_, fun b hb => ?_⟩
      · unfold dm
        rw [if_pos hd]
        simp only [Rep, Deep]
        refine ⟨p, vs, B, rfl, upd_same, rfl, (r1.deep hd).keep g2.tupK _ fun b hb => ?_⟩
        obtain ⟨o, eb, _⟩ := r1.mem b hb
        rw [upd_ne (ne_of_none eb n)]
      · refine List.nodup_cons.mpr ⟨fun hp => ?_, f1.nd⟩
        obtain ⟨o, eb, _⟩ := r1.mem p hp
        rw [n] at eb; cases eb
      · rcases List.mem_cons.mp hb with rfl | hb
        · exact g1.non n
        · exact f1.nw b hb
      · rcases List.mem_cons.mp hb with rfl | hb
        · exact g1.sub.no _ n
        · exact f1.ns b hb
    · have g2 := g1.shr f1
      have r2 := r1.shr g1.sub (fun _ hb => hb)
      have g3 : Gr T (shr s1 h1 B) h1 (shr s1 h1 B) (upd h1 p (.lst vs)) := Gr.own g2.sub n
      refine w _ _ _ [p] ⟨g2.trans g3, ?_, by simp, fun b hb => ?_, fun b hb => ?_⟩
      · unfold dm
        rw [if_neg hd]
        exact ⟨p, rfl, rfl, vs, upd_same, r2⟩
      · rw [List.mem_singleton.mp hb]; exact g1.non n
      · rw [List.mem_singleton.mp hb]; exact g2.sub.no _ n
  · cases q
theorem jp_tup {k : VEnv → Option (List (D × M))} {x1 : Nat} (ha : JA T X es k) : JP T X (.Tuple es x1 pos) (pTup k) := by
  obtain ⟨t, a1, a2⟩ := ha
  refine ⟨_, pe_tup a1, fun σ s h ve d m Q A q w => ?_⟩
  obtain ⟨r, e1, q⟩ := Option.bind_eq_some_iff.mp q
  split at q
  · rename_i hl
    cases q
    refine a2 σ s h ve r _ A e1 fun vs s1 h1 B g1 r1 f1 => ⟨by rw [r1.len, ← lim_eq]; exact hl, fun p n => ?_⟩
    by_cases hd : allDp r = true
    · have g2 : Gr T s1 h1 s1 (upd h1 p (.tup vs)) := Gr.own g1.sub n
      refine w _ s1 _ B ⟨g1.trans g2, ?_, f1⟩
      rw [if_pos hd]
      simp only [Rep, Deep]
      refine ⟨p, vs, rfl, upd_same, (r1.deep hd).keep g2.tupK _ fun b hb => ?_⟩
      obtain ⟨o, eb, _⟩ := r1.mem b hb
      rw [upd_ne (ne_of_none eb n)]
    · have g2 := g1.shr f1
      have r2 := r1.shr g1.sub (fun _ hb => hb)
      have g3 : Gr T (shr s1 h1 B) h1 (upd (shr s1 h1 B) p (.tup vs)) (upd h1 p (.tup vs)) := Gr.alloc g2.sub n
      refine w _ _ _ [] ⟨g2.trans g3, ?_, Fresh.nil⟩
      rw [if_neg hd]
      refine ⟨rfl, ?_⟩
      simp only [Sees]
      exact ⟨p, vs, rfl, upd_same, r2.ext g3.ss⟩
  · cases q
end
end G
set_option Elab.async false
set_option linter.all false
set_option maxRecDepth 100000
set_option maxHeartbeats 4000000
/-! G5: subscripts, slices, built-in functions over data -/
namespace G
open PySem PySem.Spec PyProof.Rows L2
section
variable {X : Cx} {T : Tx} {a b c e : Expr} {es rest : List Expr} {f k : VEnv → Option (D × M)} {pos : Pos}
/-! ### subscripts -/
def OX (T : Tx) (X : Cx) (g : D → D → Option (D × M)) : Prop := ∃ r, IxR X r ∧ ∀ (s h : Hp) (x y : V) (a b d : D) (m : M) (Q : VK), Sub s h → Tabs T h → Sees X.K T s x a → Sees X.K T s y b → g a b = some (d, m) → (∀ v s' h' B, Got X.K T s h v d m s' h' B → Q v h') → r x y h Q
theorem jp_ix {g : D → D → Option (D × M)} (o : OX T X g) (ha : JP T X a f) (hb : JP T X b k) (hs : PlainIx b := by exact fun _ _ => rfl) : JP T X (.Subscript a b pos) (p2 g f k) := by
  obtain ⟨r, o1, o2⟩ := o
  obtain ⟨ta, a1, a2⟩ := ha
  obtain ⟨tb, b1, b2⟩ := hb
  exact ⟨_, pe_ix o1 a1 b1 hs, two_go (F := fun _ _ => pure Value.none) a2 b2 o2⟩
theorem ix_dict (hu : X.A.units + 1 < cLine) : IxR X (fun x y H Q => ∃ p v, x = .ref p ∧ DGet H p y (some v) ∧ Q v H) := by
  intro value slice pins s σ H x y v u Q I rx ry h hs
  obtain ⟨p, z, rfl, g, q⟩ := h
  obtain rfl : v = Value.ref p := rx
  have hT : s.TypeIs (.ref p) "dict" := dict_typeIs I g
  unfold subscriptTail
  refine wpAny_bind ?_
  rw [getitemInPython_of_ne hT.not_modules]
  refine wpAny_bind (wpAny_specialOf hT PySem.F.slot_dict_getitem.lookup ?_)
  have fin : wpAny (model X.prog X.w) X.A (subscripted slice false (.ref p) u) (fun r s₃ => wpAny (model X.prog X.w) X.A (letTemporaryGo value (.ref p) r >>= fun _ => pure r) (EP X pins σ Q) X.xe s₃) X.xe s := by
    rw [hs]
    exact wpAny_operating (wpAny_mono (d_getItem hu I g ry fun w' s3 I3 rw' => (show EP X pins σ Q w' s3 from ⟨z, H, I3, rw', q⟩)) (fun r s₃ h₃ => wpAny_bind (wpAny_letTemporaryGo (wpAny_pure h₃))) fun _ _ x => x)
  first
    | exact wpAny_pure (wpAny_bind fin)
    | exact wpAny_bind (wpAny_pure (wpAny_bind fin))
    | exact wpAny_bind fin
theorem at_sees {K : PySem.W.Frag} {s : Hp} {vs : List V} {ds : List D} {i : Int} {d : D} (r : SeesL K T s vs ds) (q : atI ds i = some d) : ∃ v, atI vs i = some v ∧ Sees K T s v d := by
  unfold atI at q ⊢
  rw [SeesL.len _ r]
  obtain ⟨j, e1, q⟩ := Option.bind_eq_some_iff.mp q
  obtain ⟨v, e2, e3⟩ := r.get q
  exact ⟨v, by rw [e1]; exact e2, e3⟩
theorem at_map {α β : Type} {xs : List α} {g : α → β} {i : Int} {x : α} (h : atI xs i = some x) : atI (xs.map g) i = some (g x) := by
  unfold atI at h ⊢
  rw [List.length_map]
  obtain ⟨j, e1, q⟩ := Option.bind_eq_some_iff.mp h
  rw [e1]
  show (xs.map g)[j]? = _
  rw [List.getElem?_map, q]
  rfl
def gIx : D → D → Option (D × M)
  | .lst ds, .int i => (atI ds i).bind fun d => some (d, im d)
  | .tup ds, .int i => (atI ds i).bind fun d => some (d, im d)
  | .scr ns, .int i => (atI ns i).bind fun n => some (.int n, .dp)
  | .str x, .int i => if x.length ≤ lim then (atI x.cps.toList i).bind fun c => some (.str ⟨#[c]⟩, .dp) else none
  | .dk ks ds, y => (isKey y).bind fun k => (look ks ds k).bind fun d => some (d, im d)
  | .dt ks ds, y => (isKeyT y).bind fun k => (look ks ds k).bind fun d => some (d, im d)
  | _, _ => none
theorem ox_ix (hu : X.A.units + 1 < cLine) : OX T X gIx := by
  refine ⟨_, ix_seq.or (ix_dict hu), fun s h x y a b d m Q e tb ra rb q w => ?_⟩
  unfold gIx at q
  split at q
  · obtain ⟨d', e1, q⟩ := Option.bind_eq_some_iff.mp q
    cases q
    simp only [Sees] at ra rb
    obtain ⟨p, vs, rfl, e2, e3⟩ := ra
    obtain ⟨v, e4, e5⟩ := at_sees e3 e1
    exact .inl (.inl ⟨p, vs, _, v, rfl, rb, SqL.of (e.at_ _ _ e2 (by intro _ z; cases z)), e4, w _ s h [] (got_at e e5)⟩)
  · obtain ⟨d', e1, q⟩ := Option.bind_eq_some_iff.mp q
    cases q
    simp only [Sees] at ra rb
    obtain ⟨p, vs, rfl, e2, e3⟩ := ra
    obtain ⟨v, e4, e5⟩ := at_sees e3 e1
    exact .inl (.inr (.inl ⟨p, vs, _, v, rfl, rb, (sqT_ext e e2).sq, e4, w _ s h [] (got_at e e5)⟩))
  · obtain ⟨d', e1, q⟩ := Option.bind_eq_some_iff.mp q
    cases q
    simp only [Sees] at ra rb
    obtain ⟨p, rfl, e2⟩ := ra
    exact .inl (.inl ⟨p, _, _, _, rfl, rb, sqL_ext e e2, at_map e1, w _ s h [] (got_int e)⟩)
  · split at q
    · rename_i hl
      obtain ⟨d', e1, q⟩ := Option.bind_eq_some_iff.mp q
      cases q
      simp only [Sees] at ra rb
      exact .inl (.inr (.inr ⟨_, _, d', ra, rb, by rw [← lim_eq]; exact hl, e1, w _ s h [] (got_str e)⟩))
    · cases q
  · obtain ⟨kk, hk, q⟩ := Option.bind_eq_some_iff.mp q
    obtain ⟨d', e1, q⟩ := Option.bind_eq_some_iff.mp q
    cases q
    simp only [Sees] at ra
    obtain ⟨p, vs, rfl, e2, e3, e4⟩ := ra
    obtain ⟨v, e5, e6⟩ := look_some e3 e4 e1
    exact .inr ⟨p, v, rfl, .inl ⟨_, kk, rd_ext e (by intro _ z; cases z) e2, key_sees hk rb, e5.symm⟩, w _ s h [] (got_at e e6)⟩
  · obtain ⟨kk, hk, q⟩ := Option.bind_eq_some_iff.mp q
    obtain ⟨d', e1, q⟩ := Option.bind_eq_some_iff.mp q
    cases q
    simp only [Sees] at ra
    obtain ⟨p, vs, rfl, e2, e3, e4⟩ := ra
    obtain ⟨v, e5, e6⟩ := look_some e3 e4 e1
    obtain ⟨b, rfl, eb⟩ := key_seesT hk rb
    exact .inr ⟨p, v, rfl, .inr ⟨_, kk, b, rd_ext e (by intro _ z; cases z) e2, rfl, e.at_ _ _ eb (by intro _ z; cases z), e5.symm⟩, w _ s h [] (got_at e e6)⟩
  · cases q
/-! ### slices -/
def cutL {α : Type} (xs : List α) (lo hi : Option Int) : List α := (xs.drop (HT.sIx xs.length 0 lo)).take (HT.sIx xs.length xs.length hi - HT.sIx xs.length 0 lo)
theorem cut_sees {K : PySem.W.Frag} {s : Hp} {vs : List V} {ds : List D} {lo hi : Option Int} (r : SeesL K T s vs ds) : SeesL K T s (cutV vs lo hi) (cutL ds lo hi) := by
  unfold cutV cutL
  rw [SeesL.len _ r]
  exact (r.drop _).take _
theorem cut_ints {ns : List Int} {lo hi : Option Int} : cutV (ns.map V.int) lo hi = (cutL ns lo hi).map V.int := by
  unfold cutV cutL
  rw [List.length_map, List.map_take, List.map_drop]
/-- a part of a slice -/
def JO (T : Tx) (X : Cx) (e : Option Expr) (f : VEnv → Option (Option Int)) : Prop := ∃ t, PO X e t ∧ ∀ (σ : St) (s h : Hp) (ve : VEnv) (o : Option Int) (Q : Option Int → Hp → Prop), At X.K T s h σ ve → f ve = some o → (∀ s' h', Gr T s h s' h' → Q o h') → t σ h Q
def oNone : VEnv → Option (Option Int) := fun _ => some none
def oSome (f : VEnv → Option (D × M)) : VEnv → Option (Option Int) := fun ve => (f ve).bind fun x => match x.1 with
  | .int i => some (some i)
  | _ => none
theorem jo_none : JO T X none oNone := ⟨_, po_none, fun σ s h ve o Q A q w => by cases q; exact w s h (Gr.refl A.sub)⟩
theorem jo_some (ha : JP T X e f) : JO T X (some e) (oSome f) := by
  obtain ⟨t, a1, a2⟩ := ha
  refine ⟨_, po_some a1, fun σ s h ve o Q A q w => ?_⟩
  obtain ⟨⟨d, m⟩, e1, q⟩ := Option.bind_eq_some_iff.mp q
  split at q
  · rename_i i e2
    cases q
    have e3 : d = .int i := e2
    subst e3
    refine a2 σ s h ve _ m _ A e1 fun v s' h' B G1 => ?_
    obtain ⟨g1, r1⟩ := G1.seen
    simp only [Sees] at r1
    exact ⟨i, r1, w _ h' g1⟩
  · cases q
def gSl (d : D) (lo hi : Option Int) : Option (D × M) := match d with
  | .lst ds => some (.lst (cutL ds lo hi), lm (cutL ds lo hi))
  | .tup ds => some (.tup (cutL ds lo hi), im (.tup (cutL ds lo hi)))
  | .scr ns => some (.lst ((cutL ns lo hi).map .int), .dp)
  | _ => none
theorem immL_ints : ∀ ns : List Int, immL (ns.map D.int) = true
  | [] => rfl
  | n :: ns => by simp only [List.map_cons, immL, imm, immL_ints ns, Bool.and_self]
theorem lm_ints (ns : List Int) : lm (ns.map D.int) = .dp := by unfold lm; rw [if_pos (immL_ints ns)]
theorem got_ints {K : PySem.W.Frag} {s h : Hp} {p : Addr} {ns : List Int} (e : Sub s h) (n : h p = none) : Got K T s h (.ref p) (.lst (ns.map D.int)) .dp s (upd h p (.lst (ns.map V.int))) [p] := by
  have t1 := got_list (K := K) (T := T) e n (seesL_ints ns)
  rw [lm_ints] at t1
  exact t1
def pSl (f : VEnv → Option (D × M)) (l u : VEnv → Option (Option Int)) : VEnv → Option (D × M) := fun ve => (f ve).bind fun x => (l ve).bind fun lo => (u ve).bind fun hi => gSl x.1 lo hi
theorem cut_all {α : Type} {xs : List α} {lo hi : Option Int} (h : HT.sIx xs.length 0 lo = 0 ∧ HT.sIx xs.length xs.length hi = xs.length) : cutL xs lo hi = xs := by
  unfold cutL
  rw [h.1, h.2]
  simp
theorem jp_slice {lo hi : Option Expr} {l u : VEnv → Option (Option Int)} {p2 : Pos} (ha : JP T X a f) (hl : JO T X lo l) (hu : JO T X hi u) : JP T X (.Subscript a (.Slice lo hi none p2) pos) (pSl f l u) := by
  obtain ⟨t, a1, a2⟩ := ha
  obtain ⟨tl, l1, l2⟩ := hl
  obtain ⟨tu, u1, u2⟩ := hu
  refine ⟨_, pe_slice (sl_list.or sl_tupA) a1 l1 u1, fun σ s h ve d m Q A q w => ?_⟩
  obtain ⟨⟨d1, m1⟩, e1, q⟩ := Option.bind_eq_some_iff.mp q
  obtain ⟨lo, e2, q⟩ := Option.bind_eq_some_iff.mp q
  obtain ⟨hi, e3, q⟩ := Option.bind_eq_some_iff.mp q
  refine a2 σ s h ve d1 m1 _ A e1 fun v s1 h1 B1 G1 => ?_
  obtain ⟨g1, r1⟩ := G1.seen
  refine l2 σ _ h1 ve lo _ (A.grow g1) e2 fun s2 h2 g2 => ?_
  refine u2 σ _ h2 ve hi _ (A.grow (g1.trans g2)) e3 fun s3 h3 g3 => ?_
  have g := (g1.trans g2).trans g3
  have r3 : Sees X.K T s3 v d1 := (r1.ext g2.ss d1).ext g3.ss d1
  unfold gSl at q
  dsimp only at q
  split at q
  · cases q
    simp only [Sees] at r3
    obtain ⟨p, vs, rfl, e4, e5⟩ := r3
    exact .inl ⟨p, vs, rfl, SqL.of (g.sub.at_ _ _ e4 (by intro _ z; cases z)), fun p n => w _ _ _ _ ((got_list g.sub n (cut_sees e5)).pre g)⟩
  · cases q
    simp only [Sees] at r3
    obtain ⟨p, vs, rfl, e4, e5⟩ := r3
    refine .inr ⟨p, vs, rfl, (sqT_ext g.sub e4).sq, fun hw => ?_, fun _ p n => w _ _ _ _ ((got_tup g.sub n (cut_sees e5)).pre g)⟩
    rw [SeesL.len _ e5] at hw
    have e6 := cut_all hw
    rw [e6] at w
    refine w _ _ _ _ ((got_at g.sub ?_).pre g)
    simp only [Sees]
    exact ⟨p, vs, rfl, e4, e5⟩
  · cases q
    simp only [Sees] at r3
    obtain ⟨p, rfl, e4⟩ := r3
    refine .inl ⟨_, _, rfl, sqL_ext g.sub e4, fun p n => ?_⟩
    rw [cut_ints]
    exact w _ _ _ _ ((got_ints g.sub n).pre g)
  · cases q
def gRev : D → Option (D × M)
  | .lst ds => some (.lst ds.reverse, lm ds.reverse)
  | _ => none
theorem jp_rev {k' : Nat} {q1 q2 q3 : Pos} (ha : JP T X a f) : JP T X (.Subscript a (.Slice none none (some (.UnaryOp .USub (.Constant (.int 1) k' q1) q2)) q3) pos) (p1 gRev f) := by
  obtain ⟨t, a1, a2⟩ := ha
  refine ⟨_, pe_revL a1, fun σ s h ve d m Q A q w => ?_⟩
  obtain ⟨⟨d1, m1⟩, e1, q⟩ := Option.bind_eq_some_iff.mp q
  refine a2 σ s h ve d1 m1 _ A e1 fun v s1 h1 B1 G1 => ?_
  obtain ⟨g1, r1⟩ := G1.seen
  unfold gRev at q
  dsimp only at q
  split at q
  · cases q
    simp only [Sees] at r1
    obtain ⟨p, vs, rfl, e4, e5⟩ := r1
    exact ⟨p, vs, rfl, SqL.of (g1.sub.at_ _ _ e4 (by intro _ z; cases z)), fun p n => w _ _ _ _ ((got_list g1.sub n e5.rev).pre g1)⟩
  · cases q
/-! ### built-in functions -/
def gLen : List D → Option (D × M)
  | [.lst ds] => some (.int ds.length, .dp)
  | [.tup ds] => some (.int ds.length, .dp)
  | [.scr ns] => some (.int ns.length, .dp)
  | [.str x] => if x.length ≤ lim then some (.int x.length, .dp) else none
  | [.dk ks _] => some (.int ks.length, .dp)
  | _ => none
theorem sees1 {K : PySem.W.Frag} {s : Hp} {xs : List V} {d : D} (r : SeesL K T s xs [d]) : ∃ v, xs = [v] ∧ Sees K T s v d := by
  simp only [SeesL] at r
  obtain ⟨v, q, rfl, e2, rfl⟩ := r
  exact ⟨v, rfl, e2⟩
theorem sees2 {K : PySem.W.Frag} {s : Hp} {xs : List V} {d d' : D} (r : SeesL K T s xs [d, d']) : ∃ v v', xs = [v, v'] ∧ Sees K T s v d ∧ Sees K T s v' d' := by
  simp only [SeesL] at r
  obtain ⟨v, q, rfl, e2, v', q', rfl, e3, rfl⟩ := r
  exact ⟨v, v', rfl, e2, e3⟩
theorem call_lenR : CallR X (.builtin "len") (fun xs H Q => ∃ a kvs, xs = [V.ref a] ∧ Rd H a (.dK kvs) ∧ Q (.int kvs.length) H) := by
  intro pins s σ H xs us Q I r h
  obtain ⟨a, kvs, rfl, ha, q⟩ := h
  obtain ⟨u, rfl, ru⟩ := vals1 r
  cases ru
  exact d_len I ha fun t s' I' => ⟨.int kvs.length, H, I', ⟨t, rfl⟩, q⟩
theorem oc_len : OC T X (.builtin "len") gLen := by
  refine ⟨_, (call_len_seq.or call_len_str).or call_lenR, fun s h xs ds d m Q e tb ra q w => ?_⟩
  unfold gLen at q
  split at q
  · cases q
    obtain ⟨v, rfl, r⟩ := sees1 ra
    simp only [Sees] at r
    obtain ⟨p, vs, rfl, e2, e3⟩ := r
    exact .inl <| .inl ⟨p, vs, rfl, .inl (SqL.of (e.at_ _ _ e2 (by intro _ z; cases z))), by rw [SeesL.len _ e3]; exact w _ s h [] (got_int e)⟩
  · cases q
    obtain ⟨v, rfl, r⟩ := sees1 ra
    simp only [Sees] at r
    obtain ⟨p, vs, rfl, e2, e3⟩ := r
    exact .inl <| .inl ⟨p, vs, rfl, .inr (sqT_ext e e2).sq, by rw [SeesL.len _ e3]; exact w _ s h [] (got_int e)⟩
  · cases q
    obtain ⟨v, rfl, r⟩ := sees1 ra
    simp only [Sees] at r
    obtain ⟨p, rfl, e2⟩ := r
    exact .inl <| .inl ⟨p, _, rfl, .inl (sqL_ext e e2), by rw [List.length_map]; exact w _ s h [] (got_int e)⟩
  · split at q
    · rename_i hl
      cases q
      obtain ⟨v, rfl, r⟩ := sees1 ra
      simp only [Sees] at r
      subst r
      exact .inl <| .inr ⟨_, rfl, by rw [← lim_eq]; exact hl, w _ s h [] (got_int e)⟩
    · cases q
  · cases q
    obtain ⟨v, rfl, r⟩ := sees1 ra
    simp only [Sees] at r
    obtain ⟨p, vs, rfl, e2, e3, e4⟩ := r
    refine .inr ⟨p, _, rfl, rd_ext e (by intro _ z; cases z) e2, ?_⟩
    rw [List.length_zip, ← e3, Nat.min_self]
    exact w _ s h [] (got_int e)
  · cases q
def gList : List D → Option (D × M)
  | [.lst ds] => some (.lst ds, lm ds)
  | [.tup ds] => some (.lst ds, lm ds)
  | _ => none
theorem oc_list : OC T X (.type "list") gList := by
  refine ⟨_, call_list_of, fun s h xs ds d m Q e tb ra q w => ?_⟩
  unfold gList at q
  split at q
  · cases q
    obtain ⟨v, rfl, r⟩ := sees1 ra
    simp only [Sees] at r
    obtain ⟨p, vs, rfl, e2, e3⟩ := r
    exact ⟨p, vs, rfl, .inl (SqL.of (e.at_ _ _ e2 (by intro _ z; cases z))), fun l n => w _ _ _ _ (got_list e n e3)⟩
  · cases q
    obtain ⟨v, rfl, r⟩ := sees1 ra
    simp only [Sees] at r
    obtain ⟨p, vs, rfl, e2, e3⟩ := r
    exact ⟨p, vs, rfl, .inr (sqT_ext e e2).sq, fun l n => w _ _ _ _ (got_list e n e3)⟩
  · cases q
def gTuple : List D → Option (D × M)
  | [.lst ds] => some (.tup ds, im (.tup ds))
  | [.tup ds] => some (.tup ds, im (.tup ds))
  | _ => none
theorem oc_tuple : OC T X (.type "tuple") gTuple := by
  refine ⟨_, call_tuple_of, fun s h xs ds d m Q e tb ra q w => ?_⟩
  unfold gTuple at q
  split at q
  · cases q
    obtain ⟨v, rfl, r⟩ := sees1 ra
    simp only [Sees] at r
    obtain ⟨p, vs, rfl, e2, e3⟩ := r
    exact ⟨p, vs, rfl, .inl ⟨SqL.of (e.at_ _ _ e2 (by intro _ z; cases z)), fun l n => w _ _ _ _ (got_tup e n e3)⟩⟩
  · cases q
    obtain ⟨v, rfl, r⟩ := sees1 ra
    have r0 := r
    simp only [Sees] at r
    obtain ⟨p, vs, rfl, e2, e3⟩ := r
    exact ⟨p, vs, rfl, .inr ⟨(sqT_ext e e2).sq, w _ _ _ _ (got_at e r0)⟩⟩
  · cases q
def gInt : List D → Option (D × M)
  | [.int i] => some (.int i, .dp)
  | [.bl b] => some (.int (if b then 1 else 0), .dp)
  | _ => none
theorem oc_int : OC T X (.type "int") gInt := by
  refine ⟨_, call_int1, fun s h xs ds d m Q e tb ra q w => ?_⟩
  unfold gInt at q
  split at q
  · cases q
    obtain ⟨v, rfl, r⟩ := sees1 ra
    simp only [Sees] at r
    subst r
    exact .inl ⟨_, rfl, w _ s h [] (got_int e)⟩
  · cases q
    obtain ⟨v, rfl, r⟩ := sees1 ra
    simp only [Sees] at r
    subst r
    exact .inr ⟨_, rfl, w _ s h [] (got_int e)⟩
  · cases q
def gAbs : List D → Option (D × M)
  | [.int i] => some (.int (if i < 0 then -i else i), .dp)
  | _ => none
theorem oc_abs : OC T X (.builtin "abs") gAbs := by
  refine ⟨_, call_abs, fun s h xs ds d m Q e tb ra q w => ?_⟩
  unfold gAbs at q
  split at q
  · cases q
    obtain ⟨v, rfl, r⟩ := sees1 ra
    simp only [Sees] at r
    subst r
    exact ⟨_, rfl, w _ s h [] (got_int e)⟩
  · cases q
/-- the ints of a list of ints -/
def toInts : List D → Option (List Int)
  | [] => some []
  | .int i :: ds => (toInts ds).bind fun r => some (i :: r)
  | _ :: _ => none
theorem toInts_map : ∀ ns : List Int, toInts (ns.map D.int) = some ns
  | [] => rfl
  | n :: ns => by simp only [List.map_cons, toInts, toInts_map ns, Option.bind_some]
theorem toInts_eq : ∀ {ds : List D} {ns : List Int}, toInts ds = some ns → ds = ns.map D.int
  | [], _, h => by cases h; rfl
  | d :: ds, ns, h => by
    cases d with
    | int i =>
      simp only [toInts] at h
      obtain ⟨r, e1, h⟩ := Option.bind_eq_some_iff.mp h
      cases h
      rw [toInts_eq e1]
      rfl
    | _ => simp [toInts] at h
def maxL : List Int → Int
  | [] => 0
  | [x] => x
  | x :: r => if maxL r > x then maxL r else x
def minL : List Int → Int
  | [] => 0
  | [x] => x
  | x :: r => if minL r < x then minL r else x
theorem maxL_spec : ∀ (ns : List Int), ns ≠ [] → maxL ns ∈ ns ∧ ∀ y ∈ ns, y ≤ maxL ns
  | [], h => absurd rfl h
  | [x], _ => ⟨by simp [maxL], by intro y hy; simp at hy; simp [maxL, hy]⟩
  | x :: y :: r, _ => by
    obtain ⟨h1, h2⟩ := maxL_spec (y :: r) (by simp)
    have e : maxL (x :: y :: r) = if maxL (y :: r) > x then maxL (y :: r) else x := rfl
    rw [e]
    split
    · refine ⟨List.mem_cons_of_mem _ h1, fun z hz => ?_⟩
      rcases List.mem_cons.mp hz with rfl | hz
      · omega
      · exact h2 z hz
    · refine ⟨List.mem_cons_self, fun z hz => ?_⟩
      rcases List.mem_cons.mp hz with rfl | hz
      · omega
      · have := h2 z hz; omega
theorem minL_spec : ∀ (ns : List Int), ns ≠ [] → minL ns ∈ ns ∧ ∀ y ∈ ns, minL ns ≤ y
  | [], h => absurd rfl h
  | [x], _ => ⟨by simp [minL], by intro y hy; simp at hy; simp [minL, hy]⟩
  | x :: y :: r, _ => by
    obtain ⟨h1, h2⟩ := minL_spec (y :: r) (by simp)
    have e : minL (x :: y :: r) = if minL (y :: r) < x then minL (y :: r) else x := rfl
    rw [e]
    split
    · refine ⟨List.mem_cons_of_mem _ h1, fun z hz => ?_⟩
      rcases List.mem_cons.mp hz with rfl | hz
      · omega
      · exact h2 z hz
    · refine ⟨List.mem_cons_self, fun z hz => ?_⟩
      rcases List.mem_cons.mp hz with rfl | hz
      · omega
      · have := h2 z hz; omega
def gMax : List D → Option (D × M)
  | [.int i, .int j] => some (.int (if j > i then j else i), .dp)
  | [.lst ds] => (toInts ds).bind fun ns => if ns.isEmpty then none else some (.int (maxL ns), .dp)
  | _ => none
def gMin : List D → Option (D × M)
  | [.int i, .int j] => some (.int (if j < i then j else i), .dp)
  | [.lst ds] => (toInts ds).bind fun ns => if ns.isEmpty then none else some (.int (minL ns), .dp)
  | _ => none
theorem oc_max (hc : X.calm = true) : OC T X (.builtin "max") gMax := by
  refine ⟨_, (call_max2 hc).or (cr_max hc), fun s h xs ds d m Q e tb ra q w => ?_⟩
  unfold gMax at q
  split at q
  · cases q
    obtain ⟨v, v', rfl, r, r'⟩ := sees2 ra
    simp only [Sees] at r r'
    subst r r'
    exact .inl ⟨_, _, rfl, w _ s h [] (got_int e)⟩
  · obtain ⟨ns, e1, q⟩ := Option.bind_eq_some_iff.mp q
    split at q
    · cases q
    · rename_i hne
      cases q
      obtain ⟨v, rfl, r⟩ := sees1 ra
      rw [toInts_eq e1] at r
      simp only [Sees] at r
      obtain ⟨p, vs, rfl, e2, e3⟩ := r
      have e4 := seesL_ints_inv ns e3
      subst e4
      have hn : ns ≠ [] := fun z => hne (by rw [z]; rfl)
      obtain ⟨s1, s2⟩ := maxL_spec ns hn
      refine .inr ⟨p, ns, rfl, SqL.of (e.at_ _ _ e2 (by intro _ z; cases z)), List.length_pos_iff.mpr hn, fun mm hm hle => ?_⟩
      have : mm = maxL ns := by have := hle _ s1; have := s2 _ hm; omega
      rw [this]
      exact w _ s h [] (got_int e)
  · cases q
theorem oc_min (hc : X.calm = true) : OC T X (.builtin "min") gMin := by
  refine ⟨_, (call_min2 hc).or (cr_min hc), fun s h xs ds d m Q e tb ra q w => ?_⟩
  unfold gMin at q
  split at q
  · cases q
    obtain ⟨v, v', rfl, r, r'⟩ := sees2 ra
    simp only [Sees] at r r'
    subst r r'
    exact .inl ⟨_, _, rfl, w _ s h [] (got_int e)⟩
  · obtain ⟨ns, e1, q⟩ := Option.bind_eq_some_iff.mp q
    split at q
    · cases q
    · rename_i hne
      cases q
      obtain ⟨v, rfl, r⟩ := sees1 ra
      rw [toInts_eq e1] at r
      simp only [Sees] at r
      obtain ⟨p, vs, rfl, e2, e3⟩ := r
      have e4 := seesL_ints_inv ns e3
      subst e4
      have hn : ns ≠ [] := fun z => hne (by rw [z]; rfl)
      obtain ⟨s1, s2⟩ := minL_spec ns hn
      refine .inr ⟨p, ns, rfl, SqL.of (e.at_ _ _ e2 (by intro _ z; cases z)), List.length_pos_iff.mpr hn, fun mm hm hle => ?_⟩
      have : mm = minL ns := by have := hle _ s1; have := s2 _ hm; omega
      rw [this]
      exact w _ s h [] (got_int e)
  · cases q
def gSum : List D → Option (D × M)
  | [.lst ds] => (toInts ds).bind fun ns => some (.int ns.sum, .dp)
  | _ => none
theorem oc_sum (hc : X.calm = true) : OC T X (.builtin "sum") gSum := by
  refine ⟨_, cr_sum hc, fun s h xs ds d m Q e tb ra q w => ?_⟩
  unfold gSum at q
  split at q
  · obtain ⟨ns, e1, q⟩ := Option.bind_eq_some_iff.mp q
    cases q
    obtain ⟨v, rfl, r⟩ := sees1 ra
    rw [toInts_eq e1] at r
    simp only [Sees] at r
    obtain ⟨p, vs, rfl, e2, e3⟩ := r
    have e4 := seesL_ints_inv ns e3
    subst e4
    exact ⟨p, ns, rfl, SqL.of (e.at_ _ _ e2 (by intro _ z; cases z)), w _ s h [] (got_int e)⟩
  · cases q
/-! ### sorted -/
def ins1 (x : Int) : List Int → List Int
  | [] => [x]
  | y :: r => if x ≤ y then x :: y :: r else y :: ins1 x r
def isort : List Int → List Int
  | [] => []
  | x :: r => ins1 x (isort r)
theorem ins1_perm (x : Int) : ∀ l, (ins1 x l).Perm (x :: l)
  | [] => .refl _
  | y :: r => by
    unfold ins1
    split
    · exact .refl _
    · exact ((ins1_perm x r).cons y).trans (.swap x y r)
theorem isort_perm : ∀ l, (isort l).Perm l
  | [] => .refl _
  | x :: r => (ins1_perm x _).trans ((isort_perm r).cons x)
theorem ins1_sorted (x : Int) : ∀ l, l.Pairwise (· ≤ ·) → (ins1 x l).Pairwise (· ≤ ·)
  | [], _ => by simp [ins1]
  | y :: r, h => by
    unfold ins1
    rw [List.pairwise_cons] at h
    split
    · rename_i hxy
      refine List.pairwise_cons.mpr ⟨fun z hz => ?_, List.pairwise_cons.mpr h⟩
      rcases List.mem_cons.mp hz with rfl | hz
      · exact hxy
      · have := h.1 z hz; omega
    · rename_i hxy
      refine List.pairwise_cons.mpr ⟨fun z hz => ?_, ins1_sorted x r h.2⟩
      rcases List.mem_cons.mp ((ins1_perm x r).mem_iff.mp hz) with rfl | hz
      · omega
      · exact h.1 z hz
theorem isort_sorted : ∀ l, (isort l).Pairwise (· ≤ ·)
  | [] => .nil
  | x :: r => ins1_sorted x _ (isort_sorted r)
theorem sorted_uniq {l m : List Int} (h1 : l.Pairwise (· ≤ ·)) (h2 : m.Pairwise (· ≤ ·)) (p : l.Perm m) : l = m := p.eq_of_pairwise (fun a b _ _ h1 h2 => by omega) h1 h2
end
end G
set_option Elab.async false
set_option linter.all false
set_option maxRecDepth 100000
set_option maxHeartbeats 4000000
/-! G6: targets, what is walked, comprehensions, calls of defs -/
namespace G
open PySem PySem.Spec PyProof.Rows L2
/-! ### the canonical readings -/
def tP (K : PySem.W.Frag) (T : Tx) (f : VEnv → Option (D × M)) : TE := fun σ h Q => ∃ s ve d m, At K T s h σ ve ∧ f ve = some (d, m) ∧ ∀ v s' h' B, Got K T s h v d m s' h' B → Q v h'
def tT (K : PySem.W.Frag) (T : Tx) (f : VEnv → Option Bool) : TT := fun σ h Q => ∃ s ve b, At K T s h σ ve ∧ f ve = some b ∧ ∀ s' h', Gr T s h s' h' → Q b h'
section
variable {X : Cx} {T : Tx} {a b c e tg : Expr} {es rest ifs : List Expr} {f k : VEnv → Option (D × M)} {ft : VEnv → Option Bool} {pos : Pos}
theorem JP.pe (h : JP T X e f) : PE X e (tP X.K T f) := by
  obtain ⟨t, a1, a2⟩ := h
  exact ⟨fun pins s σ H Q I ⟨s1, ve, d, m, A, q, w⟩ => a1.run pins s σ H Q I (a2 σ s1 H ve d m Q A q w)⟩
theorem JT.pt (h : JT T X e ft) : PT X e (tT X.K T ft) := by
  obtain ⟨t, a1, a2⟩ := h
  exact ⟨fun pins s σ H Q I ⟨s1, ve, b, A, q, w⟩ => a1.run pins s σ H Q I (a2 σ s1 H ve b Q A q w)⟩
/-! ### targets -/
/-- what a target does to the names: is, the slots that it sets -/
def tG (K : PySem.W.Frag) (T : Tx) (is : List Nat) (g : D → VEnv → Option VEnv) : TG := fun v σ h Q => ∃ s d ve ve', At K T s h σ ve ∧ Sees K T s v d ∧ g d ve = some ve' ∧
  ∀ σ', At K T s h σ' ve' → (∀ j : Nat, j ∉ is → σ'[j]? = σ[j]?) → σ'.length = σ.length → Q σ' h
def JG (T : Tx) (X : Cx) (tg : Expr) (is : List Nat) (g : D → VEnv → Option VEnv) : Prop := PG X tg (tG X.K T is g)
def gSet (i : Nat) : D → VEnv → Option VEnv := fun d ve => some (ve.set i (some d))
theorem At.set {K : PySem.W.Frag} {s h : Hp} {σ : St} {ve : VEnv} {i : Nat} {v : V} {d : D} (A : At K T s h σ ve) (r : Sees K T s v d) : At K T s h (σ.set i (some v)) (ve.set i (some d)) := by
  refine ⟨A.sub, A.tab, fun j x q => ?_, by simp [A.len]⟩
  by_cases hj : j = i
  · subst hj
    have hl : j < ve.length := by
      have := (List.getElem?_eq_some_iff.mp q).1
      simpa using this
    rw [List.getElem?_set_self hl] at q
    cases q
    exact ⟨v, List.getElem?_set_self (by rw [← A.len]; exact hl), r⟩
  · rw [List.getElem?_set_ne (Ne.symm hj)] at q
    obtain ⟨u, e1, e2⟩ := A.ok j x q
    exact ⟨u, by rw [List.getElem?_set_ne (Ne.symm hj)]; exact e1, e2⟩
theorem jg_name {i : Nat} {x : Str} (hN : X.N.Nodup) (hi : X.N[i]? = some x) (hx : Loc X.env.scope x) (hf : X.fn x = true ∨ X.env.scope.names.lookup x = some .local := by first | exact .inl rfl | exact .inr rfl) : JG T X (.Name x pos) [i] (gSet i) := by
  refine ⟨fun pins s0 σ H v u Q I r ⟨s, d, ve, ve', A, hs, q, w⟩ => ?_⟩
  cases q
  refine (pg_name hN hi hx hf).run pins s0 σ H v u Q I r ?_
  refine w _ (A.set hs) (fun j hj => ?_) (by simp)
  rw [List.getElem?_set_ne (fun z => hj (by simp [z]))]
/-- several -/
def gsN : List D → VEnv → Option VEnv := fun ds ve => match ds with
  | [] => some ve
  | _ => none
def gsC (g : D → VEnv → Option VEnv) (k : List D → VEnv → Option VEnv) : List D → VEnv → Option VEnv := fun ds ve => match ds with
  | d :: r => (g d ve).bind (k r)
  | _ => none
def tGs (K : PySem.W.Frag) (T : Tx) (is : List Nat) (g : List D → VEnv → Option VEnv) : TGs := fun vs σ h Q => ∃ s ds ve ve', At K T s h σ ve ∧ SeesL K T s vs ds ∧ g ds ve = some ve' ∧
  ∀ σ', At K T s h σ' ve' → (∀ j : Nat, j ∉ is → σ'[j]? = σ[j]?) → σ'.length = σ.length → Q σ' h
def JGs (T : Tx) (X : Cx) (ts : List Expr) (is : List Nat) (g : List D → VEnv → Option VEnv) : Prop := PGs X ts (tGs X.K T is g)
theorem jgs_nil : JGs T X [] [] gsN := by
  refine ⟨fun pins s0 σ H vs us Q I r ⟨s, ds, ve, ve', A, hs, q, w⟩ => ?_⟩
  refine pgs_nil.run pins s0 σ H vs us Q I r ?_
  unfold gsN at q
  split at q
  · cases q
    simp only [SeesL] at hs
    exact ⟨hs, w σ A (fun _ _ => rfl) rfl⟩
  · cases q
theorem jgs_cons {is js : List Nat} {g : D → VEnv → Option VEnv} {k : List D → VEnv → Option VEnv} (h1 : JG T X e is g) (h2 : JGs T X es js k)
    (hs : (assignEach (e :: es) X.env).map (·.2) = assign e X.env :: (assignEach es X.env).map (·.2) := by rfl) : JGs T X (e :: es) (is ++ js) (gsC g k) := by
  refine ⟨fun pins s0 σ H vs us Q I r ⟨s, ds, ve, ve', A, hq, q, w⟩ => ?_⟩
  refine (pgs_cons h1 h2 hs).run pins s0 σ H vs us Q I r ?_
  unfold gsC at q
  split at q
  · rename_i d dr
    obtain ⟨ve1, e1, q⟩ := Option.bind_eq_some_iff.mp q
    simp only [SeesL] at hq
    obtain ⟨v, vr, rfl, hv, hr⟩ := hq
    refine ⟨v, vr, rfl, s, d, ve, ve1, A, hv, e1, fun σ1 A1 k1 l1 => ?_⟩
    refine ⟨s, dr, ve1, ve', A1, hr, q, fun σ2 A2 k2 l2 => w σ2 A2 (fun j hj => ?_) (l2.trans l1)⟩
    rw [k2 j (fun z => hj (List.mem_append_right _ z)), k1 j (fun z => hj (List.mem_append_left _ z))]
  · cases q
def gTupD (n : Nat) (k : List D → VEnv → Option VEnv) : D → VEnv → Option VEnv := fun d ve => match d with
  | .tup ds => if ds.length = n then k ds ve else none
  | _ => none
theorem jg_tup {is : List Nat} {k : List D → VEnv → Option VEnv} {kk n : Nat} (hc : X.calm = true) (h : JGs T X es is k) (hn : (assignEach es X.env).length = n := by rfl) (hst : (assignEach es X.env).findIdx? (·.1) = none := by rfl) :
    JG T X (.Tuple es kk pos) is (gTupD n k) := by
  refine ⟨fun pins s0 σ H v u Q I r ⟨s, d, ve, ve', A, hs, q, w⟩ => ?_⟩
  unfold gTupD at q
  split at q
  · rename_i ds
    split at q
    · rename_i hl
      simp only [Sees] at hs
      obtain ⟨p, vs, rfl, e2, e3⟩ := hs
      refine (pg_tup (n := n) hc h hn hst).run pins s0 σ H _ u Q I r ⟨p, vs, rfl, (sqT_ext A.sub e2).sq, by rw [SeesL.len _ e3]; exact hl, s, ds, ve, ve', A, e3, q, w⟩
    · cases q
  · cases q
/-! ### what is walked -/
structure ItOk (K : PySem.W.Frag) (T : Tx) (J : It) (s0 : Hp) (ds : List D) : Prop where
  go : ∀ i h, Sub s0 h → i < ds.length → J.go i h
  stop : ∀ i h, Sub s0 h → ds.length ≤ i → J.stop i h
  yld : ∀ i s h x h', Sub s0 s → Sub s h → Tabs T h → i < ds.length → J.yld i h x h' → ∃ d s', ds[i]? = some d ∧ Gr T s h s' h' ∧ Sees K T s' x d
def JI (T : Tx) (X : Cx) (tg e : Expr) (f : VEnv → Option (List D)) : Prop := ∃ wi, PI X tg e wi ∧ ∀ (σ : St) (s h : Hp) (ve : VEnv) (ds : List D) (R : It → Hp → Prop), At X.K T s h σ ve → f ve = some ds → (∀ J s' h', Gr T s h s' h' → ItOk X.K T J s' ds → R J h') → wi σ h R
theorem itOk_list {K : PySem.W.Frag} {s : Hp} {p : Addr} {vs : List V} {ds : List D} (e : s p = some (.lst vs)) (r : SeesL K T s vs ds) : ItOk K T (Itl K p) s ds := by
  have up : ∀ h, Sub s h → h p = some (.lst vs) := fun h u => u.at_ _ _ e (by intro _ z; cases z)
  refine ⟨fun i h u hi => ?_, fun i h u hi => ⟨vs, SqL.of (up h u), by rw [SeesL.len _ r]; exact hi⟩, fun i s' h x h' u u' tb hi y => ?_⟩
  · have hv : i < vs.length := by rw [SeesL.len _ r]; exact hi
    exact ⟨vs, vs[i], SqL.of (up h u), List.getElem?_eq_getElem hv⟩
  · obtain ⟨rfl, y⟩ := y
    have hx := y vs (SqL.of (up h' (u.trans u')))
    obtain ⟨d, e1, e2⟩ := r.getV hx
    exact ⟨d, s', e1, Gr.refl u', e2.ext u d⟩
theorem itOk_tup {K : PySem.W.Frag} {s : Hp} {p : Addr} {vs : List V} {ds : List D} (e : s p = some (.tup vs)) (r : SeesL K T s vs ds) : ItOk K T (Itt K p) s ds := by
  have up : ∀ h, Sub s h → h p = some (.tup vs) := fun h u => u.at_ _ _ e (by intro _ z; cases z)
  refine ⟨fun i h u hi => ?_, fun i h u hi => ⟨vs, SqT.of (up h u), by rw [SeesL.len _ r]; exact hi⟩, fun i s' h x h' u u' tb hi y => ?_⟩
  · have hv : i < vs.length := by rw [SeesL.len _ r]; exact hi
    exact ⟨vs, vs[i], SqT.of (up h u), List.getElem?_eq_getElem hv⟩
  · obtain ⟨rfl, y⟩ := y
    have hx := y vs (SqT.of (up h' (u.trans u')))
    obtain ⟨d, e1, e2⟩ := r.getV hx
    exact ⟨d, s', e1, Gr.refl u', e2.ext u d⟩
def iLst (f : VEnv → Option (D × M)) : VEnv → Option (List D) := fun ve => (f ve).bind fun x => match x.1 with
  | .lst ds => some ds
  | _ => none
theorem ji_list (ha : JP T X e f) : JI T X tg e (iLst f) := by
  refine ⟨_, pi_list ha.pe, fun σ s h ve ds R A q w => ?_⟩
  obtain ⟨⟨d, m⟩, e1, q⟩ := Option.bind_eq_some_iff.mp q
  refine ⟨s, ve, d, m, A, e1, fun v s' h' B G1 => ?_⟩
  obtain ⟨g1, r1⟩ := G1.seen
  dsimp only at q
  split at q
  · cases q
    simp only [Sees] at r1
    obtain ⟨p, vs, rfl, e2, e3⟩ := r1
    exact ⟨p, rfl, ⟨vs, SqL.of (g1.sub.at_ _ _ e2 (by intro _ z; cases z))⟩, w _ _ h' g1 (itOk_list e2 e3)⟩
  · cases q
def iTupl (f : VEnv → Option (D × M)) : VEnv → Option (List D) := fun ve => (f ve).bind fun x => match x.1 with
  | .tup ds => some ds
  | _ => none
theorem ji_tup (ha : JP T X e f) : JI T X tg e (iTupl f) := by
  refine ⟨_, pi_tup ha.pe, fun σ s h ve ds R A q w => ?_⟩
  obtain ⟨⟨d, m⟩, e1, q⟩ := Option.bind_eq_some_iff.mp q
  refine ⟨s, ve, d, m, A, e1, fun v s' h' B G1 => ?_⟩
  obtain ⟨g1, r1⟩ := G1.seen
  dsimp only at q
  split at q
  · cases q
    simp only [Sees] at r1
    obtain ⟨p, vs, rfl, e2, e3⟩ := r1
    exact ⟨p, rfl, ⟨vs, (sqT_ext g1.sub e2).sq⟩, w _ _ h' g1 (itOk_tup e2 e3)⟩
  · cases q
/-- a, a + 1, .. below b -/
def rgD (a b : Int) : List D := (List.range (b - a).toNat).map fun i => D.int (a + (i : Nat))
theorem rgD_length (a b : Int) : (rgD a b).length = (b - a).toNat := by unfold rgD; simp
theorem rgD_get {a b : Int} {i : Nat} (h : i < (b - a).toNat) : (rgD a b)[i]? = some (.int (a + i)) := by
  unfold rgD
  rw [List.getElem?_map, List.getElem?_range h]
  rfl
theorem itOk_range {K : PySem.W.Frag} {s : Hp} {lo hi : Int} : ItOk K T (Itr lo (hi - lo).toNat) s (rgD lo hi) := by
  refine ⟨fun i h u hi => by rw [rgD_length] at hi; exact hi, fun i h u hi => by rw [rgD_length] at hi; exact hi, fun i s' h x h' u u' tb hi y => ?_⟩
  rw [rgD_length] at hi
  obtain ⟨rfl, rfl⟩ := y
  exact ⟨_, s', rgD_get hi, Gr.refl u', by simp only [Sees]⟩
theorem itOk_range0 {K : PySem.W.Frag} {s : Hp} {hi : Int} : ItOk K T (Itr 0 hi.toNat) s (rgD 0 hi) := by
  have t1 := itOk_range (K := K) (T := T) (s := s) (lo := 0) (hi := hi)
  simp only [Int.sub_zero] at t1
  exact t1
def bd62 (i : Int) : Bool := decide (i.natAbs < 2 ^ 62)
theorem bd62_b {i : Int} (h : bd62 i = true) : -(2 ^ 62) ≤ i ∧ i < 2 ^ 62 := by
  simp only [bd62, decide_eq_true_eq] at h
  omega
theorem bd62_of {i : Int} (h : -(2 ^ 62) < i ∧ i < 2 ^ 62) : bd62 i = true := by
  simp only [bd62, decide_eq_true_eq]
  omega
theorem and62 {i j : Int} (h : (bd62 i && bd62 j) = true) : (-(2 ^ 62) ≤ i ∧ i < 2 ^ 62) ∧ -(2 ^ 62) ≤ j ∧ j < 2 ^ 62 := by
  rw [Bool.and_eq_true] at h
  exact ⟨bd62_b h.1, bd62_b h.2⟩
def iRg1 (f : VEnv → Option (D × M)) : VEnv → Option (List D) := fun ve => (f ve).bind fun x => match x.1 with
  | .int j => if bd62 j then some (rgD 0 j) else none
  | _ => none
def iRg2 (f k : VEnv → Option (D × M)) : VEnv → Option (List D) := fun ve => (f ve).bind fun x => (k ve).bind fun y => match x.1, y.1 with
  | .int i, .int j => if bd62 i && bd62 j then some (rgD i j) else none
  | _, _ => none
theorem ji_range1 {p : Pos} (hg : Gl X "range") (hm : X.mg "range" = none) (ha : JP T X a f) (hs : starEach [a] X.env = [(false, eval a X.env)] := by rfl) : JI T X tg (.Call (.Name "range" p) [a] [] pos) (iRg1 f) := by
  refine ⟨_, pi_range1 hg hm (pa_cons ha.pe pa_nil hs) hs, fun σ s h ve ds R A q w => ?_⟩
  obtain ⟨⟨d, m⟩, e1, q⟩ := Option.bind_eq_some_iff.mp q
  refine ⟨s, ve, d, m, A, e1, fun v s' h' B G1 => ?_⟩
  obtain ⟨g1, r1⟩ := G1.seen
  dsimp only at q
  split at q
  · split at q
    · rename_i hb
      cases q
      simp only [Sees] at r1
      subst r1
      replace hb := bd62_b hb
      exact ⟨_, rfl, hb.1, hb.2, w _ _ h' g1 itOk_range0⟩
    · cases q
  · cases q
theorem ji_range2 {p : Pos} (hg : Gl X "range") (hm : X.mg "range" = none) (ha : JP T X a f) (hb : JP T X b k) (hs : starEach [a, b] X.env = [(false, eval a X.env), (false, eval b X.env)] := by rfl) (hs2 : starEach [b] X.env = [(false, eval b X.env)] := by rfl) :
    JI T X tg (.Call (.Name "range" p) [a, b] [] pos) (iRg2 f k) := by
  refine ⟨_, pi_range2 hg hm (pa_cons ha.pe (pa_cons hb.pe pa_nil hs2) (by rw [hs, hs2])) hs hs2, fun σ s h ve ds R A q w => ?_⟩
  obtain ⟨⟨d, m⟩, e1, q⟩ := Option.bind_eq_some_iff.mp q
  obtain ⟨⟨d', m'⟩, e2, q⟩ := Option.bind_eq_some_iff.mp q
  refine ⟨s, ve, d, m, A, e1, fun v s' h' B G1 => ?_⟩
  obtain ⟨g1, r1⟩ := G1.seen
  refine ⟨_, ve, d', m', A.grow g1, e2, fun v2 s2 h2 B2 G2 => ?_⟩
  obtain ⟨g2, r2⟩ := G2.seen
  dsimp only at q
  split at q
  · split at q
    · rename_i hb
      cases q
      simp only [Sees] at r1 r2
      subst r1 r2
      replace hb := and62 hb
      exact ⟨_, _, rfl, ⟨hb.1.1, hb.1.2, hb.2.1, hb.2.2⟩, w _ _ h2 (g1.trans g2) itOk_range⟩
    · cases q
  · cases q
/-- (0, x), (1, y), .. -/
def enD (i : Nat) : List D → List D
  | [] => []
  | d :: ds => .tup [.int i, d] :: enD (i + 1) ds
theorem enD_length : ∀ (i : Nat) (ds : List D), (enD i ds).length = ds.length
  | _, [] => rfl
  | i, d :: ds => by simp only [enD, List.length_cons, enD_length (i + 1) ds]
theorem enD_get : ∀ (i j : Nat) (ds : List D), (enD i ds)[j]? = ds[j]?.map fun d => D.tup [.int ((i + j : Nat) : Int), d]
  | _, _, [] => by simp [enD]
  | i, 0, d :: ds => by simp [enD]
  | i, j + 1, d :: ds => by
    simp only [enD, List.getElem?_cons_succ, enD_get (i + 1) j ds]
    rw [show i + 1 + j = i + (j + 1) by omega]
def iEn (f : VEnv → Option (D × M)) : VEnv → Option (List D) := fun ve => (iLst f ve).bind fun ds => some (enD 0 ds)
theorem ji_enum {p tpos : Pos} {elts : List Expr} {kk : Nat} (hg : Gl X "enumerate") (hm : X.mg "enumerate" = none) (ha : JP T X a f) (hs : starEach [a] X.env = [(false, eval a X.env)] := by rfl) : JI T X (.Tuple elts kk tpos) (.Call (.Name "enumerate" p) [a] [] pos) (iEn f) := by
  refine ⟨_, pi_enum hg hm (pa_cons ha.pe pa_nil hs) hs, fun σ s h ve ds R A q w => ?_⟩
  obtain ⟨ds0, q0, e9⟩ := Option.bind_eq_some_iff.mp q
  clear q
  cases e9
  unfold iLst at q0
  obtain ⟨⟨d, m⟩, e1, q⟩ := Option.bind_eq_some_iff.mp q0
  refine ⟨s, ve, d, m, A, e1, fun v s' h' B G1 => ?_⟩
  obtain ⟨g1, r1⟩ := G1.seen
  dsimp only at q
  split at q
  · cases q
    simp only [Sees] at r1
    obtain ⟨p, vs, rfl, e2, e3⟩ := r1
    refine ⟨p, vs, rfl, SqL.of (g1.sub.at_ _ _ e2 (by intro _ z; cases z)), w _ _ h' g1 ?_⟩
    have up : ∀ h, Sub (shr s' h' B) h → h p = some (.lst vs) := fun h u => u.at_ _ _ e2 (by intro _ z; cases z)
    refine ⟨fun i h u hi => ?_, fun i h u hi => ⟨vs, SqL.of (up h u), by rw [SeesL.len _ e3, ← enD_length 0]; exact hi⟩, fun i s2 h x h2 u u' tb hi y => ?_⟩
    · have hv : i < vs.length := by rw [SeesL.len _ e3, ← enD_length 0]; exact hi
      exact ⟨vs, vs[i], SqL.of (up h u), List.getElem?_eq_getElem hv⟩
    · obtain ⟨Tp, x0, rfl, nT, rfl, y⟩ := y
      have hx := y vs (SqL.of (up h (u.trans u')))
      obtain ⟨d, f1, f2⟩ := e3.getV hx
      refine ⟨.tup [.int i, d], upd s2 Tp (.tup [.int i, x0]), ?_, Gr.alloc u' nT, ?_⟩
      · rw [enD_get, f1]; simp
      · simp only [Sees, SeesL]
        exact ⟨Tp, _, rfl, upd_same, _, _, rfl, rfl, _, _, rfl, (f2.ext u d).ext (sub_upd u' nT |>.trans Sub.rfl') d, rfl⟩
  · cases q
/-! ### the rest of growth -/
theorem tabs_put {h : Hp} {p : Addr} {o o' : HO} (t : Tabs T h) (e : h p = some o) (n1 : ∀ ps, o ≠ .tbl ps) (n2 : ∀ φ, o ≠ .ext φ) : Tabs T (upd h p o') := fun q hq => by
  obtain ⟨ps, h1, h2, h3⟩ := t q hq
  have ne : q.1 ≠ p := fun z => by rw [z, e] at h1; exact n1 _ (Option.some.inj h1)
  refine ⟨ps, by rw [upd_ne ne]; exact h1, h2, fun pos cv hc => ?_⟩
  obtain ⟨c, e1, e2⟩ := h3 pos cv hc
  have nc : c ≠ p := fun z => by rw [z, e] at e2; exact n2 _ (Option.some.inj e2)
  exact ⟨c, e1, by rw [upd_ne nc]; exact e2⟩
theorem mu_tbl {o : HO} (m : Mu o) : (∀ ps, o ≠ .tbl ps) ∧ ∀ φ, o ≠ .ext φ := ⟨fun ps z => by subst z; exact m, fun φ z => by subst z; exact m⟩
/-- an own new object is changed -/
theorem Gr.put {s h s' h' : Hp} {p : Addr} {o o' : HO} (g : Gr T s h s' h') (n : h p = none) (e : h' p = some o) (mu : Mu o) (ns : s' p = none) : Gr T s h s' (upd h' p o') := by
  refine ⟨g.ss, ⟨fun b u q z => ?_, fun b q => ?_⟩, fun a ps q => ?_, ⟨fun b u q z => ?_, fun b q => ?_⟩, g.new, fun t => tabs_put (g.tab t) e (mu_tbl mu).1 (mu_tbl mu).2⟩
  · rw [upd_ne (ne_of_none q n)]; exact g.hh.at_ b u q z
  · by_cases hb : b = p
    · subst hb; exact n
    · rw [upd_ne hb] at q; exact g.hh.no b q
  · obtain ⟨m, r⟩ := g.tbl a ps q
    exact ⟨m, by rw [upd_ne (ne_of_none q n)]; exact r⟩
  · rw [upd_ne (ne_of_none q ns)]; exact g.sub.at_ b u q z
  · by_cases hb : b = p
    · subst hb; exact ns
    · rw [upd_ne hb] at q; exact g.sub.no b q
theorem RepL.app {K : PySem.W.Frag} {s h : Hp} : ∀ {ds es : List (D × M)} {vs ws : List V} {B C : List Addr}, RepL K T s h vs ds B → RepL K T s h ws es C → RepL K T s h (vs ++ ws) (ds ++ es) (B ++ C)
  | [], _, _, _, _, _, r, q => by
    obtain ⟨rfl, rfl⟩ := r
    exact q
  | d :: ds, _, _, _, _, _, r, q => by
    obtain ⟨v, t, B1, B2, rfl, rfl, e2, e3⟩ := r
    exact ⟨v, _, B1, _, rfl, List.append_assoc .., e2, RepL.app e3 q⟩
/-! ### comprehensions -/
def wipeV (ve : VEnv) : List Nat → VEnv
  | [] => ve
  | v :: vs => (wipeV ve vs).set v none
theorem wipeV_len (ve : VEnv) : ∀ vs, (wipeV ve vs).length = ve.length
  | [] => rfl
  | v :: vs => by unfold wipeV; rw [List.length_set, wipeV_len ve vs]
theorem wipe_get {σ : St} : ∀ (vs : List Nat) (j : Nat), (wipe σ vs)[j]? = if j ∈ vs ∧ j < σ.length then some none else σ[j]?
  | [], j => by simp [wipe]
  | v :: vs, j => by
    unfold wipe
    by_cases hj : v = j
    · subst hj
      by_cases hl : v < σ.length
      · rw [List.getElem?_set_self (by rw [wipe_length]; exact hl), if_pos ⟨List.mem_cons_self, hl⟩]
      · rw [List.getElem?_eq_none (by rw [List.length_set, wipe_length]; omega), if_neg (fun z => hl z.2), List.getElem?_eq_none (by omega)]
    · rw [List.getElem?_set_ne hj, wipe_get vs j]
      have : (j ∈ v :: vs ∧ j < σ.length) ↔ (j ∈ vs ∧ j < σ.length) := by
        simp only [List.mem_cons]
        constructor
        · rintro ⟨z | z, q⟩
          · exact absurd z.symm hj
          · exact ⟨z, q⟩
        · rintro ⟨z, q⟩; exact ⟨.inr z, q⟩
      by_cases hc : j ∈ vs ∧ j < σ.length
      · rw [if_pos hc, if_pos (this.mpr hc)]
      · rw [if_neg hc, if_neg (fun z => hc (this.mp z))]
theorem wipe_same {σ σ' : St} {vs : List Nat} (hl : σ'.length = σ.length) (k : ∀ j : Nat, j ∉ vs → σ'[j]? = σ[j]?) : wipe σ' vs = wipe σ vs := by
  apply List.ext_getElem?
  intro j
  rw [wipe_get, wipe_get, hl]
  by_cases hc : j ∈ vs ∧ j < σ.length
  · rw [if_pos hc, if_pos hc]
  · rw [if_neg hc, if_neg hc]
    by_cases hj : j ∈ vs
    · have h1 : σ.length ≤ j := Nat.le_of_not_lt fun z => hc ⟨hj, z⟩
      rw [List.getElem?_eq_none h1, List.getElem?_eq_none (by omega)]
    · exact k j hj
theorem wipeV_get {ve : VEnv} {d : D} : ∀ {vs : List Nat} {j : Nat}, (wipeV ve vs)[j]? = some (some d) → ve[j]? = some (some d) ∧ j ∉ vs
  | [], _, h => ⟨h, by simp⟩
  | v :: vs, j, h => by
    unfold wipeV at h
    by_cases hj : v = j
    · subst hj
      by_cases hl : v < (wipeV ve vs).length
      · rw [List.getElem?_set_self hl] at h; cases h
      · rw [List.getElem?_eq_none (by simpa using hl)] at h; cases h
    · rw [List.getElem?_set_ne hj] at h
      obtain ⟨h1, h2⟩ := wipeV_get h
      exact ⟨h1, by simp only [List.mem_cons, not_or]; exact ⟨fun e => hj e.symm, h2⟩⟩
theorem At.wipe {K : PySem.W.Frag} {s h : Hp} {σ : St} {ve : VEnv} (A : At K T s h σ ve) (vs : List Nat) : At K T s h (L2.wipe σ vs) (wipeV ve vs) := by
  refine ⟨A.sub, A.tab, fun j d q => ?_, by rw [wipeV_len, wipe_length, A.len]⟩
  obtain ⟨q1, q2⟩ := wipeV_get q
  obtain ⟨v, e1, e2⟩ := A.ok j d q1
  exact ⟨v, by rw [wipe_get, if_neg (fun z => q2 z.1)]; exact e1, e2⟩
/-- a clause's tests -/
def JTs (T : Tx) (X : Cx) (ifs : List Expr) (f : VEnv → Option Bool) : Prop := PTs X ifs (tT X.K T f)
def bYes : VEnv → Option Bool := fun _ => some true
theorem jts_nil : JTs T X [] bYes := ⟨fun pins s0 σ H Q I ⟨s, ve, b, A, q, w⟩ => by
  cases q
  exact pts_nil.run pins s0 σ H Q I (w s H (Gr.refl A.sub))⟩
theorem jts_one (h : JT T X c ft) : JTs T X [c] ft := pts_one h.pt
/-- the items that a comprehension makes -/
def compL (g : D → VEnv → Option VEnv) (t : VEnv → Option Bool) (e : VEnv → Option (D × M)) (ve : VEnv) : List D → Option (List (D × M))
  | [] => some []
  | d :: ds => (g d ve).bind fun ve' => (t ve').bind fun b => if b = true then (e ve').bind fun x => (compL g t e ve ds).bind fun r => some (x :: r) else compL g t e ve ds
def pComp (vs : List Nat) (i : VEnv → Option (List D)) (g : D → VEnv → Option VEnv) (t : VEnv → Option Bool) (e : VEnv → Option (D × M)) : VEnv → Option (D × M) := fun ve =>
  (i ve).bind fun ds => if ds.length ≤ lim then (compL g t e (wipeV ve vs) ds).bind fun r => some (.lst (r.map (·.1)), dm r) else none
/-- a reading of what only reads -/
def RdP (K : PySem.W.Frag) (T : Tx) (t : TE) (f : VEnv → Option (D × M)) : Prop := ∀ (σ : St) (s h : Hp) (ve : VEnv) (d : D) (m : M) (Q : VK), At K T s h σ ve → f ve = some (d, m) → (∀ v s' h' B, Got K T s h v d m s' h' B → Q v h') → t σ h Q
theorem comp_at {i : VEnv → Option (List D)} {g : D → VEnv → Option VEnv} {wi : TI} {K : PySem.W.Frag} {vs : List Nat} {σ : St} {s h : Hp} {ve : VEnv} (i2 : ∀ (ds : List D) (R : It → Hp → Prop), i ve = some ds → (∀ J s' h', Gr T s h s' h' → ItOk K T J s' ds → R J h') → wi σ h R) {d : D} {m : M} {Q : VK} (A : At K T s h σ ve) (q : pComp vs i g ft f ve = some (d, m)) (w : ∀ v s' h' B, Got K T s h v d m s' h' B → Q v h') :
    tLc wi (tG K T vs g) (tT K T ft) (tP K T f) vs σ h Q := by
  obtain ⟨ds, e1, q⟩ := Option.bind_eq_some_iff.mp q
  split at q
  · rename_i hlim
    obtain ⟨fin, e2, q⟩ := Option.bind_eq_some_iff.mp q
    cases q
    refine i2 ds _ e1 fun J s1 h1 g1 IO => ?_
    intro Dd nD
    refine ⟨fun i m H => m = ds.length - i ∧ i ≤ ds.length ∧ ∃ s' acc done B rest, Gr T s1 h1 s' H ∧ H Dd = some (.lst acc) ∧ s' Dd = none ∧ RepL K T s' H acc done B ∧ Fresh h1 s' B ∧ Dd ∉ B ∧ acc.length ≤ i ∧ compL g ft f (wipeV ve vs) (ds.drop i) = some rest ∧ fin = done ++ rest,
      ⟨ds.length, by simp, Nat.zero_le _, s1, [], [], [], fin, Gr.own g1.sub nD, upd_same, g1.sub.no _ nD, ⟨rfl, rfl⟩, Fresh.nil, by simp, by simp, e2, rfl⟩, ?_⟩
    rintro i m H ⟨rfl, hi, s', acc, done, B, rest, g2, eD, sD, rl, fr, nB, hl, ec, ef⟩
    by_cases hlt : i < ds.length
    · refine .inr ⟨IO.go i H (g2.ss.trans g2.sub) hlt, fun H => i + 1 ≤ ds.length ∧ ∃ s' acc done B rest, Gr T s1 h1 s' H ∧ H Dd = some (.lst acc) ∧ s' Dd = none ∧ RepL K T s' H acc done B ∧ Fresh h1 s' B ∧ Dd ∉ B ∧ acc.length ≤ i + 1 ∧ compL g ft f (wipeV ve vs) (ds.drop (i + 1)) = some rest ∧ fin = done ++ rest,
        fun H' hN' => ⟨ds.length - (i + 1), by omega, rfl, hN'.1, hN'.2⟩, fun x H' hy => ?_⟩
      have A2 : At K T s' H σ ve := A.grow (g1.trans g2)
      obtain ⟨d, s3, ed, g3, rx⟩ := IO.yld i s' H x H' g2.ss g2.sub A2.tab hlt hy
      have hdr : ds.drop i = d :: ds.drop (i + 1) := by
        obtain ⟨h0, h1'⟩ := List.getElem?_eq_some_iff.mp ed
        rw [← h1']
        exact (List.getElem_cons_drop h0).symm
      rw [hdr] at ec
      simp only [compL] at ec
      obtain ⟨ve', eg, ec⟩ := Option.bind_eq_some_iff.mp ec
      obtain ⟨b, et, ec⟩ := Option.bind_eq_some_iff.mp ec
      refine ⟨s3, d, wipeV ve vs, ve', ((A2.grow g3).wipe vs), rx, eg, fun σ' A3 kσ lσ => ⟨?_, s3, ve', b, A3, et, fun s4 H4 g4 => ?_⟩⟩
      · have z : L2.wipe σ' vs = L2.wipe (L2.wipe σ vs) vs := wipe_same lσ kσ
        rw [z]
        exact wipe_same (by rw [wipe_length]) fun j hj => by rw [wipe_get, if_neg (fun z => hj z.1)]
      · have g34 := g3.trans g4
        have eD4 : H4 Dd = some (.lst acc) := g34.hh.at_ _ _ eD (by intro _ z; cases z)
        have sD4 : s4 Dd = none := grow_none g34 eD trivial sD
        have rl4 := rl.grow g34
        have fr4 : Fresh h1 s4 B := ⟨fr.nd, fr.nw, fun b hb => by
          obtain ⟨o, eb, mu⟩ := rl.mem b hb
          exact grow_none g34 eb mu (fr.ns b hb)⟩
        cases b with
        | false =>
          simp only [Bool.false_eq_true, if_false] at ec ⊢
          exact ⟨by omega, s4, acc, done, B, rest, g2.trans g34, eD4, sD4, rl4, fr4, nB, by omega, ec, ef⟩
        | true =>
          simp only [if_true] at ec ⊢
          obtain ⟨xv, ex, ec⟩ := Option.bind_eq_some_iff.mp ec
          obtain ⟨rs, er, ec⟩ := Option.bind_eq_some_iff.mp ec
          cases ec
          refine ⟨s4, ve', xv.1, xv.2, A3.grow g4, ex, fun y s5 H5 B5 G5 => ?_⟩
          have g345 := g34.trans G5.gr
          have eD5 : H5 Dd = some (.lst acc) := g345.hh.at_ _ _ eD (by intro _ z; cases z)
          have sD5 : s5 Dd = none := grow_none g345 eD trivial sD
          have rl5 := rl.grow g345
          have nB5 : Dd ∉ B5 := fun z => by
            rw [G5.fr.nw _ z] at eD4; cases eD4
          have dis : ∀ b ∈ B, b ∉ B5 := fun b hb hb5 => by
            obtain ⟨o, eb, mu⟩ := rl4.mem b hb
            rw [G5.fr.nw _ hb5] at eb; cases eb
          refine ⟨acc, eD5, by rw [← lim_eq]; omega, by omega, s5, acc ++ [y], done ++ [xv], B ++ B5, rs, (g2.trans g345).put nD eD5 trivial sD5, upd_same, sD5, ?_, ⟨?_, fun b hb => ?_, fun b hb => ?_⟩, fun z => (List.mem_append.mp z).elim nB nB5, by simp; omega, er, by rw [ef]; simp⟩
          · have ru : RepL K T s5 H5 (acc ++ [y]) (done ++ [xv]) (B ++ B5) := rl5.app ⟨y, [], B5, [], rfl, by simp, G5.rep, rfl, rfl⟩
            refine ru.keep Sub.rfl' (fun a xs e => ?_) fun b hb => ?_
            · rw [upd_ne (ne_of e eD5 (by intro z; cases z))]; exact e
            · rw [upd_ne (fun z => by subst z; exact (List.mem_append.mp hb).elim nB nB5)]
          · exact List.nodup_append.mpr ⟨fr.nd, G5.fr.nd, fun b hb c hc e => by subst e; exact dis b hb hc⟩
          · rcases List.mem_append.mp hb with hb | hb
            · exact fr.nw b hb
            · exact (g2.trans g34).non (G5.fr.nw b hb)
          · rcases List.mem_append.mp hb with hb | hb
            · obtain ⟨o, eb, mu⟩ := rl.mem b hb
              exact grow_none g345 eb mu (fr.ns b hb)
            · exact G5.fr.ns b hb
    · have hie : i = ds.length := by omega
      subst hie
      refine .inl ⟨IO.stop _ H (g2.ss.trans g2.sub) (Nat.le_refl _), ?_⟩
      simp only [List.drop_length, compL] at ec
      cases ec
      rw [List.append_nil] at ef
      subst ef
      have nD0 : h Dd = none := g1.non nD
      by_cases hd : allDp fin = true
      · refine w _ s' H (Dd :: B) ⟨g1.trans g2, ?_, ?_, fun b hb => ?_, fun b hb => ?_⟩
        · unfold dm
          rw [if_pos hd]
          simp only [Rep, Deep]
          exact ⟨Dd, acc, B, rfl, eD, rfl, rl.deep hd⟩
        · exact List.nodup_cons.mpr ⟨nB, fr.nd⟩
        · rcases List.mem_cons.mp hb with rfl | hb
          · exact nD0
          · exact g1.non (fr.nw b hb)
        · rcases List.mem_cons.mp hb with rfl | hb
          · exact sD
          · exact fr.ns b hb
      · have sD' : shr s' H B Dd = none := by
          unfold shr
          rw [if_neg nB, eD]
          exact sD
        refine w _ (shr s' H B) H [Dd] ⟨g1.trans (g2.shr fr), ?_, by simp, fun b hb => ?_, fun b hb => ?_⟩
        · unfold dm
          rw [if_neg hd]
          exact ⟨Dd, rfl, rfl, acc, eD, rl.shr g2.sub fun _ hb => hb⟩
        · rw [List.mem_singleton.mp hb]; exact nD0
        · rw [List.mem_singleton.mp hb]; exact sD'
  · cases q
theorem comp_rd {i : VEnv → Option (List D)} {g : D → VEnv → Option VEnv} {wi : TI} {K : PySem.W.Frag} {vs : List Nat} (i2 : ∀ (σ : St) (s h : Hp) (ve : VEnv) (ds : List D) (R : It → Hp → Prop), At K T s h σ ve → i ve = some ds → (∀ J s' h', Gr T s h s' h' → ItOk K T J s' ds → R J h') → wi σ h R) :
    RdP K T (tLc wi (tG K T vs g) (tT K T ft) (tP K T f) vs) (pComp vs i g ft f) :=
  fun σ s h ve d m Q A q w => comp_at (fun ds R e => i2 σ s h ve ds R A e) A q w
theorem jp_comp {elt iter : Expr} {scope : Scope} {own : List (Str × Nat)} {i : VEnv → Option (List D)} {g : D → VEnv → Option VEnv} (hc : X.calm = true) (hN : X.N.Nodup) (hi : JI T X tg iter i) (ok : BlkOk X.N X.env.scope scope own)
    (hg : ∀ (s : Shared) (H : Hp) (C : Addr) (cl : List (Str × Addr)) (fp : List Addr), JG T (X.blk s H scope (compEnvC scope cl C X.env) fp) tg (own.map (·.2)) g)
    (ht : ∀ (s : Shared) (H : Hp) (C : Addr) (cl : List (Str × Addr)) (fp : List Addr), JTs T (X.blk s H scope (compEnvC scope cl C X.env) fp) ifs ft)
    (he : ∀ (s : Shared) (H : Hp) (C : Addr) (cl : List (Str × Addr)) (fp : List Addr), JP T (X.blk s H scope (compEnvC scope cl C X.env) fp) elt f) (hs : ∀ x, foldedSetIterable iter X.env x = pure x := by intro _; rfl) :
    JP T X (.ListComp elt [⟨tg, iter, ifs, 0⟩] scope pos) (pComp (own.map (·.2)) i g ft f) := by
  obtain ⟨wi, i1, i2⟩ := hi
  exact ⟨_, pe_lc (g := tG X.K T (own.map fun (x : Str × Nat) => x.2) g) (tt := tT X.K T ft) (te := tP X.K T f) (own := own) hc hN i1 ok hg ht (fun s H C cl fp => (he s H C cl fp).pe) hs, comp_rd i2⟩
end
end G
set_option Elab.async false
set_option linter.all false
set_option maxRecDepth 100000
set_option maxHeartbeats 4000000
/-! G7: defs and their calls; environments that own; expressions and statements that change -/
namespace G
open PySem PySem.Spec PyProof.Rows L2
/-! ### the promise of a def that only reads -/
abbrev Fn := List D → Option (D × M)
def spP (K : PySem.W.Frag) (T : Tx) (n : Nat) (run : Fn) : Sp := fun vs H Q _ => ∃ s ds d m, vs.length = n ∧ Sub s H ∧ Tabs T H ∧ SeesL K T s vs ds ∧ run ds = some (d, m) ∧ ∀ v s' h' B, Got K T s H v d m s' h' B → Q v h'
/-- what is held of a def by its name -/
structure Cal' (P : Program) (w : World) (K : PySem.W.Frag) (mg : Str → Option Value) (base : Heap) (k : Nat) (x : Str) (sp : Sp) : Prop where
  ex : ∃ f fd ps, FnOk P w K mg base CX0 k f fd ps sp ∧ mg x = some (.ref f) ∧ PySem.W.keepIn K (.ref f) = true ∧ Binds K fd ps []
abbrev Fc (P : Program) (w : World) (K : PySem.W.Frag) (mg : Str → Option Value) (base : Heap) (T : Tx) (k : Nat) (x : Str) (n : Nat) (run : Fn) : Prop := Cal' P w K mg base k x (spP K T n run)
section
variable {X : Cx} {T : Tx} {a b c e tg : Expr} {es rest : List Expr} {f k : VEnv → Option (D × M)} {ft : VEnv → Option Bool} {pos p : Pos} {x : Str} {j n l : Nat} {run : Fn}
def pCall (n : Nat) (run : Fn) (k : VEnv → Option (List (D × M))) : VEnv → Option (D × M) := fun ve => (k ve).bind fun r => if r.length = n then run (r.map (·.1)) else none
theorem jp_call {k : VEnv → Option (List (D × M))} (F : Fc X.prog X.w X.K X.mg X.base T l x n run) (hr : Room j X.A) (hl : l ≤ j) (hg : Gl X x) (ha : JA T X (e :: es) k) (hdb : (x == ("__debug__" : Str)) = false := by decide)
    (he : starEach (e :: es) X.env = (false, eval e X.env) :: starEach es X.env := by rfl) (hpl : (backTo pos (starEach es X.env)).any (·.1) = false := by rfl) : JP T X (.Call (.Name x p) (e :: es) [] pos) (pCall n run k) := by
  obtain ⟨t, a1, a2⟩ := ha
  obtain ⟨ff, fd, ps, F0, hm, kp, bd⟩ := F.ex
  refine ⟨_, pe_call F0 (hr.mono hl) hg hm kp bd .nil pass0 a1 hdb he hpl, fun σ s h ve d m Q A q w => ?_⟩
  obtain ⟨ds, e1, q⟩ := Option.bind_eq_some_iff.mp q
  split at q
  · rename_i hn
    refine a2 σ s h ve ds _ A e1 fun vs s1 h1 B g1 r1 f1 => ?_
    have g2 := g1.shr f1
    rw [List.append_nil]
    exact ⟨_, _, d, m, by rw [r1.len]; exact hn, g2.sub, g2.tab A.tab, r1.shr g1.sub fun _ hb => hb, q, fun v s' h' B' G' => w v s' h' B' (G'.pre g2)⟩
  · cases q
/-! keywords -/
/-- the values of keywords -/
def JK (T : Tx) (X : Cx) (kws : List Keyword) (f : VEnv → Option (List (D × M))) : Prop := ∃ t, PK X kws t ∧ ∀ (σ : St) (s h : Hp) (ve : VEnv) (ds : List (D × M)) (Q : List V → Hp → Prop), At X.K T s h σ ve → f ve = some ds →
  (∀ vs s' h' B, Gr T s h s' h' → RepL X.K T s' h' vs ds B → Fresh h s' B → Q vs h') → t σ h Q
theorem jk_nil : JK T X [] aNil := ⟨_, pk_nil, fun σ s h ve ds Q A q w => by cases q; exact w [] s h [] (Gr.refl A.sub) ⟨rfl, rfl⟩ Fresh.nil⟩
theorem jk_cons {nm : Option Str} {kpos : Pos} {kws : List Keyword} {k : VEnv → Option (List (D × M))} (ha : JP T X e f) (hr : JK T X kws k) : JK T X (⟨nm, e, kpos⟩ :: kws) (aCons f k) := by
  obtain ⟨ta, a1, a2⟩ := ha
  obtain ⟨tb, b1, b2⟩ := hr
  refine ⟨_, pk_cons a1 b1, fun σ s h ve ds Q A q w => ?_⟩
  obtain ⟨⟨da, ma⟩, e1, q⟩ := Option.bind_eq_some_iff.mp q
  obtain ⟨dr, e2, q⟩ := Option.bind_eq_some_iff.mp q
  cases q
  refine a2 σ s h ve da ma _ A e1 fun x s1 h1 B1 G1 => ?_
  refine b2 σ s1 h1 ve dr _ (A.grow G1.gr) e2 fun ys s2 h2 B2 g2 r2 f2 => ?_
  refine w (x :: ys) s2 h2 (B1 ++ B2) (G1.gr.trans g2) ⟨x, ys, B1, B2, rfl, rfl, G1.rep.grow g2, r2⟩ ⟨?_, fun b hb => ?_, fun b hb => ?_⟩
  · refine List.nodup_append.mpr ⟨G1.fr.nd, f2.nd, fun b hb c hc e => ?_⟩
    subst e
    obtain ⟨o, e1, _⟩ := G1.rep.mem b hb
    rw [f2.nw b hc] at e1; cases e1
  · rcases List.mem_append.mp hb with hb | hb
    · exact G1.fr.nw b hb
    · exact G1.gr.non (f2.nw b hb)
  · rcases List.mem_append.mp hb with hb | hb
    · exact (G1.fr.grow g2 G1.rep).ns b hb
    · exact f2.ns b hb
end
/-! ### environments that own -/
abbrev Env' := List (Option (D × M))
def EnvRep (K : PySem.W.Frag) (T : Tx) (s h : Hp) : St → Env' → List Addr → Prop
  | σ, [], A => σ = [] ∧ A = []
  | σ, x :: env, A => ∃ y r A1 A2, σ = y :: r ∧ A = A1 ++ A2 ∧ (match x with
      | none => A1 = []
      | some dm => ∃ v, y = some v ∧ Rep K T s h v dm.1 dm.2 A1) ∧ EnvRep K T s h r env A2
def vw (env : Env') : VEnv := env.map fun x => x.map (·.1)
section
variable {K : PySem.W.Frag} {T : Tx} {s s' s2 h h' h2 : Hp}
theorem EnvRep.len : ∀ {env : Env'} {σ : St} {A : List Addr}, EnvRep K T s h σ env A → env.length = σ.length
  | [], _, _, r => by rw [r.1]; rfl
  | x :: env, _, _, r => by
    obtain ⟨y, r, A1, A2, rfl, _, _, q⟩ := r
    simp only [List.length_cons, EnvRep.len q]
theorem EnvRep.mem : ∀ {env : Env'} {σ : St} {A : List Addr}, EnvRep K T s h σ env A → ∀ b ∈ A, ∃ o, h b = some o ∧ Mu o
  | [], _, _, r => by rw [r.2]; intro b hb; cases hb
  | x :: env, _, _, r => by
    obtain ⟨y, r, A1, A2, rfl, rfl, r1, q⟩ := r
    intro b hb
    rcases List.mem_append.mp hb with hb | hb
    · cases x with
      | none => rw [r1] at hb; cases hb
      | some dm =>
        obtain ⟨v, _, r1⟩ := r1
        exact r1.mem b hb
    · exact q.mem b hb
theorem EnvRep.keep (e : Sub s s') (kt : ∀ a xs, h a = some (.tup xs) → h' a = some (.tup xs)) : ∀ {env : Env'} {σ : St} {A : List Addr}, EnvRep K T s h σ env A → (∀ b ∈ A, h' b = h b) → EnvRep K T s' h' σ env A
  | [], _, _, r, _ => r
  | x :: env, _, _, r, k => by
    obtain ⟨y, r, A1, A2, rfl, rfl, r1, q⟩ := r
    refine ⟨y, r, A1, A2, rfl, rfl, ?_, q.keep e kt fun b hb => k b (List.mem_append_right _ hb)⟩
    cases x with
    | none => exact r1
    | some dm =>
      obtain ⟨v, e1, r1⟩ := r1
      exact ⟨v, e1, r1.keep e kt fun b hb => k b (List.mem_append_left _ hb)⟩
theorem EnvRep.grow {env : Env'} {σ : St} {A : List Addr} (g : Gr T s h s' h') (r : EnvRep K T s h σ env A) : EnvRep K T s' h' σ env A :=
  r.keep g.ss g.tupK fun b hb => by
    obtain ⟨o, e, mu⟩ := r.mem b hb
    rw [g.hh.at_ b o e fun ps z => by subst z; exact mu, e]
theorem EnvRep.get : ∀ {env : Env'} {σ : St} {A : List Addr} {i : Nat} {dm : D × M}, EnvRep K T s h σ env A → env[i]? = some (some dm) → ∃ v B, σ[i]? = some (some v) ∧ Rep K T s h v dm.1 dm.2 B ∧ ∀ b ∈ B, b ∈ A
  | [], _, _, _, _, _, e => by simp at e
  | x :: env, _, _, 0, dm, r, e => by
    obtain ⟨y, r, A1, A2, rfl, rfl, r1, q⟩ := r
    simp at e
    subst e
    obtain ⟨v, e1, r1⟩ := r1
    exact ⟨v, A1, by simp [e1], r1, fun b hb => List.mem_append_left _ hb⟩
  | x :: env, _, _, i + 1, dm, r, e => by
    obtain ⟨y, r, A1, A2, rfl, rfl, r1, q⟩ := r
    obtain ⟨v, B, e1, e2, e3⟩ := q.get (i := i) (by simpa using e)
    exact ⟨v, B, by simpa using e1, e2, fun b hb => List.mem_append_right _ (e3 b hb)⟩
theorem EnvRep.view {env : Env'} {σ : St} {A : List Addr} (u : Sub s h) (r : EnvRep K T s h σ env A) : VOk K T h σ (vw env) := fun i d e => by
  unfold vw at e
  rw [List.getElem?_map] at e
  cases q : env[i]? with
  | none => rw [q] at e; simp at e
  | some x =>
    rw [q] at e
    cases x with
    | none => simp at e
    | some dm =>
      simp at e
      subst e
      obtain ⟨v, B, e1, e2, _⟩ := r.get q
      exact ⟨v, e1, e2.sees u⟩
/-- one slot in the focus: what it holds may become another thing that is held in its place -/
theorem EnvRep.focus : ∀ {env : Env'} {σ : St} {A : List Addr} {i : Nat} {dm : D × M}, EnvRep K T s h σ env A → env[i]? = some (some dm) →
    ∃ v A1 B A2, σ[i]? = some (some v) ∧ A = A1 ++ (B ++ A2) ∧ Rep K T s h v dm.1 dm.2 B ∧
      ∀ s' h', Sub s s' → (∀ a xs, h a = some (.tup xs) → h' a = some (.tup xs)) → (∀ b, b ∈ A1 ∨ b ∈ A2 → h' b = h b) → ∀ dm' C, Rep K T s' h' v dm'.1 dm'.2 C → EnvRep K T s' h' σ (env.set i (some dm')) (A1 ++ (C ++ A2))
  | [], _, _, _, _, _, e => by simp at e
  | x :: env, _, _, 0, dm, r, e => by
    obtain ⟨y, r, A1, A2, rfl, rfl, r1, q⟩ := r
    simp at e
    subst e
    obtain ⟨v, e1, r1⟩ := r1
    refine ⟨v, [], A1, A2, by simp [e1], rfl, r1, fun s' h' u kt k dm' C r' => ?_⟩
    exact ⟨y, r, C, A2, rfl, rfl, ⟨v, e1, r'⟩, q.keep u kt fun b hb => k b (.inr hb)⟩
  | x :: env, _, _, i + 1, dm, r, e => by
    obtain ⟨y, r, A1, A2, rfl, rfl, r1, q⟩ := r
    obtain ⟨v, B1, B, B2, e1, rfl, e2, e3⟩ := q.focus (i := i) (by simpa using e)
    refine ⟨v, A1 ++ B1, B, B2, by simpa using e1, by simp, e2, fun s' h' u kt k dm' C r' => ?_⟩
    refine ⟨y, r, A1, B1 ++ (C ++ B2), rfl, by simp, ?_, e3 s' h' u kt (fun b hb => k b (hb.elim (fun z => .inl (List.mem_append_right _ z)) .inr)) dm' C r'⟩
    cases x with
    | none => exact r1
    | some dm0 =>
      obtain ⟨v0, f1, f2⟩ := r1
      exact ⟨v0, f1, f2.keep u kt fun b hb => k b (.inl (List.mem_append_left _ hb))⟩
/-- a slot is stored -/
theorem EnvRep.store : ∀ {env : Env'} {σ : St} {A : List Addr} {i : Nat} {v : V} {dm : D × M} {B : List Addr}, EnvRep K T s h σ env A → i < env.length → Rep K T s h v dm.1 dm.2 B →
    ∃ A1 C A2, A = A1 ++ (C ++ A2) ∧ EnvRep K T s h (σ.set i (some v)) (env.set i (some dm)) (A1 ++ (B ++ A2))
  | [], _, _, _, _, _, _, _, hi, _ => by simp at hi
  | x :: env, _, _, 0, v, dm, B, r, _, rv => by
    obtain ⟨y, r, A1, A2, rfl, rfl, r1, q⟩ := r
    exact ⟨[], A1, A2, rfl, some v, r, B, A2, rfl, rfl, ⟨v, rfl, rv⟩, q⟩
  | x :: env, _, _, i + 1, v, dm, B, r, hi, rv => by
    obtain ⟨y, r, A1, A2, rfl, rfl, r1, q⟩ := r
    obtain ⟨B1, C, B2, rfl, q2⟩ := q.store (i := i) (by simpa using hi) rv
    exact ⟨A1 ++ B1, C, B2, by simp, y, r.set i (some v), A1, B1 ++ (B ++ B2), rfl, by simp, r1, q2⟩
/-- what changes where we own W -/
structure Step (T : Tx) (W : List Addr) (s h s' h' : Hp) : Prop where
  ss : Sub s s'
  sub : Sub s' h'
  keep : ∀ a o, h a = some o → (∀ ps, o ≠ .tbl ps) → a ∉ W → h' a = some o
  non : ∀ a, h' a = none → h a = none
  tbl : ∀ a ps, h a = some (.tbl ps) → ∃ more, h' a = some (.tbl (ps ++ more))
  tup : ∀ a xs, h a = some (.tup xs) → h' a = some (.tup xs)
  new : ∀ a, s' a ≠ none → s a ≠ none ∨ h a = none ∨ a ∈ W ∨ ∃ xs, h a = some (.tup xs)
  tab : Tabs T h → Tabs T h'
theorem Gr.step (g : Gr T s h s' h') (W : List Addr) : Step T W s h s' h' :=
  ⟨g.ss, g.sub, fun a o e n _ => g.hh.at_ a o e n, fun a e => g.non e, g.tbl, g.tupK, fun a n => (g.new a n).elim .inl fun z => .inr (z.elim .inl fun z => .inr (.inr z)), g.tab⟩
theorem Step.trans {W W' : List Addr} (a : Step T W s h s' h') (b : Step T W' s' h' s2 h2) (hw : ∀ x ∈ W', x ∈ W ∨ h x = none) : Step T W s h s2 h2 := by
  refine ⟨a.ss.trans b.ss, b.sub, fun x o e n nw => ?_, fun x e => a.non x (b.non x e), fun x ps e => ?_, fun x xs e => b.tup x xs (a.tup x xs e), fun x n => ?_, b.tab ∘ a.tab⟩
  · refine b.keep x o (a.keep x o e n nw) n fun z => ?_
    rcases hw x z with q | q
    · exact nw q
    · rw [q] at e; cases e
  · obtain ⟨m, e1⟩ := a.tbl x ps e
    obtain ⟨m2, e2⟩ := b.tbl x _ e1
    exact ⟨m ++ m2, by rw [e2, Array.append_assoc]⟩
  · rcases b.new x n with z | z | z | ⟨xs, z⟩
    · exact a.new x z
    · exact .inr (.inl (a.non x z))
    · rcases hw x z with q | q
      · exact .inr (.inr (.inl q))
      · exact .inr (.inl q)
    · cases q : h x with
      | none => exact .inr (.inl rfl)
      | some o =>
        by_cases hw' : x ∈ W
        · exact .inr (.inr (.inl hw'))
        · by_cases ht : ∃ ps, o = .tbl ps
          · obtain ⟨ps, rfl⟩ := ht
            obtain ⟨m, e⟩ := a.tbl x ps q
            rw [e] at z; cases z
          · have := a.keep x o q (fun ps y => ht ⟨ps, y⟩) hw'
            rw [this] at z; cases z
            exact .inr (.inr (.inr ⟨xs, rfl⟩))
end
/-- where one stands, owning -/
structure Own (K : PySem.W.Frag) (T : Tx) (s h : Hp) (σ : St) (env : Env') (A : List Addr) : Prop where
  sub : Sub s h
  tab : Tabs T h
  er : EnvRep K T s h σ env A
  nd : A.Nodup
  fr : ∀ a ∈ A, s a = none
section
variable {K : PySem.W.Frag} {T : Tx} {s s' s2 h h' h2 : Hp} {σ : St} {env env' : Env'} {A A' : List Addr}
/-- all seen: the owned too -/
theorem Own.at (o : Own K T s h σ env A) : At K T h h σ (vw env) := ⟨Sub.rfl', o.tab, o.er.view o.sub, by unfold vw; rw [List.length_map]; exact o.er.len⟩
/-- only what is shared or holds no list -/
def shv (env : Env') : VEnv := env.map fun x => match x with
  | some (d, m) => if m = .sh ∨ imm d = true then some d else none
  | none => none
theorem Own.ats (o : Own K T s h σ env A) : At K T (shr s h []) h σ (shv env) := by
  refine ⟨shr_sub o.sub, o.tab, fun i d e => ?_, by unfold shv; rw [List.length_map]; exact o.er.len⟩
  unfold shv at e
  rw [List.getElem?_map] at e
  cases q : env[i]? with
  | none => rw [q] at e; simp at e
  | some x =>
    rw [q] at e
    cases x with
    | none => simp at e
    | some dm =>
      obtain ⟨d', m⟩ := dm
      simp only [Option.map_some, Option.some.injEq] at e
      split at e
      · rename_i hc
        cases e
        obtain ⟨v, B, e1, e2, _⟩ := o.er.get q
        refine ⟨v, e1, ?_⟩
        rcases hc with rfl | hc
        · exact e2.2.ext (sub_shr o.sub) d
        · have dd := Sees.deep d hc (e2.sees o.sub)
          exact Deep.shr d dd (fun b hb => by cases hb)
      · cases e
/-- growth that only reads leaves all that we own -/
theorem Own.grow (o : Own K T s h σ env A) (g : Gr T s h s' h') : Own K T s' h' σ env A := ⟨g.sub, g.tab o.tab, o.er.grow g, o.nd, fun a ha => by
  obtain ⟨u, e, mu⟩ := o.er.mem a ha
  exact grow_none g e mu (o.fr a ha)⟩
/-- behind an expression that may change: the state, the value -/
structure GotE (K : PySem.W.Frag) (T : Tx) (s h : Hp) (A : List Addr) (σ : St) (v : V) (d : D) (m : M) (env' : Env') (s' h' : Hp) (A' B : List Addr) : Prop where
  st : Step T A s h s' h'
  tab : Tabs T h'
  er : EnvRep K T s' h' σ env' A'
  rp : Rep K T s' h' v d m B
  nd : (A' ++ B).Nodup
  fr : ∀ a ∈ A' ++ B, s' a = none
  wh : ∀ a ∈ A' ++ B, a ∈ A ∨ h a = none
theorem GotE.own {v : V} {d : D} {m : M} {B : List Addr} (g : GotE K T s h A σ v d m env' s' h' A' B) : Own K T s' h' σ env' A' :=
  ⟨g.st.sub, g.tab, g.er, (List.nodup_append.mp g.nd).1, fun a ha => g.fr a (List.mem_append_left _ ha)⟩
/-- what was read of the views, all of it ours -/
theorem GotE.of_view (o : Own K T s h σ env A) {v : V} {d : D} {B : List Addr} (g : Got K T h h v d .dp s' h' B) : ∃ s2, GotE K T s h A σ v d .dp env s2 h' A B := by
  have sh : Sub s h' := o.sub.trans g.gr.hh
  have gr : Gr T s h s h' := ⟨Sub.rfl', g.gr.hh, g.gr.tbl, sh, fun a n => .inl n, g.gr.tab⟩
  refine ⟨s, gr.step A, g.gr.tab o.tab, o.er.grow gr, g.rep, ?_, fun a ha => ?_, fun a ha => ?_⟩
  · refine List.nodup_append.mpr ⟨o.nd, g.fr.nd, fun b hb c hc e => ?_⟩
    subst e
    obtain ⟨u, e, _⟩ := o.er.mem b hb
    rw [g.fr.nw b hc] at e; cases e
  · rcases List.mem_append.mp ha with ha | ha
    · exact o.fr a ha
    · exact o.sub.no a (g.fr.nw a ha)
  · rcases List.mem_append.mp ha with ha | ha
    · exact .inl ha
    · exact .inr (g.fr.nw a ha)
/-- .. of what is shared -/
theorem GotE.of_shared (o : Own K T s h σ env A) {v : V} {d : D} {m : M} {B : List Addr} (g : Got K T (shr s h []) h v d m s' h' B) : GotE K T s h A σ v d m env s' h' A B := by
  have gr : Gr T s h s' h' := ⟨(sub_shr o.sub).trans g.gr.ss, g.gr.hh, g.gr.tbl, g.gr.sub, fun a n => by
    rcases g.gr.new a n with z | z | z
    · rcases shr_new z with z | z | z
      · exact .inl z
      · cases z
      · exact .inr (.inr z)
    · exact .inr (.inl z)
    · exact .inr (.inr z), g.gr.tab⟩
  have o' := o.grow gr
  refine ⟨gr.step A, o'.tab, o'.er, g.rep, ?_, fun a ha => ?_, fun a ha => ?_⟩
  · refine List.nodup_append.mpr ⟨o.nd, g.fr.nd, fun b hb c hc e => ?_⟩
    subst e
    obtain ⟨u, e, _⟩ := o.er.mem b hb
    rw [g.fr.nw b hc] at e; cases e
  · rcases List.mem_append.mp ha with ha | ha
    · exact o'.fr a ha
    · exact g.fr.ns a ha
  · rcases List.mem_append.mp ha with ha | ha
    · exact .inl ha
    · exact .inr (g.fr.nw a ha)
end
/-- an expression that may change what is owned: the canonical reading -/
def tE (K : PySem.W.Frag) (T : Tx) (f : Env' → Option (D × M × Env')) : TE := fun σ h Q => ∃ s env A d m env', Own K T s h σ env A ∧ f env = some (d, m, env') ∧ ∀ v s' h' A' B, GotE K T s h A σ v d m env' s' h' A' B → Q v h'
def JE (T : Tx) (X : Cx) (e : Expr) (f : Env' → Option (D × M × Env')) : Prop := PE X e (tE X.K T f)
section
variable {X : Cx} {T : Tx} {a b c e tg : Expr} {es rest : List Expr} {f k : VEnv → Option (D × M)} {ft : VEnv → Option Bool} {pos p : Pos}
/-- by another reading -/
theorem je_mk {t : TE} {g : Env' → Option (D × M × Env')} (h : PE X e t) (r : ∀ (σ : St) (h : Hp) (Q : VK), tE X.K T g σ h Q → t σ h Q) : JE T X e g := ⟨fun pins s σ H Q I q => h.run pins s σ H Q I (r σ H Q q)⟩
/-- reading all, keeping what is all new -/
def eV (f : VEnv → Option (D × M)) : Env' → Option (D × M × Env') := fun env => (f (vw env)).bind fun x => if x.2 = .dp then some (x.1, .dp, env) else none
theorem je_v (h : JP T X e f) : JE T X e (eV f) := by
  obtain ⟨t, a1, a2⟩ := h
  refine je_mk a1 fun σ h Q ⟨s, env, A, d, m, env', o, q, w⟩ => ?_
  obtain ⟨⟨d', m'⟩, e1, q⟩ := Option.bind_eq_some_iff.mp q
  dsimp only at q
  split at q
  · rename_i hm
    subst hm
    cases q
    refine a2 σ h h (vw env) _ _ Q o.at e1 fun v s' h' B g => ?_
    obtain ⟨s2, g2⟩ := GotE.of_view o g
    exact w v s2 h' A B g2
  · cases q
/-- reading only what is shared -/
def eS (f : VEnv → Option (D × M)) : Env' → Option (D × M × Env') := fun env => (f (shv env)).bind fun x => some (x.1, x.2, env)
theorem je_s (h : JP T X e f) : JE T X e (eS f) := by
  obtain ⟨t, a1, a2⟩ := h
  refine je_mk a1 fun σ h Q ⟨s, env, A, d, m, env', o, q, w⟩ => ?_
  obtain ⟨⟨d', m'⟩, e1, q⟩ := Option.bind_eq_some_iff.mp q
  cases q
  exact a2 σ _ h (shv env) _ _ Q o.ats e1 fun v s' h' B g => w v s' h' A B (GotE.of_shared o g)
end
end G
set_option Elab.async false
set_option linter.all false
set_option maxRecDepth 100000
set_option maxHeartbeats 4000000
/-! G8: expressions that may change what is owned, put together -/
namespace G
open PySem PySem.Spec PyProof.Rows L2
section
variable {K : PySem.W.Frag} {T : Tx} {s s' s1 s2 h h' h1 h2 : Hp} {σ : St} {env env' env1 env2 : Env'} {A A' A1 A2 W B : List Addr}
theorem Rep.step {v : V} {d : D} {m : M} (st : Step T W s h s' h') (r : Rep K T s h v d m B) (dis : ∀ b ∈ B, b ∉ W) : Rep K T s' h' v d m B :=
  r.keep st.ss st.tup fun b hb => by
    obtain ⟨o, e, mu⟩ := r.mem b hb
    rw [st.keep b o e (mu_tbl mu).1 (dis b hb), e]
theorem RepL.step {ds : List (D × M)} {vs : List V} (st : Step T W s h s' h') (r : RepL K T s h vs ds B) (dis : ∀ b ∈ B, b ∉ W) : RepL K T s' h' vs ds B :=
  r.keep st.ss st.tup fun b hb => by
    obtain ⟨o, e, mu⟩ := r.mem b hb
    rw [st.keep b o e (mu_tbl mu).1 (dis b hb), e]
theorem EnvRep.step (st : Step T W s h s' h') (r : EnvRep K T s h σ env B) (dis : ∀ b ∈ B, b ∉ W) : EnvRep K T s' h' σ env B :=
  r.keep st.ss st.tup fun b hb => by
    obtain ⟨o, e, mu⟩ := r.mem b hb
    rw [st.keep b o e (mu_tbl mu).1 (dis b hb), e]
theorem step_none {b : Addr} {o : HO} (st : Step T W s h s' h') (e : h b = some o) (mu : Mu o) (n : s b = none) (nw : b ∉ W) : s' b = none := by
  cases q : s' b with
  | none => rfl
  | some u =>
    rcases st.new b (by rw [q]; simp) with z | z | z | ⟨xs, z⟩
    · exact absurd n z
    · rw [z] at e; cases e
    · exact absurd z nw
    · rw [z] at e; cases e; exact mu.elim
theorem Step.tupB (st : Step T W s h s' h') {a : Addr} {xs : List V} (e : h' a = some (.tup xs)) : h a = none ∨ a ∈ W ∨ h a = some (.tup xs) := by
  cases q : h a with
  | none => exact .inl rfl
  | some o =>
    by_cases hw : a ∈ W
    · exact .inr (.inl hw)
    · by_cases z : ∃ ps, o = .tbl ps
      · obtain ⟨ps, rfl⟩ := z
        obtain ⟨m, r⟩ := st.tbl a ps q
        rw [r] at e; cases e
      · have := st.keep a o q (fun ps y => z ⟨ps, y⟩) hw
        rw [this] at e; cases e
        exact .inr (.inr rfl)
theorem Step.shr (st : Step T W s h s' h') (hB : ∀ b ∈ B, b ∈ W ∨ h b = none) : Step T W s h (G.shr s' h' B) h' := by
  refine ⟨st.ss.trans (sub_shr st.sub), shr_sub st.sub, st.keep, st.non, st.tbl, st.tup, fun a n => ?_, st.tab⟩
  rcases shr_new n with z | z | ⟨xs, z⟩
  · exact st.new a z
  · rcases hB a z with q | q
    · exact .inr (.inr (.inl q))
    · exact .inr (.inl q)
  · rcases st.tupB z with q | q | q
    · exact .inr (.inl q)
    · exact .inr (.inr (.inl q))
    · exact .inr (.inr (.inr ⟨xs, q⟩))
theorem shr_none {b : Addr} {o : HO} (n : s b = none) (e : h b = some o) (mu : Mu o) (nb : b ∉ B) : shr s h B b = none := by
  unfold shr
  rw [if_neg nb, e]
  cases o with
  | tup xs => exact mu.elim
  | _ => exact n
/-- part of what is owned is shared from now on -/
theorem EnvRep.shr (u : Sub s h) (r : EnvRep K T s h σ env A) : EnvRep K T (G.shr s h B) h σ env A := r.keep (sub_shr u) (fun _ _ e => e) fun _ _ => rfl
/-- behind some work -/
structure Go (K : PySem.W.Frag) (T : Tx) (s h : Hp) (A : List Addr) (σ : St) (env : Env') (s' h' : Hp) (A' : List Addr) : Prop where
  st : Step T A s h s' h'
  own : Own K T s' h' σ env A'
  wh : ∀ a ∈ A', a ∈ A ∨ h a = none
theorem Go.refl (o : Own K T s h σ env A) : Go K T s h A σ env s h A := ⟨(Gr.refl o.sub).step A, o, fun a ha => .inl ha⟩
theorem Go.trans {σ' : St} (a : Go K T s h A σ env s1 h1 A1) (b : Go K T s1 h1 A1 σ' env' s2 h2 A2) : Go K T s h A σ' env' s2 h2 A2 :=
  ⟨a.st.trans b.st a.wh, b.own, fun x hx => (b.wh x hx).elim (a.wh x) fun n => .inr (a.st.non x n)⟩
theorem GotE.go {v : V} {d : D} {m : M} (g : GotE K T s h A σ v d m env' s' h' A' B) : Go K T s h A σ env' s' h' A' := ⟨g.st, g.own, fun a ha => g.wh a (List.mem_append_left _ ha)⟩
theorem GotE.pre {σ' : St} {v : V} {d : D} {m : M} (g : Go K T s h A σ' env1 s1 h1 A1) (x : GotE K T s1 h1 A1 σ v d m env2 s2 h2 A2 B) : GotE K T s h A σ v d m env2 s2 h2 A2 B :=
  ⟨g.st.trans x.st g.wh, x.tab, x.er, x.rp, x.nd, x.fr, fun a ha => (x.wh a ha).elim (g.wh a) fun n => .inr (g.st.non a n)⟩
theorem GotE.of_got {v : V} {d : D} {m : M} (g : Go K T s h A σ env s1 h1 A1) (x : Got K T s1 h1 v d m s2 h2 B) : GotE K T s h A σ v d m env s2 h2 A1 B := by
  have o2 := g.own.grow x.gr
  refine ⟨g.st.trans (x.gr.step A1) g.wh, o2.tab, o2.er, x.rep, ?_, fun a ha => ?_, fun a ha => ?_⟩
  · refine List.nodup_append.mpr ⟨o2.nd, x.fr.nd, fun b hb c hc e => ?_⟩
    subst e
    obtain ⟨u, e, _⟩ := g.own.er.mem b hb
    rw [x.fr.nw b hc] at e; cases e
  · rcases List.mem_append.mp ha with ha | ha
    · exact o2.fr a ha
    · exact x.fr.ns a ha
  · rcases List.mem_append.mp ha with ha | ha
    · exact g.wh a ha
    · exact .inr (g.st.non a (x.fr.nw a ha))
/-- growth is work -/
theorem Go.gr (o : Own K T s h σ env A) (g : Gr T s h s' h') : Go K T s h A σ env s' h' A := ⟨g.step A, o.grow g, fun a ha => .inl ha⟩
/-- growth seen from all -/
theorem Gr.own_of (u : Sub s h) (g : Gr T h h s' h') : Gr T s h s h' := ⟨Sub.rfl', g.hh, g.tbl, u.trans g.hh, fun a n => .inl n, g.tab⟩
/-- a list of values, ours behind an expression list -/
structure GotL (K : PySem.W.Frag) (T : Tx) (s h : Hp) (A : List Addr) (σ : St) (vs : List V) (ds : List (D × M)) (env' : Env') (s' h' : Hp) (A' B : List Addr) : Prop where
  st : Step T A s h s' h'
  tab : Tabs T h'
  er : EnvRep K T s' h' σ env' A'
  rp : RepL K T s' h' vs ds B
  nd : (A' ++ B).Nodup
  fr : ∀ a ∈ A' ++ B, s' a = none
  wh : ∀ a ∈ A' ++ B, a ∈ A ∨ h a = none
theorem GotL.nil (o : Own K T s h σ env A) : GotL K T s h A σ [] [] env s h A [] :=
  ⟨(Gr.refl o.sub).step A, o.tab, o.er, ⟨rfl, rfl⟩, by rw [List.append_nil]; exact o.nd, fun a ha => o.fr a (by simpa using ha), fun a ha => .inl (by simpa using ha)⟩
theorem GotL.own {vs : List V} {ds : List (D × M)} (g : GotL K T s h A σ vs ds env' s' h' A' B) : Own K T s' h' σ env' A' :=
  ⟨g.st.sub, g.tab, g.er, (List.nodup_append.mp g.nd).1, fun a ha => g.fr a (List.mem_append_left _ ha)⟩
theorem GotL.go {vs : List V} {ds : List (D × M)} (g : GotL K T s h A σ vs ds env' s' h' A' B) : Go K T s h A σ env' s' h' A' := ⟨g.st, g.own, fun a ha => g.wh a (List.mem_append_left _ ha)⟩
theorem GotL.cons {v : V} {d : D} {m : M} {vs : List V} {ds : List (D × M)} {B1 B2 : List Addr} (x : GotE K T s h A σ v d m env1 s1 h1 A1 B1) (y : GotL K T s1 h1 A1 σ vs ds env2 s2 h2 A2 B2) : GotL K T s h A σ (v :: vs) ((d, m) :: ds) env2 s2 h2 A2 (B1 ++ B2) := by
  have g := x.go
  obtain ⟨n1, n2, n3⟩ := List.nodup_append.mp x.nd
  obtain ⟨k1, k2, k3⟩ := List.nodup_append.mp y.nd
  have dis : ∀ b ∈ B1, b ∉ A1 := fun b hb ha => n3 b ha b hb rfl
  have old : ∀ b ∈ B1, ∃ o, h1 b = some o ∧ Mu o := x.rp.mem
  have sep : ∀ b ∈ B1, ∀ c ∈ A2 ++ B2, c ≠ b := fun b hb c hc e => by
    subst e
    rcases y.wh c hc with z | z
    · exact dis c hb z
    · obtain ⟨o, eo, _⟩ := old c hb
      rw [z] at eo; cases eo
  refine ⟨g.st.trans y.st g.wh, y.tab, y.er, ⟨v, vs, B1, B2, rfl, rfl, x.rp.step y.st dis, y.rp⟩, ?_, fun a ha => ?_, fun a ha => ?_⟩
  · refine List.nodup_append.mpr ⟨k1, List.nodup_append.mpr ⟨n2, k2, fun b hb c hc e => sep b hb c (List.mem_append_right _ hc) e.symm⟩, fun a ha c hc e => ?_⟩
    rcases List.mem_append.mp hc with hc | hc
    · exact sep c hc a (List.mem_append_left _ ha) e
    · exact k3 a ha c hc e
  · rcases List.mem_append.mp ha with ha | ha
    · exact y.fr a (List.mem_append_left _ ha)
    · rcases List.mem_append.mp ha with ha | ha
      · obtain ⟨o, eo, mu⟩ := old a ha
        exact step_none y.st eo mu (x.fr a (List.mem_append_right _ ha)) (dis a ha)
      · exact y.fr a (List.mem_append_right _ ha)
  · have up : ∀ a, (a ∈ A1 ∨ h1 a = none) → a ∈ A ∨ h a = none := fun a z => z.elim (fun z => g.wh a z) fun z => .inr (g.st.non a z)
    rcases List.mem_append.mp ha with ha | ha
    · exact up a (y.wh a (List.mem_append_left _ ha))
    · rcases List.mem_append.mp ha with ha | ha
      · exact x.wh a (List.mem_append_right _ ha)
      · exact up a (y.wh a (List.mem_append_right _ ha))
/-- .. shared -/
theorem GotL.seen {vs : List V} {ds : List (D × M)} (g : GotL K T s h A σ vs ds env' s' h' A' B) : Go K T s h A σ env' (G.shr s' h' B) h' A' ∧ SeesL K T (G.shr s' h' B) vs (ds.map (·.1)) := by
  obtain ⟨n1, n2, n3⟩ := List.nodup_append.mp g.nd
  refine ⟨⟨g.st.shr fun b hb => g.wh b (List.mem_append_right _ hb), ⟨shr_sub g.st.sub, g.tab, g.er.shr g.st.sub, n1, fun a ha => ?_⟩, fun a ha => g.wh a (List.mem_append_left _ ha)⟩, g.rp.shr g.st.sub fun _ hb => hb⟩
  obtain ⟨o, e, mu⟩ := g.er.mem a ha
  exact shr_none (g.fr a (List.mem_append_left _ ha)) e mu fun hb => n3 a ha a hb rfl
theorem GotE.one {v : V} {d : D} {m : M} (g : GotE K T s h A σ v d m env' s' h' A' B) : GotL K T s h A σ [v] [(d, m)] env' s' h' A' B :=
  ⟨g.st, g.tab, g.er, ⟨v, [], B, [], rfl, (List.append_nil _).symm, g.rp, rfl, rfl⟩, g.nd, g.fr, g.wh⟩
theorem GotE.seen {v : V} {d : D} {m : M} (g : GotE K T s h A σ v d m env' s' h' A' B) : Go K T s h A σ env' (G.shr s' h' B) h' A' ∧ Sees K T (G.shr s' h' B) v d := by
  obtain ⟨g1, r1⟩ := g.one.seen
  simp only [List.map_cons, List.map_nil, SeesL] at r1
  obtain ⟨v', q, e, r, eq⟩ := r1
  cases e
  exact ⟨g1, r⟩
end
/-! ### the rules -/
def tAE (K : PySem.W.Frag) (T : Tx) (f : Env' → Option (List (D × M) × Env')) : TA := fun σ h Q => ∃ s env A ds env', Own K T s h σ env A ∧ f env = some (ds, env') ∧ ∀ vs s' h' A' B, GotL K T s h A σ vs ds env' s' h' A' B → Q vs h'
def JAE (T : Tx) (X : Cx) (es : List Expr) (f : Env' → Option (List (D × M) × Env')) : Prop := PA X es (tAE X.K T f)
def tTE (K : PySem.W.Frag) (T : Tx) (f : Env' → Option (Bool × Env')) : TT := fun σ h Q => ∃ s env A b env', Own K T s h σ env A ∧ f env = some (b, env') ∧ ∀ s' h' A', Go K T s h A σ env' s' h' A' → Q b h'
def JTE (T : Tx) (X : Cx) (e : Expr) (f : Env' → Option (Bool × Env')) : Prop := PT X e (tTE X.K T f)
def JWE (T : Tx) (X : Cx) (e : Expr) (f : Env' → Option (Bool × Env')) : Prop := PW X e (tTE X.K T f)
section
variable {X : Cx} {T : Tx} {a b c e tg : Expr} {es rest : List Expr} {f k : Env' → Option (D × M × Env')} {ft kt : Env' → Option (Bool × Env')} {pos p : Pos}
theorem ja_mk {t : TA} {g : Env' → Option (List (D × M) × Env')} (h : PA X es t) (r : ∀ (σ : St) (h : Hp) (Q : List V → Hp → Prop), tAE X.K T g σ h Q → t σ h Q) : JAE T X es g := ⟨fun pos pins s σ H Q I q => h.run pos pins s σ H Q I (r σ H Q q)⟩
theorem jt_mk {t : TT} {g : Env' → Option (Bool × Env')} (h : PT X e t) (r : ∀ (σ : St) (h : Hp) (Q : Bool → Hp → Prop), tTE X.K T g σ h Q → t σ h Q) : JTE T X e g := ⟨fun pins s σ H Q I q => h.run pins s σ H Q I (r σ H Q q)⟩
theorem jw_mk {t : TT} {g : Env' → Option (Bool × Env')} (h : PW X e t) (r : ∀ (σ : St) (h : Hp) (Q : Bool → Hp → Prop), tTE X.K T g σ h Q → t σ h Q) : JWE T X e g := ⟨fun w pins s σ H Q I q => h.run w pins s σ H Q I (r σ H Q q)⟩
/-! argument lists -/
def eNil : Env' → Option (List (D × M) × Env') := fun env => some ([], env)
def eCons (f : Env' → Option (D × M × Env')) (k : Env' → Option (List (D × M) × Env')) : Env' → Option (List (D × M) × Env') := fun env => (f env).bind fun x => (k x.2.2).bind fun r => some ((x.1, x.2.1) :: r.1, r.2)
theorem jae_nil : JAE T X [] eNil := ja_mk pa_nil fun σ h Q ⟨s, env, A, ds, env', o, q, w⟩ => by cases q; exact w [] s h A [] (GotL.nil o)
theorem jae_cons {k : Env' → Option (List (D × M) × Env')} (ha : JE T X e f) (hr : JAE T X es k) (hs : starEach (e :: es) X.env = (false, eval e X.env) :: starEach es X.env := by rfl) : JAE T X (e :: es) (eCons f k) :=
  ja_mk (pa_cons ha hr hs) fun σ h Q ⟨s, env, A, ds, env', o, q, w⟩ => by
    obtain ⟨⟨d, m, env1⟩, e1, q⟩ := Option.bind_eq_some_iff.mp q
    obtain ⟨⟨dr, env2⟩, e2, q⟩ := Option.bind_eq_some_iff.mp q
    cases q
    refine ⟨s, env, A, d, m, env1, o, e1, fun v s1 h1 A1 B1 g1 => ⟨s1, env1, A1, dr, env2, g1.own, e2, fun vs s2 h2 A2 B2 g2 => ?_⟩⟩
    exact w (v :: vs) s2 h2 A2 (B1 ++ B2) (GotL.cons g1 g2)
/-! operators -/
def e2 (g : D → D → Option (D × M)) (f k : Env' → Option (D × M × Env')) : Env' → Option (D × M × Env') := fun env => (f env).bind fun x => (k x.2.2).bind fun y => (g x.1 y.1).bind fun z => some (z.1, z.2, y.2.2)
theorem e2_go {g : D → D → Option (D × M)} {r : R2} {K : PySem.W.Frag}
    (ho : ∀ (s h : Hp) (x y : V) (a b d : D) (m : M) (Q : VK), Sub s h → Tabs T h → Sees K T s x a → Sees K T s y b → g a b = some (d, m) → (∀ v s' h' B, Got K T s h v d m s' h' B → Q v h') → r x y h Q) (σ : St) (h : Hp) (Q : VK)
    (q : tE K T (e2 g f k) σ h Q) : tOp r (tE K T f) (tE K T k) σ h Q := by
  obtain ⟨s, env, A, d, m, env', o, q, w⟩ := q
  obtain ⟨⟨da, ma, env1⟩, e1, q⟩ := Option.bind_eq_some_iff.mp q
  obtain ⟨⟨db, mb, env2⟩, e2, q⟩ := Option.bind_eq_some_iff.mp q
  obtain ⟨⟨dz, mz⟩, e3, q⟩ := Option.bind_eq_some_iff.mp q
  cases q
  refine ⟨s, env, A, da, ma, env1, o, e1, fun x s1 h1 A1 B1 g1 => ?_⟩
  refine ⟨s1, env1, A1, db, mb, env2, g1.own, e2, fun y s2 h2 A2 B2 g2 => ?_⟩
  obtain ⟨g3, r3⟩ := (GotL.cons g1 g2.one).seen
  simp only [List.map_cons, List.map_nil, SeesL] at r3
  obtain ⟨x', _, e4, r4, y', _, e5, r5, e6⟩ := r3
  cases e4
  cases e5
  exact ho _ h2 x y da db dz mz Q g3.own.sub g3.own.tab r4 r5 e3 fun v s3 h3 B3 G3 => w v s3 h3 A2 B3 (GotE.of_got g3 G3)
theorem je_bin {op : Operator} {g : D → D → Option (D × M)} (o : O2 T X (binaryOp op) g) (ha : JE T X a f) (hb : JE T X b k) : JE T X (.BinOp a op b pos) (e2 g f k) := by
  obtain ⟨r, o1, o2⟩ := o
  exact je_mk (pe_op o1 ha hb) fun σ h Q => e2_go o2 σ h Q
theorem je_cmp {op : CmpOp} {g : D → D → Option (D × M)} (o : O2 T X (compareOp op) g) (ha : JE T X a f) (hb : JE T X b k) (hm : behindInMarks op b = false) : JE T X (.Compare a [op] [b] pos) (e2 g f k) := by
  obtain ⟨r, o1, o2⟩ := o
  exact je_mk (pe_cmpR o1 ha hb hm) fun σ h Q => e2_go o2 σ h Q
theorem je_ix {g : D → D → Option (D × M)} (o : OX T X g) (ha : JE T X a f) (hb : JE T X b k) (hs : PlainIx b := by exact fun _ _ => rfl) : JE T X (.Subscript a b pos) (e2 g f k) := by
  obtain ⟨r, o1, o2⟩ := o
  exact je_mk (pe_ix o1 ha hb hs) fun σ h Q => e2_go o2 σ h Q
def asBE (x : D × M × Env') : Option (Bool × Env') := match x.1 with
  | .bl b => some (b, x.2.2)
  | _ => none
def tOfE (f : Env' → Option (D × M × Env')) : Env' → Option (Bool × Env') := fun env => (f env).bind asBE
theorem jte_cmp {op : CmpOp} {g : D → D → Option (D × M)} (o : O2 T X (compareOp op) g) (ha : JE T X a f) (hb : JE T X b k) (hm : behindInMarks op b = false) : JTE T X (.Compare a [op] [b] pos) (tOfE (e2 g f k)) := by
  obtain ⟨r, o1, o2⟩ := o
  refine jt_mk (pt_cmpR o1 ha hb hm) fun σ h Q ⟨s, env, A, c, env', o, q, w⟩ => ?_
  obtain ⟨⟨d, m, env2⟩, e1, q⟩ := Option.bind_eq_some_iff.mp q
  refine e2_go (g := g) o2 σ h _ ⟨s, env, A, d, m, env2, o, e1, fun v s' h' A' B g => ?_⟩
  unfold asBE at q
  split at q
  · rename_i z e3
    cases q
    have e4 : d = .bl c := e3
    subst e4
    obtain ⟨g1, r1⟩ := g.seen
    simp only [Sees] at r1
    exact ⟨c, r1, w _ h' A' g1⟩
  · cases q
def e1 (g : D → Option (D × M)) (f : Env' → Option (D × M × Env')) : Env' → Option (D × M × Env') := fun env => (f env).bind fun x => (g x.1).bind fun z => some (z.1, z.2, x.2.2)
theorem je_un {op : UnaryOp} {g : D → Option (D × M)} (o : O1 T X (unaryOp op) g) (ha : JE T X a f) : JE T X (.UnaryOp op a pos) (e1 g f) := by
  obtain ⟨r, o1, o2⟩ := o
  refine je_mk (pe_un o1 ha) fun σ h Q ⟨s, env, A, d, m, env', o, q, w⟩ => ?_
  obtain ⟨⟨da, ma, env1⟩, e1, q⟩ := Option.bind_eq_some_iff.mp q
  obtain ⟨⟨dz, mz⟩, e3, q⟩ := Option.bind_eq_some_iff.mp q
  cases q
  refine ⟨s, env, A, da, ma, env1, o, e1, fun x s1 h1 A1 B1 g1 => ?_⟩
  obtain ⟨g2, r2⟩ := g1.seen
  exact o2 _ h1 x da dz mz Q g2.own.sub g2.own.tab r2 e3 fun v s3 h3 B3 G3 => w v s3 h3 A1 B3 (GotE.of_got g2 G3)
/-! calls of built-ins -/
def eCB (g : List D → Option (D × M)) (k : Env' → Option (List (D × M) × Env')) : Env' → Option (D × M × Env') := fun env => (k env).bind fun r => (g (r.1.map (·.1))).bind fun z => some (z.1, z.2, r.2)
theorem eCB_go {g : List D → Option (D × M)} {k : Env' → Option (List (D × M) × Env')} {K : PySem.W.Frag} {r : List V → Hp → VK → Prop}
    (ho : ∀ (s h : Hp) (xs : List V) (ds : List D) (d : D) (m : M) (Q : VK), Sub s h → Tabs T h → SeesL K T s xs ds → g ds = some (d, m) → (∀ v s' h' B, Got K T s h v d m s' h' B → Q v h') → r xs h Q) (σ : St) (h : Hp) (Q : VK)
    (q : tE K T (eCB g k) σ h Q) : tCB r (tAE K T k) σ h Q := by
  obtain ⟨s, env, A, d, m, env', o, q, w⟩ := q
  obtain ⟨⟨ds, env1⟩, e1, q⟩ := Option.bind_eq_some_iff.mp q
  obtain ⟨⟨dz, mz⟩, e3, q⟩ := Option.bind_eq_some_iff.mp q
  cases q
  refine ⟨s, env, A, ds, env1, o, e1, fun vs s1 h1 A1 B1 g1 => ?_⟩
  obtain ⟨g2, r2⟩ := g1.seen
  exact ho _ h1 vs _ dz mz Q g2.own.sub g2.own.tab r2 e3 fun v s3 h3 B3 G3 => w v s3 h3 A1 B3 (GotE.of_got g2 G3)
theorem je_callB {id : String} {x : Str} {p : Pos} {g : List D → Option (D × M)} {k : Env' → Option (List (D × M) × Env')} (o : OC T X (.builtin id) g) (hg : Gl X x) (hm : X.mg x = none) (hv : bootBuiltins x = some (.builtin id)) (ha : JAE T X (e :: es) k)
    (hn : x ≠ "__name__" := by decide) (hdb : (x == ("__debug__" : Str)) = false := by decide) (h1 : starEach (e :: es) X.env = (false, eval e X.env) :: starEach es X.env := by rfl)
    (h2 : (backTo pos (starEach es X.env)).any (·.1) = false := by rfl) : JE T X (.Call (.Name x p) (e :: es) [] pos) (eCB g k) := by
  obtain ⟨r, o1, o2⟩ := o
  exact je_mk (pe_callB o1 hg hm hv ha hn hdb h1 h2) fun σ h Q => eCB_go o2 σ h Q
/-! tests -/
def tV (f : VEnv → Option Bool) : Env' → Option (Bool × Env') := fun env => (f (vw env)).bind fun b => some (b, env)
theorem jte_v {f : VEnv → Option Bool} (h : JT T X e f) : JTE T X e (tV f) := by
  obtain ⟨t, a1, a2⟩ := h
  refine jt_mk a1 fun σ h Q ⟨s, env, A, b, env', o, q, w⟩ => ?_
  obtain ⟨b', e1, q⟩ := Option.bind_eq_some_iff.mp q
  cases q
  exact a2 σ h h (vw env) b Q o.at e1 fun s' h' g => w _ h' A (Go.gr o (Gr.own_of o.sub g))
def tNotE (f : Env' → Option (Bool × Env')) : Env' → Option (Bool × Env') := fun env => (f env).bind fun x => some (!x.1, x.2)
theorem jte_not (ha : JTE T X a ft) : JTE T X (.UnaryOp .Not a pos) (tNotE ft) := by
  refine jt_mk (pt_not ha) fun σ h Q ⟨s, env, A, b, env', o, q, w⟩ => ?_
  obtain ⟨⟨b', env1⟩, e1, q⟩ := Option.bind_eq_some_iff.mp q
  cases q
  exact ⟨s, env, A, b', env1, o, e1, fun s' h' A' g => w s' h' A' g⟩
theorem jte_w (h : JWE T X e ft) : JTE T X e ft := h.pt
def tAndE (f k : Env' → Option (Bool × Env')) : Env' → Option (Bool × Env') := fun env => (f env).bind fun x => if x.1 = true then k x.2 else some (false, x.2)
def tOrE (f k : Env' → Option (Bool × Env')) : Env' → Option (Bool × Env') := fun env => (f env).bind fun x => if x.1 = true then some (true, x.2) else k x.2
theorem jwe_and1 (h : JTE T X a ft) : JWE T X (.BoolOp .And [a] pos) ft := pw_and1 h
theorem jwe_or1 (h : JTE T X a ft) : JWE T X (.BoolOp .Or [a] pos) ft := pw_or1 h
theorem jwe_and (ha : JTE T X a ft) (hb : JWE T X (.BoolOp .And (b :: rest) pos) kt) : JWE T X (.BoolOp .And (a :: b :: rest) pos) (tAndE ft kt) := by
  refine jw_mk (pw_and ha hb) fun σ h Q ⟨s, env, A, z, env', o, q, w⟩ => ?_
  obtain ⟨⟨c, env1⟩, e1, q⟩ := Option.bind_eq_some_iff.mp q
  refine ⟨s, env, A, c, env1, o, e1, fun s1 h1 A1 g1 => ?_⟩
  cases c with
  | true =>
    simp only [if_true] at q ⊢
    exact ⟨s1, env1, A1, z, env', g1.own, q, fun s2 h2 A2 g2 => w s2 h2 A2 (g1.trans g2)⟩
  | false =>
    simp only [Bool.false_eq_true, if_false] at q ⊢
    cases q
    exact w s1 h1 A1 g1
theorem jwe_or (ha : JTE T X a ft) (hb : JWE T X (.BoolOp .Or (b :: rest) pos) kt) : JWE T X (.BoolOp .Or (a :: b :: rest) pos) (tOrE ft kt) := by
  refine jw_mk (pw_or ha hb) fun σ h Q ⟨s, env, A, z, env', o, q, w⟩ => ?_
  obtain ⟨⟨c, env1⟩, e1, q⟩ := Option.bind_eq_some_iff.mp q
  refine ⟨s, env, A, c, env1, o, e1, fun s1 h1 A1 g1 => ?_⟩
  cases c with
  | true =>
    simp only [if_true] at q ⊢
    cases q
    exact w s1 h1 A1 g1
  | false =>
    simp only [Bool.false_eq_true, if_false] at q ⊢
    exact ⟨s1, env1, A1, z, env', g1.own, q, fun s2 h2 A2 g2 => w s2 h2 A2 (g1.trans g2)⟩
/-- a if c else b -/
def eIf (t : Env' → Option (Bool × Env')) (f k : Env' → Option (D × M × Env')) : Env' → Option (D × M × Env') := fun env => (t env).bind fun x => if x.1 = true then f x.2 else k x.2
theorem je_if (hc : JTE T X c ft) (ha : JE T X a f) (hb : JE T X b k) : JE T X (.IfExp c a b pos) (eIf ft f k) := by
  refine je_mk (pe_ifExp hc ha hb) fun σ h Q ⟨s, env, A, d, m, env', o, q, w⟩ => ?_
  obtain ⟨⟨z, env1⟩, e1, q⟩ := Option.bind_eq_some_iff.mp q
  refine ⟨s, env, A, z, env1, o, e1, fun s1 h1 A1 g1 => ?_⟩
  cases z with
  | true =>
    simp only [if_true] at q ⊢
    exact ⟨s1, env1, A1, d, m, env', g1.own, q, fun v s2 h2 A2 B2 g2 => w v s2 h2 A2 B2 (GotE.pre g1 g2)⟩
  | false =>
    simp only [Bool.false_eq_true, if_false] at q ⊢
    exact ⟨s1, env1, A1, d, m, env', g1.own, q, fun v s2 h2 A2 B2 g2 => w v s2 h2 A2 B2 (GotE.pre g1 g2)⟩
/-- truth of a value -/
def tTruE (f : Env' → Option (D × M × Env')) : Env' → Option (Bool × Env') := fun env => (f env).bind fun x => (tru x.1).bind fun b => some (b, x.2.2)
theorem jte_val (ha : JE T X e f) (he : ∀ whole, isTrue e X.env whole = (do let v ← whole; standAt e.pos; holding [v] (truthy v)) := by intro _; rfl) : JTE T X e (tTruE f) := by
  refine jt_mk (pt_truth ha he) fun σ h Q ⟨s, env, A, b, env', o, q, w⟩ => ?_
  obtain ⟨⟨d, m, env1⟩, e1, q⟩ := Option.bind_eq_some_iff.mp q
  obtain ⟨z, e2, q⟩ := Option.bind_eq_some_iff.mp q
  cases q
  refine ⟨s, env, A, d, m, env1, o, e1, fun v s1 h1 A1 B1 g1 => ?_⟩
  obtain ⟨g2, r2⟩ := g1.seen
  exact ⟨_, tru_go g2.own.sub r2 e2, w _ h1 A1 g2⟩
/-! displays -/
def eLst (k : Env' → Option (List (D × M) × Env')) : Env' → Option (D × M × Env') := fun env => (k env).bind fun r => if r.1.length ≤ lim then some (.lst (r.1.map (·.1)), dm r.1, r.2) else none
def eTup (k : Env' → Option (List (D × M) × Env')) : Env' → Option (D × M × Env') := fun env => (k env).bind fun r => if r.1.length ≤ lim then some (.tup (r.1.map (·.1)), if allDp r.1 then .dp else .sh, r.2) else none
/-- .. of values that are held -/
theorem GotL.lst {K : PySem.W.Frag} {s h s' h' : Hp} {A A' B : List Addr} {σ : St} {vs : List V} {ds : List (D × M)} {env' : Env'} {p : Addr} (g : GotL K T s h A σ vs ds env' s' h' A' B) (n : h' p = none) :
    ∃ s2 B2, GotE K T s h A σ (.ref p) (.lst (ds.map (·.1))) (dm ds) env' s2 (upd h' p (.lst vs)) A' B2 := by
  by_cases hd : allDp ds = true
  · have g2 : Gr T s' h' s' (upd h' p (.lst vs)) := Gr.own g.st.sub n
    have st := g.st.trans (g2.step (A' ++ B)) g.wh
    refine ⟨s', p :: B, ⟨g.st.trans (g2.step A') (fun a ha => g.wh a (List.mem_append_left _ ha)), g2.tab g.tab, g.er.grow g2, ?_, ?_, fun a ha => ?_, fun a ha => ?_⟩⟩
    · unfold dm
      rw [if_pos hd]
      simp only [Rep, Deep]
      refine ⟨p, vs, B, rfl, upd_same, rfl, (g.rp.deep hd).keep g2.tupK _ fun b hb => ?_⟩
      obtain ⟨o, eb, _⟩ := g.rp.mem b hb
      rw [upd_ne (ne_of_none eb n)]
    · obtain ⟨n1, n2, n3⟩ := List.nodup_append.mp g.nd
      refine List.nodup_append.mpr ⟨n1, List.nodup_cons.mpr ⟨fun hp => ?_, n2⟩, fun a ha c hc e => ?_⟩
      · obtain ⟨o, eb, _⟩ := g.rp.mem p hp
        rw [n] at eb; cases eb
      · rcases List.mem_cons.mp hc with rfl | hc
        · obtain ⟨o, eb, _⟩ := g.er.mem a ha
          rw [e, n] at eb; cases eb
        · exact n3 a ha c hc e
    · rcases List.mem_append.mp ha with ha | ha
      · exact g.fr a (List.mem_append_left _ ha)
      · rcases List.mem_cons.mp ha with rfl | ha
        · exact g.st.sub.no _ n
        · exact g.fr a (List.mem_append_right _ ha)
    · rcases List.mem_append.mp ha with ha | ha
      · exact g.wh a (List.mem_append_left _ ha)
      · rcases List.mem_cons.mp ha with rfl | ha
        · exact .inr (g.st.non _ n)
        · exact g.wh a (List.mem_append_right _ ha)
  · obtain ⟨g1, r1⟩ := g.seen
    have g2 : Gr T (shr s' h' B) h' (shr s' h' B) (upd h' p (.lst vs)) := Gr.own g1.own.sub n
    refine ⟨_, [p], GotE.of_got g1 ⟨g2, ?_, by simp, fun b hb => ?_, fun b hb => ?_⟩⟩
    · unfold dm
      rw [if_neg hd]
      exact ⟨p, rfl, rfl, vs, upd_same, r1⟩
    · rw [List.mem_singleton.mp hb]; exact n
    · rw [List.mem_singleton.mp hb]; exact g1.own.sub.no _ n
theorem GotL.tup {K : PySem.W.Frag} {s h s' h' : Hp} {A A' B : List Addr} {σ : St} {vs : List V} {ds : List (D × M)} {env' : Env'} {p : Addr} (g : GotL K T s h A σ vs ds env' s' h' A' B) (n : h' p = none) :
    ∃ s2 B2, GotE K T s h A σ (.ref p) (.tup (ds.map (·.1))) (if allDp ds then .dp else .sh) env' s2 (upd h' p (.tup vs)) A' B2 := by
  by_cases hd : allDp ds = true
  · have g2 : Gr T s' h' s' (upd h' p (.tup vs)) := Gr.own g.st.sub n
    refine ⟨s', B, ⟨g.st.trans (g2.step A') (fun a ha => g.wh a (List.mem_append_left _ ha)), g2.tab g.tab, g.er.grow g2, ?_, g.nd, g.fr, g.wh⟩⟩
    rw [if_pos hd]
    simp only [Rep, Deep]
    refine ⟨p, vs, rfl, upd_same, (g.rp.deep hd).keep g2.tupK _ fun b hb => ?_⟩
    obtain ⟨o, eb, _⟩ := g.rp.mem b hb
    rw [upd_ne (ne_of_none eb n)]
  · obtain ⟨g1, r1⟩ := g.seen
    have g2 : Gr T (shr s' h' B) h' (upd (shr s' h' B) p (.tup vs)) (upd h' p (.tup vs)) := Gr.alloc g1.own.sub n
    refine ⟨_, [], GotE.of_got g1 ⟨g2, ?_, Fresh.nil⟩⟩
    rw [if_neg hd]
    refine ⟨rfl, ?_⟩
    simp only [Sees]
    exact ⟨p, vs, rfl, upd_same, r1.ext g2.ss⟩
theorem je_lst {k : Env' → Option (List (D × M) × Env')} (ha : JAE T X es k) : JE T X (.List es pos) (eLst k) := by
  refine je_mk (pe_lst ha) fun σ h Q ⟨s, env, A, d, m, env', o, q, w⟩ => ?_
  obtain ⟨⟨ds, env1⟩, e1, q⟩ := Option.bind_eq_some_iff.mp q
  dsimp only at q
  split at q
  · rename_i hl
    cases q
    refine ⟨s, env, A, ds, _, o, e1, fun vs s1 h1 A1 B1 g1 => ⟨by rw [g1.rp.len, ← lim_eq]; exact hl, fun p n => ?_⟩⟩
    obtain ⟨s2, B2, g2⟩ := g1.lst n
    exact w _ s2 _ A1 B2 g2
  · cases q
theorem je_tup {k : Env' → Option (List (D × M) × Env')} {x1 : Nat} (ha : JAE T X es k) : JE T X (.Tuple es x1 pos) (eTup k) := by
  refine je_mk (pe_tup ha) fun σ h Q ⟨s, env, A, d, m, env', o, q, w⟩ => ?_
  obtain ⟨⟨ds, env1⟩, e1, q⟩ := Option.bind_eq_some_iff.mp q
  dsimp only at q
  split at q
  · rename_i hl
    cases q
    refine ⟨s, env, A, ds, _, o, e1, fun vs s1 h1 A1 B1 g1 => ⟨by rw [g1.rp.len, ← lim_eq]; exact hl, fun p n => ?_⟩⟩
    obtain ⟨s2, B2, g2⟩ := g1.tup n
    exact w _ s2 _ A1 B2 g2
  · cases q
end
end G
set_option Elab.async false
set_option linter.all false
set_option maxRecDepth 100000
set_option maxHeartbeats 4000000
/-! G9: slots taken out and put back; statements -/
namespace G
open PySem PySem.Spec PyProof.Rows L2
section
variable {K : PySem.W.Frag} {T : Tx} {s s' s1 s2 h h' h1 h2 : Hp} {σ : St} {env env' env1 env2 : Env'} {A A' A1 A2 W B : List Addr}
/-! ### slots -/
theorem EnvRep.takeO : ∀ {env : Env'} {σ : St} {A : List Addr} {j : Nat} {dm : D × M}, EnvRep K T s h σ env A → env[j]? = some (some dm) →
    ∃ v A1 B A2, σ[j]? = some (some v) ∧ A = A1 ++ (B ++ A2) ∧ Rep K T s h v dm.1 dm.2 B ∧ EnvRep K T s h σ (env.set j none) (A1 ++ A2)
  | [], _, _, _, _, _, e => by simp at e
  | x :: env, _, _, 0, dm, r, e => by
    obtain ⟨y, r, A1, A2, rfl, rfl, r1, q⟩ := r
    simp at e
    subst e
    obtain ⟨v, e1, r1⟩ := r1
    exact ⟨v, [], A1, A2, by simp [e1], rfl, r1, y, r, [], A2, rfl, rfl, rfl, q⟩
  | x :: env, _, _, j + 1, dm, r, e => by
    obtain ⟨y, r, A1, A2, rfl, rfl, r1, q⟩ := r
    obtain ⟨v, B1, B, B2, e1, rfl, e2, e3⟩ := q.takeO (j := j) (by simpa using e)
    exact ⟨v, A1 ++ B1, B, B2, by simpa using e1, by simp, e2, y, r, A1, B1 ++ B2, rfl, by simp, r1, e3⟩
theorem EnvRep.putO : ∀ {env : Env'} {σ : St} {A : List Addr} {j : Nat} {v : V} {dm : D × M} {C : List Addr}, EnvRep K T s h σ env A → env[j]? = some none → σ[j]? = some (some v) → Rep K T s h v dm.1 dm.2 C →
    ∃ A1 A2, A = A1 ++ A2 ∧ EnvRep K T s h σ (env.set j (some dm)) (A1 ++ (C ++ A2))
  | [], _, _, _, _, _, _, _, e, _, _ => by simp at e
  | x :: env, _, _, 0, v, dm, C, r, e, eσ, rv => by
    obtain ⟨y, r, A1, A2, rfl, rfl, r1, q⟩ := r
    simp at e
    subst e
    simp at eσ
    subst eσ
    exact ⟨[], A2, by rw [r1], some v, r, C, A2, rfl, rfl, ⟨v, rfl, rv⟩, q⟩
  | x :: env, _, _, j + 1, v, dm, C, r, e, eσ, rv => by
    obtain ⟨y, r, A1, A2, rfl, rfl, r1, q⟩ := r
    obtain ⟨B1, B2, rfl, q2⟩ := q.putO (j := j) (by simpa using e) (by simpa using eσ) rv
    exact ⟨A1 ++ B1, B2, by simp, y, r, A1, B1 ++ (C ++ B2), rfl, by simp, r1, q2⟩
theorem perm_mid (A1 B A2 : List Addr) : (A1 ++ (B ++ A2)).Perm ((A1 ++ A2) ++ B) := by
  rw [List.append_assoc]
  exact List.Perm.append_left A1 List.perm_append_comm
/-- a slot's value in the hand -/
theorem GotE.take {j : Nat} {d : D} {m : M} (g : Go K T s h A σ env s1 h1 A1) (e : env[j]? = some (some (d, m))) : ∃ v A0 B, σ[j]? = some (some v) ∧ GotE K T s h A σ v d m (env.set j none) s1 h1 A0 B := by
  obtain ⟨v, C1, B, C2, e1, rfl, e2, e3⟩ := g.own.er.takeO e
  have p := perm_mid C1 B C2
  exact ⟨v, C1 ++ C2, B, e1, g.st, g.own.tab, e3, e2, p.nodup_iff.mp g.own.nd, fun a ha => g.own.fr a (p.mem_iff.mpr ha), fun a ha => g.wh a (p.mem_iff.mpr ha)⟩
/-- .. put back -/
theorem GotE.put {j : Nat} {v : V} {d : D} {m : M} (g : GotE K T s h A σ v d m env s1 h1 A1 B) (e : env[j]? = some none) (eσ : σ[j]? = some (some v)) : ∃ A2, Go K T s h A σ (env.set j (some (d, m))) s1 h1 A2 := by
  obtain ⟨C1, C2, rfl, q⟩ := g.er.putO e eσ (dm := (d, m)) g.rp
  have p := perm_mid C1 B C2
  exact ⟨C1 ++ (B ++ C2), g.st, ⟨g.st.sub, g.tab, q, p.nodup_iff.mpr g.nd, fun a ha => g.fr a (p.mem_iff.mp ha)⟩, fun a ha => g.wh a (p.mem_iff.mp ha)⟩
/-- a value in the hand goes into a slot -/
theorem GotE.store {i : Nat} {v : V} {d : D} {m : M} (g : GotE K T s h A σ v d m env s1 h1 A1 B) (hi : i < env.length) : ∃ A2, Go K T s h A (σ.set i (some v)) (env.set i (some (d, m))) s1 h1 A2 ∧ ∀ a ∈ A2, a ∈ A1 ++ B := by
  obtain ⟨C1, C, C2, rfl, q⟩ := g.er.store hi (dm := (d, m)) g.rp
  have p : (C1 ++ (B ++ C2)).Perm ((C1 ++ C2) ++ B) := perm_mid C1 B C2
  have sb : ((C1 ++ C2) ++ B).Sublist ((C1 ++ (C ++ C2)) ++ B) := List.Sublist.append (List.Sublist.append (List.Sublist.refl _) (List.sublist_append_right _ _)) (List.Sublist.refl _)
  refine ⟨C1 ++ (B ++ C2), ⟨g.st, ⟨g.st.sub, g.tab, q, p.nodup_iff.mpr (List.Nodup.sublist sb g.nd), fun a ha => g.fr a (sb.mem (p.mem_iff.mp ha))⟩, fun a ha => g.wh a (sb.mem (p.mem_iff.mp ha))⟩, fun a ha => sb.mem (p.mem_iff.mp ha)⟩
theorem Sees.rep {v : V} {d : D} (u : Sub s h) (r : Sees K T s v d) : Rep K T s h v d (im d) [] := by
  unfold im
  split
  · rename_i i
    exact Sees.deep d i (r.ext u d)
  · exact ⟨rfl, r⟩
/-- what is seen, in the hand -/
theorem GotE.sees {v : V} {d : D} (g : Go K T s h A σ env s1 h1 A1) (r : Sees K T s1 v d) : GotE K T s h A σ v d (im d) env s1 h1 A1 [] :=
  ⟨g.st, g.own.tab, g.own.er, r.rep g.own.sub, by rw [List.append_nil]; exact g.own.nd, fun a ha => g.own.fr a (by simpa using ha), fun a ha => g.wh a (by simpa using ha)⟩
/-- a slot shared from now on -/
def frz (j : Nat) (env : Env') : Option Env' := match env[j]? with
  | some (some dm) => some (env.set j (some (dm.1, im dm.1)))
  | _ => none
theorem set_set_none {j : Nat} {x : Option (D × M)} (env : Env') : (env.set j none).set j x = env.set j x := by rw [List.set_set]
theorem get_hole {j : Nat} {dm : D × M} (e : env[j]? = some (some dm)) : (env.set j none)[j]? = some none := List.getElem?_set_self (List.getElem?_eq_some_iff.mp e).1
theorem Go.frz {j : Nat} (g : Go K T s h A σ env s1 h1 A1) (e : G.frz j env = some env') : ∃ s2 A2, Go K T s h A σ env' s2 h1 A2 := by
  unfold G.frz at e
  split at e
  · rename_i dm eq
    cases e
    obtain ⟨d, m⟩ := dm
    obtain ⟨v, A0, B, eσ, g0⟩ := GotE.take g eq
    obtain ⟨g2, r2⟩ := g0.seen
    obtain ⟨A2, g3⟩ := (GotE.sees g2 r2).put (get_hole eq) eσ
    rw [set_set_none] at g3
    exact ⟨_, A2, g3⟩
  · cases e
/-- an own object changes -/
theorem Step.putO {p : Addr} {o o' : HO} (u : Sub s h) (hw : p ∈ W) (e : h p = some o) (mu : Mu o) (n : s p = none) : Step T W s h s (upd h p o') := by
  have g : ∀ a ps, h a = some (.tbl ps) → upd h p o' a = some (.tbl ps) := fun a ps q => by
    rw [upd_ne (fun z => by subst z; rw [q] at e; cases e; exact mu.elim)]; exact q
  refine ⟨Sub.rfl', ⟨fun b x q z => ?_, fun b q => ?_⟩, fun a x q z nw => ?_, fun a q => ?_, fun a ps q => ⟨#[], by rw [g a ps q]; simp⟩, fun a xs q => ?_, fun a q => .inl q, fun t => tabs_put t e (mu_tbl mu).1 (mu_tbl mu).2⟩
  · rw [upd_ne (ne_of_none q n)]; exact u.at_ b x q z
  · by_cases hb : b = p
    · subst hb; exact n
    · rw [upd_ne hb] at q; exact u.no b q
  · rw [upd_ne (fun z => by subst z; exact nw hw)]; exact q
  · by_cases hb : a = p
    · subst hb; rw [upd_same] at q; cases q
    · rw [upd_ne hb] at q; exact q
  · rw [upd_ne (fun z => by subst z; rw [q] at e; cases e; exact mu.elim)]; exact q
/-- a change of the value in the hand: at its top p -/
theorem GotE.change {v : V} {d d' : D} {m m' : M} {p : Addr} {o o' : HO} {B' : List Addr} (g : GotE K T s h A σ v d m env s1 h1 A1 B) (hp : p ∈ B) (e : h1 p = some o) (mu : Mu o) (u : Sub s1 s2) (st : Step T A s h s2 h1)
    (fr : ∀ a ∈ A1 ++ B', s2 a = none) (sb : ∀ b ∈ B', b ∈ B) (nd : B'.Nodup) (n2 : s2 p = none) (r : Rep K T s2 (upd h1 p o') v d' m' B') : GotE K T s h A σ v d' m' env s2 (upd h1 p o') A1 B' := by
  obtain ⟨n1, n3, n4⟩ := List.nodup_append.mp g.nd
  have st2 : Step T (A1 ++ B) s2 h1 s2 (upd h1 p o') := Step.putO st.sub (List.mem_append_right _ hp) e mu n2
  refine ⟨st.trans st2 g.wh, st2.tab g.tab, ?_, r, List.nodup_append.mpr ⟨n1, nd, fun a ha b hb z => n4 a ha b (sb b hb) z⟩, fr, fun a ha => ?_⟩
  · refine g.er.keep u st2.tup fun b hb => ?_
    rw [upd_ne (fun z => by subst z; exact n4 b hb b hp rfl)]
  · rcases List.mem_append.mp ha with ha | ha
    · exact g.wh a (List.mem_append_left _ ha)
    · exact g.wh a (List.mem_append_right _ (sb a ha))
end
/-! ### statements -/
inductive Fl where
  | nx | rt (d : D) (m : M) | bk | ct
abbrev Sf := Env' → Option (Fl × Env')
def Pin (io : List Bool) (σ σ' : St) : Prop := ∀ i : Nat, io[i]? = some true → σ'[i]? = σ[i]?
theorem Pin.rfl' {io : List Bool} {σ : St} : Pin io σ σ := fun _ _ => rfl
theorem Pin.trans {io : List Bool} {a b c : St} (x : Pin io a b) (y : Pin io b c) : Pin io a c := fun i e => (y i e).trans (x i e)
def EndS (K : PySem.W.Frag) (T : Tx) (io : List Bool) (s h : Hp) (A : List Addr) (σ : St) (fl : Fl) (env' : Env') (E : Ends) : Prop := match fl with
  | .nx => ∀ σ' s' h' A', Go K T s h A σ' env' s' h' A' → Pin io σ σ' → E.nx σ' h'
  | .bk => ∀ σ' s' h' A', Go K T s h A σ' env' s' h' A' → Pin io σ σ' → E.bk σ' h'
  | .ct => ∀ σ' s' h' A', Go K T s h A σ' env' s' h' A' → Pin io σ σ' → E.ct σ' h'
  | .rt d m => ∀ v σ' s' h' A' B, GotE K T s h A σ' v d m env' s' h' A' B → Pin io σ σ' → E.rt v h'
def tS (K : PySem.W.Frag) (T : Tx) (io : List Bool) (f : Sf) : TS := fun E σ h => ∃ s env A fl env', Own K T s h σ env A ∧ f env = some (fl, env') ∧ EndS K T io s h A σ fl env' E
def JS (T : Tx) (X : Cx) (io : List Bool) (st : Stmt) (f : Sf) : Prop := PS X st (tS X.K T io f)
def JSs (T : Tx) (X : Cx) (io : List Bool) (sts : List Stmt) (f : Sf) : Prop := PSs X sts (tS X.K T io f)
theorem EndS.pre {K : PySem.W.Frag} {T : Tx} {io : List Bool} {s h s1 h1 : Hp} {A A1 : List Addr} {σ σ1 : St} {fl : Fl} {env1 env' : Env'} {E : Ends} (g : Go K T s h A σ1 env1 s1 h1 A1) (p : Pin io σ σ1) (e : EndS K T io s h A σ fl env' E) : EndS K T io s1 h1 A1 σ1 fl env' E := by
  cases fl with
  | nx => exact fun σ' s' h' A' g' p' => e σ' s' h' A' (g.trans g') (p.trans p')
  | bk => exact fun σ' s' h' A' g' p' => e σ' s' h' A' (g.trans g') (p.trans p')
  | ct => exact fun σ' s' h' A' g' p' => e σ' s' h' A' (g.trans g') (p.trans p')
  | rt d m => exact fun v σ' s' h' A' B g' p' => e v σ' s' h' A' B (GotE.pre g g') (p.trans p')
section
variable {X : Cx} {T : Tx} {io : List Bool} {a b c e tg : Expr} {es : List Expr} {st : Stmt} {rest sa sb : List Stmt} {f k : Env' → Option (D × M × Env')} {F1 F2 : Sf} {ft : Env' → Option (Bool × Env')} {pos p : Pos}
theorem js_mk {t : TS} {g : Sf} (h : PS X st t) (r : ∀ (E : Ends) (σ : St) (h : Hp), tS X.K T io g E σ h → t E σ h) : JS T X io st g := ⟨fun pins s σ H E I q => h.run pins s σ H E I (r E σ H q)⟩
theorem jss_mk {t : TS} {g : Sf} (h : PSs X rest t) (r : ∀ (E : Ends) (σ : St) (h : Hp), tS X.K T io g E σ h → t E σ h) : JSs T X io rest g := ⟨fun pins s σ H E I q => h.run pins s σ H E I (r E σ H q)⟩
def sNext : Sf := fun env => some (.nx, env)
def sSeq (f k : Sf) : Sf := fun env => (f env).bind fun r => match r.1 with
  | .nx => k r.2
  | _ => some r
theorem jss_nil : JSs T X io [] sNext := jss_mk pss_nil fun E σ h ⟨s, env, A, fl, env', o, q, w⟩ => by
  cases q
  exact w σ s h A (Go.refl o) Pin.rfl'
theorem jss_cons (h1 : JS T X io st F1) (h2 : JSs T X io rest F2) : JSs T X io (st :: rest) (sSeq F1 F2) := jss_mk (pss_cons h1 h2) fun E σ h ⟨s, env, A, fl, env', o, q, w⟩ => by
  obtain ⟨⟨fl1, env1⟩, e1, q⟩ := Option.bind_eq_some_iff.mp q
  refine ⟨s, env, A, fl1, env1, o, e1, ?_⟩
  cases fl1 with
  | nx => exact fun σ' s' h' A' g p => ⟨s', env1, A', fl, env', g.own, q, w.pre g p⟩
  | bk => cases q; exact w
  | ct => cases q; exact w
  | rt d m => cases q; exact w
theorem jss_one (h1 : JS T X io st F1) : JSs T X io [st] F1 := jss_mk (pss_one h1) fun E σ h q => q
def sRet (f : Env' → Option (D × M × Env')) : Sf := fun env => (f env).bind fun x => some (.rt x.1 x.2.1, x.2.2)
theorem js_ret (he : JE T X e f) : JS T X io (.Return (some e) pos) (sRet f) := js_mk (ps_ret he) fun E σ h ⟨s, env, A, fl, env', o, q, w⟩ => by
  obtain ⟨⟨d, m, env1⟩, e1, q⟩ := Option.bind_eq_some_iff.mp q
  cases q
  exact ⟨s, env, A, d, m, _, o, e1, fun v s' h' A' B g => w v σ s' h' A' B g Pin.rfl'⟩
def sRetN : Sf := fun env => some (.rt .non .dp, env)
theorem js_retN : JS T X io (.Return none pos) sRetN := js_mk ps_retN fun E σ h ⟨s, env, A, fl, env', o, q, w⟩ => by
  cases q
  exact w .non σ s h A [] (GotE.of_got (Go.refl o) (got_non o.sub)) Pin.rfl'
def sExpr (f : Env' → Option (D × M × Env')) : Sf := fun env => (f env).bind fun x => some (.nx, x.2.2)
theorem js_expr (he : JE T X e f) (hs : swapsWith e none pos.line X.env = pure false := by rfl) : JS T X io (.Expr e pos) (sExpr f) := js_mk (ps_expr he hs) fun E σ h ⟨s, env, A, fl, env', o, q, w⟩ => by
  obtain ⟨⟨d, m, env1⟩, e1, q⟩ := Option.bind_eq_some_iff.mp q
  cases q
  exact ⟨s, env, A, d, m, _, o, e1, fun v s' h' A' B g => w σ s' h' A' g.go Pin.rfl'⟩
def sIf (t : Env' → Option (Bool × Env')) (f k : Sf) : Sf := fun env => (t env).bind fun x => if x.1 = true then f x.2 else k x.2
theorem js_if (hc : JTE T X c ft) (ha : JSs T X io sa F1) (hb : JSs T X io sb F2) : JS T X io (.If c sa sb pos) (sIf ft F1 F2) := js_mk (ps_if hc ha hb) fun E σ h ⟨s, env, A, fl, env', o, q, w⟩ => by
  obtain ⟨⟨z, env1⟩, e1, q⟩ := Option.bind_eq_some_iff.mp q
  refine ⟨s, env, A, z, env1, o, e1, fun s1 h1 A1 g1 => ?_⟩
  cases z with
  | true =>
    simp only [if_true] at q ⊢
    exact ⟨s1, env1, A1, fl, env', g1.own, q, w.pre g1 Pin.rfl'⟩
  | false =>
    simp only [Bool.false_eq_true, if_false] at q ⊢
    exact ⟨s1, env1, A1, fl, env', g1.own, q, w.pre g1 Pin.rfl'⟩
theorem js_pass : JS T X io (.Pass pos) sNext := js_mk ps_pass fun E σ h ⟨s, env, A, fl, env', o, q, w⟩ => by
  cases q
  exact w σ s h A (Go.refl o) Pin.rfl'
def sBrk : Sf := fun env => some (.bk, env)
theorem js_brk : JS T X io (.Break pos) sBrk := js_mk ps_break fun E σ h ⟨s, env, A, fl, env', o, q, w⟩ => by
  cases q
  exact w σ s h A (Go.refl o) Pin.rfl'
def sCt : Sf := fun env => some (.ct, env)
theorem js_ct : JS T X io (.Continue pos) sCt := js_mk ps_continue fun E σ h ⟨s, env, A, fl, env', o, q, w⟩ => by
  cases q
  exact w σ s h A (Go.refl o) Pin.rfl'
def sNever : Sf := fun _ => none
theorem js_never : JS T X io st sNever := js_mk ps_never fun E σ h ⟨s, env, A, fl, env', o, q, w⟩ => nomatch q
theorem jss_never : JSs T X io rest sNever := jss_mk pss_never fun E σ h ⟨s, env, A, fl, env', o, q, w⟩ => nomatch q
/-- a slot is shared ahead of what follows -/
def sFrz (j : Nat) (f : Sf) : Sf := fun env => (frz j env).bind f
theorem jss_frz (j : Nat) (h : JSs T X io rest F1) : JSs T X io rest (sFrz j F1) := jss_mk h fun E σ h ⟨s, env, A, fl, env', o, q, w⟩ => by
  obtain ⟨env1, e1, q⟩ := Option.bind_eq_some_iff.mp q
  obtain ⟨s2, A2, g⟩ := (Go.refl o).frz e1
  exact ⟨s2, env1, A2, fl, env', g.own, q, w.pre g Pin.rfl'⟩
def eFrz (j : Nat) (f : Env' → Option (D × M × Env')) : Env' → Option (D × M × Env') := fun env => (frz j env).bind f
theorem je_frz (j : Nat) (h : JE T X e f) : JE T X e (eFrz j f) := je_mk h fun σ h Q ⟨s, env, A, d, m, env', o, q, w⟩ => by
  obtain ⟨env1, e1, q⟩ := Option.bind_eq_some_iff.mp q
  obtain ⟨s2, A2, g⟩ := (Go.refl o).frz e1
  exact ⟨s2, env1, A2, d, m, env', g.own, q, fun v s' h' A' B x => w v s' h' A' B (GotE.pre g x)⟩
/-! ### names -/
/-- slot i takes dm -/
def putS (io : List Bool) (i : Nat) (dm : D × M) (env : Env') : Option Env' := if io[i]? = some true then none else if i < env.length then some (env.set i (some dm)) else none
theorem pin_set {io : List Bool} {σ : St} {i : Nat} {x : Option V} (h : ¬ io[i]? = some true) : Pin io σ (σ.set i x) := fun j e => by
  have : i ≠ j := fun z => h (by rw [z]; exact e)
  rw [List.getElem?_set_ne this]
theorem GotE.putN {K : PySem.W.Frag} {s h s1 h1 : Hp} {A A1 B : List Addr} {σ : St} {v : V} {dm : D × M} {env env' : Env'} {i : Nat} (g : GotE K T s h A σ v dm.1 dm.2 env s1 h1 A1 B) (q : putS io i dm env = some env') : Pin io σ (σ.set i (some v)) ∧ ∃ A2, Go K T s h A (σ.set i (some v)) env' s1 h1 A2 ∧ ∀ a ∈ A2, a ∈ A1 ++ B := by
  unfold putS at q
  split at q
  · cases q
  · rename_i hp
    split at q
    · rename_i hi
      cases q
      exact ⟨pin_set hp, g.store hi⟩
    · cases q
def sSet (io : List Bool) (i : Nat) (f : Env' → Option (D × M × Env')) : Sf := fun env => (f env).bind fun x => (putS io i (x.1, x.2.1) x.2.2).bind fun e => some (.nx, e)
theorem sSet_go {K : PySem.W.Frag} {te : TE} {i : Nat} (r : ∀ (σ : St) (h : Hp) (Q : VK), tE K T f σ h Q → te σ h Q) (E : Ends) (σ : St) (h : Hp) (q : tS K T io (sSet io i f) E σ h) : tAsg te (gName i) E σ h := by
  obtain ⟨s, env, A, fl, env', o, q, w⟩ := q
  obtain ⟨⟨d, m, env1⟩, e1, q⟩ := Option.bind_eq_some_iff.mp q
  obtain ⟨env2, e2, q⟩ := Option.bind_eq_some_iff.mp q
  cases q
  refine r σ h _ ⟨s, env, A, d, m, env1, o, e1, fun v s' h' A' B g => ?_⟩
  obtain ⟨p1, A2, g2, sb⟩ := GotE.putN (dm := (d, m)) g e2
  exact w _ s' h' A2 g2 p1
theorem js_set {i : Nat} {x : Str} {pos' : Pos} (hN : X.N.Nodup) (hi : X.N[i]? = some x) (hx : Loc X.env.scope x) (he : JE T X e f) (hs : swapsWith e (some (.Name x pos')) pos.line X.env = pure false := by rfl) (hf : X.fn x = true ∨ X.env.scope.names.lookup x = some .local := by first | exact .inl rfl | exact .inr rfl) :
    JS T X io (.Assign [.Name x pos'] e pos) (sSet io i f) := js_mk (ps_set hN hi hx he hs hf) fun E σ h q => sSet_go (fun _ _ _ q => q) E σ h q
/-! ### targets that own -/
/-- what one has, and things in the hand at B -/
structure Hold (K : PySem.W.Frag) (T : Tx) (s h : Hp) (σ : St) (env : Env') (A B : List Addr) : Prop where
  sub : Sub s h
  tab : Tabs T h
  er : EnvRep K T s h σ env A
  nd : (A ++ B).Nodup
  fr : ∀ a ∈ A ++ B, s a = none
theorem GotE.hold {K : PySem.W.Frag} {s h s1 h1 : Hp} {A A1 B : List Addr} {σ : St} {v : V} {d : D} {m : M} {env : Env'} (g : GotE K T s h A σ v d m env s1 h1 A1 B) : Hold K T s1 h1 σ env A1 B := ⟨g.st.sub, g.tab, g.er, g.nd, g.fr⟩
theorem GotL.hold {K : PySem.W.Frag} {s h s1 h1 : Hp} {A A1 B : List Addr} {σ : St} {vs : List V} {ds : List (D × M)} {env : Env'} (g : GotL K T s h A σ vs ds env s1 h1 A1 B) : Hold K T s1 h1 σ env A1 B := ⟨g.st.sub, g.tab, g.er, g.nd, g.fr⟩
theorem Hold.gotE {K : PySem.W.Frag} {s h : Hp} {A B : List Addr} {σ : St} {v : V} {d : D} {m : M} {env : Env'} (g : Hold K T s h σ env A B) (r : Rep K T s h v d m B) : GotE K T s h (A ++ B) σ v d m env s h A B := ⟨(Gr.refl g.sub).step _, g.tab, g.er, r, g.nd, g.fr, fun a ha => .inl ha⟩
theorem Hold.gotL {K : PySem.W.Frag} {s h : Hp} {A B : List Addr} {σ : St} {vs : List V} {ds : List (D × M)} {env : Env'} (g : Hold K T s h σ env A B) (r : RepL K T s h vs ds B) : GotL K T s h (A ++ B) σ vs ds env s h A B := ⟨(Gr.refl g.sub).step _, g.tab, g.er, r, g.nd, g.fr, fun a ha => .inl ha⟩
/-- behind what was done with the things in the hand -/
theorem Go.after {K : PySem.W.Frag} {s h s1 h1 s2 h2 : Hp} {A A1 A2 B : List Addr} {σ : St} {env : Env'} (st : Step T A s h s1 h1) (wh : ∀ a ∈ A1 ++ B, a ∈ A ∨ h a = none) (g : Go K T s1 h1 (A1 ++ B) σ env s2 h2 A2) : Go K T s h A σ env s2 h2 A2 :=
  ⟨st.trans g.st wh, g.own, fun x hx => (g.wh x hx).elim (wh x) fun n => .inr (st.non x n)⟩
theorem Step.mono {W W' : List Addr} {s h s1 h1 : Hp} (st : Step T W s h s1 h1) (u : ∀ a ∈ W, a ∈ W') : Step T W' s h s1 h1 :=
  ⟨st.ss, st.sub, fun a o e n nw => st.keep a o e n fun z => nw (u a z), st.non, st.tbl, st.tup, fun a n => (st.new a n).elim .inl fun z => .inr (z.elim .inl fun z => .inr (z.elim (fun z => .inl (u a z)) .inr)), st.tab⟩
def tGO (K : PySem.W.Frag) (T : Tx) (io : List Bool) (g : D × M → Env' → Option Env') : TG := fun v σ h Q => ∃ s d m env A B env', Hold K T s h σ env A B ∧ Rep K T s h v d m B ∧ g (d, m) env = some env' ∧ ∀ σ' s' h' A', Go K T s h (A ++ B) σ' env' s' h' A' → Pin io σ σ' → Q σ' h'
def JGO (T : Tx) (X : Cx) (io : List Bool) (tg : Expr) (g : D × M → Env' → Option Env') : Prop := PG X tg (tGO X.K T io g)
theorem jgo_name {i : Nat} {x : Str} (hN : X.N.Nodup) (hi : X.N[i]? = some x) (hx : Loc X.env.scope x) (hf : X.fn x = true ∨ X.env.scope.names.lookup x = some .local := by first | exact .inl rfl | exact .inr rfl) : JGO T X io (.Name x pos) (putS io i) := by
  refine ⟨fun pins sx σ H v u Q I r ⟨s, d, m, env, A, B, env', g, rp, q, w⟩ => ?_⟩
  refine (pg_name hN hi hx hf).run pins sx σ H v u Q I r ?_
  obtain ⟨p1, A2, g2, sb⟩ := GotE.putN (dm := (d, m)) (g.gotE rp) q
  exact w _ s H A2 g2 p1
def goN : List (D × M) → Env' → Option Env' := fun ds env => match ds with
  | [] => some env
  | _ => none
def goC (g : D × M → Env' → Option Env') (k : List (D × M) → Env' → Option Env') : List (D × M) → Env' → Option Env' := fun ds env => match ds with
  | d :: r => (g d env).bind (k r)
  | _ => none
def tGOs (K : PySem.W.Frag) (T : Tx) (io : List Bool) (g : List (D × M) → Env' → Option Env') : TGs := fun vs σ h Q => ∃ s ds env A B env', Hold K T s h σ env A B ∧ RepL K T s h vs ds B ∧ g ds env = some env' ∧ ∀ σ' s' h' A', Go K T s h (A ++ B) σ' env' s' h' A' → Pin io σ σ' → Q σ' h'
def JGOs (T : Tx) (X : Cx) (io : List Bool) (ts : List Expr) (g : List (D × M) → Env' → Option Env') : Prop := PGs X ts (tGOs X.K T io g)
theorem jgos_nil : JGOs T X io [] goN := by
  refine ⟨fun pins sx σ H vs us Q I r ⟨s, ds, env, A, B, env', g, rp, q, w⟩ => ?_⟩
  refine pgs_nil.run pins sx σ H vs us Q I r ?_
  unfold goN at q
  split at q
  · cases q
    exact ⟨rp.1, w σ s H A (g.gotL rp).go Pin.rfl'⟩
  · cases q
/-- the first of some in the hand, the others -/
theorem GotL.head {K : PySem.W.Frag} {s h s1 h1 : Hp} {A A1 B : List Addr} {σ : St} {vs : List V} {dm : D × M} {ds : List (D × M)} {env : Env'} (g : GotL K T s h A σ vs (dm :: ds) env s1 h1 A1 B) :
    ∃ v q B1 B2, vs = v :: q ∧ B = B1 ++ B2 ∧ GotE K T s h A σ v dm.1 dm.2 env s1 h1 A1 B1 ∧ RepL K T s1 h1 q ds B2 := by
  obtain ⟨v, q, B1, B2, rfl, rfl, r1, r2⟩ := g.rp
  have sb : (A1 ++ B1).Sublist (A1 ++ (B1 ++ B2)) := List.Sublist.append (List.Sublist.refl _) (List.sublist_append_left _ _)
  exact ⟨v, q, B1, B2, rfl, rfl, ⟨g.st, g.tab, g.er, r1, List.Nodup.sublist sb g.nd, fun a ha => g.fr a (sb.mem ha), fun a ha => g.wh a (sb.mem ha)⟩, r2⟩
theorem GotL.tl {K : PySem.W.Frag} {s h s1 h1 : Hp} {A A1 A2 B1 B2 : List Addr} {σ σ' : St} {v : V} {vs : List V} {dm : D × M} {ds : List (D × M)} {env env' : Env'} (g : GotL K T s h A σ (v :: vs) (dm :: ds) env s1 h1 A1 (B1 ++ B2)) (r2 : RepL K T s1 h1 vs ds B2)
    (g2 : Go K T s h A σ' env' s1 h1 A2) (sb : ∀ a ∈ A2, a ∈ A1 ++ B1) : GotL K T s h A σ' vs ds env' s1 h1 A2 B2 := by
  have nd := g.nd
  rw [← List.append_assoc] at nd
  obtain ⟨n1, n2, n3⟩ := List.nodup_append.mp nd
  refine ⟨g.st, g.tab, g2.own.er, r2, List.nodup_append.mpr ⟨g2.own.nd, n2, fun a ha b hb z => n3 a (sb a ha) b hb z⟩, fun a ha => ?_, fun a ha => ?_⟩
  · rcases List.mem_append.mp ha with ha | ha
    · exact g2.own.fr a ha
    · exact g.fr a (List.mem_append_right _ (List.mem_append_right _ ha))
  · rcases List.mem_append.mp ha with ha | ha
    · exact g2.wh a ha
    · exact g.wh a (List.mem_append_right _ (List.mem_append_right _ ha))
theorem jgos_cons {g1 : D × M → Env' → Option Env'} {k1 : List (D × M) → Env' → Option Env'} (h1 : JGO T X io e g1) (h2 : JGOs T X io es k1) (hs : (assignEach (e :: es) X.env).map (·.2) = assign e X.env :: (assignEach es X.env).map (·.2) := by rfl) : JGOs T X io (e :: es) (goC g1 k1) := by
  refine ⟨fun pins sx σ H vs us Q I r ⟨s, ds, env, A, B, env', g, rp, q, w⟩ => ?_⟩
  refine (pgs_cons h1 h2 hs).run pins sx σ H vs us Q I r ?_
  unfold goC at q
  split at q
  · rename_i d dr
    obtain ⟨env1, e1, q⟩ := Option.bind_eq_some_iff.mp q
    obtain ⟨v, vr, B1, B2, rfl, rfl, gh, r2⟩ := rp
    have nd := g.nd
    rw [← List.append_assoc] at nd
    obtain ⟨n1, n2, n3⟩ := List.nodup_append.mp nd
    have sb0 : ∀ a ∈ A ++ B1, a ∈ A ++ (B1 ++ B2) := fun a ha => by rw [← List.append_assoc]; exact List.mem_append_left _ ha
    have dis : ∀ b ∈ B2, b ∉ A ++ B1 := fun b hb ha => n3 b ha b hb rfl
    refine ⟨v, vr, rfl, s, d.1, d.2, env, A, B1, env1, ⟨g.sub, g.tab, g.er, n1, fun a ha => g.fr a (sb0 a ha)⟩, gh, e1, fun σ1 s1 H1 A1 g2 p1 => ?_⟩
    have apart : ∀ a ∈ A1, a ∉ B2 := fun a ha hb => by
      rcases g2.wh a ha with z | z
      · exact dis a hb z
      · obtain ⟨o, eo, _⟩ := r2.mem a hb
        rw [z] at eo; cases eo
    refine ⟨s1, dr, env1, A1, B2, env', ⟨g2.st.sub, g2.own.tab, g2.own.er, List.nodup_append.mpr ⟨g2.own.nd, n2, fun a ha b hb z => apart a ha (z ▸ hb)⟩, fun a ha => ?_⟩, r2.step g2.st dis, q, fun σ2 s2 H2 A2 g3 p2 => w σ2 s2 H2 A2 ?_ (p1.trans p2)⟩
    · rcases List.mem_append.mp ha with ha | ha
      · exact g2.own.fr a ha
      · obtain ⟨o, eo, mu⟩ := r2.mem a ha
        exact step_none g2.st eo mu (g.fr a (List.mem_append_right _ (List.mem_append_right _ ha))) (dis a ha)
    · refine Go.after (A1 := A1) (B := B2) (g2.st.mono sb0) (fun a ha => ?_) g3
      rcases List.mem_append.mp ha with ha | ha
      · exact (g2.wh a ha).elim (fun z => .inl (sb0 a z)) .inr
      · exact .inl (List.mem_append_right _ (List.mem_append_right _ ha))
  · cases q
/-- the items of a tuple -/
def unTup : D × M → Option (List (D × M)) := fun x => match x.1, x.2 with
  | .tup ds, .dp => some (ds.map fun d => (d, .dp))
  | .tup ds, .sh => some (ds.map fun d => (d, im d))
  | _, _ => none
theorem DeepL.repL {K : PySem.W.Frag} {s h : Hp} : ∀ {vs : List V} (ds : List D) {B : List Addr}, DeepL K T h vs ds B → RepL K T s h vs (ds.map fun d => (d, M.dp)) B
  | _, [], _, r => by simp only [DeepL] at r; exact r
  | _, d :: ds, _, r => by
    simp only [DeepL] at r
    obtain ⟨v, q, B1, B2, e1, e2, e3, e4⟩ := r
    exact ⟨v, q, B1, B2, e1, e2, e3, DeepL.repL ds e4⟩
theorem SeesL.repL {K : PySem.W.Frag} {s h : Hp} (u : Sub s h) : ∀ {vs : List V} (ds : List D), SeesL K T s vs ds → RepL K T s h vs (ds.map fun d => (d, im d)) []
  | _, [], r => by simp only [SeesL] at r; exact ⟨r, rfl⟩
  | _, d :: ds, r => by
    simp only [SeesL] at r
    obtain ⟨v, q, e1, e3, e4⟩ := r
    exact ⟨v, q, [], [], e1, rfl, e3.rep u, SeesL.repL u ds e4⟩
theorem Rep.unTup {K : PySem.W.Frag} {s h : Hp} {B : List Addr} {v : V} {dm : D × M} {ds : List (D × M)} (u : Sub s h) (rp : Rep K T s h v dm.1 dm.2 B) (q : G.unTup dm = some ds) : ∃ p vs, v = .ref p ∧ TupAt K h p vs ∧ RepL K T s h vs ds B := by
  obtain ⟨d, m⟩ := dm
  unfold G.unTup at q
  split at q
  · rename_i xs e1 e2
    cases q
    dsimp only at e1 e2
    subst e1 e2
    simp only [Rep, Deep] at rp
    obtain ⟨p, vs, rfl, r1, r2⟩ := rp
    exact ⟨p, vs, rfl, r1, DeepL.repL _ r2⟩
  · rename_i xs e1 e2
    cases q
    dsimp only at e1 e2
    subst e1 e2
    simp only [Rep, Sees] at rp
    obtain ⟨rfl, p, vs, rfl, r1, r2⟩ := rp
    exact ⟨p, vs, rfl, sqT_ext u r1, SeesL.repL u _ r2⟩
  · cases q
def goTup (n : Nat) (k : List (D × M) → Env' → Option Env') : D × M → Env' → Option Env' := fun x env => (unTup x).bind fun ds => if ds.length = n then k ds env else none
theorem jgo_tup {k1 : List (D × M) → Env' → Option Env'} {kk n : Nat} (hc : X.calm = true) (h : JGOs T X io es k1) (hn : (assignEach es X.env).length = n := by rfl) (hst : (assignEach es X.env).findIdx? (·.1) = none := by rfl) : JGO T X io (.Tuple es kk pos) (goTup n k1) := by
  refine ⟨fun pins sx σ H v u Q I r ⟨s, d, m, env, A, B, env', g, rp, q, w⟩ => ?_⟩
  obtain ⟨ds, e1, q⟩ := Option.bind_eq_some_iff.mp q
  split at q
  · rename_i hl
    obtain ⟨p, vs, rfl, r1, r2⟩ := Rep.unTup (dm := (d, m)) g.sub rp e1
    exact (pg_tup (n := n) hc h hn hst).run pins sx σ H _ u Q I r ⟨p, vs, rfl, r1.sq, by rw [r2.len]; exact hl, s, ds, env, A, B, env', g, r2, q, w⟩
  · cases q
/-- target = e -/
def sAsg (f : Env' → Option (D × M × Env')) (g : D × M → Env' → Option Env') : Sf := fun env => (f env).bind fun x => (g (x.1, x.2.1) x.2.2).bind fun e => some (.nx, e)
theorem js_asg {g : D × M → Env' → Option Env'} (he : JE T X e f) (hg : JGO T X io tg g) (hs : swapsWithSole [tg] e pos.line X.env = pure false := by rfl) (hw : swappedStores [tg] e X.env = pure none := by rfl) (h1 : (assignEach [tg] X.env).map (·.2) = [assign tg X.env] := by rfl) :
    JS T X io (.Assign [tg] e pos) (sAsg f g) := js_mk (ps_asg he hg hs hw h1) fun E σ h ⟨s, env, A, fl, env', o, q, w⟩ => by
  obtain ⟨⟨d, m, env1⟩, e1, q⟩ := Option.bind_eq_some_iff.mp q
  obtain ⟨env2, e2, q⟩ := Option.bind_eq_some_iff.mp q
  cases q
  exact ⟨s, env, A, d, m, env1, o, e1, fun v s' h' A' B g1 => ⟨s', d, m, env1, A', B, _, g1.hold, g1.rp, e2, fun σ' s2 h2 A2 g2 p => w σ' s2 h2 A2 (Go.after g1.st g1.wh g2) p⟩⟩
/-- a, b = x, y -/
def sPar (io : List Bool) (i j : Nat) (k : Env' → Option (List (D × M) × Env')) : Sf := fun env => (k env).bind fun r => match r.1 with
  | [x, y] => (putS io i x r.2).bind fun e1 => (putS io j y e1).bind fun e2 => some (.nx, e2)
  | _ => none
theorem js_par {i j : Nat} {x y : Str} {px py pt : Pos} {kt k2 pt2} {k1 : Env' → Option (List (D × M) × Env')} (hc : X.calm = true) (hN : X.N.Nodup) (hi : X.N[i]? = some x) (hj : X.N[j]? = some y) (hij : i ≠ j)
    (hx : X.env.scope.names.lookup x = some .local) (hy : X.env.scope.names.lookup y = some .local) (ha : JAE T X [a, b] k1)
    (hw : swappedStores [.Tuple [.Name x px, .Name y py] kt pt] (.Tuple [a, b] k2 pt2) X.env = pure (some [x, y]) := by rfl)
    (hs : swapsWithSole [.Tuple [.Name x px, .Name y py] kt pt] (.Tuple [a, b] k2 pt2) pos.line X.env = pure false := by rfl) :
    JS T X io (.Assign [.Tuple [.Name x px, .Name y py] kt pt] (.Tuple [a, b] k2 pt2) pos) (sPar io i j k1) := js_mk (ps_par hc hN hi hj hij hx hy ha hw hs) fun E σ h ⟨s, env, A, fl, env', o, q, w⟩ => by
  obtain ⟨⟨ds, env1⟩, e1, q⟩ := Option.bind_eq_some_iff.mp q
  dsimp only at q
  split at q
  · rename_i d1 d2
    obtain ⟨env2, e2, q⟩ := Option.bind_eq_some_iff.mp q
    obtain ⟨env3, e3, q⟩ := Option.bind_eq_some_iff.mp q
    cases q
    refine ⟨s, env, A, _, env1, o, e1, fun vs s1 h1 A1 B1 g1 => ?_⟩
    obtain ⟨v, vr, B1, B2, rfl, rfl, gh, r2⟩ := g1.head
    obtain ⟨p1, A2, g2, sb⟩ := GotE.putN gh e2
    have g3 := g1.tl r2 g2 sb
    obtain ⟨v2, vr2, B3, B4, rfl, rfl, gh2, r3⟩ := g3.head
    obtain ⟨p2, A3, g4, sb2⟩ := GotE.putN gh2 e3
    obtain ⟨rfl, _⟩ := r3
    exact ⟨v, v2, rfl, w _ s1 h1 A3 g4 (p1.trans p2)⟩
  · cases q
def sPar3 (io : List Bool) (i j l : Nat) (k : Env' → Option (List (D × M) × Env')) : Sf := fun env => (k env).bind fun r => match r.1 with
  | [x, y, z] => (putS io i x r.2).bind fun e1 => (putS io j y e1).bind fun e2 => (putS io l z e2).bind fun e3 => some (.nx, e3)
  | _ => none
theorem js_par3 {i j l : Nat} {x y z : Str} {px py pz pt : Pos} {kt k2 pt2} {k1 : Env' → Option (List (D × M) × Env')} (hc : X.calm = true) (hN : X.N.Nodup) (hi : X.N[i]? = some x) (hj : X.N[j]? = some y) (hl : X.N[l]? = some z) (hij : i ≠ j) (hil : i ≠ l) (hjl : j ≠ l)
    (hx : X.env.scope.names.lookup x = some .local) (hy : X.env.scope.names.lookup y = some .local) (hz : X.env.scope.names.lookup z = some .local) (ha : JAE T X [a, b, c] k1)
    (hw : swappedStores [.Tuple [.Name x px, .Name y py, .Name z pz] kt pt] (.Tuple [a, b, c] k2 pt2) X.env = pure (some [x, y, z]) := by rfl)
    (hs : swapsWithSole [.Tuple [.Name x px, .Name y py, .Name z pz] kt pt] (.Tuple [a, b, c] k2 pt2) pos.line X.env = pure false := by rfl) :
    JS T X io (.Assign [.Tuple [.Name x px, .Name y py, .Name z pz] kt pt] (.Tuple [a, b, c] k2 pt2) pos) (sPar3 io i j l k1) := js_mk (ps_par3 hc hN hi hj hl hij hil hjl hx hy hz ha hw hs) fun E σ h ⟨s, env, A, fl, env', o, q, w⟩ => by
  obtain ⟨⟨ds, env1⟩, e1, q⟩ := Option.bind_eq_some_iff.mp q
  dsimp only at q
  split at q
  · rename_i d1 d2 d3
    obtain ⟨env2, e2, q⟩ := Option.bind_eq_some_iff.mp q
    obtain ⟨env3, e3, q⟩ := Option.bind_eq_some_iff.mp q
    obtain ⟨env4, e4, q⟩ := Option.bind_eq_some_iff.mp q
    cases q
    refine ⟨s, env, A, _, env1, o, e1, fun vs s1 h1 A1 B1 g1 => ?_⟩
    obtain ⟨v, vr, B1, B2, rfl, rfl, gh, r2⟩ := g1.head
    obtain ⟨p1, A2, g2, sb⟩ := GotE.putN gh e2
    have g3 := g1.tl r2 g2 sb
    obtain ⟨v2, vr2, B3, B4, rfl, rfl, gh2, r3⟩ := g3.head
    obtain ⟨p2, A3, g4, sb2⟩ := GotE.putN gh2 e3
    have g5 := g3.tl r3 g4 sb2
    obtain ⟨v3, vr3, B5, B6, rfl, rfl, gh3, r4⟩ := g5.head
    obtain ⟨p3, A4, g6, sb3⟩ := GotE.putN gh3 e4
    obtain ⟨rfl, _⟩ := r4
    exact ⟨v, v2, v3, rfl, w _ s1 h1 A4 g6 ((p1.trans p2).trans p3)⟩
  · cases q
end
end G
set_option Elab.async false
set_option linter.all false
set_option maxRecDepth 100000
set_option maxHeartbeats 4000000
/-! G10: loops; lists and dicts that are changed -/
namespace G
open PySem PySem.Spec PyProof.Rows L2
/-! ### loops -/
def forL (g : D × M → Env' → Option Env') (b : Sf) : List D → Env' → Option (Fl × Env')
  | [], env => some (.nx, env)
  | d :: ds, env => (g (d, im d) env).bind fun e1 => (b e1).bind fun r => match r.1 with
    | .nx => forL g b ds r.2
    | .ct => forL g b ds r.2
    | .bk => some (.nx, r.2)
    | .rt d m => some (.rt d m, r.2)
def tIE (K : PySem.W.Frag) (T : Tx) (f : Env' → Option (List D × Env')) : TI := fun σ h R => ∃ s env A ds env', Own K T s h σ env A ∧ f env = some (ds, env') ∧ ∀ J s' h' A', Go K T s h A σ env' s' h' A' → ItOk K T J s' ds → R J h'
def JIE (T : Tx) (X : Cx) (tg e : Expr) (f : Env' → Option (List D × Env')) : Prop := PI X tg e (tIE X.K T f)
section
variable {X : Cx} {T : Tx} {io : List Bool} {a b c e tg : Expr} {es : List Expr} {st : Stmt} {rest sa sb body : List Stmt} {f k : Env' → Option (D × M × Env')} {F1 F2 fb : Sf} {ft : Env' → Option (Bool × Env')} {pos p : Pos}
theorem ji_mk {t : TI} {g : Env' → Option (List D × Env')} (h : PI X tg e t) (r : ∀ (σ : St) (h : Hp) (R : It → Hp → Prop), tIE X.K T g σ h R → t σ h R) : JIE T X tg e g := ⟨fun pins s σ H R I q => h.run pins s σ H R I (r σ H R q)⟩
theorem Go.of_ats {K : PySem.W.Frag} {s h s' h' : Hp} {σ : St} {env : Env'} {A : List Addr} (o : Own K T s h σ env A) (g : Gr T (shr s h []) h s' h') : Go K T s h A σ env s' h' A := (GotE.of_shared o (v := .non) (d := .non) (m := .dp) (B := []) ⟨g, by simp [Rep, Deep], Fresh.nil⟩).go
/-- what is walked only reads what is shared -/
def iS (f : VEnv → Option (List D)) : Env' → Option (List D × Env') := fun env => (f (shv env)).bind fun ds => some (ds, env)
theorem jie_s {f : VEnv → Option (List D)} (h : JI T X tg e f) : JIE T X tg e (iS f) := by
  obtain ⟨wi, i1, i2⟩ := h
  refine ji_mk i1 fun σ h R ⟨s, env, A, ds, env', o, q, w⟩ => ?_
  obtain ⟨ds', e1, q⟩ := Option.bind_eq_some_iff.mp q
  cases q
  exact i2 σ _ h (shv env) ds R o.ats e1 fun J s' h' g io => w J s' h' A (Go.of_ats o g) io
/-- any list -/
def iLstE (f : Env' → Option (D × M × Env')) : Env' → Option (List D × Env') := fun env => (f env).bind fun x => match x.1 with
  | .lst ds => some (ds, x.2.2)
  | _ => none
theorem jie_list (ha : JE T X e f) : JIE T X tg e (iLstE f) := ji_mk (pi_list ha) fun σ h R ⟨s, env, A, ds, env', o, q, w⟩ => by
  obtain ⟨⟨d, m, env1⟩, e1, q⟩ := Option.bind_eq_some_iff.mp q
  refine ⟨s, env, A, d, m, env1, o, e1, fun v s1 h1 A1 B1 g1 => ?_⟩
  obtain ⟨g2, r2⟩ := g1.seen
  dsimp only at q
  split at q
  · cases q
    simp only [Sees] at r2
    obtain ⟨p, vs, rfl, e2, e3⟩ := r2
    exact ⟨p, rfl, ⟨vs, SqL.of (g2.own.sub.at_ _ _ e2 (by intro _ z; cases z))⟩, w _ _ h1 A1 g2 (itOk_list e2 e3)⟩
  · cases q
def iTupE (f : Env' → Option (D × M × Env')) : Env' → Option (List D × Env') := fun env => (f env).bind fun x => match x.1 with
  | .tup ds => some (ds, x.2.2)
  | _ => none
theorem jie_tup (ha : JE T X e f) : JIE T X tg e (iTupE f) := ji_mk (pi_tup ha) fun σ h R ⟨s, env, A, ds, env', o, q, w⟩ => by
  obtain ⟨⟨d, m, env1⟩, e1, q⟩ := Option.bind_eq_some_iff.mp q
  refine ⟨s, env, A, d, m, env1, o, e1, fun v s1 h1 A1 B1 g1 => ?_⟩
  obtain ⟨g2, r2⟩ := g1.seen
  dsimp only at q
  split at q
  · cases q
    simp only [Sees] at r2
    obtain ⟨p, vs, rfl, e2, e3⟩ := r2
    exact ⟨p, rfl, ⟨vs, (sqT_ext g2.own.sub e2).sq⟩, w _ _ h1 A1 g2 (itOk_tup e2 e3)⟩
  · cases q
def iRg1E (f : Env' → Option (D × M × Env')) : Env' → Option (List D × Env') := fun env => (f env).bind fun x => match x.1 with
  | .int j => if bd62 j then some (rgD 0 j, x.2.2) else none
  | _ => none
def iRg2E (f k : Env' → Option (D × M × Env')) : Env' → Option (List D × Env') := fun env => (f env).bind fun x => (k x.2.2).bind fun y => match x.1, y.1 with
  | .int i, .int j => if bd62 i && bd62 j then some (rgD i j, y.2.2) else none
  | _, _ => none
theorem jie_range1 {p : Pos} (hg : Gl X "range") (hm : X.mg "range" = none) (ha : JE T X a f) (hs : starEach [a] X.env = [(false, eval a X.env)] := by rfl) : JIE T X tg (.Call (.Name "range" p) [a] [] pos) (iRg1E f) := by
  refine ji_mk (pi_range1 hg hm (pa_cons ha pa_nil hs) hs) fun σ h R ⟨s, env, A, ds, env', o, q, w⟩ => ?_
  obtain ⟨⟨d, m, env1⟩, e1, q⟩ := Option.bind_eq_some_iff.mp q
  refine ⟨s, env, A, d, m, env1, o, e1, fun v s1 h1 A1 B1 g1 => ?_⟩
  obtain ⟨g2, r2⟩ := g1.seen
  dsimp only at q
  split at q
  · split at q
    · rename_i hb
      cases q
      simp only [Sees] at r2
      subst r2
      replace hb := bd62_b hb
      exact ⟨_, rfl, hb.1, hb.2, w _ _ h1 A1 g2 itOk_range0⟩
    · cases q
  · cases q
theorem jie_range2 {p : Pos} (hg : Gl X "range") (hm : X.mg "range" = none) (ha : JE T X a f) (hb : JE T X b k) (hs : starEach [a, b] X.env = [(false, eval a X.env), (false, eval b X.env)] := by rfl) (hs2 : starEach [b] X.env = [(false, eval b X.env)] := by rfl) :
    JIE T X tg (.Call (.Name "range" p) [a, b] [] pos) (iRg2E f k) := by
  refine ji_mk (pi_range2 hg hm (pa_cons ha (pa_cons hb pa_nil hs2) (by rw [hs, hs2])) hs hs2) fun σ h R ⟨s, env, A, ds, env', o, q, w⟩ => ?_
  obtain ⟨⟨d, m, env1⟩, e1, q⟩ := Option.bind_eq_some_iff.mp q
  obtain ⟨⟨d', m', env2⟩, e2, q⟩ := Option.bind_eq_some_iff.mp q
  refine ⟨s, env, A, d, m, env1, o, e1, fun v s1 h1 A1 B1 g1 => ?_⟩
  obtain ⟨g2, r2⟩ := g1.seen
  refine ⟨_, env1, A1, d', m', env2, g2.own, e2, fun v' s3 h3 A3 B3 g3 => ?_⟩
  obtain ⟨g4, r4⟩ := g3.seen
  dsimp only at q
  split at q
  · split at q
    · rename_i hb
      cases q
      simp only [Sees] at r2 r4
      subst r2 r4
      replace hb := and62 hb
      exact ⟨_, _, rfl, ⟨hb.1.1, hb.1.2, hb.2.1, hb.2.2⟩, w _ _ h3 A3 (g2.trans g4) itOk_range⟩
    · cases q
  · cases q
theorem loop_go {K : PySem.W.Frag} {J : It} {g : D × M → Env' → Option Env'} {s h s1 h1 : Hp} {σ : St} {A A1 : List Addr} {ds : List D} {env env' : Env'} {fl : Fl} {E : Ends} (IO : ItOk K T J s1 ds) (g1 : Go K T s h A σ env s1 h1 A1) (q : forL g fb ds env = some (fl, env'))
    (w : EndS K T io s h A σ fl env' E) : ∃ W : Nat → Nat → St → Hp → Prop, (∃ m, W 0 m σ h1) ∧ ∀ i m σ H, W i m σ H → (J.stop i H ∧ E.nx σ H) ∨ (J.go i H ∧ ∃ N : St → Hp → Prop, (∀ σ' H', N σ' H' → ∃ m', m' < m ∧ W (i + 1) m' σ' H') ∧ ∀ x H', J.yld i H x H' →
      tGO K T io g x σ H' fun σ2 H2 => tS K T io fb { E with nx := N, ct := N, bk := E.nx } σ2 H2) := by
  refine ⟨fun i m σi H => m = ds.length - i ∧ i ≤ ds.length ∧ ∃ si envi Ai, Go K T s h A σi envi si H Ai ∧ Sub s1 si ∧ Pin io σ σi ∧ forL g fb (ds.drop i) envi = some (fl, env'),
    ⟨ds.length, by simp, Nat.zero_le _, s1, env, A1, g1, Sub.rfl', Pin.rfl', q⟩, ?_⟩
  rintro i m σi H ⟨rfl, hi, si, envi, Ai, gi, ui, pi, qi⟩
  by_cases hlt : i < ds.length
  · refine .inr ⟨IO.go i H (ui.trans gi.own.sub) hlt, fun σ' H' => i + 1 ≤ ds.length ∧ ∃ si envi Ai, Go K T s h A σ' envi si H' Ai ∧ Sub s1 si ∧ Pin io σ σ' ∧ forL g fb (ds.drop (i + 1)) envi = some (fl, env'),
      fun σ' H' hN => ⟨ds.length - (i + 1), by omega, rfl, hN.1, hN.2⟩, fun x H' hy => ?_⟩
    obtain ⟨d, s2, ed, g2, rx⟩ := IO.yld i si H x H' ui gi.own.sub gi.own.tab hlt hy
    have hdr : ds.drop i = d :: ds.drop (i + 1) := by
      obtain ⟨h0, h1'⟩ := List.getElem?_eq_some_iff.mp ed
      rw [← h1']
      exact (List.getElem_cons_drop h0).symm
    rw [hdr] at qi
    simp only [forL] at qi
    obtain ⟨env1, eg, qi⟩ := Option.bind_eq_some_iff.mp qi
    obtain ⟨⟨fl1, env2⟩, eb, qi⟩ := Option.bind_eq_some_iff.mp qi
    have g3 := gi.trans (Go.gr gi.own g2)
    have gx := GotE.sees g3 rx
    refine ⟨s2, d, im d, envi, Ai, [], env1, gx.hold, gx.rp, eg, fun σ2 s3 H2 A2 g4 p4 => ?_⟩
    have up : Sub s1 s3 := (ui.trans g2.ss).trans g4.st.ss
    have g4 := Go.after gx.st gx.wh g4
    refine ⟨s3, env1, A2, fl1, env2, g4.own, eb, ?_⟩
    have N1 : ∀ σ' s' h' A', Go K T s3 H2 A2 σ' env2 s' h' A' → Pin io σ2 σ' → forL g fb (ds.drop (i + 1)) env2 = some (fl, env') → i + 1 ≤ ds.length ∧ ∃ si envi Ai, Go K T s h A σ' envi si h' Ai ∧ Sub s1 si ∧ Pin io σ σ' ∧ forL g fb (ds.drop (i + 1)) envi = some (fl, env') :=
      fun σ' s' h' A' g5 p5 q5 => ⟨by omega, s', env2, A', g4.trans g5, up.trans g5.st.ss, (pi.trans p4).trans p5, q5⟩
    have wp := w.pre g4 (pi.trans p4)
    cases fl1 with
    | nx => exact fun σ' s' h' A' g5 p5 => N1 σ' s' h' A' g5 p5 qi
    | ct => exact fun σ' s' h' A' g5 p5 => N1 σ' s' h' A' g5 p5 qi
    | bk => cases qi; exact wp
    | rt d m => cases qi; exact wp
  · have hie : i = ds.length := by omega
    subst hie
    refine .inl ⟨IO.stop _ H (ui.trans gi.own.sub) (Nat.le_refl _), ?_⟩
    simp only [List.drop_length, forL] at qi
    cases qi
    exact w σi si H Ai gi pi
def sFor (i : Env' → Option (List D × Env')) (g : D × M → Env' → Option Env') (b : Sf) : Sf := fun env => (i env).bind fun x => forL g b x.1 x.2
theorem js_for {i : Env' → Option (List D × Env')} {g : D × M → Env' → Option Env'} (hp : PassesOwn (model X.prog X.w) X.A X.env X.xe) (hc : X.calm = true) (hi : JIE T X tg e i) (hg : JGO T X io tg g) (hb : JSs T X io body fb) (hs : ∀ x, foldedSetIterable e X.env x = pure x := by intro _; rfl) :
    JS T X io (.For tg e body [] pos) (sFor i g fb) := js_mk (ps_for hp hc hi hg hb hs) fun E σ h ⟨s, env, A, fl, env', o, q, w⟩ => by
  obtain ⟨⟨ds, env1⟩, e1, q⟩ := Option.bind_eq_some_iff.mp q
  exact ⟨s, env, A, ds, env1, o, e1, fun J s' h' A' g1 IO => loop_go IO g1 q w⟩
def whL (t : Env' → Option (Bool × Env')) (b : Sf) : Nat → Env' → Option (Fl × Env')
  | 0, _ => none
  | n + 1, env => (t env).bind fun x => if x.1 = true then (b x.2).bind fun r => match r.1 with
      | .nx => whL t b n r.2
      | .ct => whL t b n r.2
      | .bk => some (.nx, r.2)
      | .rt d m => some (.rt d m, r.2)
    else some (.nx, x.2)
theorem whL_mono {t : Env' → Option (Bool × Env')} : ∀ {n : Nat} {env : Env'} {r : Fl × Env'}, whL t fb n env = some r → whL t fb (n + 1) env = some r
  | 0, _, _, q => by simp [whL] at q
  | n + 1, env, r, q => by
    unfold whL at q ⊢
    obtain ⟨⟨z, env1⟩, e1, q⟩ := Option.bind_eq_some_iff.mp q
    rw [e1]
    dsimp only [Option.bind_some] at q ⊢
    cases z with
    | false => simpa using q
    | true =>
      simp only [if_true] at q ⊢
      obtain ⟨⟨fl, env2⟩, e2, q⟩ := Option.bind_eq_some_iff.mp q
      rw [e2]
      dsimp only [Option.bind_some] at q ⊢
      cases fl with
      | nx => exact whL_mono q
      | ct => exact whL_mono q
      | bk => exact q
      | rt d m => exact q
theorem whL_le {t : Env' → Option (Bool × Env')} {n m : Nat} {env : Env'} {r : Fl × Env'} (q : whL t fb n env = some r) (h : n ≤ m) : whL t fb m env = some r := by
  induction h with
  | refl => exact q
  | step _ ih => exact whL_mono ih
/-- more turns than any loop here makes -/
def fuel : Nat := 4294967296
def sWhile (t : Env' → Option (Bool × Env')) (b : Sf) : Sf := whL t b fuel
theorem sWhile_eq {t : Env' → Option (Bool × Env')} {n : Nat} {env : Env'} {r : Fl × Env'} (q : whL t fb n env = some r) (h : n ≤ fuel) : sWhile t fb env = some r := whL_le q h
theorem js_while {t : Env' → Option (Bool × Env')} (hp : PassesOwn (model X.prog X.w) X.A X.env X.xe) (hc : JTE T X c t) (hb : JSs T X io body fb) : JS T X io (.While c body [] pos) (sWhile t fb) := js_mk (ps_while hp hc hb) fun E σ h ⟨s, env, A, fl, env', o, q, w⟩ => by
  let n0 := fuel
  refine ⟨fun m σi H => ∃ si envi Ai, Go X.K T s h A σi envi si H Ai ∧ Pin io σ σi ∧ whL t fb m envi = some (fl, env'), ⟨n0, s, env, A, Go.refl o, Pin.rfl', q⟩, ?_⟩
  rintro m σi H ⟨si, envi, Ai, gi, pi, qi⟩
  cases m with
  | zero => simp [whL] at qi
  | succ m =>
    unfold whL at qi
    obtain ⟨⟨z, env1⟩, e1, qi⟩ := Option.bind_eq_some_iff.mp qi
    refine ⟨si, envi, Ai, z, env1, gi.own, e1, fun s1 h1 A1 g1 => ?_⟩
    cases z with
    | false =>
      simp only [Bool.false_eq_true, if_false] at qi ⊢
      cases qi
      exact w σi s1 h1 A1 (gi.trans g1) pi
    | true =>
      simp only [if_true] at qi ⊢
      obtain ⟨⟨fl1, env2⟩, e2, qi⟩ := Option.bind_eq_some_iff.mp qi
      refine ⟨fun σ' H' => ∃ si envi Ai, Go X.K T s h A σ' envi si H' Ai ∧ Pin io σ σ' ∧ whL t fb m envi = some (fl, env'), fun σ' H' hN => ⟨m, Nat.lt_succ_self m, hN⟩, s1, env1, A1, fl1, env2, g1.own, e2, ?_⟩
      have g2 := gi.trans g1
      have wp := w.pre g2 pi
      cases fl1 with
      | nx => exact fun σ' s' h' A' g5 p5 => ⟨s', env2, A', g2.trans g5, pi.trans p5, qi⟩
      | ct => exact fun σ' s' h' A' g5 p5 => ⟨s', env2, A', g2.trans g5, pi.trans p5, qi⟩
      | bk => cases qi; exact wp
      | rt d m => cases qi; exact wp
end
end G
set_option Elab.async false
set_option linter.all false
set_option maxRecDepth 100000
set_option maxHeartbeats 4000000
/-! G11: lists and dicts that are changed -/
namespace G
open PySem PySem.Spec PyProof.Rows L2
section
variable {K : PySem.W.Frag} {T : Tx} {s s' s1 s2 h h' h1 h2 : Hp} {σ : St} {env env' env1 env2 : Env'} {A A' A1 A2 W B : List Addr}
theorem RepL.two {v w : V} {x y : D × M} {B C : List Addr} (r : Rep K T s h v x.1 x.2 B) (q : Rep K T s h w y.1 y.2 C) : RepL K T s h [v, w] [x, y] (B ++ C) :=
  ⟨v, [w], B, C, rfl, rfl, r, w, [], C, [], rfl, (List.append_nil C).symm, q, rfl, rfl⟩
theorem RepL.two0 {v w : V} {x y : D × M} {C : List Addr} (r : Rep K T s h v x.1 x.2 []) (q : Rep K T s h w y.1 y.2 C) : RepL K T s h [v, w] [x, y] C := RepL.two r q
theorem RepL.non2 {w : V} {y : D × M} {C : List Addr} (q : Rep K T s h w y.1 y.2 C) : RepL K T s h [.non, w] [(.non, .dp), y] C := RepL.two0 (by simp [Rep, Deep]) q
/-- some things in the hand -/
structure Hd (K : PySem.W.Frag) (T : Tx) (s h : Hp) (A : List Addr) (σ : St) (env' : Env') (s' h' : Hp) (A' B : List Addr) : Prop where
  st : Step T A s h s' h'
  tab : Tabs T h'
  er : EnvRep K T s' h' σ env' A'
  nd : (A' ++ B).Nodup
  fr : ∀ a ∈ A' ++ B, s' a = none
  wh : ∀ a ∈ A' ++ B, a ∈ A ∨ h a = none
  mem : ∀ b ∈ B, ∃ o, h' b = some o ∧ Mu o
theorem GotL.hd {vs : List V} {ds : List (D × M)} (g : GotL K T s h A σ vs ds env s1 h1 A1 B) : Hd K T s h A σ env s1 h1 A1 B := ⟨g.st, g.tab, g.er, g.nd, g.fr, g.wh, g.rp.mem⟩
theorem Hd.got {vs : List V} {ds : List (D × M)} (g : Hd K T s h A σ env s1 h1 A1 B) (r : RepL K T s1 h1 vs ds B) : GotL K T s h A σ vs ds env s1 h1 A1 B := ⟨g.st, g.tab, g.er, r, g.nd, g.fr, g.wh⟩
/-- fewer, in another order -/
theorem Hd.less {B' : List Addr} (g : Hd K T s h A σ env s1 h1 A1 B) (nd : B'.Nodup) (sb : ∀ b ∈ B', b ∈ B) : Hd K T s h A σ env s1 h1 A1 B' := by
  obtain ⟨n1, n2, n3⟩ := List.nodup_append.mp g.nd
  have up : ∀ a ∈ A1 ++ B', a ∈ A1 ++ B := fun a ha => (List.mem_append.mp ha).elim (List.mem_append_left _) fun z => List.mem_append_right _ (sb a z)
  exact ⟨g.st, g.tab, g.er, List.nodup_append.mpr ⟨n1, nd, fun a ha b hb => n3 a ha b (sb b hb)⟩, fun a ha => g.fr a (up a ha), fun a ha => g.wh a (up a ha), fun b hb => g.mem b (sb b hb)⟩
/-- the object at p becomes o', what stands at S is shared -/
theorem Hd.change {p : Addr} {o o' : HO} {S B' : List Addr} (g : Hd K T s h A σ env s1 h1 A1 B) (hp : p ∈ B) (e : h1 p = some o) (mu : Mu o) (mu' : Mu o') (hS : ∀ b ∈ S, b ∈ B) (pS : p ∉ S) (sb : ∀ b ∈ B', b ∈ B) (dis : ∀ b ∈ B', b ∉ S) (nd : B'.Nodup) :
    Hd K T s h A σ env (shr s1 h1 S) (upd h1 p o') A1 B' := by
  obtain ⟨n1, n3, n4⟩ := List.nodup_append.mp g.nd
  have st0 : Step T A s h (shr s1 h1 S) h1 := g.st.shr fun b hb => g.wh b (List.mem_append_right _ (hS b hb))
  have n2 : shr s1 h1 S p = none := shr_none (g.fr p (List.mem_append_right _ hp)) e mu pS
  have st2 : Step T (A1 ++ B) (shr s1 h1 S) h1 (shr s1 h1 S) (upd h1 p o') := Step.putO st0.sub (List.mem_append_right _ hp) e mu n2
  refine ⟨st0.trans st2 g.wh, st2.tab g.tab, ?_, List.nodup_append.mpr ⟨n1, nd, fun a ha b hb z => n4 a ha b (sb b hb) z⟩, fun a ha => ?_, fun a ha => ?_, fun b hb => ?_⟩
  · refine (g.er.shr g.st.sub).keep Sub.rfl' st2.tup fun b hb => ?_
    rw [upd_ne (fun z => by subst z; exact n4 b hb b hp rfl)]
  · rcases List.mem_append.mp ha with ha | ha
    · obtain ⟨u, eu, mu⟩ := g.er.mem a ha
      exact shr_none (g.fr a (List.mem_append_left _ ha)) eu mu fun z => n4 a ha a (hS a z) rfl
    · obtain ⟨u, eu, mu⟩ := g.mem a (sb a ha)
      exact shr_none (g.fr a (List.mem_append_right _ (sb a ha))) eu mu (dis a ha)
  · rcases List.mem_append.mp ha with ha | ha
    · exact g.wh a (List.mem_append_left _ ha)
    · exact g.wh a (List.mem_append_right _ (sb a ha))
  · by_cases z : b = p
    · exact ⟨o', by rw [z, upd_same], mu'⟩
    · rw [upd_ne z]; exact g.mem b (sb b hb)
theorem DeepL.put {vs : List V} {ds : List D} {p : Addr} {o o' : HO} {C : List Addr} (r : DeepL K T h1 vs ds C) (e : h1 p = some o) (mu : Mu o) (n : p ∉ C) : DeepL K T (upd h1 p o') vs ds C :=
  DeepL.keep (fun a xs q => by rw [upd_ne (fun z => by subst z; rw [q] at e; cases e; exact mu.elim)]; exact q) ds r fun b hb => by rw [upd_ne (fun z => by subst z; exact n hb)]
theorem Deep.put {v : V} {d : D} {p : Addr} {o o' : HO} {C : List Addr} (r : Deep K T h1 v d C) (e : h1 p = some o) (mu : Mu o) (n : p ∉ C) : Deep K T (upd h1 p o') v d C :=
  Deep.keep (fun a xs q => by rw [upd_ne (fun z => by subst z; rw [q] at e; cases e; exact mu.elim)]; exact q) d r fun b hb => by rw [upd_ne (fun z => by subst z; exact n hb)]
/-- an item taken out of a list -/
theorem DeepL.erase : ∀ {vs : List V} {ds : List D} {C : List Addr} {i : Nat} {d : D}, DeepL K T h vs ds C → ds[i]? = some d → ∃ v C1 Ck C2, vs[i]? = some v ∧ C = C1 ++ (Ck ++ C2) ∧ Deep K T h v d Ck ∧ DeepL K T h (vs.eraseIdx i) (ds.eraseIdx i) (C1 ++ C2) ∧ (∀ {x y E}, Deep K T h x y E → DeepL K T h (vs.set i x) (ds.set i y) (C1 ++ (E ++ C2)))
  | _, [], _, _, _, _, e => by simp at e
  | _, d0 :: ds, _, 0, d, r, e => by
    simp only [DeepL] at r
    obtain ⟨v, q, B1, B2, rfl, rfl, r1, r2⟩ := r
    simp at e
    subst e
    refine ⟨v, [], B1, B2, rfl, rfl, r1, r2, fun {x y E} hx => ?_⟩
    simp only [List.set_cons_zero, DeepL]
    exact ⟨x, q, E, B2, rfl, rfl, hx, r2⟩
  | _, d0 :: ds, _, i + 1, d, r, e => by
    simp only [DeepL] at r
    obtain ⟨v, q, B1, B2, rfl, rfl, r1, r2⟩ := r
    obtain ⟨w, C1, Ck, C2, e1, rfl, r3, r4, r5⟩ := DeepL.erase (i := i) r2 (by simpa using e)
    refine ⟨w, B1 ++ C1, Ck, C2, by simpa using e1, by simp, r3, ?_, fun {x y E} hx => ?_⟩
    · simp only [List.eraseIdx_cons_succ, DeepL]
      exact ⟨v, _, B1, C1 ++ C2, rfl, by simp, r1, r4⟩
    · simp only [List.set_cons_succ, DeepL]
      exact ⟨v, _, B1, C1 ++ (E ++ C2), rfl, by simp, r1, r5 hx⟩
theorem SeesL.erase : ∀ {vs : List V} {ds : List D} {i : Nat}, SeesL K T h vs ds → SeesL K T h (vs.eraseIdx i) (ds.eraseIdx i)
  | _, [], _, r => by simp only [SeesL] at r; subst r; simp [SeesL]
  | _, d0 :: ds, 0, r => by
    simp only [SeesL] at r
    obtain ⟨v, q, rfl, r1, r2⟩ := r
    exact r2
  | _, d0 :: ds, i + 1, r => by
    simp only [SeesL] at r
    obtain ⟨v, q, rfl, r1, r2⟩ := r
    simp only [List.eraseIdx_cons_succ, SeesL]
    exact ⟨v, _, rfl, r1, SeesL.erase r2⟩
theorem SeesL.set : ∀ {vs : List V} {ds : List D} {i : Nat} {x : V} {y : D}, SeesL K T h vs ds → Sees K T h x y → SeesL K T h (vs.set i x) (ds.set i y)
  | _, [], _, _, _, r, _ => by simp only [SeesL] at r; subst r; simp [SeesL]
  | _, d0 :: ds, 0, x, y, r, hx => by
    simp only [SeesL] at r
    obtain ⟨v, q, rfl, r1, r2⟩ := r
    simp only [List.set_cons_zero, SeesL]
    exact ⟨x, q, rfl, hx, r2⟩
  | _, d0 :: ds, i + 1, x, y, r, hx => by
    simp only [SeesL] at r
    obtain ⟨v, q, rfl, r1, r2⟩ := r
    simp only [List.set_cons_succ, SeesL]
    exact ⟨v, _, rfl, r1, SeesL.set r2 hx⟩
theorem DeepL.rev : ∀ {vs : List V} {ds : List D} {C : List Addr}, DeepL K T h vs ds C → ∃ C', C'.Perm C ∧ DeepL K T h vs.reverse ds.reverse C'
  | _, [], _, r => by
    simp only [DeepL] at r
    obtain ⟨rfl, rfl⟩ := r
    exact ⟨[], List.Perm.refl _, by simp [DeepL]⟩
  | _, d :: ds, _, r => by
    simp only [DeepL] at r
    obtain ⟨v, q, B1, B2, rfl, rfl, r1, r2⟩ := r
    obtain ⟨C', p, r3⟩ := DeepL.rev r2
    refine ⟨C' ++ B1, (List.perm_append_comm).trans (List.Perm.append_left B1 p), ?_⟩
    simp only [List.reverse_cons]
    exact r3.app (DeepL.one r1)
end
/-- a method that changes its own list: what it does in the hand. g: the list, the other arguments; the answer, the list behind it -/
abbrev Mf := D × M → List (D × M) → Option ((D × M) × (D × M))
def OMut (T : Tx) (X : Cx) (id : String) (g : Mf) : Prop := ∃ r, MtM X id r ∧ ∀ (s h : Hp) (A : List Addr) (σ : St) (v : V) (vs : List V) (x : D × M) (ds : List (D × M)) (env : Env') (s1 h1 : Hp) (A1 B : List Addr) (y z : D × M) (Q : VK),
  GotL X.K T s h A σ (v :: vs) (x :: ds) env s1 h1 A1 B → g x ds = some (y, z) → (∀ w s2 h2 B2, GotL X.K T s h A σ [w, v] [y, z] env s2 h2 A1 B2 → Q w h2) → r v vs h1 Q
section
variable {X : Cx} {T : Tx}
def both (a b : M) : M := if a = .dp ∧ b = .dp then .dp else .o1
def gAppend : Mf := fun x ds => match x.1, x.2, ds with
  | .lst xs, .dp, [(d, m)] => if xs.length < lim then some ((.non, .dp), (.lst (xs ++ [d]), if m = .dp then .dp else .o1)) else none
  | .lst xs, .o1, [(d, _)] => if xs.length < lim then some ((.non, .dp), (.lst (xs ++ [d]), .o1)) else none
  | _, _, _ => none
theorem om_append : OMut T X "list.append" gAppend := by
  refine ⟨_, mt_append, fun s h A σ v vs x ds env s1 h1 A1 B y z Q g q w => ?_⟩
  obtain ⟨dx, mx⟩ := x
  have hh := g.hd
  obtain ⟨v', q', B0, B1, e1, rfl, r0, r1⟩ := g.rp
  cases e1
  unfold gAppend at q
  dsimp only at q r0
  split at q
  · rename_i xs d m
    split at q
    · rename_i hl
      cases q
      simp only [Rep, Deep] at r0
      obtain ⟨p, vs, C, rfl, e2, rfl, e3⟩ := r0
      obtain ⟨vx, q2, B2, B3, rfl, rfl, r2, r3⟩ := r1
      obtain ⟨rfl, rfl⟩ := r3
      rw [List.append_nil] at hh g
      obtain ⟨n1, n2, n3⟩ := List.nodup_append.mp hh.nd
      have n2' : (p :: (C ++ B2)).Nodup := by simpa using n2
      obtain ⟨np, n4⟩ := List.nodup_cons.mp n2'
      obtain ⟨n5, n6, n7⟩ := List.nodup_append.mp n4
      refine ⟨p, vs, vx, rfl, rfl, e2, by rw [DeepL.len _ e3, ← lim_eq]; exact hl, ?_⟩
      by_cases hm : m = .dp
      · subst hm
        have H2 := hh.change (o' := .lst (vs ++ [vx])) (S := []) (B' := p :: (C ++ B2)) (by simp) e2 trivial trivial (by simp) (by simp) (by simp) (by simp) n2'
        refine w _ _ _ _ (H2.got (RepL.non2 ?_))
        simp only [if_true, Rep, Deep]
        refine ⟨p, _, C ++ B2, rfl, upd_same, rfl, (e3.put e2 trivial (fun z => np (List.mem_append_left _ z))).app (DeepL.one (Deep.put (show Deep X.K T h1 vx d B2 from r2) e2 trivial (fun z => np (List.mem_append_right _ z))))⟩
      · have H2 := hh.change (o' := .lst (vs ++ [vx])) (S := C ++ B2) (B' := [p]) (by simp) e2 trivial trivial (fun b hb => by simpa using Or.inr (List.mem_append.mp hb)) np (by simp) (by simpa using np) (by simp)
        refine w _ _ _ _ (H2.got (RepL.non2 ?_))
        rw [if_neg hm]
        exact ⟨p, rfl, rfl, _, upd_same, (DeepL.shr _ e3 (fun b hb => List.mem_append_left _ hb)).app (SeesL.one (r2.shr g.st.sub fun b hb => List.mem_append_right _ hb))⟩
    · cases q
  · rename_i xs d m
    split at q
    · rename_i hl
      cases q
      simp only [Rep] at r0
      obtain ⟨p, rfl, rfl, vs, e2, e3⟩ := r0
      obtain ⟨vx, q2, B2, B3, rfl, rfl, r2, r3⟩ := r1
      obtain ⟨rfl, rfl⟩ := r3
      rw [List.append_nil] at hh g
      obtain ⟨n1, n2, n3⟩ := List.nodup_append.mp hh.nd
      have n2' : (p :: B2).Nodup := by simpa using n2
      obtain ⟨np, n4⟩ := List.nodup_cons.mp n2'
      refine ⟨p, vs, vx, rfl, rfl, e2, by rw [SeesL.len _ e3, ← lim_eq]; exact hl, ?_⟩
      have H2 := hh.change (o' := .lst (vs ++ [vx])) (S := B2) (B' := [p]) (by simp) e2 trivial trivial (fun b hb => by simp [hb]) np (by simp) (by simpa using np) (by simp)
      refine w _ _ _ _ (H2.got (RepL.non2 ?_))
      exact ⟨p, rfl, rfl, _, upd_same, (e3.ext (sub_shr g.st.sub)).app (SeesL.one (r2.shr g.st.sub fun b hb => hb))⟩
    · cases q
  · cases q
/-- an item out of a list in the hand -/
theorem erase_go {K : PySem.W.Frag} {s h s1 h1 : Hp} {A A1 B : List Addr} {σ : St} {env : Env'} {p : Addr} {vs : List V} {xs : List D} {mx m : M} {k : Nat} {d : D} {Q : VK} (g : GotL K T s h A σ [.ref p] [(.lst xs, mx)] env s1 h1 A1 B) (e2 : h1 p = some (.lst vs)) (hd : xs[k]? = some d)
    (hm : (mx = .dp ∧ m = .dp) ∨ (mx = .o1 ∧ m = im d)) (w : ∀ w s2 h2 B2, GotL K T s h A σ [w, .ref p] [(d, m), (.lst (xs.eraseIdx k), mx)] env s2 h2 A1 B2 → Q w h2) : ∃ y, vs[k]? = some y ∧ Q y (upd h1 p (.lst (vs.eraseIdx k))) := by
  have hh := g.hd
  obtain ⟨v', q', B0, B1, e1, rfl, r0, r1⟩ := g.rp
  cases e1
  obtain ⟨_, rfl⟩ := r1
  rw [List.append_nil] at hh g
  obtain ⟨n1, n2, n3⟩ := List.nodup_append.mp hh.nd
  rcases hm with ⟨rfl, rfl⟩ | ⟨rfl, rfl⟩
  · simp only [Rep, Deep] at r0
    obtain ⟨p', vs', C, e0, e2', rfl, e3⟩ := r0
    cases e0
    rw [e2] at e2'
    cases e2'
    obtain ⟨y, C1, Ck, C2, ey, rfl, dy, dr, _⟩ := e3.erase hd
    obtain ⟨np, n4⟩ := List.nodup_cons.mp n2
    have hp := (perm_mid C1 Ck C2)
    have n5 : ((C1 ++ C2) ++ Ck).Nodup := hp.nodup_iff.mp n4
    have nin : ∀ b, b ∈ C1 ++ C2 ∨ b ∈ Ck → b ≠ p := fun b hb z => by
      subst z
      exact np (hp.mem_iff.mpr (List.mem_append.mpr hb))
    have nB : (Ck ++ (p :: (C1 ++ C2))).Nodup := by
      obtain ⟨m1, m2, m3⟩ := List.nodup_append.mp n5
      refine List.nodup_append.mpr ⟨m2, List.nodup_cons.mpr ⟨fun z => nin p (.inl z) rfl, m1⟩, fun a ha b hb z => ?_⟩
      rcases List.mem_cons.mp hb with rfl | hb
      · exact nin a (.inr ha) z
      · exact m3 b hb a ha z.symm
    have H2 := hh.change (o' := .lst (vs.eraseIdx k)) (S := []) (B' := Ck ++ (p :: (C1 ++ C2))) (by simp) e2 trivial trivial (by simp) (by simp) (fun b hb => by
      rcases List.mem_append.mp hb with hb | hb
      · exact List.mem_cons_of_mem _ (hp.mem_iff.mpr (List.mem_append_right _ hb))
      · rcases List.mem_cons.mp hb with rfl | hb
        · exact List.mem_cons_self
        · exact List.mem_cons_of_mem _ (hp.mem_iff.mpr (List.mem_append_left _ hb))) (by simp) nB
    refine ⟨y, ey, w y _ _ _ (H2.got (RepL.two ?_ ?_))⟩
    · exact Deep.put dy e2 trivial fun z => nin p (.inr z) rfl
    · simp only [Rep, Deep]
      exact ⟨p, _, C1 ++ C2, rfl, upd_same, rfl, dr.put e2 trivial fun z => nin p (.inl z) rfl⟩
  · simp only [Rep] at r0
    obtain ⟨p', e0, rfl, vs', e2', e3⟩ := r0
    cases e0
    rw [e2] at e2'
    cases e2'
    obtain ⟨y, ey, sy⟩ := e3.get hd
    have H2 := hh.change (o' := .lst (vs.eraseIdx k)) (S := []) (B' := [p]) (by simp) e2 trivial trivial (by simp) (by simp) (by simp) (by simp) (by simp)
    refine ⟨y, ey, w y _ _ _ (H2.got (RepL.two0 ?_ ?_))⟩
    · exact (sy.ext (sub_shr g.st.sub) d).rep H2.st.sub
    · exact ⟨p, rfl, rfl, _, upd_same, (e3.ext (sub_shr g.st.sub)).erase⟩
/-- how an item comes out -/
def outM (mx : M) (d : D) : Option M := match mx with
  | .dp => some .dp
  | .o1 => some (im d)
  | .sh => none
theorem outM_cases {mx m : M} {d : D} (h : outM mx d = some m) : (mx = .dp ∧ m = .dp) ∨ (mx = .o1 ∧ m = im d) := by
  cases mx with
  | dp => cases h; exact .inl ⟨rfl, rfl⟩
  | o1 => cases h; exact .inr ⟨rfl, rfl⟩
  | sh => cases h
theorem lst_at {K : PySem.W.Frag} {s h : Hp} {v : V} {xs : List D} {mx : M} {B : List Addr} (u : Sub s h) (r : Rep K T s h v (.lst xs) mx B) : ∃ p vs, v = .ref p ∧ h p = some (.lst vs) ∧ vs.length = xs.length := by
  have r1 := r.sees u
  simp only [Sees] at r1
  obtain ⟨p, vs, rfl, e1, e2⟩ := r1
  exact ⟨p, vs, rfl, e1, SeesL.len _ e2⟩
def gPop : Mf := fun x ds => match x.1, ds with
  | .lst xs, [] => (xs[xs.length - 1]?).bind fun d => (outM x.2 d).bind fun m => some ((d, m), (.lst xs.dropLast, x.2))
  | _, _ => none
theorem om_pop : OMut T X "list.pop" gPop := by
  refine ⟨_, mt_pop, fun s h A σ v vs x ds env s1 h1 A1 B y z Q g q w => ?_⟩
  obtain ⟨dx, mx⟩ := x
  unfold gPop at q
  dsimp only at q
  split at q
  · rename_i xs
    obtain ⟨d, e1, q⟩ := Option.bind_eq_some_iff.mp q
    obtain ⟨m, e2, q⟩ := Option.bind_eq_some_iff.mp q
    cases q
    obtain ⟨v', q', B0, B1, e0, rfl, r0, r1⟩ := g.rp
    cases e0
    obtain ⟨rfl, rfl⟩ := r1
    obtain ⟨p, ws, rfl, e3, e4⟩ := lst_at g.st.sub r0
    have ed : xs.dropLast = xs.eraseIdx (xs.length - 1) := by
      cases xs with
      | nil => rfl
      | cons a l => rw [List.eraseIdx_eq_dropLast (by simp)]
    have ew : ws.dropLast = ws.eraseIdx (ws.length - 1) := by
      cases ws with
      | nil => rfl
      | cons a l => rw [List.eraseIdx_eq_dropLast (by simp)]
    rw [ed] at w
    obtain ⟨y, ey, qy⟩ := erase_go (m := m) g e3 e1 (outM_cases e2) w
    refine ⟨p, ws, y, rfl, rfl, e3, by rw [e4]; exact ey, ?_⟩
    rw [ew, e4]
    exact qy
  · cases q
def gPopAt : Mf := fun x ds => match x.1, ds with
  | .lst xs, [(.int i, _)] => if bd62 i then (seqIndex? i xs.length).bind fun k => (xs[k]?).bind fun d => (outM x.2 d).bind fun m => some ((d, m), (.lst (xs.eraseIdx k), x.2)) else none
  | _, _ => none
theorem om_popAt : OMut T X "list.pop" gPopAt := by
  refine ⟨_, mt_popAt, fun s h A σ v vs x ds env s1 h1 A1 B y z Q g q w => ?_⟩
  obtain ⟨dx, mx⟩ := x
  unfold gPopAt at q
  dsimp only at q
  split at q
  · rename_i xs i mi
    split at q
    · rename_i hb
      replace hb := bd62_b hb
      obtain ⟨k, e5, q⟩ := Option.bind_eq_some_iff.mp q
      obtain ⟨d, e1, q⟩ := Option.bind_eq_some_iff.mp q
      obtain ⟨m, e2, q⟩ := Option.bind_eq_some_iff.mp q
      cases q
      have gg := g
      obtain ⟨v', q', B0, B1, e0, rfl, r0, r1⟩ := g.rp
      cases e0
      obtain ⟨vi, q2, B2, B3, rfl, rfl, r2, rfl, rfl⟩ := r1
      have si := r2.sees g.st.sub
      simp only [Sees] at si
      subst si
      obtain ⟨p, ws, rfl, e3, e4⟩ := lst_at g.st.sub r0
      have hB : B0.Nodup := (List.nodup_append.mp (List.nodup_append.mp g.nd).2.1).1
      have g1 : GotL X.K T s h A σ [.ref p] [(.lst xs, mx)] env s1 h1 A1 B0 := (g.hd.less hB (fun b hb => List.mem_append_left _ hb)).got ⟨.ref p, [], B0, [], rfl, by simp, r0, rfl, rfl⟩
      obtain ⟨y, ey, qy⟩ := erase_go (m := m) g1 e3 e1 (outM_cases e2) w
      exact ⟨p, ws, i, k, y, rfl, rfl, e3, by omega, by omega, by rw [e4]; exact e5, ey, qy⟩
    · cases q
  · cases q
def gReverse : Mf := fun x ds => match x.1, x.2, ds with
  | .lst xs, .dp, [] => some ((.non, .dp), (.lst xs.reverse, .dp))
  | .lst xs, .o1, [] => some ((.non, .dp), (.lst xs.reverse, .o1))
  | _, _, _ => none
theorem om_reverse : OMut T X "list.reverse" gReverse := by
  refine ⟨_, mt_reverse, fun s h A σ v vs x ds env s1 h1 A1 B y z Q g q w => ?_⟩
  obtain ⟨dx, mx⟩ := x
  have hh := g.hd
  obtain ⟨v', q', B0, B1, e1, rfl, r0, r1⟩ := g.rp
  cases e1
  unfold gReverse at q
  dsimp only at q r0
  split at q
  · rename_i xs
    cases q
    obtain ⟨rfl, rfl⟩ := r1
    rw [List.append_nil] at hh
    simp only [Rep, Deep] at r0
    obtain ⟨p, vs, C, rfl, e2, rfl, e3⟩ := r0
    obtain ⟨n1, n2, n3⟩ := List.nodup_append.mp hh.nd
    obtain ⟨np, n4⟩ := List.nodup_cons.mp n2
    obtain ⟨C', pm, r3⟩ := e3.rev
    refine ⟨p, vs, rfl, rfl, e2, ?_⟩
    have np' : p ∉ C' := fun z => np (pm.mem_iff.mp z)
    have H2 := hh.change (o' := .lst vs.reverse) (S := []) (B' := p :: C') (by simp) e2 trivial trivial (by simp) (by simp) (fun b hb => by
      rcases List.mem_cons.mp hb with rfl | hb
      · exact List.mem_cons_self
      · exact List.mem_cons_of_mem _ (pm.mem_iff.mp hb)) (by simp) (List.nodup_cons.mpr ⟨np', pm.nodup_iff.mpr n4⟩)
    refine w _ _ _ _ (H2.got (RepL.non2 ?_))
    simp only [Rep, Deep]
    exact ⟨p, _, C', rfl, upd_same, rfl, r3.put e2 trivial np'⟩
  · rename_i xs
    cases q
    obtain ⟨rfl, rfl⟩ := r1
    rw [List.append_nil] at hh
    simp only [Rep] at r0
    obtain ⟨p, rfl, rfl, vs, e2, e3⟩ := r0
    refine ⟨p, vs, rfl, rfl, e2, ?_⟩
    have H2 := hh.change (o' := .lst vs.reverse) (S := []) (B' := [p]) (by simp) e2 trivial trivial (by simp) (by simp) (by simp) (by simp) (by simp)
    refine w _ _ _ _ (H2.got (RepL.non2 ?_))
    exact ⟨p, rfl, rfl, _, upd_same, (e3.ext (sub_shr g.st.sub)).rev⟩
  · cases q
end
/-! ### the calls: on a slot, on what is only in the hand -/
section
variable {X : Cx} {T : Tx} {a b c e o tg : Expr} {es : List Expr} {f k : Env' → Option (D × M × Env')} {pos p apos cpos : Pos}
theorem GotL.fst {K : PySem.W.Frag} {s h s1 h1 : Hp} {A A1 B : List Addr} {σ : St} {w v : V} {y z : D × M} {env : Env'} {j : Nat} (g : GotL K T s h A σ [w, v] [y, z] env s1 h1 A1 B) (e : env[j]? = some none) (eσ : σ[j]? = some (some v)) :
    ∃ A2 B2, GotE K T s h A σ w y.1 y.2 (env.set j (some z)) s1 h1 A2 B2 := by
  obtain ⟨w', q, B1, B2, e1, rfl, r1, r2⟩ := g.rp
  cases e1
  obtain ⟨v', q, B3, B4, e1, rfl, r3, r4⟩ := r2
  cases e1
  obtain ⟨_, rfl⟩ := r4
  obtain ⟨C1, C2, rfl, q⟩ := g.er.putO e eσ (dm := z) r3
  have p1 : (C1 ++ (B3 ++ C2)).Perm ((C1 ++ C2) ++ B3) := perm_mid C1 B3 C2
  have p2 : ((C1 ++ (B3 ++ C2)) ++ B1).Perm ((C1 ++ C2) ++ (B1 ++ (B3 ++ []))) := by
    rw [List.append_nil]
    exact (List.Perm.append_right B1 p1).trans (by rw [List.append_assoc]; exact List.Perm.append_left _ List.perm_append_comm)
  exact ⟨C1 ++ (B3 ++ C2), B1, g.st, g.tab, q, r1, p2.nodup_iff.mpr g.nd, fun a ha => g.fr a (p2.mem_iff.mp ha), fun a ha => g.wh a (p2.mem_iff.mp ha)⟩
def isLst : Option (Option (D × M)) → Bool
  | some (some (.lst _, _)) => true
  | _ => false
/-- the step on slot j behind the arguments -/
def eOn (j : Nat) (g : Mf) (r : List (D × M) × Env') : Option (D × M × Env') := match r.2[j]? with
  | some (some x) => (g x r.1).bind fun y => some (y.1.1, y.1.2, r.2.set j (some y.2))
  | _ => none
def eMut (j : Nat) (g : Mf) (k : Env' → Option (List (D × M) × Env')) : Env' → Option (D × M × Env') := fun env => if isLst env[j]? then (k env).bind (eOn j g) else none
/-- slot j taken behind the arguments -/
theorem GotL.takeC {K : PySem.W.Frag} {s h s1 h1 : Hp} {A A1 B : List Addr} {σ : St} {vs : List V} {ds : List (D × M)} {env : Env'} {j : Nat} {x : D × M} (g : GotL K T s h A σ vs ds env s1 h1 A1 B) (e : env[j]? = some (some x)) :
    ∃ v A2 B2, σ[j]? = some (some v) ∧ GotL K T s h A σ (v :: vs) (x :: ds) (env.set j none) s1 h1 A2 B2 := by
  obtain ⟨v, C1, Bx, C2, e1, rfl, e2, e3⟩ := g.er.takeO e
  have p1 := perm_mid C1 Bx C2
  have p2 : ((C1 ++ (Bx ++ C2)) ++ B).Perm ((C1 ++ C2) ++ (Bx ++ B)) := (List.Perm.append_right B p1).trans (by rw [List.append_assoc])
  exact ⟨v, C1 ++ C2, Bx ++ B, e1, g.st, g.tab, e3, ⟨v, vs, Bx, B, rfl, rfl, e2, g.rp⟩, p2.nodup_iff.mp g.nd, fun a ha => g.fr a (p2.mem_iff.mpr ha), fun a ha => g.wh a (p2.mem_iff.mpr ha)⟩
theorem eOn_go {K : PySem.W.Frag} {g : Mf} {r : V → List V → Hp → VK → Prop} {s h s1 h1 : Hp} {A A1 B : List Addr} {σ : St} {vs : List V} {ds : List (D × M)} {env env' : Env'} {j : Nat} {d : D} {m : M} {Q : VK}
    (ho : ∀ (s h : Hp) (A : List Addr) (σ : St) (v : V) (vs : List V) (x : D × M) (ds : List (D × M)) (env : Env') (s1 h1 : Hp) (A1 B : List Addr) (y z : D × M) (Q : VK),
  GotL K T s h A σ (v :: vs) (x :: ds) env s1 h1 A1 B → g x ds = some (y, z) → (∀ w s2 h2 B2, GotL K T s h A σ [w, v] [y, z] env s2 h2 A1 B2 → Q w h2) → r v vs h1 Q)
    (g1 : GotL K T s h A σ vs ds env s1 h1 A1 B) (q : eOn j g (ds, env) = some (d, m, env')) (w : ∀ v s' h' A' B, GotE K T s h A σ v d m env' s' h' A' B → Q v h') : ∃ v, σ[j]? = some (some v) ∧ r v vs h1 Q := by
  unfold eOn at q
  dsimp only at q
  split at q
  · rename_i x ex
    obtain ⟨⟨y, z⟩, e1, q⟩ := Option.bind_eq_some_iff.mp q
    cases q
    obtain ⟨v, A2, B2, eσ, g2⟩ := g1.takeC ex
    refine ⟨v, eσ, ho s h A σ v vs x ds _ s1 h1 A2 B2 y z Q g2 e1 fun u s2 h2 B3 g3 => ?_⟩
    obtain ⟨A4, B4, g4⟩ := g3.fst (get_hole ex) eσ
    rw [set_set_none] at g4
    exact w u s2 h2 A4 B4 g4
  · cases q
theorem slot_list {K : PySem.W.Frag} {s h : Hp} {σ : St} {env : Env'} {A : List Addr} {j : Nat} (o : Own K T s h σ env A) (e : isLst env[j]? = true) : ∃ p vs, σ[j]? = some (some (.ref p)) ∧ h p = some (.lst vs) := by
  unfold isLst at e
  split at e
  · rename_i xs m ex
    obtain ⟨v, B, e1, e2, _⟩ := o.er.get ex
    obtain ⟨p, vs, rfl, e3, _⟩ := lst_at o.sub e2
    exact ⟨p, vs, e1, e3⟩
  · cases e
variable {name : Str} {id : String} {g : Mf} {j : Nat} {x : Str} {ka : Env' → Option (List (D × M) × Env')}
theorem je_mut (slot : Slot "list" name id) (hty : typeOf (.builtin id) = pure (.type "method_descriptor")) (om : OMut T X id g) (hN : X.N[j]? = some x) (ha : JAE T X (e :: es) ka) (hv : Vis X.env.scope x := by first | exact Or.inl rfl | exact Or.inr (Or.inl rfl) | exact Or.inr (Or.inr rfl)) (hd : (x == ("__debug__" : Str)) = false := by decide) (hcd : (x == ("__classdict__" : Str)) = false := by decide)
    (hbase : attributeBase (.Name x p) name X.env (eval (.Name x p) X.env) = eval (.Name x p) X.env := by rfl)
    (hfew : ((backTo cpos (starEach (e :: es) X.env)).all (fun x => !x.1) && (backToKw cpos (keywordEach [] X.env)).all (fun x => x.1.isSome)
      && decide ((e :: es).length + ([] : List Keyword).length + (if ([] : List Keyword).isEmpty then 0 else 1) < 30)) = true := by rfl)
    (hline : (apos.endLine == cpos.line) = true := by rfl) (hs : starEach (e :: es) X.env = (false, eval e X.env) :: starEach es X.env := by rfl) (hplain : (backTo cpos (starEach es X.env)).any (·.1) = false := by rfl) :
    JE T X (.Call (.Attribute (.Name x p) name apos) (e :: es) [] cpos) (eMut j g ka) := by
  obtain ⟨r, o1, o2⟩ := om
  refine je_mk (pe_bm PySem.F.plainAttrs_list slot hty o1 (pe_var hN hv hd hcd) ha hbase hfew hline hs hplain) fun σ h Q ⟨s, env, A, d, m, env', o, q, w⟩ => ?_
  unfold eMut at q
  split at q
  · rename_i hl
    obtain ⟨⟨ds, env1⟩, e1, q⟩ := Option.bind_eq_some_iff.mp q
    obtain ⟨p0, ws, eσ, ew⟩ := slot_list o hl
    refine ⟨.ref p0, eσ, .inl ⟨rfl, ws, SqL.of ew⟩, s, env, A, ds, env1, o, e1, fun vs s1 h1 A1 B1 g1 => ?_⟩
    obtain ⟨v, eσ', rr⟩ := eOn_go o2 g1 q w
    rw [eσ] at eσ'
    cases eσ'
    exact rr
  · cases q
def eMut0 (j : Nat) (g : Mf) : Env' → Option (D × M × Env') := fun env => if isLst env[j]? then eOn j g ([], env) else none
theorem je_mut0 (slot : Slot "list" name id) (hty : typeOf (.builtin id) = pure (.type "method_descriptor")) (om : OMut T X id g) (hN : X.N[j]? = some x) (hv : Vis X.env.scope x := by first | exact Or.inl rfl | exact Or.inr (Or.inl rfl) | exact Or.inr (Or.inr rfl)) (hd : (x == ("__debug__" : Str)) = false := by decide) (hcd : (x == ("__classdict__" : Str)) = false := by decide)
    (hbase : attributeBase (.Name x p) name X.env (eval (.Name x p) X.env) = eval (.Name x p) X.env := by rfl) (hline : (apos.endLine == cpos.line) = true := by rfl) : JE T X (.Call (.Attribute (.Name x p) name apos) [] [] cpos) (eMut0 j g) := by
  obtain ⟨r, o1, o2⟩ := om
  refine je_mk (pe_bm0 PySem.F.plainAttrs_list slot hty o1 (pe_var hN hv hd hcd) hbase hline) fun σ h Q ⟨s, env, A, d, m, env', o, q, w⟩ => ?_
  unfold eMut0 at q
  split at q
  · rename_i hl
    obtain ⟨p0, ws, eσ, ew⟩ := slot_list o hl
    refine ⟨.ref p0, eσ, .inl ⟨rfl, ws, SqL.of ew⟩, ?_⟩
    obtain ⟨v, eσ', rr⟩ := eOn_go o2 (GotL.nil o) q w
    rw [eσ] at eσ'
    cases eσ'
    exact rr
  · cases q
/-- on a list that is only in the hand (its change is seen by none) -/
def eTmp (f : Env' → Option (D × M × Env')) (g : Mf) (k : Env' → Option (List (D × M) × Env')) : Env' → Option (D × M × Env') := fun env => (f env).bind fun x => match x.1 with
  | .lst _ => (k x.2.2).bind fun r => (g (x.1, x.2.1) r.1).bind fun y => some (y.1.1, y.1.2, r.2)
  | _ => none
theorem je_tmp (slot : Slot "list" name id) (hty : typeOf (.builtin id) = pure (.type "method_descriptor")) (om : OMut T X id g) (ho : JE T X o f) (ha : JAE T X (e :: es) ka)
    (hbase : attributeBase o name X.env (eval o X.env) = eval o X.env := by rfl)
    (hfew : ((backTo cpos (starEach (e :: es) X.env)).all (fun x => !x.1) && (backToKw cpos (keywordEach [] X.env)).all (fun x => x.1.isSome)
      && decide ((e :: es).length + ([] : List Keyword).length + (if ([] : List Keyword).isEmpty then 0 else 1) < 30)) = true := by rfl)
    (hline : (apos.endLine == cpos.line) = true := by rfl) (hs : starEach (e :: es) X.env = (false, eval e X.env) :: starEach es X.env := by rfl) (hplain : (backTo cpos (starEach es X.env)).any (·.1) = false := by rfl) :
    JE T X (.Call (.Attribute o name apos) (e :: es) [] cpos) (eTmp f g ka) := by
  obtain ⟨r, o1, o2⟩ := om
  refine je_mk (pe_bm PySem.F.plainAttrs_list slot hty o1 ho ha hbase hfew hline hs hplain) fun σ h Q ⟨s, env, A, d, m, env', o, q, w⟩ => ?_
  obtain ⟨⟨dx, mx, env1⟩, e1, q⟩ := Option.bind_eq_some_iff.mp q
  dsimp only at q
  split at q
  · rename_i xs
    obtain ⟨⟨ds, env2⟩, e2, q⟩ := Option.bind_eq_some_iff.mp q
    obtain ⟨⟨y, z⟩, e3, q⟩ := Option.bind_eq_some_iff.mp q
    cases q
    refine ⟨s, env, A, _, mx, env1, o, e1, fun v s1 h1 A1 B1 g1 => ?_⟩
    obtain ⟨p0, ws, rfl, ew, _⟩ := lst_at g1.st.sub g1.rp
    refine ⟨.inl ⟨rfl, ws, SqL.of ew⟩, s1, env1, A1, ds, _, g1.own, e2, fun vs s2 h2 A2 B2 g2 => ?_⟩
    refine o2 s h A σ _ vs _ ds _ s2 h2 A2 _ y z Q (GotL.cons g1 g2) e3 fun u s3 h3 B3 g3 => ?_
    obtain ⟨w', q', C1, C2, e4, rfl, g4, _⟩ := g3.head
    cases e4
    exact w u s3 h3 A2 C1 g4
  · cases q
end
end G
set_option Elab.async false
set_option linter.all false
set_option maxRecDepth 100000
set_option maxHeartbeats 4000000
/-! G12: x[i] = v -/
namespace G
open PySem PySem.Spec PyProof.Rows L2
section
variable {K : PySem.W.Frag} {T : Tx} {s s' s1 s2 h h' h1 h2 : Hp} {σ : St} {env env' env1 env2 : Env'} {A A' A1 A2 W B : List Addr}
theorem GotE.grow {v : V} {d : D} {m : M} (g : GotE K T s h A σ v d m env s1 h1 A1 B) (x : Gr T s1 h1 s2 h2) : GotE K T s h A σ v d m env s2 h2 A1 B := by
  have old : ∀ b ∈ A1 ++ B, ∃ o, h1 b = some o ∧ Mu o := fun b hb => (List.mem_append.mp hb).elim (fun z => g.er.mem b z) fun z => g.rp.mem b z
  exact ⟨g.st.trans (x.step (A1 ++ B)) g.wh, x.tab g.tab, g.er.grow x, g.rp.grow x, g.nd, fun a ha => by
    obtain ⟨o, e, mu⟩ := old a ha
    exact grow_none x e mu (g.fr a ha), g.wh⟩
theorem GotE.view {v : V} {d : D} {m : M} (g : GotE K T s h A σ v d m env s1 h1 A1 B) : At K T h1 h1 σ (vw env) := g.own.at
end
section
variable {X : Cx} {T : Tx} {io : List Bool} {a b c e i tg : Expr} {es : List Expr} {f k : Env' → Option (D × M × Env')} {fi : VEnv → Option (D × M)} {pos p apos cpos : Pos}
/-- where a value goes that is put into a list or dict held so -/
def inM (mx m : M) : Option M := match mx with
  | .dp => some (if m = .dp then .dp else .o1)
  | .o1 => some .o1
  | .sh => none
/-- the object at p of the hand's first thing becomes o', keeping its parts, the second thing goes into it: what is then held -/
def setAtD (xs : List D) (n : Option Nat) (x : D × M) (mx : M) : Option (D × M) := n.bind fun k => if k < xs.length then (inM mx x.2).bind fun m => some (.lst (xs.set k x.1), m) else none
theorem setAt_go {K : PySem.W.Frag} {s h s1 h1 : Hp} {A A1 B : List Addr} {σ : St} {env : Env'} {v y : V} {xs : List D} {mx : M} {k : Nat} {x : D × M} {z : D × M} (g : GotL K T s h A σ [v, y] [(.lst xs, mx), x] env s1 h1 A1 B) (q : setAtD xs (some k) x mx = some z) :
    ∃ p vs, v = .ref p ∧ h1 p = some (.lst vs) ∧ vs.length = xs.length ∧ k < vs.length ∧ ∃ s2 B2, GotE K T s h A σ v z.1 z.2 env s2 (upd h1 p (.lst (vs.set k y))) A1 B2 ∧ (∀ b ∈ B2, b ∈ B) ∧ Sub s1 s2 := by
  have hh := g.hd
  obtain ⟨v', q', B0, B1, e1, rfl, r0, r1⟩ := g.rp
  cases e1
  obtain ⟨y', q', B2, B3, e1, rfl, r2, r3⟩ := r1
  cases e1
  obtain ⟨_, rfl⟩ := r3
  rw [List.append_nil] at hh g
  have fin : ∀ {s2 h2 : Hp} {d : D} {m : M} {B' : List Addr} {v : V}, Hd K T s h A σ env s2 h2 A1 B' → Rep K T s2 h2 v d m B' → GotE K T s h A σ v d m env s2 h2 A1 B' := fun H R => ⟨H.st, H.tab, H.er, R, H.nd, H.fr, H.wh⟩
  simp only [setAtD, Option.bind_some] at q
  split at q
  · rename_i hk
    obtain ⟨m, e1, q⟩ := Option.bind_eq_some_iff.mp q
    cases q
    cases mx with
    | sh => simp [inM] at e1
    | dp =>
      simp only [Rep, Deep] at r0
      obtain ⟨p, vs, C, rfl, e2, rfl, e3⟩ := r0
      have hl := DeepL.len _ e3
      refine ⟨p, vs, rfl, e2, hl, by omega, ?_⟩
      obtain ⟨n1, n2, n3⟩ := List.nodup_append.mp hh.nd
      have n2' : (p :: (C ++ B2)).Nodup := by simpa using n2
      obtain ⟨np, n4⟩ := List.nodup_cons.mp n2'
      obtain ⟨n5, n6, n7⟩ := List.nodup_append.mp n4
      simp only [inM, Option.some.injEq] at e1
      by_cases hm : x.2 = .dp
      · rw [if_pos hm] at e1
        subst e1
        obtain ⟨u, C1, Ck, C2, ey, rfl, dy, dr, ds⟩ := e3.erase (List.getElem?_eq_getElem hk)
        have hx : Deep K T h1 y x.1 B2 := by rw [hm] at r2; exact r2
        have sbC : ∀ b, b ∈ C1 ++ (B2 ++ C2) → b ∈ (C1 ++ (Ck ++ C2)) ++ B2 := fun b hb => by
          simp only [List.mem_append] at hb ⊢
          rcases hb with hb | hb | hb
          · exact .inl (.inl hb)
          · exact .inr hb
          · exact .inl (.inr (.inr hb))
        have ndC : (C1 ++ (B2 ++ C2)).Nodup := by
          have sb : ((C1 ++ C2) ++ B2).Sublist ((C1 ++ (Ck ++ C2)) ++ B2) := List.Sublist.append (List.Sublist.append (List.Sublist.refl _) (List.sublist_append_right _ _)) (List.Sublist.refl _)
          exact (perm_mid C1 B2 C2).nodup_iff.mpr (List.Nodup.sublist sb n4)
        have np2 : p ∉ C1 ++ (B2 ++ C2) := fun z => np (sbC p z)
        have H2 := hh.change (o' := .lst (vs.set k y)) (S := []) (B' := p :: (C1 ++ (B2 ++ C2))) (by simp) e2 trivial trivial (by simp) (by simp) (fun b hb => by
          rcases List.mem_cons.mp hb with rfl | hb
          · simp
          · have := sbC b hb
            simp only [List.mem_append, List.mem_cons] at this ⊢
            rcases this with z | z
            · exact .inl (.inr z)
            · exact .inr z) (by simp) (List.nodup_cons.mpr ⟨np2, ndC⟩)
        refine ⟨_, _, fin H2 ?_, fun b hb => ?_, sub_shr g.st.sub⟩
        · simp only [Rep, Deep]
          exact ⟨p, _, C1 ++ (B2 ++ C2), rfl, upd_same, rfl, (ds hx).put e2 trivial np2⟩
        · rcases List.mem_cons.mp hb with rfl | hb
          · simp
          · have := sbC b hb
            simp only [List.mem_append, List.mem_cons] at this ⊢
            rcases this with z | z
            · exact .inl (.inr z)
            · exact .inr (.inl z)
      · rw [if_neg hm] at e1
        subst e1
        have H2 := hh.change (o' := .lst (vs.set k y)) (S := C ++ B2) (B' := [p]) (by simp) e2 trivial trivial (fun b hb => by simpa using Or.inr (List.mem_append.mp hb)) np (by simp) (by simpa using np) (by simp)
        refine ⟨_, _, fin H2 ?_, fun b hb => by simp at hb; simp [hb], sub_shr g.st.sub⟩
        exact ⟨p, rfl, rfl, _, upd_same, (DeepL.shr _ e3 (fun b hb => List.mem_append_left _ hb)).set (r2.shr g.st.sub fun b hb => List.mem_append_right _ hb)⟩
    | o1 =>
      simp only [inM, Option.some.injEq] at e1
      subst e1
      simp only [Rep] at r0
      obtain ⟨p, rfl, rfl, vs, e2, e3⟩ := r0
      have hl := SeesL.len _ e3
      refine ⟨p, vs, rfl, e2, hl, by omega, ?_⟩
      obtain ⟨n1, n2, n3⟩ := List.nodup_append.mp hh.nd
      have n2' : (p :: B2).Nodup := by simpa using n2
      obtain ⟨np, n4⟩ := List.nodup_cons.mp n2'
      have H2 := hh.change (o' := .lst (vs.set k y)) (S := B2) (B' := [p]) (by simp) e2 trivial trivial (fun b hb => by simp [hb]) np (by simp) (by simpa using np) (by simp)
      refine ⟨_, _, fin H2 ?_, fun b hb => by simp at hb; simp [hb], sub_shr g.st.sub⟩
      exact ⟨p, rfl, rfl, _, upd_same, (e3.ext (sub_shr g.st.sub)).set (r2.shr g.st.sub fun b hb => hb)⟩
  · cases q
def gSetL (j : Nat) (fi : VEnv → Option (D × M)) : D × M → Env' → Option Env' := fun x env => (fi (vw env)).bind fun iv => match iv.1, env[j]? with
  | .int i, some (some (.lst xs, mx)) => (setAtD xs (ixN xs.length i) x mx).bind fun z => some (env.set j (some z))
  | _, _ => none
theorem jgo_setL {j : Nat} {x : Str} {spos : Pos} (hN : X.N[j]? = some x) (hi : JP T X i fi) (hv : Vis X.env.scope x := by first | exact Or.inl rfl | exact Or.inr (Or.inl rfl) | exact Or.inr (Or.inr rfl)) (hd : (x == ("__debug__" : Str)) = false := by decide) (hcd : (x == ("__classdict__" : Str)) = false := by decide)
    (ha : ∀ v, assign (.Subscript (.Name x p) i spos) X.env v = (do
      let ov ← holding [v] (eval (.Name x p) X.env)
      let iv ← holding [v, ov] (eval i X.env)
      standAt spos
      holding [v, ov, iv] (setItem ov iv v)
      release [v, ov, iv] []) := by intro _; rfl) : JGO T X io (.Subscript (.Name x p) i spos) (gSetL j fi) := by
  obtain ⟨ti, i1, i2⟩ := hi
  refine ⟨fun pins sx σ H v u Q I r ⟨s, d, m, env, A, B, env', g0, rp, q, w⟩ => ?_⟩
  refine (pg_sub (pe_var hN hv hd hcd) i1 set_list ha).run pins sx σ H v u Q I r ?_
  have g := g0.gotE rp
  obtain ⟨⟨di, mi⟩, e1, q⟩ := Option.bind_eq_some_iff.mp q
  dsimp only at q
  split at q
  · rename_i ii xs mx ej
    obtain ⟨z, e2, q⟩ := Option.bind_eq_some_iff.mp q
    cases q
    obtain ⟨k, ek⟩ : ∃ k, ixN xs.length ii = some k := by
      unfold setAtD at e2
      cases hk : ixN xs.length ii with
      | none => rw [hk] at e2; simp at e2
      | some k => exact ⟨k, rfl⟩
    rw [ek] at e2
    obtain ⟨vj, Bj, ev, _, _⟩ := g.own.er.get ej
    refine ⟨vj, ev, i2 σ H H (vw env) _ mi _ g.view e1 fun iv s' h' Bi Gi => ?_⟩
    obtain ⟨gg, ri⟩ := Gi.seen
    simp only [Sees] at ri
    subst ri
    have g2 := g.grow (Gr.own_of g.st.sub gg)
    obtain ⟨v2, A2, B2, ev2, g3⟩ := g2.one.takeC ej
    rw [ev] at ev2
    cases ev2
    obtain ⟨p0, ws, rfl, e3, e4, e5, s3, B3, g4, sb, u3⟩ := setAt_go g3 e2
    refine ⟨p0, ws, ii, k, rfl, rfl, e3, by rw [e4]; exact ek, ?_⟩
    obtain ⟨A5, g5⟩ := g4.put (get_hole ej) ev
    rw [set_set_none] at g5
    exact w σ s3 _ A5 g5 Pin.rfl'
  · cases q
end
end G
set_option Elab.async false
set_option linter.all false
set_option maxRecDepth 100000
set_option maxHeartbeats 4000000
/-! GG: defs called where no repr is under way (so that repr of a list or tuple is known): the promise of a def, calls, the end of a law -/
namespace G
open PySem PySem.Spec PyProof.Rows L2
/-- room, and no repr under way -/
structure RoomG (k : Nat) (A : Around) : Prop where
  rm : Room k A
  gd : A.guards = some []
theorem RoomG.mono {j k : Nat} {A : Around} (r : RoomG k A) (h : j ≤ k) : RoomG j A := ⟨r.rm.mono h, r.gd⟩
theorem RoomG.deep {k : Nat} {A : Around} (r : RoomG (k + 1) A) (env : Env) : RoomG k (A.deeper env) := ⟨r.rm.deeper env, r.gd⟩
theorem RoomG.units0 {k : Nat} {A : Around} (r : RoomG k A) : A.units < cLine := r.rm.units0
theorem RoomG.make {k : Nat} {A : Around} (r : RoomG (k + 1) A) (C : Addr) (us : List Value) (kw : List (Str × Value)) : RoomG k (A.under (.builtin "type.__call__" ⟨.ref C :: us, kw⟩)) := by
  refine ⟨r.rm.make C us kw, ?_⟩
  have e : Code.guards (.builtin "type.__call__" ⟨.ref C :: us, kw⟩) = [] := by
    unfold Code.guards
    rw [if_neg]
    show ¬ (guardIds.contains "type.__call__" = true)
    decide +kernel
  simp [Around.under, e, pushGuards, r.gd]
/-- a def's promise, where no repr is under way -/
structure FnG (P : Program) (w : World) (K : PySem.W.Frag) (mg : Str → Option Value) (base : Heap) (CX : CXT) (k : Nat) (f : Addr) (fd : FuncData) (ps : List Str) (sp : Sp) : Prop where
  len : ∀ vs H Q E, sp vs H Q E → vs.length = ps.length
  run : ∀ {A : Around} {outer : List Env} {s : Shared} {H : Hp} {args : Args} {ws : List Value} {vs : List V} {Q : VK} {E : XK}, RoomG k A → Env0 P w K mg base A outer s H → BindsTo s fd args (ps.zip ws) → Vals vs ws → sp vs H Q E →
    codeAny (model P w) A (.call (.ref f) args) (CR CX outer P w H s Q E) s
theorem FnG.mono {P : Program} {w : World} {K : PySem.W.Frag} {mg : Str → Option Value} {base : Heap} {CX : CXT} {i j : Nat} {f : Addr} {fd : FuncData} {ps : List Str} {sp : Sp} (F : FnG P w K mg base CX i f fd ps sp) (h : i ≤ j) : FnG P w K mg base CX j f fd ps sp :=
  ⟨F.len, fun r => F.run (r.mono h)⟩
theorem FnG.imp {P : Program} {w : World} {K : PySem.W.Frag} {mg : Str → Option Value} {base : Heap} {CX : CXT} {i : Nat} {f : Addr} {fd : FuncData} {ps : List Str} {sp sp' : Sp} (F : FnG P w K mg base CX i f fd ps sp) (h : ∀ vs H Q E, sp' vs H Q E → sp vs H Q E) : FnG P w K mg base CX i f fd ps sp' :=
  ⟨fun vs H Q E q => F.len vs H Q E (h _ _ _ _ q), fun r e b v q => F.run r e b v (h _ _ _ _ q)⟩
/-- what holds whoever is around holds where no repr is -/
theorem FnG.of {P : Program} {w : World} {K : PySem.W.Frag} {mg : Str → Option Value} {base : Heap} {CX : CXT} {i : Nat} {f : Addr} {fd : FuncData} {ps : List Str} {sp : Sp} (F : FnOk P w K mg base CX i f fd ps sp) : FnG P w K mg base CX i f fd ps sp :=
  ⟨F.len, fun r e b v q => F.run _ _ _ _ _ _ _ _ _ r.rm e b v q⟩
section
variable {X : Cx} {CX : CXT} {k : Nat} {f C : Addr} {fd : FuncData} {ps ks : List Str} {sp : Sp} {E : XK} {x m : Str} {p pos apos : Pos} {e o : Expr} {es : List Expr} {kws : List Keyword} {ta : TE} {t tk : TA}
/-- the callee runs, however it is bound -/
theorem FnG.go {pins : List (Addr × Obj)} {σ : L2.St} {H : Hp} {s : Shared} {Q : VK} {us ws : List Value} {kw : List (Str × Value)} {vs : List V} (F : FnG X.prog X.w X.K X.mg X.base CX k f fd ps sp) (hr : RoomG k X.A) (hx : Passes CX X E) (I : Inv X pins σ H s)
    (bt : BindsTo s fd ⟨us, kw⟩ (ps.zip ws)) (r : Vals vs ws) (q : sp vs H Q E) : wpAny (model X.prog X.w) X.A (call (.ref f) us kw) (EP X pins σ Q) X.xe s :=
  wpAny_call (codeAny_mono (F.run hr I.env0 bt r q) fun res s2 hq => by
    match res, hq with
    | .error ex, hq => exact hx pins σ H s ex s2 I hq
    | .ok (.ret u), hq => exact I.after hq)
/-- a new object of a class, and its __init__ -/
theorem FnG.made {pins : List (Addr × Obj)} {σ : L2.St} {H : Hp} {s : Shared} {Q : VK} {us ws : List Value} {kw : List (Str × Value)} {vs : List V} (M : Mk X.K C f) (F : FnG X.prog X.w X.K X.mg X.base CX k f fd ps sp) (hr : RoomG (k + 1) X.A) (hx : Passes CX X E) (I : Inv X pins σ H s)
    (bt : ∀ (s2 : Shared) (y : Value), X.K.In s2.heap → BindsTo s2 fd ⟨y :: us, kw⟩ (ps.zip (y :: ws))) (r : Vals vs ws)
    (q : ∀ y dy, H y = none → H dy = none → dy ≠ y → sp (.ref y :: vs) (upd (upd H dy (.own y)) y (.ins C dy [])) (fun v H2 => v = .non ∧ Q (.ref y) H2) E) : wpAny (model X.prog X.w) X.A (call (.ref C) us kw) (EP X pins σ Q) X.xe s := by
  have q1 := q (s.heap.objs.size + 1) s.heap.objs.size (I.hok.fresh (Nat.le_succ _)) (I.hok.fresh (Nat.le_refl _)) (Nat.ne_of_lt (Nat.lt_succ_self _))
  have J := Inv.made (C := C) I
  have c1 := F.run (hr.make C us kw) (J.env0.make C us kw) (bt _ (.ref (s.heap.objs.size + 1)) J.kIn) (show Vals (V.ref (s.heap.objs.size + 1) :: vs) (Value.ref (s.heap.objs.size + 1) :: ws) from .cons rfl r) q1
  exact wpAny_call (make_map (f := f) I.kIn M.makes M.init (beq_iff_eq.mp M.fn) (codeAny_mono c1 fun res s2 hq => by
    match res, hq with
    | .error ex, hq => exact hx pins σ _ _ ex s2 J hq
    | .ok (.ret u), hq =>
      obtain ⟨v, H3, J3, rv, rfl, q3⟩ := J.after hq
      exact ⟨rv, .ref (s.heap.objs.size + 1), H3, J3, rfl, q3⟩))
/-- f(e, ..) -/
theorem peG_call (F : FnG X.prog X.w X.K X.mg X.base CX k f fd ps sp) (hr : RoomG k X.A) (hg : Gl X x) (hm : X.mg x = some (.ref f)) (hk : PySem.W.keepIn X.K (.ref f) = true) (hb : Binds X.K fd ps []) (hx : Passes CX X E) (ha : PA X (e :: es) t)
    (hdb : (x == ("__debug__" : Str)) = false) (he : starEach (e :: es) X.env = (false, eval e X.env) :: starEach es X.env) (hpl : (backTo pos (starEach es X.env)).any (·.1) = false) : PE X (.Call (.Name x p) (e :: es) [] pos) (tCall sp [] E t) :=
  ⟨fun pins s σ H Q I h => wpAny_Call_Name_kw (ld_glob I hg hm (PySem.W.callWith_K (h₀ := X.base) I.ok.mod.kin hk (thn (ha.run pos pins s σ H _ I h) fun us s1 ⟨vs, H1, J, r, q⟩ => ⟨J.kIn, by
    replace q : sp (vs ++ []) H1 Q E := q
    rw [List.append_nil] at q
    have l : (us ++ []).length = ps.length := by rw [List.append_nil, ← r.length]; exact F.len _ _ _ _ q
    have b := hb s1 us J.kIn l
    rw [List.append_nil] at b
    exact F.go hr hx J b r q⟩) he hpl) hdb)⟩
theorem peG_call0 (F : FnG X.prog X.w X.K X.mg X.base CX k f fd ps sp) (hr : RoomG k X.A) (hg : Gl X x) (hm : X.mg x = some (.ref f)) (hk : PySem.W.keepIn X.K (.ref f) = true) (hb : Binds X.K fd ps []) (hx : Passes CX X E) (hdb : (x == ("__debug__" : Str)) = false) :
    PE X (.Call (.Name x p) [] [] pos) (tCall sp [] E tNil) :=
  ⟨fun pins s σ H Q I h => wpAny_Call_Name_kw (ld_glob I hg hm (PySem.W.callWith_K0 I.kIn hk (by
    have l : ([] ++ [] : List Value).length = ps.length := F.len _ _ _ _ h
    exact F.go hr hx I (hb s [] I.kIn l) .nil h)) hdb)⟩
/-- o.m(e, ..) -/
theorem peG_meth {pl : Sem Bool} (he : PE X o ta) (c : Cls X.K C) (hm : Meth X.K C m f) (F : FnG X.prog X.w X.K X.mg X.base CX k f fd ps sp) (hr : RoomG k X.A) (hb : Binds X.K fd ps []) (hx : Passes CX X E) (ha : PA X (e :: es) t)
    (hst : starEach (e :: es) X.env = (false, eval e X.env) :: starEach es X.env) (hpl : (backTo pos (starEach es X.env)).any (·.1) = false)
    (ht : eval (.Call (.Attribute o m apos) (e :: es) [] pos) X.env = (do
      let ov ← eval o X.env
      standAt apos.atName
      let (f, first) ← holding [ov] (getMethod ov m pl)
      callWith pos f first (backTo pos (starEach (e :: es) X.env)) (backToKw pos (keywordEach [] X.env)))) :
    PE X (.Call (.Attribute o m apos) (e :: es) [] pos) (tMeth C m sp [] E ta t) := by
  refine ⟨fun pins s σ H Q I h => PySem.W.methodCall_KW (pl := pl) (thn (he.run pins s σ H _ I h) fun u s1 ⟨y, H1, I1, ry, a, dx, fs, ey, ea, l, q⟩ => ?_) ht⟩
  subst ey
  cases (show u = Value.ref a from ry)
  refine getmeth_ok I1 ea c hm l (PySem.W.callWith_K (first := [.ref a]) (h₀ := X.base) I.ok.mod.kin hm.kp (thn (ha.run pos pins s1 σ H1 _ I1 q) fun us s2 ⟨vs, H2, J, r, q2⟩ => ⟨J.kIn, ?_⟩) hst hpl)
  replace q2 : sp (.ref a :: (vs ++ [])) H2 Q E := q2
  rw [List.append_nil] at q2
  have r2 : Vals (.ref a :: vs) (Value.ref a :: us) := .cons rfl r
  have ln : (Value.ref a :: us ++ []).length = ps.length := by rw [List.append_nil, ← r2.length]; exact F.len _ _ _ _ q2
  have b := hb s2 (.ref a :: us) J.kIn ln
  rw [List.append_nil] at b
  exact F.go hr hx J b r2 q2
theorem peG_meth0 {pl : Sem Bool} (he : PE X o ta) (c : Cls X.K C) (hm : Meth X.K C m f) (F : FnG X.prog X.w X.K X.mg X.base CX k f fd ps sp) (hr : RoomG k X.A) (hb : Binds X.K fd ps []) (hx : Passes CX X E)
    (ht : eval (.Call (.Attribute o m apos) [] [] pos) X.env = (do
      let ov ← eval o X.env
      standAt apos.atName
      let (f, first) ← holding [ov] (getMethod ov m pl)
      callWith pos f first (backTo pos (starEach [] X.env)) (backToKw pos (keywordEach [] X.env)))) :
    PE X (.Call (.Attribute o m apos) [] [] pos) (tMeth C m sp [] E ta tNil) := by
  refine ⟨fun pins s σ H Q I h => PySem.W.methodCall_KW (pl := pl) (thn (he.run pins s σ H _ I h) fun u s1 ⟨y, H1, J, ry, a, dx, fs, ey, ea, l, q⟩ => ?_) ht⟩
  subst ey
  cases (show u = Value.ref a from ry)
  refine getmeth_ok J ea c hm l (PySem.W.callWith_K0 (first := [.ref a]) J.kIn hm.kp ?_)
  have r2 : Vals [V.ref a] [Value.ref a] := .cons rfl .nil
  have b := hb s1 [.ref a] J.kIn (F.len _ _ _ _ q)
  exact F.go hr hx J b r2 q
/-- C(e, ..) -/
theorem peG_make (M : Mk X.K C f) (F : FnG X.prog X.w X.K X.mg X.base CX k f fd ps sp) (hr : RoomG (k + 1) X.A) (hg : Gl X x) (hm : X.mg x = some (.ref C)) (hb : Binds X.K fd ps []) (hx : Passes CX X E) (ha : PA X (e :: es) t)
    (hdb : (x == ("__debug__" : Str)) = false) (he : starEach (e :: es) X.env = (false, eval e X.env) :: starEach es X.env) (hpl : (backTo pos (starEach es X.env)).any (·.1) = false) : PE X (.Call (.Name x p) (e :: es) [] pos) (tMake C sp [] E t) :=
  ⟨fun pins s σ H Q I h => wpAny_Call_Name_kw (ld_glob I hg hm (PySem.W.callWith_K (h₀ := X.base) I.ok.mod.kin M.kp (thn (ha.run pos pins s σ H _ I h) fun us s1 ⟨vs, H1, J, r, q⟩ => ⟨J.kIn, by
    simp only [List.append_nil] at q
    have h0 := q (s1.heap.objs.size + 1) s1.heap.objs.size (J.hok.fresh (Nat.le_succ _)) (J.hok.fresh (Nat.le_refl _)) (Nat.ne_of_lt (Nat.lt_succ_self _))
    have l0 := F.len _ _ _ _ h0
    refine FnG.made M F hr hx J (fun s2 y ki => ?_) r q
    have b := hb s2 (y :: us) ki (by rw [List.append_nil]; simpa [r.length] using l0)
    rwa [List.append_nil] at b⟩) he hpl) hdb)⟩
/-- f(k = v, ..) -/
theorem peG_callK {g : List Value → List Value} {gV : List V → List V} (F : FnG X.prog X.w X.K X.mg X.base CX k f fd ps sp) (hr : RoomG k X.A) (hg : Gl X x) (hm : X.mg x = some (.ref f)) (hk : PySem.W.keepIn X.K (.ref f) = true)
    (hb : ∀ (s : Shared) (ws : List Value), ws.length = ks.length → BindsTo s fd ⟨[], ks.zip ws⟩ (ps.zip (g ws))) (hv : ∀ {zs : List V} {ws : List Value}, Vals zs ws → Vals (gV zs) (g ws)) (hx : Passes CX X E) (hkw : PK X kws tk)
    (hall : (backToKw pos (keywordEach kws X.env)).all (·.1.isSome) = true) (hks : (backToKw pos (keywordEach kws X.env)).filterMap (·.1) = ks) (hdb : (x == ("__debug__" : Str)) = false) (hpl : ((backTo pos (starEach [] X.env)).any (·.1) || (backToKw pos (keywordEach kws X.env)).any (·.1.isNone)) = false) :
    PE X (.Call (.Name x p) [] kws pos) (fun σ H Q => tk σ H fun zs H2 => zs.length = ks.length ∧ sp (gV zs) H2 Q E) :=
  ⟨fun pins s σ H Q I h => wpAny_Call_Name_kw (ld_glob I hg hm (PySem.W.callWith_KW0 (h₀ := X.base) I.ok.mod.kin hk hall (thn (hkw.run pos pins s σ H _ I h) fun ws s2 ⟨zs, H2, J, rz, l2, q⟩ => ⟨J.kIn, by
    rw [hks]
    exact F.go hr hx J (hb s2 ws (rz.length.symm.trans l2)) (hv rz) q⟩) hpl) hdb)⟩
/-- C(k = v, ..) -/
theorem peG_makeK {g : List Value → List Value} {gV : List V → List V} (M : Mk X.K C f) (F : FnG X.prog X.w X.K X.mg X.base CX k f fd ps sp) (hr : RoomG (k + 1) X.A) (hg : Gl X x) (hm : X.mg x = some (.ref C))
    (hb : ∀ (s : Shared) (u : Value) (ws : List Value), ws.length = ks.length → BindsTo s fd ⟨[u], ks.zip ws⟩ (ps.zip (u :: g ws))) (hv : ∀ {zs : List V} {ws : List Value}, Vals zs ws → Vals (gV zs) (g ws)) (hx : Passes CX X E) (hkw : PK X kws tk)
    (hall : (backToKw pos (keywordEach kws X.env)).all (·.1.isSome) = true) (hks : (backToKw pos (keywordEach kws X.env)).filterMap (·.1) = ks) (hdb : (x == ("__debug__" : Str)) = false) (hpl : ((backTo pos (starEach [] X.env)).any (·.1) || (backToKw pos (keywordEach kws X.env)).any (·.1.isNone)) = false) :
    PE X (.Call (.Name x p) [] kws pos) (fun σ H Q => tk σ H fun zs H2 => zs.length = ks.length ∧ ∀ y dy, H2 y = none → H2 dy = none → dy ≠ y → sp (.ref y :: gV zs) (upd (upd H2 dy (.own y)) y (.ins C dy [])) (fun v H3 => v = .non ∧ Q (.ref y) H3) E) :=
  ⟨fun pins s σ H Q I h => wpAny_Call_Name_kw (ld_glob I hg hm (PySem.W.callWith_KW0 (h₀ := X.base) I.ok.mod.kin M.kp hall (thn (hkw.run pos pins s σ H _ I h) fun ws s2 ⟨zs, H2, J, rz, l2, q⟩ => ⟨J.kIn, by
    rw [hks]
    exact FnG.made M F hr hx J (fun s3 y _ => hb s3 y ws (rz.length.symm.trans l2)) (hv rz) q⟩) hpl) hdb)⟩
end
/-- a def by its body, where no repr is under way -/
theorem fnG_of {P : Program} {w : World} {K : PySem.W.Frag} {mg : Str → Option Value} {base : Heap} {x qual : Str} {st : Stmt} {f : Addr} {fd : FuncData} {N ps : List Str} {k : Nat} {sp : Sp} (F : Fun K x qual st f fd) (S : FnScope N ps (defScope st)) (len : ∀ vs H Q E, sp vs H Q E → vs.length = ps.length)
    (hb : ∀ (cdv : Value) (A : Around) (outer : List Env) (s : Shared) (H : Hp) (vs : List V) (Q : VK) (E : XK), RoomG k (A.deeper (envOfC qual (defScope st) s.heap.objs.size f cdv)) → sp vs H Q E →
      ∃ t, PSs (cxOf CX0 P w K mg base N qual (defScope st) f cdv A outer s H E).nox (defBody st) t ∧ t { nx := fun _ H' => Q .non H', rt := Q } (start N vs) H) : FnG P w K mg base CX0 (k + 1) f fd ps sp := by
  obtain ⟨oc, od, kV, doc, pm, an, cdv, ct, osl, rfl, look, hcd⟩ := F.ex
  refine ⟨len, fun {A outer s H args ws vs Q E} hr e0 bt r q => ?_⟩
  have keeps := fun (b : Addr) (o : Obj) (e : base.get? b = some o) => (e0.bs b o e).1
  have KX := e0.mod.kin.keeps keeps
  refine codeAny_call_function hr.rm.depth (KX _ _ look) rfl S.co S.gen rfl (PySem.W.codeRec_of KX hcd) (bt _ _ _ _ (wpAny_newFunctionEnv_cells S.kind (fun p hp => ?_) fun env he s1 ic => ?_))
  · obtain ⟨nm, v⟩ := p
    rcases S.par nm (List.of_mem_zip hp).1 with z | z
    · exact .inl z
    · exact .inr ⟨z, PySem.W.cellsFrom_some _ _ _ (.inl z)⟩
  · subst he
    obtain ⟨t, ht, go⟩ := hb cdv A outer s H vs Q E (hr.deep _) q
    have J := inv_start (CX := CX0) (E := E) S hr.rm.hd e0 (len _ _ _ _ q) r ic
    refine ⟨(e0.mod.nolimit.keeps keeps).keeps ic.toInCall.keep, codeAny_func (wpAny_mono (ht.nox.run [] s1 (start N vs) H _ J go) (fun fl s2 hs => ?_) fun _ _ hs => hs)⟩
    match fl, hs with
    | .ret u, ⟨v, σ2, H2, J2, rv, q2⟩ => exact ⟨v, H2, J2.os, J2.bare, J2.base, J2.hok, rv, q2⟩
    | .next, ⟨σ2, H2, J2, q2⟩ => exact ⟨.non, H2, J2.os, J2.bare, J2.base, J2.hok, rfl, q2⟩
    | .brk, ⟨_, _, _, q2⟩ => exact q2.elim
    | .cont, ⟨_, _, _, q2⟩ => exact q2.elim
end G
set_option Elab.async false
set_option linter.all false
set_option maxRecDepth 100000
set_option maxHeartbeats 4000000
/-! G13: defs, calls, objects -/
namespace G
open PySem PySem.Spec PyProof.Rows L2
/-! ### what a def promises -/
abbrev Fi := List (D × M) → Option (D × M × List (D × M))
def spG (K : PySem.W.Frag) (T : Tx) (n : Nat) (run : Fi) : Sp := fun vs H Q _ => ∃ s ps A d m ps', vs.length = n ∧ Own K T s H (vs.map some) (ps.map some) A ∧ run ps = some (d, m, ps') ∧ ∀ v s' h' A' B, GotE K T s H A (vs.map some) v d m (ps'.map some) s' h' A' B → Q v h'
/-- the parameters behind the body -/
def outP : List Bool → List (D × M) → Env' → Option (List (D × M))
  | [], [], _ => some []
  | true :: io, _ :: ps, some x :: env => (outP io ps env).bind fun r => some (x :: r)
  | false :: io, p :: ps, _ :: env => if p.2 = im p.1 then (outP io ps env).bind fun r => some (p :: r) else none
  | _, _, _ => none
/-- a def by its body: io tells the parameters that it changes, k how many names it has beside the parameters -/
def runG (io : List Bool) (k : Nat) (f : Sf) : Fi := fun ps => (f (ps.map some ++ List.replicate k none)).bind fun r => match r.1 with
  | .rt d m => (outP io ps r.2).bind fun ps' => some (d, m, ps')
  | .nx => (outP io ps r.2).bind fun ps' => some (.non, .dp, ps')
  | _ => none
section
variable {K : PySem.W.Frag} {T : Tx} {s s' s1 s2 h h' h1 h2 : Hp} {σ : St} {env env' env1 env2 : Env'} {A A' A1 A2 W B : List Addr}
theorem im_nil {v : V} {d : D} {B : List Addr} (r : Rep K T s h v d (im d) B) : B = [] := by
  unfold im at r
  split at r
  · rename_i i
    exact Deep.nil d i r
  · exact r.1
theorem proj : ∀ {io : List Bool} {ps ps' : List (D × M)} {vs : List V} {σ' : St} {env' : Env'} {A A' : List Addr}, Sub s s' → (∀ a xs, h a = some (.tup xs) → h' a = some (.tup xs)) → EnvRep K T s h (vs.map some) (ps.map some) A → EnvRep K T s' h' σ' env' A' → (∀ i : Nat, io[i]? = some true → σ'[i]? = (vs.map some)[i]?) →
    outP io ps env' = some ps' → ∃ A2, A2.Sublist A' ∧ EnvRep K T s' h' (vs.map some) (ps'.map some) A2
  | [], [], _, vs, _, _, _, _, _, _, e0, _, _, q => by
    unfold outP at q
    cases q
    obtain ⟨e1, _⟩ := e0
    exact ⟨[], List.nil_sublist _, by rw [e1]; exact ⟨rfl, rfl⟩⟩
  | true :: io, _ :: ps, ps', vs, σ', some x :: env, A, A', u, kt, e0, e1, pin, q => by
    unfold outP at q
    obtain ⟨r, e2, q⟩ := Option.bind_eq_some_iff.mp q
    cases q
    simp only [List.map_cons] at e0
    obtain ⟨y0, r0, A01, A02, ev, _, _, e0'⟩ := e0
    obtain ⟨y, r1, A11, A12, rfl, rfl, ⟨v1, rfl, rp⟩, e1'⟩ := e1
    cases vs with
    | nil => simp at ev
    | cons v vs =>
      simp only [List.map_cons, List.cons.injEq] at ev
      obtain ⟨rfl, rfl⟩ := ev
      have p0 := pin 0 rfl
      simp at p0
      subst p0
      obtain ⟨A2, sb, e3⟩ := proj u kt e0' e1' (fun i hi => by simpa using pin (i + 1) (by simpa using hi)) e2
      exact ⟨A11 ++ A2, List.Sublist.append (List.Sublist.refl _) sb, some v1, vs.map some, A11, A2, rfl, rfl, ⟨v1, rfl, rp⟩, e3⟩
  | false :: io, p :: ps, ps', vs, σ', z :: env, A, A', u, kt, e0, e1, pin, q => by
    unfold outP at q
    split at q
    · rename_i hp
      obtain ⟨r, e2, q⟩ := Option.bind_eq_some_iff.mp q
      cases q
      simp only [List.map_cons] at e0
      obtain ⟨y0, r0, A01, A02, ev, _, ⟨v0, rfl, rp0⟩, e0'⟩ := e0
      obtain ⟨y, r1, A11, A12, rfl, rfl, _, e1'⟩ := e1
      cases vs with
      | nil => simp at ev
      | cons v vs =>
        simp only [List.map_cons, List.cons.injEq] at ev
        obtain ⟨e9, rfl⟩ := ev
        cases e9
        obtain ⟨A2, sb, e3⟩ := proj u kt e0' e1' (fun i hi => by simpa using pin (i + 1) (by simpa using hi)) e2
        have hB : A01 = [] := im_nil (by rw [← hp]; exact rp0)
        subst hB
        exact ⟨A2, sb.trans (List.sublist_append_right _ _), some v0, vs.map some, [], A2, rfl, rfl, ⟨v0, rfl, rp0.keep u kt (fun b hb => by cases hb)⟩, e3⟩
    · cases q
  | [], _ :: _, _, _, _, _, _, _, _, _, _, _, _, q => by simp [outP] at q
  | true :: _, [], _, _, _, _, _, _, _, _, _, _, _, q => by simp [outP] at q
  | true :: _, _ :: _, _, _, _, [], _, _, _, _, _, _, _, q => by simp [outP] at q
  | true :: _, _ :: _, _, _, _, none :: _, _, _, _, _, _, _, _, q => by simp [outP] at q
  | false :: _, [], _, _, _, _, _, _, _, _, _, _, _, q => by simp [outP] at q
  | false :: _, _ :: _, _, _, _, [], _, _, _, _, _, _, _, q => by simp [outP] at q
theorem EnvRep.nones : ∀ {env : Env'} {σ : St} {A : List Addr} (k : Nat), EnvRep K T s h σ env A → EnvRep K T s h (σ ++ List.replicate k none) (env ++ List.replicate k none) A
  | [], _, _, k, r => by
    obtain ⟨rfl, rfl⟩ := r
    induction k with
    | zero => exact ⟨rfl, rfl⟩
    | succ k ih => exact ⟨none, _, [], [], rfl, rfl, rfl, ih⟩
  | x :: env, _, _, k, r => by
    obtain ⟨y, r, A1, A2, rfl, rfl, r1, q⟩ := r
    exact ⟨y, _, A1, A2, rfl, rfl, r1, q.nones k⟩
theorem RepL.toEnv : ∀ {ds : List (D × M)} {vs : List V} {B : List Addr}, RepL K T s h vs ds B → EnvRep K T s h (vs.map some) (ds.map some) B
  | [], _, _, r => by
    obtain ⟨rfl, rfl⟩ := r
    exact ⟨rfl, rfl⟩
  | x :: ds, _, _, r => by
    obtain ⟨v, q, B1, B2, rfl, rfl, r1, r2⟩ := r
    exact ⟨some v, q.map some, B1, B2, rfl, rfl, ⟨v, rfl, r1⟩, r2.toEnv⟩
theorem EnvRep.toRep : ∀ {ds : List (D × M)} {vs : List V} {B : List Addr}, EnvRep K T s h (vs.map some) (ds.map some) B → RepL K T s h vs ds B
  | [], vs, _, r => by
    obtain ⟨e, rfl⟩ := r
    exact ⟨List.map_eq_nil_iff.mp e, rfl⟩
  | x :: ds, vs, _, r => by
    obtain ⟨y, q, B1, B2, e, rfl, ⟨v, rfl, r1⟩, r2⟩ := r
    cases vs with
    | nil => simp at e
    | cons w vs =>
      simp only [List.map_cons, List.cons.injEq] at e
      obtain ⟨e1, rfl⟩ := e
      cases e1
      exact ⟨_, vs, B1, B2, rfl, rfl, r1, r2.toRep⟩
end
/-! ### THE RULE for a def -/
theorem fn_ok {P : Program} {w : World} {K : PySem.W.Frag} {mg : Str → Option Value} {base : Heap} {T : Tx} {x qual : Str} {st : Stmt} {f : Addr} {fd : FuncData} {N ps : List Str} {kk k n : Nat} {io : List Bool} {body : Sf} (F : Fun K x qual st f fd) (S : FnScope N ps (defScope st)) (hn : ps.length = n) (hN : N.length = n + k)
    (hb : ∀ (cdv : Value) (A : Around) (outer : List Env) (s : Shared) (H : Hp) (E : XK), RoomG kk (A.deeper (envOfC qual (defScope st) s.heap.objs.size f cdv)) → JSs T (cxOf CX0 P w K mg base N qual (defScope st) f cdv A outer s H E).nox io (defBody st) body) :
    FnG P w K mg base CX0 (kk + 1) f fd ps (spG K T n (runG io k body)) := by
  refine fnG_of F S (fun vs H Q E ⟨s, p, A, d, m, p', hl, _⟩ => by rw [hl, hn]) (fun cdv A outer s H vs Q E hr h => ?_)
  obtain ⟨s0, p, A0, d, m, p', hl, o, q, w⟩ := h
  refine ⟨_, hb cdv A outer s H E hr, ?_⟩
  obtain ⟨⟨fl, env1⟩, e1, q⟩ := Option.bind_eq_some_iff.mp q
  have es : L2.start N vs = vs.map some ++ List.replicate k none := by
    unfold L2.start
    rw [hN, hl, Nat.add_sub_cancel_left]
  have o1 : Own K T s0 H (L2.start N vs) (p.map some ++ List.replicate k none) A0 := ⟨o.sub, o.tab, by rw [es]; exact o.er.nones k, o.nd, o.fr⟩
  refine ⟨s0, _, A0, fl, env1, o1, e1, ?_⟩
  have fin : ∀ {v : V} {d : D} {m : M} {σ' : St} {s' h' : Hp} {A' B : List Addr}, outP io p env1 = some p' → GotE K T s0 H A0 σ' v d m env1 s' h' A' B → Pin io (L2.start N vs) σ' → ∃ A2, GotE K T s0 H A0 (vs.map some) v d m (p'.map some) s' h' A2 B := fun {v d m σ' s' h' A' B} e2 g pin => by
    have ppin : ∀ i : Nat, io[i]? = some true → i < vs.length → σ'[i]? = (vs.map some)[i]? := fun i hi hlt => by
      rw [pin i hi, es, List.getElem?_append_left (by simpa using hlt)]
    have hio : ∀ (io : List Bool) (ps ps' : List (D × M)) (env : Env'), outP io ps env = some ps' → io.length = ps.length := by
      intro io
      induction io with
      | nil => intro ps ps' env e; cases ps with
        | nil => rfl
        | cons _ _ => simp [outP] at e
      | cons b io ih =>
        intro ps ps' env e
        cases ps with
        | nil => cases b <;> simp [outP] at e
        | cons p ps =>
          cases env with
          | nil => cases b <;> simp [outP] at e
          | cons z env =>
            cases b with
            | true =>
              cases z with
              | none => simp [outP] at e
              | some x =>
                unfold outP at e
                obtain ⟨r, e2, _⟩ := Option.bind_eq_some_iff.mp e
                simp [ih ps r env e2]
            | false =>
              unfold outP at e
              split at e
              · obtain ⟨r, e2, _⟩ := Option.bind_eq_some_iff.mp e
                simp [ih ps r env e2]
              · cases e
    have hlen : io.length = vs.length := by
      rw [hio io p p' env1 e2]
      have := o.er.len
      simpa using this
    obtain ⟨A2, sb, e3⟩ := proj g.st.ss g.st.tup o.er g.er (fun i hi => ppin i hi (by rw [← hlen]; exact (List.getElem?_eq_some_iff.mp hi).1)) e2
    have sb2 : (A2 ++ B).Sublist (A' ++ B) := List.Sublist.append sb (List.Sublist.refl _)
    exact ⟨A2, g.st, g.tab, e3, g.rp, List.Nodup.sublist sb2 g.nd, fun a ha => g.fr a (sb2.mem ha), fun a ha => g.wh a (sb2.mem ha)⟩
  cases fl with
  | nx =>
    obtain ⟨p2, e2, q⟩ := Option.bind_eq_some_iff.mp q
    cases q
    intro σ' s' h' A' g pin
    obtain ⟨A2, g2⟩ := fin e2 (GotE.of_got g (got_non g.own.sub)) pin
    exact w .non s' h' A2 [] g2
  | rt d1 m1 =>
    obtain ⟨p2, e2, q⟩ := Option.bind_eq_some_iff.mp q
    cases q
    intro v σ' s' h' A' B g pin
    obtain ⟨A2, g2⟩ := fin e2 g pin
    exact w v s' h' A2 B g2
  | bk => cases q
  | ct => cases q
/-! ### the callee from the caller's side -/
section
variable {K : PySem.W.Frag} {T : Tx} {s s' s1 s2 h h' h1 h2 : Hp} {σ : St} {env env' env1 env2 : Env'} {A A' A1 A2 W B : List Addr}
theorem call_core {n : Nat} {run : Fi} {vs : List V} {dms ps' : List (D × M)} {d : D} {m : M} {Q : VK} {E : XK} (g : GotL K T s h A σ vs dms env1 s1 h1 A1 B) (hn : dms.length = n) (q : run dms = some (d, m, ps'))
    (w : ∀ v s2 h2 B2, GotL K T s h A σ (v :: vs) ((d, m) :: ps') env1 s2 h2 A1 B2 → Q v h2) : spG K T n run vs h1 Q E := by
  obtain ⟨n1, n2, n3⟩ := List.nodup_append.mp g.nd
  refine ⟨s1, dms, B, d, m, ps', by rw [g.rp.len]; exact hn, ⟨g.st.sub, g.tab, g.rp.toEnv, n2, fun a ha => g.fr a (List.mem_append_right _ ha)⟩, q, fun v s2 h2 B' Bv x => ?_⟩
  obtain ⟨k1, k2, k3⟩ := List.nodup_append.mp x.nd
  have dis : ∀ a ∈ A1, a ∉ B := fun a ha hb => n3 a ha a hb rfl
  have apart : ∀ a ∈ A1, ∀ b, b ∈ B' ++ Bv → a ≠ b := fun a ha b hb z => by
    subst z
    rcases x.wh a hb with z | z
    · exact dis a ha z
    · obtain ⟨o, eo, _⟩ := g.er.mem a ha
      rw [z] at eo; cases eo
  refine w v s2 h2 (Bv ++ B') ⟨g.st.trans x.st (fun b hb => g.wh b (List.mem_append_right _ hb)), x.tab, g.er.step x.st dis, ⟨v, vs, Bv, B', rfl, rfl, x.rp, x.er.toRep⟩, ?_, fun a ha => ?_, fun a ha => ?_⟩
  · refine List.nodup_append.mpr ⟨n1, List.nodup_append.mpr ⟨k2, k1, fun a ha b hb z => k3 b hb a ha z.symm⟩, fun a ha b hb z => ?_⟩
    refine apart a ha b ?_ z
    rcases List.mem_append.mp hb with hb | hb
    · exact List.mem_append_right _ hb
    · exact List.mem_append_left _ hb
  · rcases List.mem_append.mp ha with ha | ha
    · obtain ⟨o, eo, mu⟩ := g.er.mem a ha
      exact step_none x.st eo mu (g.fr a (List.mem_append_left _ ha)) (dis a ha)
    · refine x.fr a ?_
      rcases List.mem_append.mp ha with ha | ha
      · exact List.mem_append_right _ ha
      · exact List.mem_append_left _ ha
  · rcases List.mem_append.mp ha with ha | ha
    · exact g.wh a (List.mem_append_left _ ha)
    · have ha' : a ∈ B' ++ Bv := by
        rcases List.mem_append.mp ha with ha | ha
        · exact List.mem_append_right _ ha
        · exact List.mem_append_left _ ha
      rcases x.wh a ha' with z | z
      · exact g.wh a (List.mem_append_right _ z)
      · exact .inr (g.st.non a z)
/-- what is only read is shared -/
def convL : List Bool → List (D × M) → List (D × M)
  | false :: io, p :: ps => (p.1, im p.1) :: convL io ps
  | true :: io, p :: ps => p :: convL io ps
  | _, ps => ps
theorem convL_len : ∀ (io : List Bool) (ps : List (D × M)), (convL io ps).length = ps.length
  | false :: io, p :: ps => by simp only [convL, List.length_cons, convL_len io ps]
  | true :: io, p :: ps => by simp only [convL, List.length_cons, convL_len io ps]
  | [], _ => rfl
  | true :: _, [] => rfl
  | false :: _, [] => rfl
theorem RepL.part (u : Sub s h) : ∀ (io : List Bool) {dms : List (D × M)} {vs : List V} {B : List Addr}, RepL K T s h vs dms B → B.Nodup → ∃ (S B2 : List Addr), (∀ b ∈ S, b ∈ B) ∧ B2.Sublist B ∧ (∀ b ∈ B2, b ∉ S) ∧ ∀ (C : List Addr), (∀ b ∈ S, b ∈ C) → RepL K T (G.shr s h C) h vs (convL io dms) B2
  | io, [], _, _, r, _ => by
    obtain ⟨rfl, rfl⟩ := r
    refine ⟨[], [], by simp, List.Sublist.refl _, by simp, fun C _ => ?_⟩
    rw [show convL io [] = [] from by cases io with
      | nil => rfl
      | cons b io => cases b <;> rfl]
    exact ⟨rfl, rfl⟩
  | [], x :: dms, vs, B, r, nd => by
    refine ⟨[], B, by simp, List.Sublist.refl _, by simp, fun C _ => ?_⟩
    exact r.keep (sub_shr u) (fun _ _ e => e) fun _ _ => rfl
  | true :: io, x :: dms, _, _, r, nd => by
    obtain ⟨v, q, B1, B2, rfl, rfl, r1, r2⟩ := r
    obtain ⟨n1, n2, n3⟩ := List.nodup_append.mp nd
    obtain ⟨S, C2, h1, h2, h3, h4⟩ := RepL.part u io r2 n2
    refine ⟨S, B1 ++ C2, fun b hb => List.mem_append_right _ (h1 b hb), List.Sublist.append (List.Sublist.refl _) h2, fun b hb hs => ?_, fun C hC => ⟨v, q, B1, C2, rfl, rfl, r1.keep (sub_shr u) (fun _ _ e => e) (fun _ _ => rfl), h4 C hC⟩⟩
    rcases List.mem_append.mp hb with hb | hb
    · exact n3 b hb b (h1 b hs) rfl
    · exact h3 b hb hs
  | false :: io, x :: dms, _, _, r, nd => by
    obtain ⟨v, q, B1, B2, rfl, rfl, r1, r2⟩ := r
    obtain ⟨n1, n2, n3⟩ := List.nodup_append.mp nd
    obtain ⟨S, C2, h1, h2, h3, h4⟩ := RepL.part u io r2 n2
    refine ⟨B1 ++ S, C2, fun b hb => ?_, h2.trans (List.sublist_append_right _ _), fun b hb hs => ?_, fun C hC => ⟨v, q, [], C2, rfl, rfl, ?_, h4 C fun b hb => hC b (List.mem_append_right _ hb)⟩⟩
    · rcases List.mem_append.mp hb with hb | hb
      · exact List.mem_append_left _ hb
      · exact List.mem_append_right _ (h1 b hb)
    · rcases List.mem_append.mp hs with hs | hs
      · exact n3 b hs b (h2.mem hb) rfl
      · exact h3 b hb hs
    · exact (r1.shr u fun b hb => hC b (List.mem_append_left _ hb)).rep (shr_sub u)
theorem GotL.conv {vs : List V} {dms : List (D × M)} (io : List Bool) (g : GotL K T s h A σ vs dms env1 s1 h1 A1 B) : ∃ s2 B2, GotL K T s h A σ vs (convL io dms) env1 s2 h1 A1 B2 := by
  obtain ⟨n1, n2, n3⟩ := List.nodup_append.mp g.nd
  obtain ⟨S, B2, hS, sb, dis, r⟩ := g.rp.part g.st.sub io n2
  refine ⟨shr s1 h1 S, B2, g.st.shr (fun b hb => g.wh b (List.mem_append_right _ (hS b hb))), g.tab, g.er.shr g.st.sub, r S (fun _ hb => hb), List.nodup_append.mpr ⟨n1, List.Nodup.sublist sb n2, fun a ha b hb z => n3 a ha b (sb.mem hb) z⟩, fun a ha => ?_, fun a ha => ?_⟩
  · rcases List.mem_append.mp ha with ha | ha
    · obtain ⟨o, eo, mu⟩ := g.er.mem a ha
      exact shr_none (g.fr a (List.mem_append_left _ ha)) eo mu fun hs => n3 a ha a (hS a hs) rfl
    · obtain ⟨o, eo, mu⟩ := g.rp.mem a (sb.mem ha)
      exact shr_none (g.fr a (List.mem_append_right _ (sb.mem ha))) eo mu (dis a ha)
  · rcases List.mem_append.mp ha with ha | ha
    · exact g.wh a (List.mem_append_left _ ha)
    · exact g.wh a (List.mem_append_right _ (sb.mem ha))
/-! ### arguments: values, and slots that the callee changes -/
inductive Ar where
  | sl (j : Nat)
  | vl (x : D × M)
def ArgL (K : PySem.W.Frag) (T : Tx) (s h : Hp) (σ : St) : List V → List Ar → List Addr → Prop
  | vs, [], B => vs = [] ∧ B = []
  | vs, .sl j :: r, B => ∃ v q, vs = v :: q ∧ σ[j]? = some (some v) ∧ ArgL K T s h σ q r B
  | vs, .vl x :: r, B => ∃ v q B1 B2, vs = v :: q ∧ B = B1 ++ B2 ∧ Rep K T s h v x.1 x.2 B1 ∧ ArgL K T s h σ q r B2
/-- the slots' values -/
def ArgV (σ : St) : List V → List Ar → Prop
  | vs, [] => vs = []
  | vs, .sl j :: r => ∃ v q, vs = v :: q ∧ σ[j]? = some (some v) ∧ ArgV σ q r
  | vs, .vl _ :: r => ∃ v q, vs = v :: q ∧ ArgV σ q r
theorem ArgL.v : ∀ {ars : List Ar} {vs : List V} {B : List Addr}, ArgL K T s h σ vs ars B → ArgV σ vs ars
  | [], _, _, r => r.1
  | .sl j :: ars, _, _, r => by
    obtain ⟨v, q, e, e1, r⟩ := r
    exact ⟨v, q, e, e1, r.v⟩
  | .vl x :: ars, _, _, r => by
    obtain ⟨v, q, B1, B2, e, _, _, r⟩ := r
    exact ⟨v, q, e, r.v⟩
theorem ArgL.mem : ∀ {ars : List Ar} {vs : List V} {B : List Addr}, ArgL K T s h σ vs ars B → ∀ b ∈ B, ∃ o, h b = some o ∧ Mu o
  | [], _, _, r => by rw [r.2]; intro b hb; cases hb
  | .sl j :: ars, _, _, r => by
    obtain ⟨v, q, e, e1, r⟩ := r
    exact r.mem
  | .vl x :: ars, _, _, r => by
    obtain ⟨v, q, B1, B2, e, rfl, r1, r⟩ := r
    intro b hb
    rcases List.mem_append.mp hb with hb | hb
    · exact r1.mem b hb
    · exact r.mem b hb
theorem ArgL.step : ∀ {ars : List Ar} {vs : List V} {B : List Addr}, Step T W s h s' h' → ArgL K T s h σ vs ars B → (∀ b ∈ B, b ∉ W) → ArgL K T s' h' σ vs ars B
  | [], _, _, _, r, _ => r
  | .sl j :: ars, _, _, st, r, dis => by
    obtain ⟨v, q, e, e1, r⟩ := r
    exact ⟨v, q, e, e1, r.step st dis⟩
  | .vl x :: ars, _, _, st, r, dis => by
    obtain ⟨v, q, B1, B2, e, rfl, r1, r⟩ := r
    exact ⟨v, q, B1, B2, e, rfl, r1.step st (fun b hb => dis b (List.mem_append_left _ hb)), r.step st fun b hb => dis b (List.mem_append_right _ hb)⟩
/-- two lots in the hand -/
theorem Hd.two {B1 B2 : List Addr} (x : Hd K T s h A σ env1 s1 h1 A1 B1) (y : Hd K T s1 h1 A1 σ env2 s2 h2 A2 B2) : Hd K T s h A σ env2 s2 h2 A2 (B1 ++ B2) ∧ ∀ b ∈ B1, b ∉ A1 := by
  obtain ⟨n1, n2, n3⟩ := List.nodup_append.mp x.nd
  obtain ⟨k1, k2, k3⟩ := List.nodup_append.mp y.nd
  have dis : ∀ b ∈ B1, b ∉ A1 := fun b hb ha => n3 b ha b hb rfl
  have sep : ∀ b ∈ B1, ∀ c ∈ A2 ++ B2, c ≠ b := fun b hb c hc e => by
    subst e
    rcases y.wh c hc with z | z
    · exact dis c hb z
    · obtain ⟨o, eo, _⟩ := x.mem c hb
      rw [z] at eo; cases eo
  refine ⟨⟨x.st.trans y.st (fun a ha => x.wh a (List.mem_append_left _ ha)), y.tab, y.er, ?_, fun a ha => ?_, fun a ha => ?_, fun b hb => ?_⟩, dis⟩
  · refine List.nodup_append.mpr ⟨k1, List.nodup_append.mpr ⟨n2, k2, fun b hb c hc e => sep b hb c (List.mem_append_right _ hc) e.symm⟩, fun a ha c hc e => ?_⟩
    rcases List.mem_append.mp hc with hc | hc
    · exact sep c hc a (List.mem_append_left _ ha) e
    · exact k3 a ha c hc e
  · rcases List.mem_append.mp ha with ha | ha
    · exact y.fr a (List.mem_append_left _ ha)
    · rcases List.mem_append.mp ha with ha | ha
      · obtain ⟨o, eo, mu⟩ := x.mem a ha
        exact step_none y.st eo mu (x.fr a (List.mem_append_right _ ha)) (dis a ha)
      · exact y.fr a (List.mem_append_right _ ha)
  · have up : ∀ a, (a ∈ A1 ∨ h1 a = none) → a ∈ A ∨ h a = none := fun a z => z.elim (fun z => x.wh a (List.mem_append_left _ z)) fun z => .inr (x.st.non a z)
    rcases List.mem_append.mp ha with ha | ha
    · exact up a (y.wh a (List.mem_append_left _ ha))
    · rcases List.mem_append.mp ha with ha | ha
      · exact x.wh a (List.mem_append_right _ ha)
      · exact up a (y.wh a (List.mem_append_right _ ha))
  · rcases List.mem_append.mp hb with hb | hb
    · obtain ⟨o, eo, mu⟩ := x.mem b hb
      exact ⟨o, y.st.keep b o eo (mu_tbl mu).1 (dis b hb), mu⟩
    · exact y.mem b hb
theorem Hd.own (g : Hd K T s h A σ env s1 h1 A1 B) : Own K T s1 h1 σ env A1 := ⟨g.st.sub, g.tab, g.er, (List.nodup_append.mp g.nd).1, fun a ha => g.fr a (List.mem_append_left _ ha)⟩
theorem Hd.nil (o : Own K T s h σ env A) : Hd K T s h A σ env s h A [] := (GotL.nil o).hd
/-- the slots' values are taken -/
def takeA : List Ar → Env' → Option (List (D × M) × Env')
  | [], env => some ([], env)
  | .sl j :: r, env => match env[j]? with
    | some (some x) => (takeA r (env.set j none)).bind fun y => some (x :: y.1, y.2)
    | _ => none
  | .vl x :: r, env => (takeA r env).bind fun y => some (x :: y.1, y.2)
/-- .. and put back -/
def putA : List Ar → List (D × M) → Env' → Option Env'
  | [], _, env => some env
  | .sl j :: r, p :: ps, env => match env[j]? with
    | some none => putA r ps (env.set j (some p))
    | _ => none
  | .vl _ :: r, _ :: ps, env => putA r ps env
  | _, [], _ => none
theorem take_go : ∀ {ars : List Ar} {vs : List V} {env env2 : Env'} {A1 Bd B : List Addr} {ds : List (D × M)}, Hd K T s h A σ env s1 h1 A1 (Bd ++ B) → ArgL K T s1 h1 σ vs ars B → takeA ars env = some (ds, env2) → ∃ A2 B2, Hd K T s h A σ env2 s1 h1 A2 (Bd ++ B2) ∧ RepL K T s1 h1 vs ds B2
  | [], _, _, _, A1, Bd, B, _, g, r, q => by
    cases q
    obtain ⟨rfl, rfl⟩ := r
    exact ⟨A1, [], g, rfl, rfl⟩
  | .sl j :: ars, _, env, _, A1, Bd, B, _, g, r, q => by
    obtain ⟨v, vr, rfl, ev, r⟩ := r
    unfold takeA at q
    split at q
    · rename_i x ex
      obtain ⟨⟨dr, env3⟩, e1, q⟩ := Option.bind_eq_some_iff.mp q
      cases q
      obtain ⟨v', C1, Bx, C2, e2, rfl, e3, e4⟩ := g.er.takeO ex
      rw [ev] at e2
      cases e2
      have p1 := perm_mid C1 Bx C2
      have p2 : ((C1 ++ (Bx ++ C2)) ++ (Bd ++ B)).Perm ((C1 ++ C2) ++ ((Bd ++ Bx) ++ B)) := List.perm_iff_count.mpr fun a => by
        simp only [List.count_append]
        omega
      have g2 : Hd K T s h A σ (env.set j none) s1 h1 (C1 ++ C2) ((Bd ++ Bx) ++ B) := ⟨g.st, g.tab, e4, p2.nodup_iff.mp g.nd, fun a ha => g.fr a (p2.mem_iff.mpr ha), fun a ha => g.wh a (p2.mem_iff.mpr ha), fun b hb => by
        rcases List.mem_append.mp hb with hb | hb
        · rcases List.mem_append.mp hb with hb | hb
          · exact g.mem b (List.mem_append_left _ hb)
          · exact e3.mem b hb
        · exact g.mem b (List.mem_append_right _ hb)⟩
      obtain ⟨A2, B2, g3, r3⟩ := take_go g2 r e1
      exact ⟨A2, Bx ++ B2, by rw [← List.append_assoc]; exact g3, v, vr, Bx, B2, rfl, rfl, e3, r3⟩
    · cases q
  | .vl x :: ars, _, env, _, A1, Bd, B, _, g, r, q => by
    obtain ⟨v, vr, B1, B2', rfl, rfl, r1, r⟩ := r
    unfold takeA at q
    obtain ⟨⟨dr, env3⟩, e1, q⟩ := Option.bind_eq_some_iff.mp q
    cases q
    rw [← List.append_assoc] at g
    obtain ⟨A2, B2, g3, r3⟩ := take_go g r e1
    exact ⟨A2, B1 ++ B2, by rw [← List.append_assoc]; exact g3, v, vr, B1, B2, rfl, rfl, r1, r3⟩
theorem put_go : ∀ {ars : List Ar} {vs : List V} {ps : List (D × M)} {env env2 : Env'} {A1 Bd B : List Addr}, Hd K T s h A σ env s1 h1 A1 (Bd ++ B) → ArgV σ vs ars → RepL K T s1 h1 vs ps B → putA ars ps env = some env2 → ∃ A2, Hd K T s h A σ env2 s1 h1 A2 Bd
  | [], _, _, _, _, A1, Bd, B, g, _, _, q => by
    cases q
    exact ⟨A1, g.less (List.nodup_append.mp (List.nodup_append.mp g.nd).2.1).1 fun b hb => List.mem_append_left _ hb⟩
  | .sl j :: ars, _, p :: ps, env, _, A1, Bd, B, g, av, r, q => by
    obtain ⟨v, vr, rfl, ev, av⟩ := av
    obtain ⟨v', q', B1, B2, e0, rfl, r1, r2⟩ := r
    cases e0
    unfold putA at q
    split at q
    · rename_i ex
      obtain ⟨C1, C2, rfl, e4⟩ := g.er.putO ex ev (dm := p) r1
      have p1 := perm_mid C1 B1 C2
      have p2 : ((C1 ++ (B1 ++ C2)) ++ (Bd ++ B2)).Perm ((C1 ++ C2) ++ (Bd ++ (B1 ++ B2))) := List.perm_iff_count.mpr fun a => by
        simp only [List.count_append]
        omega
      have g2 : Hd K T s h A σ (env.set j (some p)) s1 h1 (C1 ++ (B1 ++ C2)) (Bd ++ B2) := ⟨g.st, g.tab, e4, p2.nodup_iff.mpr g.nd, fun a ha => g.fr a (p2.mem_iff.mp ha), fun a ha => g.wh a (p2.mem_iff.mp ha), fun b hb => g.mem b (by
        rcases List.mem_append.mp hb with hb | hb
        · exact List.mem_append_left _ hb
        · exact List.mem_append_right _ (List.mem_append_right _ hb))⟩
      exact put_go g2 av r2 q
    · cases q
  | .vl x :: ars, _, p :: ps, env, _, A1, Bd, B, g, av, r, q => by
    obtain ⟨v, vr, rfl, av⟩ := av
    obtain ⟨v', q', B1, B2, e0, rfl, r1, r2⟩ := r
    cases e0
    unfold putA at q
    have nd := (List.nodup_append.mp g.nd).2.1
    have sb : (Bd ++ B2).Sublist (Bd ++ (B1 ++ B2)) := List.Sublist.append (List.Sublist.refl _) (List.sublist_append_right _ _)
    exact put_go (g.less (List.Nodup.sublist sb nd) fun b hb => sb.mem hb) av r2 q
  | .sl _ :: _, _, [], _, _, _, _, _, _, _, _, q => by simp [putA] at q
  | .vl _ :: _, _, [], _, _, _, _, _, _, _, _, q => by simp [putA] at q
/-- the whole call: the arguments, the callee, the slots -/
def callR (io : List Bool) (n : Nat) (run : Fi) (ars : List Ar) (env : Env') : Option (D × M × Env') := if ars.length = n then (takeA ars env).bind fun x => (run (convL io x.1)).bind fun y => (putA ars y.2.2 x.2).bind fun e => some (y.1, y.2.1, e) else none
theorem ArgV.len : ∀ {ars : List Ar} {vs : List V}, ArgV σ vs ars → vs.length = ars.length
  | [], _, r => by rw [show _ = [] from r]; rfl
  | .sl j :: ars, _, r => by
    obtain ⟨v, q, rfl, _, r⟩ := r
    simp [r.len]
  | .vl j :: ars, _, r => by
    obtain ⟨v, q, rfl, r⟩ := r
    simp [r.len]
theorem callR_go {io : List Bool} {n : Nat} {run : Fi} {ars : List Ar} {vs : List V} {d : D} {m : M} {Q : VK} {E : XK} (g : Hd K T s h A σ env s1 h1 A1 B) (r : ArgL K T s1 h1 σ vs ars B) (q : callR io n run ars env = some (d, m, env'))
    (w : ∀ v s' h' A' B, GotE K T s h A σ v d m env' s' h' A' B → Q v h') : spG K T n run vs h1 Q E := by
  unfold callR at q
  split at q
  · rename_i hn
    obtain ⟨⟨ds, env2⟩, e1, q⟩ := Option.bind_eq_some_iff.mp q
    obtain ⟨⟨dz, mz, ps'⟩, e2, q⟩ := Option.bind_eq_some_iff.mp q
    obtain ⟨env3, e3, q⟩ := Option.bind_eq_some_iff.mp q
    cases q
    obtain ⟨A2, B2, g2, r2⟩ := take_go (Bd := []) g r e1
    obtain ⟨s3, B3, g3⟩ := (g2.got r2).conv io
    refine call_core g3 (by rw [convL_len, ← r2.len, r.v.len]; exact hn) e2 fun v s4 h4 B4 g4 => ?_
    obtain ⟨v', q', C1, C2, e4, rfl, g5, r5⟩ := g4.head
    cases e4
    obtain ⟨A6, g6⟩ := put_go g4.hd r.v r5 e3
    exact w v s4 h4 A6 C1 ⟨g6.st, g6.tab, g6.er, g5.rp, g6.nd, g6.fr, g6.wh⟩
  · cases q
end
end G
set_option Elab.async false
set_option linter.all false
set_option maxRecDepth 100000
set_option maxHeartbeats 4000000
/-! G14: calls, methods, new objects, fields -/
namespace G
open PySem PySem.Spec PyProof.Rows L2
def tRv (K : PySem.W.Frag) (T : Tx) (f : Env' → Option (Ar × Env')) : TE := fun σ h Q => ∃ s env A x env', Own K T s h σ env A ∧ f env = some (x, env') ∧ ∀ v s' h' A' B, Hd K T s h A σ env' s' h' A' B → ArgL K T s' h' σ [v] [x] B → Q v h'
def JRv (T : Tx) (X : Cx) (e : Expr) (f : Env' → Option (Ar × Env')) : Prop := PE X e (tRv X.K T f)
def tCA (K : PySem.W.Frag) (T : Tx) (f : Env' → Option (List Ar × Env')) : TA := fun σ h Q => ∃ s env A ars env', Own K T s h σ env A ∧ f env = some (ars, env') ∧ ∀ vs s' h' A' B, Hd K T s h A σ env' s' h' A' B → ArgL K T s' h' σ vs ars B → Q vs h'
def JCA (T : Tx) (X : Cx) (es : List Expr) (f : Env' → Option (List Ar × Env')) : Prop := PA X es (tCA X.K T f)
/-- a def that may be called by its name -/
structure CalG (P : Program) (w : World) (K : PySem.W.Frag) (mg : Str → Option Value) (base : Heap) (T : Tx) (k : Nat) (x : Str) (n : Nat) (run : Fi) : Prop where
  ex : ∃ f fd ps, FnG P w K mg base CX0 k f fd ps (spG K T n run) ∧ mg x = some (.ref f) ∧ PySem.W.keepIn K (.ref f) = true ∧ Binds K fd ps []
/-- a method of class c -/
structure MetG (P : Program) (w : World) (K : PySem.W.Frag) (mg : Str → Option Value) (base : Heap) (T : Tx) (k : Nat) (c : Nat) (m : Str) (n : Nat) (run : Fi) : Prop where
  ex : ∃ f fd ps, Cls K (T.cl c) ∧ Meth K (T.cl c) m f ∧ FnG P w K mg base CX0 k f fd ps (spG K T n run) ∧ Binds K fd ps [] ∧ m ∉ T.fl c
/-- class c, made by its name -/
structure MakG (P : Program) (w : World) (K : PySem.W.Frag) (mg : Str → Option Value) (base : Heap) (T : Tx) (k : Nat) (x : Str) (c : Nat) (n : Nat) (run : Fi) : Prop where
  ex : ∃ f fd ps, Mk K (T.cl c) f ∧ mg x = some (.ref (T.cl c)) ∧ FnG P w K mg base CX0 k f fd ps (spG K T n run) ∧ Binds K fd ps []
/-- the fields of class c -/
structure FldG (K : PySem.W.Frag) (T : Tx) (c : Nat) : Prop where
  cls : Cls K (T.cl c)
  na : ∀ f ∈ T.fl c, NoAttr K (T.cl c) f
  nd : (T.fl c).Nodup
  few : (T.fl c).length < 1000
section
variable {K : PySem.W.Frag} {T : Tx} {s s' s1 s2 h h' h1 h2 : Hp} {σ : St} {env env' env1 env2 : Env'} {A A' A1 A2 W B : List Addr}
/-- nothing is owned -/
def noEnv (σ : St) : Env' := List.replicate σ.length none
theorem noEnv_er : ∀ (σ : St), EnvRep K T s h σ (noEnv σ) []
  | [] => ⟨rfl, rfl⟩
  | x :: σ => ⟨x, σ, [], [], rfl, rfl, rfl, noEnv_er σ⟩
theorem At.own {ve : VEnv} (a : At K T s h σ ve) : Own K T s h σ (noEnv σ) [] := ⟨a.sub, a.tab, noEnv_er σ, List.nodup_nil, fun _ ha => by cases ha⟩
theorem GotE.got {v : V} {d : D} {m : M} (g : GotE K T s h [] σ v d m env' s' h' A' B) : Got K T s h v d m s' h' B := by
  obtain ⟨n1, n2, n3⟩ := List.nodup_append.mp g.nd
  refine ⟨⟨g.st.ss, ⟨fun b o e n => g.st.keep b o e n (by simp), g.st.non⟩, g.st.tbl, g.st.sub, fun a n => ?_, g.st.tab⟩, g.rp, n2, fun b hb => ?_, fun b hb => g.fr b (List.mem_append_right _ hb)⟩
  · rcases g.st.new a n with z | z | z | z
    · exact .inl z
    · exact .inr (.inl z)
    · cases z
    · exact .inr (.inr z)
  · rcases g.wh b (List.mem_append_right _ hb) with z | z
    · cases z
    · exact z
/-- values read, in the hand of one that owns nothing -/
theorem At.gotL {ve : VEnv} {vs : List V} {ds : List (D × M)} (a : At K T s h σ ve) (g : Gr T s h s1 h1) (r : RepL K T s1 h1 vs ds B) (f : Fresh h s1 B) : GotL K T s h [] σ vs ds (noEnv σ) s1 h1 [] B :=
  ⟨g.step [], g.tab a.tab, noEnv_er σ, r, by simpa using f.nd, fun b hb => f.ns b (by simpa using hb), fun b hb => .inr (f.nw b (by simpa using hb))⟩
/-- the read-only arguments -/
def rdL (ds : List (D × M)) : List (D × M) := ds.map fun x => (x.1, im x.1)
theorem convL_rd : ∀ (ds : List (D × M)), convL (List.replicate ds.length false) ds = rdL ds
  | [] => rfl
  | x :: ds => by
    simp only [List.length_cons, List.replicate_succ, convL, convL_rd ds]
    rfl
/-- a call whose arguments are only read -/
theorem rd_call {n : Nat} {run : Fi} {vs : List V} {dms ps' : List (D × M)} {d : D} {m : M} {Q : VK} {E : XK} (g : GotL K T s h A σ vs dms env1 s1 h1 A1 B) (hn : dms.length = n) (q : run (rdL dms) = some (d, m, ps')) (w : ∀ v s2 h2 A2 B2, GotE K T s h A σ v d m env1 s2 h2 A2 B2 → Q v h2) : spG K T n run vs h1 Q E := by
  obtain ⟨s3, B3, g3⟩ := g.conv (List.replicate dms.length false)
  rw [convL_rd] at g3
  refine call_core g3 (by unfold rdL; rw [List.length_map]; exact hn) q fun v s4 h4 B4 g4 => ?_
  obtain ⟨v', q', C1, C2, e4, rfl, g5, r5⟩ := g4.head
  cases e4
  exact w v s4 h4 A1 C1 g5
theorem ins_at {v : V} {c : Nat} {xs : List D} {m : M} (u : Sub s h) (r : Rep K T s h v (.ins c xs) m B) : ∃ p dx vs, v = .ref p ∧ h p = some (.ins (T.cl c) dx ((T.fl c).zip vs)) ∧ vs.length ≤ (T.fl c).length ∧ SeesL K T h vs xs := by
  have r1 := r.sees u
  simpa only [Sees] using r1
theorem zip_none {fl : List Str} {vs : List V} {m : Str} (h : m ∉ fl) : (fl.zip vs).lookup m = none := by
  induction fl generalizing vs with
  | nil => rfl
  | cons f fl ih =>
    cases vs with
    | nil => rfl
    | cons v vs =>
      simp only [List.mem_cons, not_or] at h
      simp only [List.zip_cons_cons, List.lookup_cons]
      rw [show (m == f) = false from beq_eq_false_iff_ne.mpr h.1]
      exact ih h.2
theorem zip_get : ∀ {fl : List Str} {vs : List V} {i : Nat} {f : Str} {v : V}, fl.Nodup → fl[i]? = some f → vs[i]? = some v → (fl.zip vs).lookup f = some v
  | [], _, _, _, _, _, e, _ => by simp at e
  | _ :: _, [], _, _, _, _, _, e => by simp at e
  | f0 :: fl, v0 :: vs, 0, f, v, nd, e1, e2 => by
    simp at e1 e2
    subst e1 e2
    simp [List.lookup_cons]
  | f0 :: fl, v0 :: vs, i + 1, f, v, nd, e1, e2 => by
    obtain ⟨n1, n2⟩ := List.nodup_cons.mp nd
    have hm : f ∈ fl := List.mem_of_getElem? (by simpa using e1)
    have hne : f ≠ f0 := fun z => n1 (z ▸ hm)
    simp only [List.zip_cons_cons, List.lookup_cons]
    rw [show (f == f0) = false from beq_eq_false_iff_ne.mpr hne]
    exact zip_get n2 (by simpa using e1) (by simpa using e2)
end
section
variable {X : Cx} {T : Tx} {io : List Bool} {a b c e o i tg : Expr} {es : List Expr} {f k : Env' → Option (D × M × Env')} {fi fp : VEnv → Option (D × M)} {fl : VEnv → Option (List (D × M))} {pos p apos cpos : Pos} {x m : Str} {j l n cc : Nat} {run : Fi} {fr : Env' → Option (Ar × Env')} {ka : Env' → Option (List Ar × Env')}
def rSl (j : Nat) : Env' → Option (Ar × Env') := fun env => match env[j]? with
  | some (some _) => some (.sl j, env)
  | _ => none
theorem jrv_sl (hN : X.N[j]? = some x) (hv : Vis X.env.scope x := by first | exact Or.inl rfl | exact Or.inr (Or.inl rfl) | exact Or.inr (Or.inr rfl)) (hd : (x == ("__debug__" : Str)) = false := by decide) (hcd : (x == ("__classdict__" : Str)) = false := by decide) : JRv T X (.Name x p) (rSl j) :=
  ⟨fun pins sx σ H Q I ⟨s, env, A, y, env', o, q, w⟩ => by
    unfold rSl at q
    split at q
    · rename_i dm ex
      cases q
      obtain ⟨v, B, e1, e2, _⟩ := o.er.get ex
      exact (pe_var hN hv hd hcd).run pins sx σ H Q I ⟨v, e1, w v s H A [] (Hd.nil o) ⟨v, [], rfl, e1, rfl, rfl⟩⟩
    · cases q⟩
def rVl (f : Env' → Option (D × M × Env')) : Env' → Option (Ar × Env') := fun env => (f env).bind fun x => some (.vl (x.1, x.2.1), x.2.2)
theorem jrv_vl (h : JE T X e f) : JRv T X e (rVl f) := ⟨fun pins sx σ H Q I ⟨s, env, A, y, env', o, q, w⟩ => by
  obtain ⟨⟨d, m, env1⟩, e1, q⟩ := Option.bind_eq_some_iff.mp q
  cases q
  exact h.run pins sx σ H Q I ⟨s, env, A, d, m, _, o, e1, fun v s' h' A' B g => w v s' h' A' B g.one.hd ⟨v, [], B, [], rfl, (List.append_nil B).symm, g.rp, rfl, rfl⟩⟩⟩
def caN : Env' → Option (List Ar × Env') := fun env => some ([], env)
def caC (f : Env' → Option (Ar × Env')) (k : Env' → Option (List Ar × Env')) : Env' → Option (List Ar × Env') := fun env => (f env).bind fun x => (k x.2).bind fun r => some (x.1 :: r.1, r.2)
theorem jca_nil : JCA T X [] caN := ⟨fun pos pins sx σ H Q I ⟨s, env, A, ars, env', o, q, w⟩ => by
  cases q
  exact pa_nil.run pos pins sx σ H Q I (w [] s H A [] (Hd.nil o) ⟨rfl, rfl⟩)⟩
theorem argL_cons {K : PySem.W.Frag} {s h s' h' : Hp} {σ : St} {W B1 B2 : List Addr} {v : V} {vs : List V} {y : Ar} {ars : List Ar} (st : Step T W s h s' h') (r : ArgL K T s h σ [v] [y] B1) (dis : ∀ b ∈ B1, b ∉ W) (q : ArgL K T s' h' σ vs ars B2) : ArgL K T s' h' σ (v :: vs) (y :: ars) (B1 ++ B2) := by
  have r' := r.step st dis
  cases y with
  | sl j =>
    obtain ⟨v', q', e, e1, r2⟩ := r'
    cases e
    obtain ⟨_, rfl⟩ := r2
    exact ⟨v, vs, rfl, e1, q⟩
  | vl x =>
    obtain ⟨v', q', C1, C2, e, e0, r1, r2⟩ := r'
    cases e
    obtain ⟨_, rfl⟩ := r2
    rw [List.append_nil] at e0
    subst e0
    exact ⟨v, vs, _, B2, rfl, rfl, r1, q⟩
theorem jca_cons (hr : JRv T X e fr) (ha : JCA T X es ka) (hs : starEach (e :: es) X.env = (false, eval e X.env) :: starEach es X.env := by rfl) : JCA T X (e :: es) (caC fr ka) := ⟨fun pos pins sx σ H Q I ⟨s, env, A, ars, env', o, q, w⟩ => by
  obtain ⟨⟨y, env1⟩, e1, q⟩ := Option.bind_eq_some_iff.mp q
  obtain ⟨⟨r, env2⟩, e2, q⟩ := Option.bind_eq_some_iff.mp q
  cases q
  refine (pa_cons hr ha hs).run pos pins sx σ H Q I ⟨s, env, A, y, env1, o, e1, fun v s1 h1 A1 B1 g1 r1 => ⟨s1, env1, A1, r, _, g1.own, e2, fun vs s2 h2 A2 B2 g2 r2 => ?_⟩⟩
  obtain ⟨g3, dis⟩ := g1.two g2
  exact w (v :: vs) s2 h2 A2 (B1 ++ B2) g3 (argL_cons g2.st r1 dis r2)⟩
/-! calls by name -/
def eCall (io : List Bool) (n : Nat) (run : Fi) (ka : Env' → Option (List Ar × Env')) : Env' → Option (D × M × Env') := fun env => (ka env).bind fun x => callR io n run x.1 x.2
theorem je_call (F : CalG X.prog X.w X.K X.mg X.base T l x n run) (io : List Bool) (hr : RoomG j X.A) (hl : l ≤ j) (hg : Gl X x) (ha : JCA T X (e :: es) ka) (hdb : (x == ("__debug__" : Str)) = false := by decide)
    (he : starEach (e :: es) X.env = (false, eval e X.env) :: starEach es X.env := by rfl) (hpl : (backTo pos (starEach es X.env)).any (·.1) = false := by rfl) : JE T X (.Call (.Name x p) (e :: es) [] pos) (eCall io n run ka) := by
  obtain ⟨ff, fd, ps, F0, hm, kp, bd⟩ := F.ex
  refine je_mk (peG_call F0 (hr.mono hl) hg hm kp bd pass0 ha hdb he hpl) fun σ h Q ⟨s, env, A, d, m, env', o, q, w⟩ => ?_
  obtain ⟨⟨ars, env1⟩, e1, q⟩ := Option.bind_eq_some_iff.mp q
  refine ⟨s, env, A, ars, env1, o, e1, fun vs s1 h1 A1 B1 g1 r1 => ?_⟩
  simp only [List.append_nil]
  exact callR_go g1 r1 q w
def eCall0 (run : Fi) : Env' → Option (D × M × Env') := fun env => callR [] 0 run [] env
theorem je_call0 (F : CalG X.prog X.w X.K X.mg X.base T l x 0 run) (hr : RoomG j X.A) (hl : l ≤ j) (hg : Gl X x) (hdb : (x == ("__debug__" : Str)) = false := by decide) : JE T X (.Call (.Name x p) [] [] pos) (eCall0 run) := by
  obtain ⟨ff, fd, ps, F0, hm, kp, bd⟩ := F.ex
  exact je_mk (peG_call0 F0 (hr.mono hl) hg hm kp bd pass0 hdb) fun σ h Q ⟨s, env, A, d, m, env', o, q, w⟩ => callR_go (E := E0) (vs := []) (Hd.nil o) (show ArgL X.K T s h σ [] [] [] from ⟨rfl, rfl⟩) q w
/-- .. that only reads -/
def pCalG (n : Nat) (run : Fi) (k : VEnv → Option (List (D × M))) : VEnv → Option (D × M) := fun ve => (k ve).bind fun r => if r.length = n then (run (rdL r)).bind fun y => some (y.1, y.2.1) else none
theorem jp_callG (F : CalG X.prog X.w X.K X.mg X.base T l x n run) (hr : RoomG j X.A) (hl : l ≤ j) (hg : Gl X x) (ha : JA T X (e :: es) fl) (hdb : (x == ("__debug__" : Str)) = false := by decide)
    (he : starEach (e :: es) X.env = (false, eval e X.env) :: starEach es X.env := by rfl) (hpl : (backTo pos (starEach es X.env)).any (·.1) = false := by rfl) : JP T X (.Call (.Name x p) (e :: es) [] pos) (pCalG n run fl) := by
  obtain ⟨t, a1, a2⟩ := ha
  obtain ⟨ff, fd, ps, F0, hm, kp, bd⟩ := F.ex
  refine ⟨_, peG_call F0 (hr.mono hl) hg hm kp bd pass0 a1 hdb he hpl, fun σ s h ve d m Q A q w => ?_⟩
  obtain ⟨ds, e1, q⟩ := Option.bind_eq_some_iff.mp q
  split at q
  · rename_i hn
    obtain ⟨⟨dz, mz, ps'⟩, e2, q⟩ := Option.bind_eq_some_iff.mp q
    cases q
    refine a2 σ s h ve ds _ A e1 fun vs s1 h1 B g1 r1 f1 => ?_
    simp only [List.append_nil]
    exact rd_call (A.gotL g1 r1 f1) hn e2 fun v s2 h2 A2 B2 g2 => w v s2 h2 B2 g2.got
  · cases q
/-! methods -/
def isIns (c : Nat) (x : Ar) (env : Env') : Bool := match x with
  | .sl j => match env[j]? with
    | some (some (.ins c' _, _)) => c' == c
    | _ => false
  | .vl (.ins c' _, _) => c' == c
  | _ => false
theorem isIns_go {K : PySem.W.Frag} {s h s1 h1 : Hp} {σ : St} {A A1 B : List Addr} {env : Env'} {v : V} {y : Ar} (g : Hd K T s h A σ env s1 h1 A1 B) (r : ArgL K T s1 h1 σ [v] [y] B) (e : isIns cc y env = true) (hm : m ∉ T.fl cc) :
    ∃ a dx fs, v = .ref a ∧ h1 a = some (.ins (T.cl cc) dx fs) ∧ fs.lookup m = none := by
  have fin : ∀ {xs : List D} {mm : M} {B : List Addr}, Rep K T s1 h1 v (.ins cc xs) mm B → ∃ a dx fs, v = .ref a ∧ h1 a = some (.ins (T.cl cc) dx fs) ∧ fs.lookup m = none := fun r => by
    obtain ⟨p, dx, vs, e1, e2, _, _⟩ := ins_at g.st.sub r
    exact ⟨p, dx, _, e1, e2, zip_none hm⟩
  cases y with
  | sl j =>
    obtain ⟨v', q', e0, e1, r2⟩ := r
    cases e0
    unfold isIns at e
    dsimp only at e
    split at e
    · rename_i c' xs mm ex
      have ec : c' = cc := by simpa using e
      subst ec
      obtain ⟨v2, B2, e2, e3, _⟩ := g.er.get ex
      rw [e1] at e2
      cases e2
      exact fin e3
    · cases e
  | vl x =>
    obtain ⟨v', q', C1, C2, e0, _, r1, r2⟩ := r
    cases e0
    obtain ⟨d, mm⟩ := x
    cases d with
    | ins c' xs =>
      have ec : c' = cc := by simpa [isIns] using e
      subst ec
      exact fin r1
    | _ => simp [isIns] at e
def eMeth (c : Nat) (io : List Bool) (n : Nat) (run : Fi) (fr : Env' → Option (Ar × Env')) (ka : Env' → Option (List Ar × Env')) : Env' → Option (D × M × Env') := fun env => (fr env).bind fun x => if isIns c x.1 x.2 then (ka x.2).bind fun r => callR io n run (x.1 :: r.1) r.2 else none
theorem je_meth {pl : Sem Bool} (F : MetG X.prog X.w X.K X.mg X.base T l cc m n run) (io : List Bool) (hr : RoomG j X.A) (hl : l ≤ j) (ho : JRv T X o fr) (ha : JCA T X (e :: es) ka)
    (hst : starEach (e :: es) X.env = (false, eval e X.env) :: starEach es X.env := by rfl) (hpl : (backTo pos (starEach es X.env)).any (·.1) = false := by rfl)
    (ht : eval (.Call (.Attribute o m apos) (e :: es) [] pos) X.env = (do
      let ov ← eval o X.env
      standAt apos.atName
      let (f, first) ← holding [ov] (getMethod ov m pl)
      callWith pos f first (backTo pos (starEach (e :: es) X.env)) (backToKw pos (keywordEach [] X.env))) := by rfl) : JE T X (.Call (.Attribute o m apos) (e :: es) [] pos) (eMeth cc io n run fr ka) := by
  obtain ⟨ff, fd, ps, c, me, F0, bd, hmf⟩ := F.ex
  refine je_mk (peG_meth ho c me F0 (hr.mono hl) bd pass0 ha hst hpl ht) fun σ h Q ⟨s, env, A, d, mm, env', o, q, w⟩ => ?_
  obtain ⟨⟨y, env1⟩, e1, q⟩ := Option.bind_eq_some_iff.mp q
  dsimp only at q
  split at q
  · rename_i hi
    obtain ⟨⟨ars, env2⟩, e2, q⟩ := Option.bind_eq_some_iff.mp q
    refine ⟨s, env, A, y, env1, o, e1, fun v s1 h1 A1 B1 g1 r1 => ?_⟩
    obtain ⟨a, dx, fs, rfl, ea, el⟩ := isIns_go g1 r1 hi hmf
    refine ⟨a, dx, fs, rfl, ea, el, s1, env1, A1, ars, env2, g1.own, e2, fun vs s2 h2 A2 B2 g2 r2 => ?_⟩
    simp only [List.append_nil]
    obtain ⟨g3, dis⟩ := g1.two g2
    exact callR_go g3 (argL_cons g2.st r1 dis r2) q w
  · cases q
def eMeth0 (c : Nat) (io : List Bool) (n : Nat) (run : Fi) (fr : Env' → Option (Ar × Env')) : Env' → Option (D × M × Env') := fun env => (fr env).bind fun x => if isIns c x.1 x.2 then callR io n run [x.1] x.2 else none
theorem je_meth0 {pl : Sem Bool} (F : MetG X.prog X.w X.K X.mg X.base T l cc m n run) (io : List Bool) (hr : RoomG j X.A) (hl : l ≤ j) (ho : JRv T X o fr)
    (ht : eval (.Call (.Attribute o m apos) [] [] pos) X.env = (do
      let ov ← eval o X.env
      standAt apos.atName
      let (f, first) ← holding [ov] (getMethod ov m pl)
      callWith pos f first (backTo pos (starEach [] X.env)) (backToKw pos (keywordEach [] X.env))) := by rfl) : JE T X (.Call (.Attribute o m apos) [] [] pos) (eMeth0 cc io n run fr) := by
  obtain ⟨ff, fd, ps, c, me, F0, bd, hmf⟩ := F.ex
  refine je_mk (peG_meth0 ho c me F0 (hr.mono hl) bd pass0 ht) fun σ h Q ⟨s, env, A, d, mm, env', o, q, w⟩ => ?_
  obtain ⟨⟨y, env1⟩, e1, q⟩ := Option.bind_eq_some_iff.mp q
  dsimp only at q
  split at q
  · rename_i hi
    refine ⟨s, env, A, y, env1, o, e1, fun v s1 h1 A1 B1 g1 r1 => ?_⟩
    obtain ⟨a, dx, fs, rfl, ea, el⟩ := isIns_go g1 r1 hi hmf
    exact ⟨a, dx, fs, rfl, ea, el, callR_go (E := E0) g1 r1 q w⟩
  · cases q
def pMeth (c n : Nat) (run : Fi) (f : VEnv → Option (D × M)) (k : VEnv → Option (List (D × M))) : VEnv → Option (D × M) := fun ve => (f ve).bind fun x => match x.1 with
  | .ins c' _ => if c' = c then (k ve).bind fun r => if r.length + 1 = n then (run (rdL (x :: r))).bind fun y => some (y.1, y.2.1) else none else none
  | _ => none
theorem jp_meth {pl : Sem Bool} (F : MetG X.prog X.w X.K X.mg X.base T l cc m n run) (hr : RoomG j X.A) (hl : l ≤ j) (ho : JP T X o fp) (ha : JA T X (e :: es) fl)
    (hst : starEach (e :: es) X.env = (false, eval e X.env) :: starEach es X.env := by rfl) (hpl : (backTo pos (starEach es X.env)).any (·.1) = false := by rfl)
    (ht : eval (.Call (.Attribute o m apos) (e :: es) [] pos) X.env = (do
      let ov ← eval o X.env
      standAt apos.atName
      let (f, first) ← holding [ov] (getMethod ov m pl)
      callWith pos f first (backTo pos (starEach (e :: es) X.env)) (backToKw pos (keywordEach [] X.env))) := by rfl) : JP T X (.Call (.Attribute o m apos) (e :: es) [] pos) (pMeth cc n run fp fl) := by
  obtain ⟨ff, fd, ps, c, me, F0, bd, hmf⟩ := F.ex
  obtain ⟨t, a1, a2⟩ := ha
  obtain ⟨u, b1, b2⟩ := ho
  refine ⟨_, peG_meth b1 c me F0 (hr.mono hl) bd pass0 a1 hst hpl ht, fun σ s h ve d mm Q A q0 w => ?_⟩
  obtain ⟨⟨dx, mx⟩, e1, q⟩ := Option.bind_eq_some_iff.mp q0
  dsimp only at q
  split at q
  · rename_i c' xs
    split at q
    · rename_i ec
      subst ec
      obtain ⟨ds, e2, q⟩ := Option.bind_eq_some_iff.mp q
      split at q
      · rename_i hn
        obtain ⟨⟨dz, mz, ps'⟩, e3, q⟩ := Option.bind_eq_some_iff.mp q
        cases q
        refine b2 σ s h ve _ mx _ A e1 fun v s1 h1 B1 G1 => ?_
        obtain ⟨a, dx, vs, rfl, ea, _, _⟩ := ins_at G1.gr.sub G1.rep
        refine ⟨a, dx, _, rfl, ea, zip_none hmf, a2 σ s1 h1 ve ds _ (A.grow G1.gr) e2 fun vs s2 h2 B2 g2 r2 f2 => ?_⟩
        simp only [List.append_nil]
        have x1 : GotE X.K T s h [] σ (.ref a) (.ins c' xs) mx (noEnv σ) s1 h1 [] B1 := (A.gotL G1.gr (ds := [(.ins c' xs, mx)]) ⟨.ref a, [], B1, [], rfl, (List.append_nil _).symm, G1.rep, rfl, rfl⟩ G1.fr).head |> fun ⟨_, _, C1, C2, e4, e5, g5, r5⟩ => by
          cases e4
          obtain ⟨_, rfl⟩ := r5
          rw [List.append_nil] at e5
          subst e5
          exact g5
        exact rd_call (GotL.cons x1 ((A.grow G1.gr).gotL g2 r2 f2)) hn e3 fun v s2 h2 A2 B2 g2 => w v s2 h2 B2 g2.got
      · cases q
    · cases q
  · cases q
def pMeth0 (c n : Nat) (run : Fi) (f : VEnv → Option (D × M)) : VEnv → Option (D × M) := fun ve => (f ve).bind fun x => match x.1 with
  | .ins c' _ => if c' = c then if 1 = n then (run (rdL [x])).bind fun y => some (y.1, y.2.1) else none else none
  | _ => none
theorem jp_meth0 {pl : Sem Bool} (F : MetG X.prog X.w X.K X.mg X.base T l cc m n run) (hr : RoomG j X.A) (hl : l ≤ j) (ho : JP T X o fp)
    (ht : eval (.Call (.Attribute o m apos) [] [] pos) X.env = (do
      let ov ← eval o X.env
      standAt apos.atName
      let (f, first) ← holding [ov] (getMethod ov m pl)
      callWith pos f first (backTo pos (starEach [] X.env)) (backToKw pos (keywordEach [] X.env))) := by rfl) : JP T X (.Call (.Attribute o m apos) [] [] pos) (pMeth0 cc n run fp) := by
  obtain ⟨ff, fd, ps, c, me, F0, bd, hmf⟩ := F.ex
  obtain ⟨u, b1, b2⟩ := ho
  refine ⟨_, peG_meth0 b1 c me F0 (hr.mono hl) bd pass0 ht, fun σ s h ve d mm Q A q0 w => ?_⟩
  obtain ⟨⟨dx, mx⟩, e1, q⟩ := Option.bind_eq_some_iff.mp q0
  dsimp only at q
  split at q
  · rename_i c' xs
    split at q
    · rename_i ec
      subst ec
      split at q
      · rename_i hn
        obtain ⟨⟨dz, mz, ps'⟩, e3, q⟩ := Option.bind_eq_some_iff.mp q
        cases q
        refine b2 σ s h ve _ mx _ A e1 fun v s1 h1 B1 G1 => ?_
        obtain ⟨a, dx, vs, rfl, ea, _, _⟩ := ins_at G1.gr.sub G1.rep
        refine ⟨a, dx, _, rfl, ea, zip_none hmf, ?_⟩
        exact rd_call (E := E0) (A.gotL G1.gr (ds := [(.ins c' xs, mx)]) (vs := [.ref a]) ⟨.ref a, [], B1, [], rfl, (List.append_nil _).symm, G1.rep, rfl, rfl⟩ G1.fr) hn e3 fun v s2 h2 A2 B2 g2 => w v s2 h2 B2 g2.got
      · cases q
    · cases q
  · cases q
/-! new objects -/
theorem make_core {K : PySem.W.Frag} {s h s1 h1 : Hp} {σ : St} {A A1 B : List Addr} {env1 : Env'} {vs : List V} {dms : List (D × M)} {xa dx : Addr} (g : GotL K T s h A σ vs dms env1 s1 h1 A1 B) (n1 : h1 xa = none) (n2 : h1 dx = none) (ne : dx ≠ xa) :
    GotL K T s h A σ (.ref xa :: vs) ((.ins cc [], .dp) :: dms) env1 s1 (upd (upd h1 dx (.own xa)) xa (.ins (T.cl cc) dx [])) A1 (xa :: B) := by
  have g1 : Gr T s1 h1 s1 (upd h1 dx (.own xa)) := Gr.own g.st.sub n2
  have n1' : upd h1 dx (.own xa) xa = none := by rw [upd_ne ne.symm]; exact n1
  have g2 : Gr T s1 (upd h1 dx (.own xa)) s1 (upd (upd h1 dx (.own xa)) xa (.ins (T.cl cc) dx [])) := Gr.own g1.sub n1'
  have g3 := g1.trans g2
  have old : ∀ b ∈ A1 ++ B, b ≠ xa := fun b hb z => by
    subst z
    obtain ⟨o, eo, _⟩ := (List.mem_append.mp hb).elim (fun z => g.er.mem b z) fun z => g.rp.mem b z
    rw [n1] at eo; cases eo
  obtain ⟨k1, k2, k3⟩ := List.nodup_append.mp g.nd
  refine ⟨g.st.trans (g3.step (A1 ++ B)) g.wh, g3.tab g.tab, g.er.grow g3, ⟨.ref xa, vs, [xa], B, rfl, rfl, ?_, g.rp.grow g3⟩, ?_, fun a ha => ?_, fun a ha => ?_⟩
  · simp only [Rep, Deep]
    exact ⟨xa, dx, [], [], rfl, by rw [List.zip_nil_right]; exact upd_same, Nat.zero_le _, rfl, by simp [DeepL]⟩
  · refine List.nodup_append.mpr ⟨k1, List.nodup_cons.mpr ⟨fun z => old xa (List.mem_append_right _ z) rfl, k2⟩, fun a ha b hb z => ?_⟩
    rcases List.mem_cons.mp hb with rfl | hb
    · exact old a (List.mem_append_left _ ha) z
    · exact k3 a ha b hb z
  · rcases List.mem_append.mp ha with ha | ha
    · exact g.fr a (List.mem_append_left _ ha)
    · rcases List.mem_cons.mp ha with rfl | ha
      · exact g.st.sub.no _ n1
      · exact g.fr a (List.mem_append_right _ ha)
  · rcases List.mem_append.mp ha with ha | ha
    · exact g.wh a (List.mem_append_left _ ha)
    · rcases List.mem_cons.mp ha with rfl | ha
      · exact .inr (g.st.non _ n1)
      · exact g.wh a (List.mem_append_right _ ha)
/-- __init__ of a new object of class c -/
def mkR (c n : Nat) (run : Fi) (ds : List (D × M)) : Option (D × M) := if ds.length + 1 = n then (run ((.ins c [], .dp) :: rdL ds)).bind fun y => match y.1, y.2.2 with
  | .non, p :: _ => some p
  | _, _ => none else none
theorem make_go {K : PySem.W.Frag} {s h s1 h1 : Hp} {σ : St} {A A1 B : List Addr} {env1 : Env'} {vs : List V} {ds : List (D × M)} {z : D × M} {Q : VK} {E : XK} (g : GotL K T s h A σ vs ds env1 s1 h1 A1 B) (q : mkR cc n run ds = some z)
    (w : ∀ v s2 h2 A2 B2, GotE K T s h A σ v z.1 z.2 env1 s2 h2 A2 B2 → Q v h2) : ∀ x dx, h1 x = none → h1 dx = none → dx ≠ x → spG K T n run (.ref x :: vs) (upd (upd h1 dx (.own x)) x (.ins (T.cl cc) dx [])) (fun v H2 => v = .non ∧ Q (.ref x) H2) E := by
  intro x dx n1 n2 ne
  unfold mkR at q
  split at q
  · rename_i hn
    obtain ⟨⟨dz, mz, ps'⟩, e1, q⟩ := Option.bind_eq_some_iff.mp q
    dsimp only at q
    split at q
    · rename_i p pr
      cases q
      obtain ⟨s3, B3, g3⟩ := (g.conv (List.replicate ds.length false))
      rw [convL_rd] at g3
      have g4 := make_core (cc := cc) g3 n1 n2 ne
      refine call_core g4 (by simpa [rdL] using hn) e1 fun v s5 h5 B5 g5 => ?_
      obtain ⟨v', q', C1, C2, e4, rfl, g6, r6⟩ := g5.head
      cases e4
      have hv := g6.rp.sees g6.st.sub
      simp only [Sees] at hv
      subst hv
      refine ⟨rfl, ?_⟩
      obtain ⟨w', q2, C3, C4, e5, rfl, r7, r8⟩ := r6
      cases e5
      have hd : Hd K T s h A σ env1 s5 h5 A1 C3 := g5.hd.less (List.nodup_append.mp (List.nodup_append.mp (List.nodup_append.mp g5.nd).2.1).2.1).1 (fun b hb => List.mem_append_right _ (List.mem_append_left _ hb))
      exact w _ s5 h5 A1 C3 ⟨hd.st, hd.tab, hd.er, r7, hd.nd, hd.fr, hd.wh⟩
    · cases q
  · cases q
def eMake (c n : Nat) (run : Fi) (k : Env' → Option (List (D × M) × Env')) : Env' → Option (D × M × Env') := fun env => (k env).bind fun r => (mkR c n run r.1).bind fun z => some (z.1, z.2, r.2)
theorem je_make {kk : Env' → Option (List (D × M) × Env')} (F : MakG X.prog X.w X.K X.mg X.base T l x cc n run) (hr : RoomG j X.A) (hl : l + 1 ≤ j) (hg : Gl X x) (ha : JAE T X (e :: es) kk) (hdb : (x == ("__debug__" : Str)) = false := by decide)
    (he : starEach (e :: es) X.env = (false, eval e X.env) :: starEach es X.env := by rfl) (hpl : (backTo pos (starEach es X.env)).any (·.1) = false := by rfl) : JE T X (.Call (.Name x p) (e :: es) [] pos) (eMake cc n run kk) := by
  obtain ⟨ff, fd, ps, M0, hm, F0, bd⟩ := F.ex
  refine je_mk (peG_make M0 F0 (hr.mono hl) hg hm bd pass0 ha hdb he hpl) fun σ h Q ⟨s, env, A, d, m, env', o, q, w⟩ => ?_
  obtain ⟨⟨ds, env1⟩, e1, q⟩ := Option.bind_eq_some_iff.mp q
  obtain ⟨z, e2, q⟩ := Option.bind_eq_some_iff.mp q
  cases q
  refine ⟨s, env, A, ds, _, o, e1, fun vs s1 h1 A1 B1 g1 => ?_⟩
  simp only [List.append_nil]
  exact make_go g1 e2 w
def pMake (c n : Nat) (run : Fi) (k : VEnv → Option (List (D × M))) : VEnv → Option (D × M) := fun ve => (k ve).bind fun r => mkR c n run r
theorem jp_make (F : MakG X.prog X.w X.K X.mg X.base T l x cc n run) (hr : RoomG j X.A) (hl : l + 1 ≤ j) (hg : Gl X x) (ha : JA T X (e :: es) fl) (hdb : (x == ("__debug__" : Str)) = false := by decide)
    (he : starEach (e :: es) X.env = (false, eval e X.env) :: starEach es X.env := by rfl) (hpl : (backTo pos (starEach es X.env)).any (·.1) = false := by rfl) : JP T X (.Call (.Name x p) (e :: es) [] pos) (pMake cc n run fl) := by
  obtain ⟨ff, fd, ps, M0, hm, F0, bd⟩ := F.ex
  obtain ⟨t, a1, a2⟩ := ha
  refine ⟨_, peG_make M0 F0 (hr.mono hl) hg hm bd pass0 a1 hdb he hpl, fun σ s h ve d mm Q A q w => ?_⟩
  obtain ⟨ds, e1, q⟩ := Option.bind_eq_some_iff.mp q
  refine a2 σ s h ve ds _ A e1 fun vs s1 h1 B g1 r1 f1 => ?_
  simp only [List.append_nil]
  exact make_go (A.gotL g1 r1 f1) q fun v s2 h2 A2 B2 g2 => w v s2 h2 B2 g2.got
/-! fields -/
def pFld (c i : Nat) (f : VEnv → Option (D × M)) : VEnv → Option (D × M) := fun ve => (f ve).bind fun x => match x.1 with
  | .ins c' vs => if c' = c then (vs[i]?).bind fun d => some (d, im d) else none
  | _ => none
theorem jp_fld {ix : Nat} {fd : Str} (C : FldG X.K T cc) (hi : (T.fl cc)[ix]? = some fd) (ho : JP T X o fp) (hb : attributeBase o fd X.env (eval o X.env) = eval o X.env := by rfl) : JP T X (.Attribute o fd pos) (pFld cc ix fp) := by
  obtain ⟨t, a1, a2⟩ := ho
  refine ⟨_, pe_fld a1 hb, fun σ s h ve d m Q A q0 w => ?_⟩
  obtain ⟨⟨dx, mx⟩, e1, q⟩ := Option.bind_eq_some_iff.mp q0
  dsimp only at q
  split at q
  · rename_i c' xs
    split at q
    · rename_i ec
      subst ec
      obtain ⟨d', e2, q⟩ := Option.bind_eq_some_iff.mp q
      cases q
      refine a2 σ s h ve _ mx _ A e1 fun v s1 h1 B1 G1 => ?_
      obtain ⟨g2, r2⟩ := G1.seen
      simp only [Sees] at r2
      obtain ⟨p, dx, vs, rfl, ea, _, er⟩ := r2
      obtain ⟨u, eu, ru⟩ := er.get e2
      exact ⟨p, T.cl c', dx, _, u, rfl, g2.sub.at_ _ _ ea (by intro _ z; cases z), C.cls, C.na fd (List.mem_of_getElem? hi), zip_get C.nd hi eu, w u _ h1 [] (Got.of g2 ru)⟩
    · cases q
  · cases q
end
end G
set_option Elab.async false
set_option linter.all false
set_option maxRecDepth 100000
set_option maxHeartbeats 4000000
/-! G15: built-in types, sorted, isinstance, small dicts, keywords, own == -/
namespace G
open PySem PySem.Spec PyProof.Rows L2
section
variable {X : Cx} {T : Tx} {io : List Bool} {a b c e o i tg : Expr} {es : List Expr} {f k : Env' → Option (D × M × Env')} {fi fp fq : VEnv → Option (D × M)} {fl : VEnv → Option (List (D × M))} {pos p apos cpos : Pos} {x m : Str} {j l n cc : Nat} {run : Fi}
/-! built-in types as functions -/
theorem jp_callTy {id : String} {g : List D → Option (D × M)} (oc : OC T X (.type id) g) (hg : Gl X x) (hm : X.mg x = none) (hv : bootBuiltins x = some (.type id)) (ha : JA T X (e :: es) fl)
    (hn : x ≠ "__name__" := by decide) (hdb : (x == ("__debug__" : Str)) = false := by decide) (h1 : starEach (e :: es) X.env = (false, eval e X.env) :: starEach es X.env := by rfl)
    (h2 : (backTo pos (starEach es X.env)).any (·.1) = false := by rfl) : JP T X (.Call (.Name x p) (e :: es) [] pos) (pCB g fl) := by
  obtain ⟨r, o1, o2⟩ := oc
  obtain ⟨ta, a1, a2⟩ := ha
  exact ⟨_, pe_callTy o1 hg hm hv a1 hn hdb h1 h2, args_go a2 o2⟩
theorem je_callTy {id : String} {g : List D → Option (D × M)} {kk : Env' → Option (List (D × M) × Env')} (oc : OC T X (.type id) g) (hg : Gl X x) (hm : X.mg x = none) (hv : bootBuiltins x = some (.type id)) (ha : JAE T X (e :: es) kk)
    (hn : x ≠ "__name__" := by decide) (hdb : (x == ("__debug__" : Str)) = false := by decide) (h1 : starEach (e :: es) X.env = (false, eval e X.env) :: starEach es X.env := by rfl)
    (h2 : (backTo pos (starEach es X.env)).any (·.1) = false := by rfl) : JE T X (.Call (.Name x p) (e :: es) [] pos) (eCB g kk) := by
  obtain ⟨r, o1, o2⟩ := oc
  exact je_mk (pe_callTy o1 hg hm hv ha hn hdb h1 h2) fun σ h Q => eCB_go o2 σ h Q
/-! x.bit_length() -/
def pBits (f : VEnv → Option (D × M)) : VEnv → Option (D × M) := fun ve => (f ve).bind fun x => match x.1 with
  | .int i => some (.int (Builtin.Int.intBits i : Nat), .dp)
  | _ => none
theorem jp_bits (ho : JP T X o fp) (hbase : attributeBase o "bit_length" X.env (eval o X.env) = eval o X.env := by rfl) (hline : (apos.endLine == pos.line) = true := by rfl) : JP T X (.Call (.Attribute o "bit_length" apos) [] [] pos) (pBits fp) := by
  obtain ⟨t, a1, a2⟩ := ho
  refine ⟨_, pe_bits a1 hbase hline, fun σ s h ve d m Q A q w => ?_⟩
  obtain ⟨⟨dx, mx⟩, e1, q⟩ := Option.bind_eq_some_iff.mp q
  refine a2 σ s h ve dx mx _ A e1 fun v s1 h1 B G1 => ?_
  obtain ⟨g1, r1⟩ := G1.seen
  dsimp only at q
  split at q
  · rename_i ii
    cases q
    simp only [Sees] at r1
    exact ⟨ii, r1, w _ _ h1 [] ((got_int g1.sub).pre g1)⟩
  · cases q
/-! list(range(..)) -/
def pLr (f : VEnv → Option (List D)) : VEnv → Option (D × M) := fun ve => (f ve).bind fun ds => if ds.length ≤ lim then some (.lst ds, .dp) else none
theorem rgV_map (i k : Int) : ∃ ns : List Int, rgV i k = ns.map V.int ∧ rgD i k = ns.map D.int := ⟨(List.range (k - i).toNat).map fun j => i + (j : Nat), by unfold rgV; rw [List.map_map]; rfl, by unfold rgD; rw [List.map_map]; rfl⟩
theorem got_rg {K : PySem.W.Frag} {s h : Hp} {q : Addr} {i k : Int} (e : Sub s h) (n : h q = none) : Got K T s h (.ref q) (.lst (rgD i k)) .dp s (upd h q (.lst (rgV i k))) [q] := by
  obtain ⟨ns, e1, e2⟩ := rgV_map i k
  rw [e1, e2]
  exact got_ints e n
theorem jp_listRg1 {p2 pos2 : Pos} (hc : X.calm = true) (hg : Gl X "list") (hm : X.mg "list" = none) (hg2 : Gl X "range") (hm2 : X.mg "range" = none) (ha : JP T X a fp) (na : starEach [a] X.env = (false, eval a X.env) :: starEach [] X.env := by rfl)
    (nb : starEach [Expr.Call (.Name "range" p2) [a] [] pos2] X.env = (false, eval (.Call (.Name "range" p2) [a] [] pos2) X.env) :: starEach [] X.env := by rfl) : JP T X (.Call (.Name "list" p) [.Call (.Name "range" p2) [a] [] pos2] [] pos) (pLr (iRg1 fp)) := by
  obtain ⟨t, a1, a2⟩ := ha
  refine ⟨_, pe_listRg hc hg hm (prg_1 hg2 hm2 a1 na) nb, fun σ s h ve d m Q A q w => ?_⟩
  obtain ⟨ds, e0, q⟩ := Option.bind_eq_some_iff.mp q
  unfold iRg1 at e0
  obtain ⟨⟨dx, mx⟩, e1, e0⟩ := Option.bind_eq_some_iff.mp e0
  refine a2 σ s h ve dx mx _ A e1 fun v s1 h1 B G1 => ?_
  obtain ⟨g1, r1⟩ := G1.seen
  dsimp only at e0
  split at e0
  · rename_i jj
    split at e0
    · rename_i hb
      cases e0
      simp only [Sees] at r1
      replace hb := bd62_b hb
      split at q
      · rename_i hl
        cases q
        rw [rgD_length] at hl
        have hl' : (jj - 0).toNat ≤ sizeLine := by rw [← lim_eq]; exact hl
        refine ⟨jj, r1, ⟨by decide, by decide, hb.1, hb.2, hl'⟩, fun q hq => w _ _ _ [q] ((got_rg g1.sub hq).pre g1)⟩
      · cases q
    · cases e0
  · cases e0
theorem jp_listRg2 {p2 pos2 : Pos} (hc : X.calm = true) (hg : Gl X "list") (hm : X.mg "list" = none) (hg2 : Gl X "range") (hm2 : X.mg "range" = none) (ha : JP T X a fp) (hb : JP T X b fq) (na : starEach [a, b] X.env = (false, eval a X.env) :: starEach [b] X.env := by rfl)
    (nb : starEach [b] X.env = (false, eval b X.env) :: starEach [] X.env := by rfl) (hp : (backTo pos2 (starEach [b] X.env)).any (·.1) = false := by rfl)
    (nc : starEach [Expr.Call (.Name "range" p2) [a, b] [] pos2] X.env = (false, eval (.Call (.Name "range" p2) [a, b] [] pos2) X.env) :: starEach [] X.env := by rfl) : JP T X (.Call (.Name "list" p) [.Call (.Name "range" p2) [a, b] [] pos2] [] pos) (pLr (iRg2 fp fq)) := by
  obtain ⟨t, a1, a2⟩ := ha
  obtain ⟨u, b1, b2⟩ := hb
  refine ⟨_, pe_listRg hc hg hm (prg_2 hg2 hm2 a1 b1 na nb hp) nc, fun σ s h ve d m Q A q w => ?_⟩
  obtain ⟨ds, e0, q⟩ := Option.bind_eq_some_iff.mp q
  unfold iRg2 at e0
  obtain ⟨⟨dx, mx⟩, e1, ea⟩ := Option.bind_eq_some_iff.mp e0
  obtain ⟨⟨dy, my⟩, e2, eb⟩ := Option.bind_eq_some_iff.mp ea
  refine a2 σ s h ve dx mx _ A e1 fun v s1 h1 B G1 => ?_
  obtain ⟨g1, r1⟩ := G1.seen
  refine b2 σ _ h1 ve dy my _ (A.grow g1) e2 fun v2 s2 h2 B2 G2 => ?_
  obtain ⟨g2, r2⟩ := G2.seen
  dsimp only at eb
  split at eb
  · rename_i ii jj
    split at eb
    · rename_i hb
      cases eb
      simp only [Sees] at r1 r2
      replace hb := and62 hb
      split at q
      · rename_i hl
        cases q
        rw [rgD_length] at hl
        have hl' : (jj - ii).toNat ≤ sizeLine := by rw [← lim_eq]; exact hl
        refine ⟨ii, jj, r1, r2, ⟨hb.1.1, hb.1.2, hb.2.1, hb.2.2, hl'⟩, fun q hq => w _ _ _ [q] ((got_rg g2.sub hq).pre (g1.trans g2))⟩
      · cases q
    · cases eb
  · cases eb
/-! sorted: ints, pairs of ints -/
def toPairs : List D → Option (List (Int × Int))
  | [] => some []
  | .tup [.int i, .int j] :: ds => (toPairs ds).bind fun r => some ((i, j) :: r)
  | _ => none
def pD (x : Int × Int) : D := .tup [.int x.1, .int x.2]
theorem toPairs_map : ∀ ps : List (Int × Int), toPairs (ps.map pD) = some ps
  | [] => rfl
  | (i, j) :: ps => by
    show (toPairs (ps.map pD)).bind _ = _
    rw [toPairs_map ps]
    rfl
theorem toPairs_eq : ∀ {ds : List D} {ps : List (Int × Int)}, toPairs ds = some ps → ds = ps.map pD
  | [], ps, h => by cases h; rfl
  | d :: ds, ps, h => by
    unfold toPairs at h
    split at h
    · rename_i e; cases e
    · rename_i i j ds' e
      cases e
      obtain ⟨r, e1, h⟩ := Option.bind_eq_some_iff.mp h
      cases h
      rw [toPairs_eq e1]
      rfl
    · cases h
def pLe (x y : Int × Int) : Prop := x.1 < y.1 ∨ (x.1 = y.1 ∧ x.2 ≤ y.2)
instance (x y : Int × Int) : Decidable (pLe x y) := by unfold pLe; infer_instance
def insP (x : Int × Int) : List (Int × Int) → List (Int × Int)
  | [] => [x]
  | y :: l => if pLe x y then x :: y :: l else y :: insP x l
def psort : List (Int × Int) → List (Int × Int)
  | [] => []
  | x :: l => insP x (psort l)
theorem insP_perm (x : Int × Int) : ∀ l, (insP x l).Perm (x :: l)
  | [] => List.Perm.refl _
  | y :: l => by
    unfold insP
    split
    · exact List.Perm.refl _
    · exact (List.Perm.cons y (insP_perm x l)).trans (List.Perm.swap x y l)
theorem psort_perm : ∀ l, (psort l).Perm l
  | [] => List.Perm.refl _
  | x :: l => (insP_perm x _).trans (List.Perm.cons x (psort_perm l))
theorem pLe_total (x y : Int × Int) : pLe x y ∨ pLe y x := by unfold pLe; omega
theorem pLe_trans {x y z : Int × Int} (a : pLe x y) (b : pLe y z) : pLe x z := by unfold pLe at *; omega
theorem insP_sorted (x : Int × Int) : ∀ l, l.Pairwise pLe → (insP x l).Pairwise pLe
  | [], _ => List.pairwise_singleton _ _
  | y :: l, h => by
    obtain ⟨h1, h2⟩ := List.pairwise_cons.mp h
    unfold insP
    split
    · rename_i hxy
      refine List.pairwise_cons.mpr ⟨fun z hz => ?_, h⟩
      rcases List.mem_cons.mp hz with rfl | hz
      · exact hxy
      · exact pLe_trans hxy (h1 z hz)
    · rename_i hxy
      refine List.pairwise_cons.mpr ⟨fun z hz => ?_, insP_sorted x l h2⟩
      rcases List.mem_cons.mp ((insP_perm x l).mem_iff.mp hz) with rfl | hz
      · exact (pLe_total _ _).resolve_left hxy
      · exact h1 z hz
theorem psort_sorted : ∀ l, (psort l).Pairwise pLe
  | [] => List.Pairwise.nil
  | x :: l => insP_sorted x _ (psort_sorted l)
theorem psort_uniq {l m : List (Int × Int)} (h1 : l.Pairwise pLe) (h2 : m.Pairwise pLe) (p : l.Perm m) : l = m := p.eq_of_pairwise (fun a b _ _ h1 h2 => by
  unfold pLe at h1 h2
  exact Prod.ext (by omega) (by omega)) h1 h2
def gSorted : List D → Option (D × M)
  | [.lst ds] => match toInts ds with
    | some ns => some (.lst ((isort ns).map D.int), .dp)
    | none => (toPairs ds).bind fun ps => some (.lst ((psort ps).map pD), .dp)
  | _ => none
theorem sees_pD {K : PySem.W.Frag} {s : Hp} {v : V} {x : Int × Int} (r : Sees K T s v (pD x)) : ∃ t, v = .ref t ∧ s t = some (.tup [.int x.1, .int x.2]) := by
  unfold pD at r
  simp only [Sees, SeesL] at r
  obtain ⟨p, vs, rfl, r1, v1, q1, rfl, rfl, v2, q2, rfl, rfl, rfl⟩ := r
  exact ⟨p, rfl, r1⟩
theorem oc_sorted : OC T X (.builtin "sorted") gSorted := by
  refine ⟨_, CallR.or cr_sortedI cr_sortedPO, fun s h xs ds d m Q e tb r q w => ?_⟩
  unfold gSorted at q
  split at q
  · rename_i ds0
    obtain ⟨v, rfl, rv⟩ := sees1 r
    simp only [Sees] at rv
    obtain ⟨p, vs, rfl, e2, e3⟩ := rv
    have e2' : h p = some (.lst vs) := e.at_ _ _ e2 (by intro _ z; cases z)
    split at q
    · rename_i ns ens
      cases q
      have ed := toInts_eq ens
      subst ed
      have ev := seesL_ints_inv ns e3
      subst ev
      refine .inl ⟨p, ns, rfl, SqL.of e2', fun ns' q' hp hs hq => ?_⟩
      have en : ns' = isort ns := sorted_uniq hs (isort_sorted ns) (hp.trans (isort_perm ns).symm)
      subst en
      exact w _ _ _ [q'] (got_ints e hq)
    · obtain ⟨ps, eps, q⟩ := Option.bind_eq_some_iff.mp q
      cases q
      have ed := toPairs_eq eps
      subst ed
      let kf : V → Int × Int := fun v => match v with
        | .ref t => match h t with
          | some (.tup [.int i, .int j]) => (i, j)
          | _ => (0, 0)
        | _ => (0, 0)
      have kv : ∀ (v : V) (x : Int × Int), Sees X.K T s v (pD x) → kf v = x ∧ ∃ t, v = .ref t ∧ h t = some (.tup [.int x.1, .int x.2]) := fun v x r => by
        obtain ⟨t, rfl, et⟩ := sees_pD r
        have et' : h t = some (.tup [.int x.1, .int x.2]) := e.at_ _ _ et (by intro _ z; cases z)
        refine ⟨?_, t, rfl, et'⟩
        show (match h t with
          | some (.tup [.int i, .int j]) => (i, j)
          | _ => (0, 0)) = x
        rw [et']
      have km : vs.map kf = ps := by
        apply List.ext_getElem?
        intro i
        have hl := SeesL.len _ e3
        rw [List.getElem?_map]
        cases ev : vs[i]? with
        | none =>
          have : vs.length ≤ i := List.getElem?_eq_none_iff.mp ev
          rw [List.getElem?_eq_none (by rw [List.length_map] at hl; omega)]
          rfl
        | some v =>
          obtain ⟨d, e4, e5⟩ := e3.getV ev
          rw [List.getElem?_map] at e4
          cases ep : ps[i]? with
          | none => rw [ep] at e4; cases e4
          | some x =>
            rw [ep] at e4
            cases e4
            rw [Option.map_some, (kv v x e5).1]
      refine .inr ⟨p, vs, kf, rfl, SqL.of e2', fun x hx => ?_, fun ys q' hs hst hq => ?_⟩
      · obtain ⟨i, ei⟩ := List.mem_iff_getElem?.mp hx
        obtain ⟨d, e4, e5⟩ := e3.getV ei
        rw [List.getElem?_map] at e4
        cases ep : ps[i]? with
        | none => rw [ep] at e4; cases e4
        | some z =>
          rw [ep] at e4
          cases e4
          obtain ⟨k1, t, e6, e7⟩ := kv x z e5
          exact ⟨t, e6, by rw [k1]; exact e7⟩
      · have yp : ys.Perm vs := hst.perm
        have es : ys.map kf = psort ps := by
          refine psort_uniq ?_ (psort_sorted ps) ?_
          · refine List.pairwise_map.mpr (hs.imp fun {a b} hab => ?_)
            have := SrtO.lexB_no.mp hab
            unfold pLe
            omega
          · rw [← km]
            exact (yp.map kf).trans (psort_perm _).symm
        have sy : SeesL X.K T s ys ((psort ps).map pD) := by
          rw [← es]
          refine SeesL.of_get (by simp) fun i v d ev ed => ?_
          have hv : v ∈ vs := yp.mem_iff.mp (List.mem_of_getElem? ev)
          obtain ⟨i2, ei⟩ := List.mem_iff_getElem?.mp hv
          obtain ⟨d2, e4, e5⟩ := e3.getV ei
          rw [List.getElem?_map, List.getElem?_map, ev] at ed
          cases ed
          rw [List.getElem?_map] at e4
          cases ep : ps[i2]? with
          | none => rw [ep] at e4; cases e4
          | some z =>
            rw [ep] at e4
            cases e4
            rw [(kv v z e5).1]
            exact e5
        have hi : immL ((psort ps).map pD) = true := by
          generalize psort ps = l
          induction l with
          | nil => rfl
          | cons z l ih => simp [immL, pD, imm, ih]
        have := got_list e hq sy
        unfold lm at this
        rw [if_pos hi] at this
        exact w _ _ _ [q'] this
  · cases q
/-! isinstance -/
def tyN : D → Option String
  | .non => some "NoneType"
  | .bl _ => some "bool"
  | .int _ => some "int"
  | .str _ => some "str"
  | .lst _ => some "list"
  | .scr _ => some "list"
  | .tup _ => some "tuple"
  | .dk _ _ => some "dict"
  | .dt _ _ => none
  | .ins _ _ => none
theorem tyX_of {K : PySem.W.Frag} {s h : Hp} {v : V} {d : D} {n : String} (u : Sub s h) (r : Sees K T s v d) (q : tyN d = some n) : TyX K h v (.type n) := by
  cases d with
  | non => cases q; simp only [Sees] at r; subst r; exact .base .non
  | bl y => cases q; simp only [Sees] at r; subst r; exact .base (.bl y)
  | int y => cases q; simp only [Sees] at r; subst r; exact .base (.int y)
  | str y => cases q; simp only [Sees] at r; subst r; exact .base (.str y)
  | lst ds =>
    cases q
    simp only [Sees] at r
    obtain ⟨p, vs, rfl, e1, _⟩ := r
    exact .base (.lst (u.at_ _ _ e1 (by intro _ z; cases z)))
  | tup ds =>
    cases q
    simp only [Sees] at r
    obtain ⟨p, vs, rfl, e1, _⟩ := r
    exact .base (.tup (sqT_ext u e1))
  | dk ks ds =>
    cases q
    simp only [Sees] at r
    obtain ⟨p, vs, rfl, e1, _⟩ := r
    rcases rd_ext u (by intro _ z; cases z) e1 with z | ⟨ob, z⟩
    · exact .base (.dK z)
    · exact .fDict z
  | dt ks ds => cases q
  | ins c ds => cases q
  | scr ns =>
    cases q
    simp only [Sees] at r
    obtain ⟨p, rfl, e1⟩ := r
    rcases sqL_ext u e1 with (z | ⟨ob, z⟩) | ⟨o, its, n, e2, e3, _⟩
    · exact .base (.lst z)
    · exact .base (.frz z)
    · exact .kList e2 e3
def pIsi (t : String) (f : VEnv → Option (D × M)) : VEnv → Option (D × M) := fun ve => (f ve).bind fun x => (tyN x.1).bind fun n => (kitB n t).bind fun r => some (.bl r, .dp)
theorem jp_isi {t : String} {x : Str} {q1 : Pos} (hg : Gl X "isinstance") (hm : X.mg "isinstance" = none) (hgx : Gl X x) (hmx : X.mg x = none) (hvx : bootBuiltins x = some (.type t)) (ha : JP T X a fp) (hnx : x ≠ "__name__" := by decide) (hdx : (x == ("__debug__" : Str)) = false := by decide)
    (h1 : starEach [a, .Name x q1] X.env = (false, eval a X.env) :: starEach [.Name x q1] X.env := by rfl) (h3 : starEach [Expr.Name x q1] X.env = (false, eval (.Name x q1) X.env) :: starEach [] X.env := by rfl) (h2 : (backTo pos (starEach [Expr.Name x q1] X.env)).any (·.1) = false := by rfl)
    (hv : bootBuiltins "isinstance" = some (.builtin "isinstance") := by decide +kernel) : JP T X (.Call (.Name "isinstance" p) [a, .Name x q1] [] pos) (pIsi t fp) := by
  obtain ⟨ta, a1, a2⟩ := ha
  refine ⟨_, pe_callB call_isi hg hm hv (pa_cons a1 (pa_cons (pe_bltn (v := .ty t) hgx hmx hvx rfl hnx hdx) pa_nil h3) h1) (by decide) (by decide) h1 h2, fun σ s h ve d m Q A q w => ?_⟩
  obtain ⟨⟨dx, mx⟩, e1, q⟩ := Option.bind_eq_some_iff.mp q
  obtain ⟨n, e2, q⟩ := Option.bind_eq_some_iff.mp q
  obtain ⟨r, e3, q⟩ := Option.bind_eq_some_iff.mp q
  cases q
  refine a2 σ s h ve dx mx _ A e1 fun v s1 h1 B G1 => ?_
  obtain ⟨g1, r1⟩ := G1.seen
  exact ⟨v, .ty t, .type n, .type t, r, rfl, .ty t, tyX_of g1.sub r1 e2, kit_ty e3, w _ _ h1 [] ((got_bl g1.sub).pre g1)⟩
/-- what isinstance says of class c -/
structure IsiC (K : PySem.W.Frag) (T : Tx) (c : Nat) : Prop where
  cl : Cls K (T.cl c)
  ha : PySem.W.findIn K (.ref (T.cl c)) "__class__" = some (some (.builtin "object.__class__"))
  hn : PySem.W.specialIn K (.builtin "object.__class__") "__get__" = some (some (.builtin "getset_descriptor.__get__"))
  htk : PySem.W.takesIn K (.builtin "object.__class__") = some true
  hm : PySem.W.mroIn K (T.cl c) (.type "object") = some true
  me : PySem.W.kitOne K (.ref (T.cl c)) (.ref (T.cl c)) = some true
  bt : ∀ n ∈ ["NoneType", "bool", "int", "str", "list", "tuple", "dict"], PySem.W.kitOne K (.type n) (.ref (T.cl c)) = some false
def isiC (c : Nat) : D → Option Bool
  | .ins c' _ => if c' = c then some true else none
  | .dt _ _ => none
  | _ => some false
def pIsC (c : Nat) (f : VEnv → Option (D × M)) : VEnv → Option (D × M) := fun ve => (f ve).bind fun x => (isiC c x.1).bind fun r => some (.bl r, .dp)
theorem jp_isC {x : Str} {q1 : Pos} (C : IsiC X.K T cc) (hg : Gl X "isinstance") (hm : X.mg "isinstance" = none) (hgx : Gl X x) (hmx : X.mg x = some (.ref (T.cl cc))) (ha : JP T X a fp) (hdx : (x == ("__debug__" : Str)) = false := by decide)
    (h1 : starEach [a, .Name x q1] X.env = (false, eval a X.env) :: starEach [.Name x q1] X.env := by rfl) (h3 : starEach [Expr.Name x q1] X.env = (false, eval (.Name x q1) X.env) :: starEach [] X.env := by rfl) (h2 : (backTo pos (starEach [Expr.Name x q1] X.env)).any (·.1) = false := by rfl)
    (hv : bootBuiltins "isinstance" = some (.builtin "isinstance") := by decide +kernel) : JP T X (.Call (.Name "isinstance" p) [a, .Name x q1] [] pos) (pIsC cc fp) := by
  obtain ⟨ta, a1, a2⟩ := ha
  refine ⟨_, pe_callB call_isi hg hm hv (pa_cons a1 (pa_cons (pe_glob (v := .ref (T.cl cc)) hgx hmx rfl hdx) pa_nil h3) h1) (by decide) (by decide) h1 h2, fun σ s h ve d m Q A q w => ?_⟩
  obtain ⟨⟨dx, mx⟩, e1, q⟩ := Option.bind_eq_some_iff.mp q
  obtain ⟨r, e3, q⟩ := Option.bind_eq_some_iff.mp q
  cases q
  refine a2 σ s h ve dx mx _ A e1 fun v s1 h1 B G1 => ?_
  obtain ⟨g1, r1⟩ := G1.seen
  have bt : ∀ n, tyN dx = some n → isiC cc dx = some false → ∃ t, TyX X.K h1 v t ∧ PySem.W.kitOne X.K t (.ref (T.cl cc)) = some false := fun n hn _ => ⟨_, tyX_of g1.sub r1 hn, C.bt n (by
    cases dx <;> simp [tyN] at hn <;> (first | (subst hn; decide) | exact hn.elim))⟩
  have fin : ∃ t, TyX X.K h1 v t ∧ PySem.W.kitOne X.K t (.ref (T.cl cc)) = some r := by
    cases dx with
    | ins c' ds =>
      simp only [isiC] at e3
      split at e3
      · rename_i ec
        cases e3
        subst ec
        simp only [Sees] at r1
        obtain ⟨p, dx, vs, rfl, e4, _, _⟩ := r1
        exact ⟨_, .base (.ins (g1.sub.at_ _ _ e4 (by intro _ z; cases z)) C.cl C.ha C.hn C.htk C.hm), C.me⟩
      · cases e3
    | dt ks ds => cases e3
    | _ => cases e3; exact bt _ rfl rfl
  obtain ⟨t, ty, kt⟩ := fin
  exact ⟨v, .ref (T.cl cc), t, _, r, rfl, .own _, ty, kt, w _ _ h1 [] ((got_bl g1.sub).pre g1)⟩
/-! a test by a value that is known to be a bool -/
/-! a dict display with one pair -/
def tDict1 (tk tv : TE) : TE := fun σ H Q => ∀ p, H p = none → tk σ (upd H p (.dK [])) fun y H1 => tv σ H1 fun v H2 => ∃ kk, y = kV kk ∧ H2 p = some (.dK []) ∧ Q (.ref p) (upd H2 p (.dK [(kk, v)]))
theorem pe_dict1 {tk tv : TE} (hk : PE X a tk) (hv : PE X b tv) : PE X (.Dict [some a] [b] pos) (tDict1 tk tv) := by
  refine ⟨fun pins s σ H Q I h => ?_⟩
  have I1 : Inv X pins σ (upd H s.heap.objs.size (.dK [])) { s with heap := s.heap.push { cls := .type "dict", data := .dict #[] } } :=
    I.laid (a := s.heap.objs.size) (o := .dK []) (t' := s.toks) (fun _ _ q => Heap.get?_push_of_some _ q) (Nat.le_refl _) (dk_empty s.heap I.big)
  have hp := h s.heap.objs.size (I.hok.fresh (Nat.le_refl _))
  refine wpAny_Dict_pairs (knd := mixKind X.prog X.w) (pairs := [(eval a X.env, do let x ← eval b X.env; standAt pos; pure x)]) rfl (by simp) (by simp) ?_
  refine evalPairs_cons ?_
  refine thn (hk.run pins _ σ _ _ I1 hp) fun u s1 ⟨y, H1, I2, r1, q1⟩ => ?_
  refine wpAny_bind (thn (hv.run pins s1 σ H1 _ I2 q1) fun u2 s2 ⟨v, H2, I3, r2, kk, ey, e3, q2⟩ => ?_)
  refine wpAny_bind (wpAny_standAt (wpAny_pure ?_))
  refine evalPairs_nil ?_
  subst ey
  obtain ⟨z, hd, vs, rel, dd⟩ := dk_of I3.hok e3
  cases rel
  refine ⟨[(kk, u2)], ⟨kV_is r1, rfl, trivial⟩, dd, fun h' dd' sb => ?_⟩
  have he : ∃ q, h'.get? s.heap.objs.size = some q := let ⟨q, _, _, hq, _⟩ := dd'; ⟨q, hq⟩
  exact ⟨.ref s.heap.objs.size, _, d_write I3 (by rw [e3]; exact True.intro) sb he (dk_new (by show 1 ≤ sizeLine; decide) hd (.cons ⟨rfl, r2⟩ .nil) dd'), rfl, q2⟩
end
end G
set_option Elab.async false
set_option linter.all false
set_option maxRecDepth 100000
set_option maxHeartbeats 4000000
/-! G16: dicts, fields, keywords, own ==, name = [comprehension] -/
namespace G
open PySem PySem.Spec PyProof.Rows L2
section
variable {X : Cx} {T : Tx} {io : List Bool} {a b c e o i tg : Expr} {es : List Expr} {f k : Env' → Option (D × M × Env')} {fi fp fq : VEnv → Option (D × M)} {fl : VEnv → Option (List (D × M))} {pos p apos cpos : Pos} {x m : Str} {j l n cc : Nat} {run : Fi}
/-! {k: v} -/
def pDict1 (f g : VEnv → Option (D × M)) : VEnv → Option (D × M) := fun ve => (f ve).bind fun x => (g ve).bind fun y => (isKey x.1).bind fun k => some (.dk [k] [y.1], if y.2 = .dp then .dp else .o1)
theorem jp_dict1 (ha : JP T X a fp) (hb : JP T X b fq) : JP T X (.Dict [some a] [b] pos) (pDict1 fp fq) := by
  obtain ⟨ta, a1, a2⟩ := ha
  obtain ⟨tb, b1, b2⟩ := hb
  refine ⟨_, pe_dict1 a1 b1, fun σ s h ve d m Q A q w => ?_⟩
  obtain ⟨⟨dx, mx⟩, e1, q⟩ := Option.bind_eq_some_iff.mp q
  obtain ⟨⟨dy, my⟩, e2, q⟩ := Option.bind_eq_some_iff.mp q
  obtain ⟨kk, e3, q⟩ := Option.bind_eq_some_iff.mp q
  cases q
  intro p np
  have g0 : Gr T s h s (upd h p (.dK [])) := Gr.own A.sub np
  refine a2 σ s _ ve dx mx _ (A.grow g0) e1 fun y s1 h1 B1 G1 => ?_
  obtain ⟨g1, r1⟩ := G1.seen
  refine b2 σ _ h1 ve dy my _ ((A.grow g0).grow g1) e2 fun v s2 h2 B2 G2 => ?_
  have sp1 : shr s1 h1 B1 p = none := grow_none g1 (o := .dK []) (upd_same) trivial (A.sub.no p np)
  have gg : Gr T s h s2 h2 := (g0.trans g1).trans G2.gr
  have e4 : h2 p = some (.dK []) := (g1.trans G2.gr).hh.at_ p _ upd_same (by intro _ z; cases z)
  have s2p : s2 p = none := grow_none (g1.trans G2.gr) (o := .dK []) upd_same trivial (A.sub.no p np)
  have nB : p ∉ B2 := fun z => by
    have := G2.fr.nw p z
    rw [g1.hh.at_ p _ upd_same (by intro _ z; cases z)] at this
    cases this
  have fB : Fresh h s2 B2 := ⟨G2.fr.nd, fun b hb => (g0.trans g1).non (G2.fr.nw b hb), G2.fr.ns⟩
  refine ⟨kk, key_sees e3 r1, e4, ?_⟩
  by_cases hm : my = .dp
  · subst hm
    have g3 := gg.put (o' := .dK [(kk, v)]) np e4 trivial s2p
    refine w _ s2 _ (p :: B2) ⟨g3, ?_, List.nodup_cons.mpr ⟨nB, fB.nd⟩, fun b hb => ?_, fun b hb => ?_⟩
    · simp only [if_true, Rep, Deep]
      refine ⟨p, [v], B2, rfl, upd_same, rfl, rfl, DeepL.one (Deep.put (show Deep X.K T h2 v dy B2 from G2.rep) e4 trivial nB)⟩
    · rcases List.mem_cons.mp hb with rfl | hb
      · exact np
      · exact fB.nw b hb
    · rcases List.mem_cons.mp hb with rfl | hb
      · exact s2p
      · exact fB.ns b hb
  · have g3 := (gg.shr fB)
    have s3p : shr s2 h2 B2 p = none := shr_none s2p e4 trivial nB
    have g4 := g3.put (o' := .dK [(kk, v)]) np e4 trivial s3p
    refine w _ _ _ [p] ⟨g4, ?_, by simp, fun b hb => ?_, fun b hb => ?_⟩
    · simp only [if_neg hm]
      exact ⟨p, rfl, rfl, [v], upd_same, rfl, SeesL.one (G2.rep.shr G2.gr.sub fun _ hb => hb)⟩
    · rw [List.mem_singleton.mp hb]; exact np
    · rw [List.mem_singleton.mp hb]; exact s3p
/-! d[k] = v on a slot -/
def hasK (ks : List Key) (x : Key) : Prop := x ∈ ks
instance hasKDec (ks : List Key) (x : Key) : Decidable (hasK ks x) := decidable_of_iff ((ks.any fun k => decide (k = x)) = true) (by simp [hasK])
def updV : List Key → List D → Key → D → List D
  | k :: ks, d :: ds, x, y => (if k = x then y else d) :: updV ks ds x y
  | _, ds, _, _ => ds
def putD (ks : List Key) (ds : List D) (x : Key) (y : D) : List Key × List D := if hasK ks x then (ks, updV ks ds x y) else (ks ++ [x], ds ++ [y])
def updW : List Key → List V → Key → V → List V
  | k :: ks, d :: ds, x, y => (if k = x then y else d) :: updW ks ds x y
  | _, ds, _, _ => ds
theorem putK_zip {ks : List Key} {vs : List V} (hl : ks.length = vs.length) (x : Key) (y : V) : putK (ks.zip vs) x y = if hasK ks x then ks.zip (updW ks vs x y) else (ks ++ [x]).zip (vs ++ [y]) := by
  have any : ((ks.zip vs).any fun kv => decide (kv.1 = x)) = decide (hasK ks x) := by
    induction ks generalizing vs with
    | nil => simp [hasK]
    | cons k ks ih =>
      cases vs with
      | nil => simp at hl
      | cons v vs =>
        have eh : hasK (k :: ks) x ↔ x = k ∨ hasK ks x := by simp [hasK]
        simp only [List.zip_cons_cons, List.any_cons, ih (by simpa using hl), eh]
        by_cases h1 : k = x
        · simp [h1]
        · simp [h1, Ne.symm h1]
  have mp : (ks.zip vs).map (fun kv => if kv.1 = x then (kv.1, y) else kv) = ks.zip (updW ks vs x y) := by
    clear any
    induction ks generalizing vs with
    | nil => simp
    | cons k ks ih =>
      cases vs with
      | nil => simp at hl
      | cons v vs =>
        simp only [List.zip_cons_cons, List.map_cons, ih (by simpa using hl), updW]
        by_cases h1 : k = x <;> simp [h1]
  unfold putK
  rw [any, mp]
  by_cases h : hasK ks x
  · simp [h]
  · simp only [h, decide_false, Bool.false_eq_true, if_false]
    rw [List.zip_append hl]
    rfl
theorem updW_len : ∀ (ks : List Key) (vs : List V) (x : Key) (y : V), (updW ks vs x y).length = vs.length
  | [], _, _, _ => rfl
  | _ :: _, [], _, _ => rfl
  | k :: ks, v :: vs, x, y => by simp only [updW, List.length_cons, updW_len ks vs x y]
theorem SeesL.updW {K : PySem.W.Frag} {h : Hp} {x : Key} {y : V} {dy : D} (hy : Sees K T h y dy) : ∀ {ks : List Key} {vs : List V} {ds : List D}, SeesL K T h vs ds → SeesL K T h (G.updW ks vs x y) (updV ks ds x dy)
  | [], _, _, r => r
  | k :: ks, _, [], r => by
    simp only [SeesL] at r
    subst r
    simp [G.updW, updV, SeesL]
  | k :: ks, _, d :: ds, r => by
    simp only [SeesL] at r
    obtain ⟨v, q, rfl, r1, r2⟩ := r
    simp only [G.updW, updV, SeesL]
    refine ⟨_, _, rfl, ?_, SeesL.updW hy r2⟩
    split
    · exact hy
    · exact r1
/-- an immutable value into a dict that is all ours -/
theorem DeepL.updW {K : PySem.W.Frag} {h : Hp} {x : Key} {y : V} {dy : D} (hy : Deep K T h y dy []) : ∀ {ks : List Key} {vs : List V} {ds : List D} {C : List Addr}, DeepL K T h vs ds C → ∃ C2, C2.Sublist C ∧ DeepL K T h (G.updW ks vs x y) (updV ks ds x dy) C2
  | [], _, _, C, r => ⟨C, List.Sublist.refl _, r⟩
  | k :: ks, _, [], C, r => by
    simp only [DeepL] at r
    obtain ⟨rfl, rfl⟩ := r
    exact ⟨[], List.Sublist.refl _, by simp [G.updW, updV, DeepL]⟩
  | k :: ks, _, d :: ds, _, r => by
    simp only [DeepL] at r
    obtain ⟨v, q, B1, B2, rfl, rfl, r1, r2⟩ := r
    obtain ⟨C2, sb, r3⟩ := DeepL.updW hy r2
    by_cases hk : k = x
    · refine ⟨C2, sb.trans (List.sublist_append_right _ _), ?_⟩
      simp only [G.updW, updV, if_pos hk, DeepL]
      exact ⟨y, _, [], C2, rfl, rfl, hy, r3⟩
    · refine ⟨B1 ++ C2, List.Sublist.append (List.Sublist.refl _) sb, ?_⟩
      simp only [G.updW, updV, if_neg hk, DeepL]
      exact ⟨v, _, B1, C2, rfl, rfl, r1, r3⟩
def putDM (ks : List Key) (ds : List D) (k : Option Key) (x : D × M) (mx : M) : Option (D × M) := k.bind fun kk => if ks.length < lim then match mx with
  | .sh => none
  | .o1 => some (.dk (putD ks ds kk x.1).1 (putD ks ds kk x.1).2, .o1)
  | .dp => some (.dk (putD ks ds kk x.1).1 (putD ks ds kk x.1).2, if x.2 = .dp ∧ (¬ hasK ks kk ∨ imm x.1 = true) then .dp else .o1) else none
theorem putD_go {K : PySem.W.Frag} {s h s1 h1 : Hp} {A A1 B : List Addr} {σ : St} {env : Env'} {v y : V} {ks : List Key} {xs : List D} {mx : M} {kk : Key} {x z : D × M} (g : GotL K T s h A σ [v, y] [(.dk ks xs, mx), x] env s1 h1 A1 B) (q : putDM ks xs (some kk) x mx = some z) :
    ∃ p vs, v = .ref p ∧ h1 p = some (.dK (ks.zip vs)) ∧ (ks.zip vs).length < sizeLine ∧ ∃ s2 B2, GotE K T s h A σ v z.1 z.2 env s2 (upd h1 p (.dK (putK (ks.zip vs) kk y))) A1 B2 := by
  have hh := g.hd
  obtain ⟨v', q', B0, B1, e1, rfl, r0, r1⟩ := g.rp
  cases e1
  obtain ⟨y', q', B2, B3, e1, rfl, r2, r3⟩ := r1
  cases e1
  obtain ⟨_, rfl⟩ := r3
  rw [List.append_nil] at hh g
  have fin : ∀ {s2 h2 : Hp} {d : D} {m : M} {B' : List Addr} {v : V}, Hd K T s h A σ env s2 h2 A1 B' → Rep K T s2 h2 v d m B' → GotE K T s h A σ v d m env s2 h2 A1 B' := fun H R => ⟨H.st, H.tab, H.er, R, H.nd, H.fr, H.wh⟩
  simp only [putDM, Option.bind_some] at q
  split at q
  · rename_i hlim
    cases mx with
    | sh => cases q
    | dp =>
      simp only [Option.some.injEq] at q
      simp only [Rep, Deep] at r0
      obtain ⟨p, vs, C, rfl, e2, hl, rfl, e3⟩ := r0
      have hlz : (ks.zip vs).length < sizeLine := by rw [List.length_zip, ← lim_eq]; omega
      refine ⟨p, vs, rfl, e2, hlz, ?_⟩
      obtain ⟨n1, n2, n3⟩ := List.nodup_append.mp hh.nd
      have n2' : (p :: (C ++ B2)).Nodup := by simpa using n2
      obtain ⟨np, n4⟩ := List.nodup_cons.mp n2'
      obtain ⟨n5, n6, n7⟩ := List.nodup_append.mp n4
      rw [putK_zip hl]
      by_cases hc : x.2 = .dp ∧ (¬ hasK ks kk ∨ imm x.1 = true)
      · rw [if_pos hc] at q
        subst q
        have hx : Deep K T h1 y x.1 B2 := by
          have := r2
          rw [hc.1] at this
          exact this
        by_cases hk : hasK ks kk
        · rw [if_pos hk]
          have hi : imm x.1 = true := hc.2.resolve_left (fun z => z hk)
          have hB : B2 = [] := Deep.nil _ hi hx
          subst hB
          obtain ⟨C2, sb, r3⟩ := DeepL.updW (x := kk) (ks := ks) hx e3
          have np2 : p ∉ C2 := fun z => np (List.mem_append_left _ (sb.mem z))
          have H2 := hh.change (o' := .dK (ks.zip (updW ks vs kk y))) (S := []) (B' := p :: C2) (by simp) e2 trivial trivial (by simp) (by simp) (fun b hb => by
            rcases List.mem_cons.mp hb with rfl | hb
            · simp
            · simp [sb.mem hb]) (by simp) (List.nodup_cons.mpr ⟨np2, List.Nodup.sublist sb n5⟩)
          refine ⟨_, _, fin H2 ?_⟩
          simp only [putD, if_pos hk, Rep, Deep]
          exact ⟨p, _, C2, rfl, upd_same, by rw [updW_len]; exact hl, rfl, r3.put e2 trivial np2⟩
        · rw [if_neg hk]
          have H2 := hh.change (o' := .dK ((ks ++ [kk]).zip (vs ++ [y]))) (S := []) (B' := p :: (C ++ B2)) (by simp) e2 trivial trivial (by simp) (by simp) (fun b hb => by simpa using hb) (by simp) n2'
          refine ⟨_, _, fin H2 ?_⟩
          simp only [putD, if_neg hk, Rep, Deep]
          exact ⟨p, _, C ++ B2, rfl, upd_same, by simp [hl], rfl, (e3.put e2 trivial (fun z => np (List.mem_append_left _ z))).app (DeepL.one (Deep.put hx e2 trivial (fun z => np (List.mem_append_right _ z))))⟩
      · rw [if_neg hc] at q
        subst q
        have S1 := DeepL.shr (s := s1) (C := C ++ B2) _ e3 (fun b hb => List.mem_append_left _ hb)
        have S2 := r2.shr g.st.sub (C := C ++ B2) (fun b hb => List.mem_append_right _ hb)
        by_cases hk : hasK ks kk
        · rw [if_pos hk]
          have H2 := hh.change (o' := .dK (ks.zip (updW ks vs kk y))) (S := C ++ B2) (B' := [p]) (by simp) e2 trivial trivial (fun b hb => by simpa using Or.inr (List.mem_append.mp hb)) np (by simp) (by simpa using np) (by simp)
          refine ⟨_, _, fin H2 ?_⟩
          simp only [putD, if_pos hk]
          exact ⟨p, rfl, rfl, _, upd_same, by rw [updW_len]; exact hl, S1.updW S2⟩
        · rw [if_neg hk]
          have H2 := hh.change (o' := .dK ((ks ++ [kk]).zip (vs ++ [y]))) (S := C ++ B2) (B' := [p]) (by simp) e2 trivial trivial (fun b hb => by simpa using Or.inr (List.mem_append.mp hb)) np (by simp) (by simpa using np) (by simp)
          refine ⟨_, _, fin H2 ?_⟩
          simp only [putD, if_neg hk]
          exact ⟨p, rfl, rfl, _, upd_same, by simp [hl], S1.app (SeesL.one S2)⟩
    | o1 =>
      simp only [Option.some.injEq] at q
      subst q
      simp only [Rep] at r0
      obtain ⟨p, rfl, rfl, vs, e2, hl, e3⟩ := r0
      have hlz : (ks.zip vs).length < sizeLine := by rw [List.length_zip, ← lim_eq]; omega
      refine ⟨p, vs, rfl, e2, hlz, ?_⟩
      obtain ⟨n1, n2, n3⟩ := List.nodup_append.mp hh.nd
      have n2' : (p :: B2).Nodup := by simpa using n2
      obtain ⟨np, n4⟩ := List.nodup_cons.mp n2'
      rw [putK_zip hl]
      have S1 := SeesL.ext (sub_shr (B := B2) g.st.sub) _ e3
      have S2 := r2.shr g.st.sub (C := B2) (fun b hb => hb)
      by_cases hk : hasK ks kk
      · rw [if_pos hk]
        have H2 := hh.change (o' := .dK (ks.zip (updW ks vs kk y))) (S := B2) (B' := [p]) (by simp) e2 trivial trivial (fun b hb => by simp [hb]) np (by simp) (by simpa using np) (by simp)
        refine ⟨_, _, fin H2 ?_⟩
        simp only [putD, if_pos hk]
        exact ⟨p, rfl, rfl, _, upd_same, by rw [updW_len]; exact hl, S1.updW S2⟩
      · rw [if_neg hk]
        have H2 := hh.change (o' := .dK ((ks ++ [kk]).zip (vs ++ [y]))) (S := B2) (B' := [p]) (by simp) e2 trivial trivial (fun b hb => by simp [hb]) np (by simp) (by simpa using np) (by simp)
        refine ⟨_, _, fin H2 ?_⟩
        simp only [putD, if_neg hk]
        exact ⟨p, rfl, rfl, _, upd_same, by simp [hl], S1.app (SeesL.one S2)⟩
  · cases q
/-! .. where keys are tuples -/
def hasKT (ks : List (List Key)) (x : List Key) : Prop := x ∈ ks
instance hasKDecT (ks : List (List Key)) (x : List Key) : Decidable (hasKT ks x) := decidable_of_iff ((ks.any fun k => decide (k = x)) = true) (by simp [hasKT])
def updVT : List (List Key) → List D → List Key → D → List D
  | k :: ks, d :: ds, x, y => (if k = x then y else d) :: updVT ks ds x y
  | _, ds, _, _ => ds
def putDT (ks : List (List Key)) (ds : List D) (x : List Key) (y : D) : List (List Key) × List D := if hasKT ks x then (ks, updVT ks ds x y) else (ks ++ [x], ds ++ [y])
def updWT : List (List Key) → List V → List Key → V → List V
  | k :: ks, d :: ds, x, y => (if k = x then y else d) :: updWT ks ds x y
  | _, ds, _, _ => ds
theorem putK_zipT {ks : List (List Key)} {vs : List V} (hl : ks.length = vs.length) (x : List Key) (y : V) : putK (ks.zip vs) x y = if hasKT ks x then ks.zip (updWT ks vs x y) else (ks ++ [x]).zip (vs ++ [y]) := by
  have any : ((ks.zip vs).any fun kv => decide (kv.1 = x)) = decide (hasKT ks x) := by
    induction ks generalizing vs with
    | nil => simp [hasKT]
    | cons k ks ih =>
      cases vs with
      | nil => simp at hl
      | cons v vs =>
        have eh : hasKT (k :: ks) x ↔ x = k ∨ hasKT ks x := by simp [hasKT]
        simp only [List.zip_cons_cons, List.any_cons, ih (by simpa using hl), eh]
        by_cases h1 : k = x
        · simp [h1]
        · simp [h1, Ne.symm h1]
  have mp : (ks.zip vs).map (fun kv => if kv.1 = x then (kv.1, y) else kv) = ks.zip (updWT ks vs x y) := by
    clear any
    induction ks generalizing vs with
    | nil => simp
    | cons k ks ih =>
      cases vs with
      | nil => simp at hl
      | cons v vs =>
        simp only [List.zip_cons_cons, List.map_cons, ih (by simpa using hl), updWT]
        by_cases h1 : k = x <;> simp [h1]
  unfold putK
  rw [any, mp]
  by_cases h : hasKT ks x
  · simp [h]
  · simp only [h, decide_false, Bool.false_eq_true, if_false]
    rw [List.zip_append hl]
    rfl
theorem updW_lenT : ∀ (ks : List (List Key)) (vs : List V) (x : List Key) (y : V), (updWT ks vs x y).length = vs.length
  | [], _, _, _ => rfl
  | _ :: _, [], _, _ => rfl
  | k :: ks, v :: vs, x, y => by simp only [updWT, List.length_cons, updW_lenT ks vs x y]
theorem SeesL.updWT {K : PySem.W.Frag} {h : Hp} {x : List Key} {y : V} {dy : D} (hy : Sees K T h y dy) : ∀ {ks : List (List Key)} {vs : List V} {ds : List D}, SeesL K T h vs ds → SeesL K T h (G.updWT ks vs x y) (updVT ks ds x dy)
  | [], _, _, r => r
  | k :: ks, _, [], r => by
    simp only [SeesL] at r
    subst r
    simp [G.updWT, updVT, SeesL]
  | k :: ks, _, d :: ds, r => by
    simp only [SeesL] at r
    obtain ⟨v, q, rfl, r1, r2⟩ := r
    simp only [G.updWT, updVT, SeesL]
    refine ⟨_, _, rfl, ?_, SeesL.updWT hy r2⟩
    split
    · exact hy
    · exact r1
/-- an immutable value into a dict that is all ours -/
theorem DeepL.updWT {K : PySem.W.Frag} {h : Hp} {x : List Key} {y : V} {dy : D} (hy : Deep K T h y dy []) : ∀ {ks : List (List Key)} {vs : List V} {ds : List D} {C : List Addr}, DeepL K T h vs ds C → ∃ C2, C2.Sublist C ∧ DeepL K T h (G.updWT ks vs x y) (updVT ks ds x dy) C2
  | [], _, _, C, r => ⟨C, List.Sublist.refl _, r⟩
  | k :: ks, _, [], C, r => by
    simp only [DeepL] at r
    obtain ⟨rfl, rfl⟩ := r
    exact ⟨[], List.Sublist.refl _, by simp [G.updWT, updVT, DeepL]⟩
  | k :: ks, _, d :: ds, _, r => by
    simp only [DeepL] at r
    obtain ⟨v, q, B1, B2, rfl, rfl, r1, r2⟩ := r
    obtain ⟨C2, sb, r3⟩ := DeepL.updWT hy r2
    by_cases hk : k = x
    · refine ⟨C2, sb.trans (List.sublist_append_right _ _), ?_⟩
      simp only [G.updWT, updVT, if_pos hk, DeepL]
      exact ⟨y, _, [], C2, rfl, rfl, hy, r3⟩
    · refine ⟨B1 ++ C2, List.Sublist.append (List.Sublist.refl _) sb, ?_⟩
      simp only [G.updWT, updVT, if_neg hk, DeepL]
      exact ⟨v, _, B1, C2, rfl, rfl, r1, r3⟩
def putDMT (ks : List (List Key)) (ds : List D) (k : Option (List Key)) (x : D × M) (mx : M) : Option (D × M) := k.bind fun kk => if ks.length < lim then match mx with
  | .sh => none
  | .o1 => some (.dt (putDT ks ds kk x.1).1 (putDT ks ds kk x.1).2, .o1)
  | .dp => some (.dt (putDT ks ds kk x.1).1 (putDT ks ds kk x.1).2, if x.2 = .dp ∧ (¬ hasKT ks kk ∨ imm x.1 = true) then .dp else .o1) else none
theorem putD_goT {K : PySem.W.Frag} {s h s1 h1 : Hp} {A A1 B : List Addr} {σ : St} {env : Env'} {v y : V} {ks : List (List Key)} {xs : List D} {mx : M} {kk : List Key} {x z : D × M} (g : GotL K T s h A σ [v, y] [(.dt ks xs, mx), x] env s1 h1 A1 B) (q : putDMT ks xs (some kk) x mx = some z) :
    ∃ p vs, v = .ref p ∧ h1 p = some (.dT (ks.zip vs)) ∧ (ks.zip vs).length < sizeLine ∧ ∃ s2 B2, GotE K T s h A σ v z.1 z.2 env s2 (upd h1 p (.dT (putK (ks.zip vs) kk y))) A1 B2 := by
  have hh := g.hd
  obtain ⟨v', q', B0, B1, e1, rfl, r0, r1⟩ := g.rp
  cases e1
  obtain ⟨y', q', B2, B3, e1, rfl, r2, r3⟩ := r1
  cases e1
  obtain ⟨_, rfl⟩ := r3
  rw [List.append_nil] at hh g
  have fin : ∀ {s2 h2 : Hp} {d : D} {m : M} {B' : List Addr} {v : V}, Hd K T s h A σ env s2 h2 A1 B' → Rep K T s2 h2 v d m B' → GotE K T s h A σ v d m env s2 h2 A1 B' := fun H R => ⟨H.st, H.tab, H.er, R, H.nd, H.fr, H.wh⟩
  simp only [putDMT, Option.bind_some] at q
  split at q
  · rename_i hlim
    cases mx with
    | sh => cases q
    | dp =>
      simp only [Option.some.injEq] at q
      simp only [Rep, Deep] at r0
      obtain ⟨p, vs, C, rfl, e2, hl, rfl, e3⟩ := r0
      have hlz : (ks.zip vs).length < sizeLine := by rw [List.length_zip, ← lim_eq]; omega
      refine ⟨p, vs, rfl, e2, hlz, ?_⟩
      obtain ⟨n1, n2, n3⟩ := List.nodup_append.mp hh.nd
      have n2' : (p :: (C ++ B2)).Nodup := by simpa using n2
      obtain ⟨np, n4⟩ := List.nodup_cons.mp n2'
      obtain ⟨n5, n6, n7⟩ := List.nodup_append.mp n4
      rw [putK_zipT hl]
      by_cases hc : x.2 = .dp ∧ (¬ hasKT ks kk ∨ imm x.1 = true)
      · rw [if_pos hc] at q
        subst q
        have hx : Deep K T h1 y x.1 B2 := by
          have := r2
          rw [hc.1] at this
          exact this
        by_cases hk : hasKT ks kk
        · rw [if_pos hk]
          have hi : imm x.1 = true := hc.2.resolve_left (fun z => z hk)
          have hB : B2 = [] := Deep.nil _ hi hx
          subst hB
          obtain ⟨C2, sb, r3⟩ := DeepL.updWT (x := kk) (ks := ks) hx e3
          have np2 : p ∉ C2 := fun z => np (List.mem_append_left _ (sb.mem z))
          have H2 := hh.change (o' := .dT (ks.zip (updWT ks vs kk y))) (S := []) (B' := p :: C2) (by simp) e2 trivial trivial (by simp) (by simp) (fun b hb => by
            rcases List.mem_cons.mp hb with rfl | hb
            · simp
            · simp [sb.mem hb]) (by simp) (List.nodup_cons.mpr ⟨np2, List.Nodup.sublist sb n5⟩)
          refine ⟨_, _, fin H2 ?_⟩
          simp only [putDT, if_pos hk, Rep, Deep]
          exact ⟨p, _, C2, rfl, upd_same, by rw [updW_lenT]; exact hl, rfl, r3.put e2 trivial np2⟩
        · rw [if_neg hk]
          have H2 := hh.change (o' := .dT ((ks ++ [kk]).zip (vs ++ [y]))) (S := []) (B' := p :: (C ++ B2)) (by simp) e2 trivial trivial (by simp) (by simp) (fun b hb => by simpa using hb) (by simp) n2'
          refine ⟨_, _, fin H2 ?_⟩
          simp only [putDT, if_neg hk, Rep, Deep]
          exact ⟨p, _, C ++ B2, rfl, upd_same, by simp [hl], rfl, (e3.put e2 trivial (fun z => np (List.mem_append_left _ z))).app (DeepL.one (Deep.put hx e2 trivial (fun z => np (List.mem_append_right _ z))))⟩
      · rw [if_neg hc] at q
        subst q
        have S1 := DeepL.shr (s := s1) (C := C ++ B2) _ e3 (fun b hb => List.mem_append_left _ hb)
        have S2 := r2.shr g.st.sub (C := C ++ B2) (fun b hb => List.mem_append_right _ hb)
        by_cases hk : hasKT ks kk
        · rw [if_pos hk]
          have H2 := hh.change (o' := .dT (ks.zip (updWT ks vs kk y))) (S := C ++ B2) (B' := [p]) (by simp) e2 trivial trivial (fun b hb => by simpa using Or.inr (List.mem_append.mp hb)) np (by simp) (by simpa using np) (by simp)
          refine ⟨_, _, fin H2 ?_⟩
          simp only [putDT, if_pos hk]
          exact ⟨p, rfl, rfl, _, upd_same, by rw [updW_lenT]; exact hl, S1.updWT S2⟩
        · rw [if_neg hk]
          have H2 := hh.change (o' := .dT ((ks ++ [kk]).zip (vs ++ [y]))) (S := C ++ B2) (B' := [p]) (by simp) e2 trivial trivial (fun b hb => by simpa using Or.inr (List.mem_append.mp hb)) np (by simp) (by simpa using np) (by simp)
          refine ⟨_, _, fin H2 ?_⟩
          simp only [putDT, if_neg hk]
          exact ⟨p, rfl, rfl, _, upd_same, by simp [hl], S1.app (SeesL.one S2)⟩
    | o1 =>
      simp only [Option.some.injEq] at q
      subst q
      simp only [Rep] at r0
      obtain ⟨p, rfl, rfl, vs, e2, hl, e3⟩ := r0
      have hlz : (ks.zip vs).length < sizeLine := by rw [List.length_zip, ← lim_eq]; omega
      refine ⟨p, vs, rfl, e2, hlz, ?_⟩
      obtain ⟨n1, n2, n3⟩ := List.nodup_append.mp hh.nd
      have n2' : (p :: B2).Nodup := by simpa using n2
      obtain ⟨np, n4⟩ := List.nodup_cons.mp n2'
      rw [putK_zipT hl]
      have S1 := SeesL.ext (sub_shr (B := B2) g.st.sub) _ e3
      have S2 := r2.shr g.st.sub (C := B2) (fun b hb => hb)
      by_cases hk : hasKT ks kk
      · rw [if_pos hk]
        have H2 := hh.change (o' := .dT (ks.zip (updWT ks vs kk y))) (S := B2) (B' := [p]) (by simp) e2 trivial trivial (fun b hb => by simp [hb]) np (by simp) (by simpa using np) (by simp)
        refine ⟨_, _, fin H2 ?_⟩
        simp only [putDT, if_pos hk]
        exact ⟨p, rfl, rfl, _, upd_same, by rw [updW_lenT]; exact hl, S1.updWT S2⟩
      · rw [if_neg hk]
        have H2 := hh.change (o' := .dT ((ks ++ [kk]).zip (vs ++ [y]))) (S := B2) (B' := [p]) (by simp) e2 trivial trivial (fun b hb => by simp [hb]) np (by simp) (by simpa using np) (by simp)
        refine ⟨_, _, fin H2 ?_⟩
        simp only [putDT, if_neg hk]
        exact ⟨p, rfl, rfl, _, upd_same, by simp [hl], S1.app (SeesL.one S2)⟩
  · cases q
def gSetD (j : Nat) (fi : VEnv → Option (D × M)) : D × M → Env' → Option Env' := fun x env => (fi (vw env)).bind fun iv => match env[j]? with
  | some (some (.dk ks xs, mx)) => (putDM ks xs (isKey iv.1) x mx).bind fun z => some (env.set j (some z))
  | some (some (.dt ks xs, mx)) => (putDMT ks xs (isKeyT iv.1) x mx).bind fun z => some (env.set j (some z))
  | _ => none
theorem jgo_setD {spos : Pos} (hu : X.A.units + 1 < cLine) (hN : X.N[j]? = some x) (hi : JP T X i fi) (hv : Vis X.env.scope x := by first | exact Or.inl rfl | exact Or.inr (Or.inl rfl) | exact Or.inr (Or.inr rfl)) (hd : (x == ("__debug__" : Str)) = false := by decide) (hcd : (x == ("__classdict__" : Str)) = false := by decide)
    (ha : ∀ v, assign (.Subscript (.Name x p) i spos) X.env v = (do
      let ov ← holding [v] (eval (.Name x p) X.env)
      let iv ← holding [v, ov] (eval i X.env)
      standAt spos
      holding [v, ov, iv] (setItem ov iv v)
      release [v, ov, iv] []) := by intro _; rfl) : JGO T X io (.Subscript (.Name x p) i spos) (gSetD j fi) := by
  obtain ⟨ti, i1, i2⟩ := hi
  refine ⟨fun pins sx σ H v u Q I r ⟨s, d, m, env, A, B, env', g0, rp, q, w⟩ => ?_⟩
  refine (pg_sub (pe_var hN hv hd hcd) i1 (set_dict hu) ha).run pins sx σ H v u Q I r ?_
  have g := g0.gotE rp
  obtain ⟨⟨di, mi⟩, e1, q⟩ := Option.bind_eq_some_iff.mp q
  dsimp only at q
  split at q
  · rename_i ks xs mx ej
    obtain ⟨z, e2, q⟩ := Option.bind_eq_some_iff.mp q
    cases q
    obtain ⟨kk, ek⟩ : ∃ kk, isKey di = some kk := by
      unfold putDM at e2
      cases hk : isKey di with
      | none => rw [hk] at e2; simp at e2
      | some k => exact ⟨k, rfl⟩
    rw [ek] at e2
    obtain ⟨vj, Bj, ev, _, _⟩ := g.own.er.get ej
    refine ⟨vj, ev, i2 σ H H (vw env) _ mi _ g.view e1 fun iv s' h' Bi Gi => ?_⟩
    obtain ⟨gg, ri⟩ := Gi.seen
    have eiv := key_sees ek ri
    subst eiv
    have g2 := g.grow (Gr.own_of g.st.sub gg)
    obtain ⟨v2, A2, B2, ev2, g3⟩ := g2.one.takeC ej
    rw [ev] at ev2
    cases ev2
    obtain ⟨p0, ws, rfl, e3, e4, s3, B3, g4⟩ := putD_go g3 e2
    refine ⟨p0, _, rfl, .inl ⟨_, kk, e3, rfl, e4, rfl⟩, ?_⟩
    obtain ⟨A5, g5⟩ := g4.put (get_hole ej) ev
    rw [set_set_none] at g5
    exact w σ s3 _ A5 g5 Pin.rfl'
  · rename_i ks xs mx ej
    obtain ⟨z, e2, q⟩ := Option.bind_eq_some_iff.mp q
    cases q
    obtain ⟨kk, ek⟩ : ∃ kk, isKeyT di = some kk := by
      unfold putDMT at e2
      cases hk : isKeyT di with
      | none => rw [hk] at e2; simp at e2
      | some k => exact ⟨k, rfl⟩
    rw [ek] at e2
    obtain ⟨vj, Bj, ev, _, _⟩ := g.own.er.get ej
    refine ⟨vj, ev, i2 σ H H (vw env) _ mi _ g.view e1 fun iv s' h' Bi Gi => ?_⟩
    obtain ⟨gg, ri⟩ := Gi.seen
    obtain ⟨bk, rfl, ebk⟩ := key_seesT ek ri
    have g2 := g.grow (Gr.own_of g.st.sub gg)
    obtain ⟨v2, A2, B2, ev2, g3⟩ := g2.one.takeC ej
    rw [ev] at ev2
    cases ev2
    obtain ⟨p0, ws, rfl, e3, e4, s3, B3, g4⟩ := putD_goT g3 e2
    refine ⟨p0, _, rfl, .inr ⟨_, kk, bk, e3, rfl, gg.sub.at_ _ _ ebk (by intro _ z; cases z), e4, rfl⟩, ?_⟩
    obtain ⟨A5, g5⟩ := g4.put (get_hole ej) ev
    rw [set_set_none] at g5
    exact w σ s3 _ A5 g5 Pin.rfl'
  · cases q
end
end G
set_option Elab.async false
set_option linter.all false
set_option maxRecDepth 100000
set_option maxHeartbeats 4000000
/-! G17: fields, keywords, own ==, name = [comprehension] -/
namespace G
open PySem PySem.Spec PyProof.Rows L2
section
variable {X : Cx} {T : Tx} {io : List Bool} {a b c e o i tg : Expr} {es : List Expr} {f k : Env' → Option (D × M × Env')} {fi fp fq : VEnv → Option (D × M)} {fl : VEnv → Option (List (D × M))} {pos p apos cpos : Pos} {x m : Str} {j l n cc : Nat} {run : Fi}
/-! self.f = v -/
def setFD (n i : Nat) (c : Nat) (xs : List D) (x : D × M) (mx : M) : Option (D × M) := if i < n then
    if i < xs.length then (inM mx x.2).bind fun m => some (.ins c (xs.set i x.1), m)
    else if i = xs.length then (inM mx x.2).bind fun m => some (.ins c (xs ++ [x.1]), m) else none
  else none
theorem putF_zip {fl : List Str} (nd : fl.Nodup) : ∀ {vs : List V} {i : Nat} {f : Str} (y : V), fl[i]? = some f → putF f y (fl.zip vs) = if i < vs.length then fl.zip (vs.set i y) else if i = vs.length then fl.zip (vs ++ [y]) else putF f y (fl.zip vs) := by
  induction fl with
  | nil => intro vs i f y e; simp at e
  | cons g fl ih =>
    intro vs i f y e
    obtain ⟨n1, n2⟩ := List.nodup_cons.mp nd
    cases vs with
    | nil =>
      cases i with
      | zero =>
        simp at e
        subst e
        simp [putF]
      | succ i => simp
    | cons v vs =>
      cases i with
      | zero =>
        simp at e
        subst e
        simp [putF]
      | succ i =>
        have e' : fl[i]? = some f := by simpa using e
        have hne : g ≠ f := fun z => n1 (z ▸ List.mem_of_getElem? e')
        simp only [List.zip_cons_cons, putF, if_neg hne, List.length_cons, List.set_cons_succ, List.cons_append, Nat.add_lt_add_iff_right, Nat.add_right_cancel_iff]
        rw [ih n2 y e']
        split
        · rfl
        · split <;> rfl
theorem setFD_go {K : PySem.W.Frag} {s h s1 h1 : Hp} {A A1 B : List Addr} {σ : St} {env : Env'} {v y : V} {c i : Nat} {xs : List D} {mx : M} {x z : D × M} (g : GotL K T s h A σ [v, y] [(.ins c xs, mx), x] env s1 h1 A1 B) (q : setFD (T.fl c).length i c xs x mx = some z) :
    ∃ p dx vs vs', v = .ref p ∧ h1 p = some (.ins (T.cl c) dx ((T.fl c).zip vs)) ∧ vs.length ≤ (T.fl c).length ∧ vs' = (if i < vs.length then vs.set i y else vs ++ [y]) ∧ (i < vs.length ∨ i = vs.length) ∧ ∃ s2 B2, GotE K T s h A σ v z.1 z.2 env s2 (upd h1 p (.ins (T.cl c) dx ((T.fl c).zip vs'))) A1 B2 := by
  have hh := g.hd
  obtain ⟨v', q', B0, B1, e1, rfl, r0, r1⟩ := g.rp
  cases e1
  obtain ⟨y', q', B2, B3, e1, rfl, r2, r3⟩ := r1
  cases e1
  obtain ⟨_, rfl⟩ := r3
  rw [List.append_nil] at hh g
  have fin : ∀ {s2 h2 : Hp} {d : D} {m : M} {B' : List Addr} {v : V}, Hd K T s h A σ env s2 h2 A1 B' → Rep K T s2 h2 v d m B' → GotE K T s h A σ v d m env s2 h2 A1 B' := fun H R => ⟨H.st, H.tab, H.er, R, H.nd, H.fr, H.wh⟩
  unfold setFD at q
  split at q
  · rename_i hin
    cases mx with
    | sh => simp only [inM, Option.bind_none, ite_self] at q; cases q
    | dp =>
      simp only [Rep, Deep] at r0
      obtain ⟨p, dx, vs, C, rfl, e2, hle, rfl, e3⟩ := r0
      have hl := DeepL.len _ e3
      obtain ⟨n1, n2, n3⟩ := List.nodup_append.mp hh.nd
      have n2' : (p :: (C ++ B2)).Nodup := by simpa using n2
      obtain ⟨np, n4⟩ := List.nodup_cons.mp n2'
      obtain ⟨n5, n6, n7⟩ := List.nodup_append.mp n4
      refine ⟨p, dx, vs, _, rfl, e2, hle, rfl, ?_⟩
      by_cases hm : x.2 = .dp
      · have hx : Deep K T h1 y x.1 B2 := by have := r2; rw [hm] at this; exact this
        split at q
        · rename_i hk
          simp only [inM, if_pos hm, Option.bind_some, Option.some.injEq] at q
          subst q
          obtain ⟨u, C1, Ck, C2, ey, rfl, dy, dr, ds⟩ := e3.erase (List.getElem?_eq_getElem hk)
          have sbC : ∀ b, b ∈ C1 ++ (B2 ++ C2) → b ∈ (C1 ++ (Ck ++ C2)) ++ B2 := fun b hb => by
            simp only [List.mem_append] at hb ⊢
            rcases hb with hb | hb | hb
            · exact .inl (.inl hb)
            · exact .inr hb
            · exact .inl (.inr (.inr hb))
          have ndC : (C1 ++ (B2 ++ C2)).Nodup := by
            have sb : ((C1 ++ C2) ++ B2).Sublist ((C1 ++ (Ck ++ C2)) ++ B2) := List.Sublist.append (List.Sublist.append (List.Sublist.refl _) (List.sublist_append_right _ _)) (List.Sublist.refl _)
            exact (perm_mid C1 B2 C2).nodup_iff.mpr (List.Nodup.sublist sb n4)
          have np2 : p ∉ C1 ++ (B2 ++ C2) := fun z => np (sbC p z)
          have H2 := hh.change (o' := .ins (T.cl c) dx ((T.fl c).zip (vs.set i y))) (S := []) (B' := p :: (C1 ++ (B2 ++ C2))) (by simp) e2 trivial trivial (by simp) (by simp) (fun b hb => by
            rcases List.mem_cons.mp hb with rfl | hb
            · simp
            · have := sbC b hb
              simp only [List.mem_append, List.mem_cons] at this ⊢
              rcases this with z | z
              · exact .inl (.inr z)
              · exact .inr z) (by simp) (List.nodup_cons.mpr ⟨np2, ndC⟩)
          refine ⟨.inl (by omega), ?_⟩
          rw [if_pos (by omega)]
          refine ⟨_, _, fin H2 ?_⟩
          simp only [Rep, Deep]
          exact ⟨p, dx, _, C1 ++ (B2 ++ C2), rfl, upd_same, by simpa using hle, rfl, (ds hx).put e2 trivial np2⟩
        · rename_i hk
          split at q
          · rename_i hk2
            simp only [inM, if_pos hm, Option.bind_some, Option.some.injEq] at q
            subst q
            have H2 := hh.change (o' := .ins (T.cl c) dx ((T.fl c).zip (vs ++ [y]))) (S := []) (B' := p :: (C ++ B2)) (by simp) e2 trivial trivial (by simp) (by simp) (fun b hb => by simpa using hb) (by simp) n2'
            refine ⟨.inr (by omega), ?_⟩
            rw [if_neg (by omega)]
            refine ⟨_, _, fin H2 ?_⟩
            simp only [Rep, Deep]
            exact ⟨p, dx, _, C ++ B2, rfl, upd_same, by simp; omega, rfl, (e3.put e2 trivial (fun z => np (List.mem_append_left _ z))).app (DeepL.one (Deep.put hx e2 trivial (fun z => np (List.mem_append_right _ z))))⟩
          · cases q
      · have S1 := DeepL.shr (s := s1) (C := C ++ B2) _ e3 (fun b hb => List.mem_append_left _ hb)
        have S2 := r2.shr g.st.sub (C := C ++ B2) (fun b hb => List.mem_append_right _ hb)
        have H0 : ∀ o' : HO, Mu o' → Hd K T s h A σ env (shr s1 h1 (C ++ B2)) (upd h1 p o') A1 [p] := fun o' mu' => hh.change (by simp) e2 trivial mu' (fun b hb => by simpa using Or.inr (List.mem_append.mp hb)) np (by simp) (by simpa using np) (by simp)
        split at q
        · rename_i hk
          simp only [inM, if_neg hm, Option.bind_some, Option.some.injEq] at q
          subst q
          refine ⟨.inl (by omega), ?_⟩
          rw [if_pos (by omega)]
          refine ⟨_, _, fin (H0 (.ins (T.cl c) dx ((T.fl c).zip (vs.set i y))) trivial) ?_⟩
          exact ⟨p, rfl, rfl, dx, _, upd_same, by simpa using hle, S1.set S2⟩
        · rename_i hk
          split at q
          · rename_i hk2
            simp only [inM, if_neg hm, Option.bind_some, Option.some.injEq] at q
            subst q
            refine ⟨.inr (by omega), ?_⟩
            rw [if_neg (by omega)]
            refine ⟨_, _, fin (H0 (.ins (T.cl c) dx ((T.fl c).zip (vs ++ [y]))) trivial) ?_⟩
            exact ⟨p, rfl, rfl, dx, _, upd_same, by simp; omega, S1.app (SeesL.one S2)⟩
          · cases q
    | o1 =>
      simp only [Rep] at r0
      obtain ⟨p, rfl, rfl, dx, vs, e2, hle, e3⟩ := r0
      have hl := SeesL.len _ e3
      obtain ⟨n1, n2, n3⟩ := List.nodup_append.mp hh.nd
      have n2' : (p :: B2).Nodup := by simpa using n2
      obtain ⟨np, n4⟩ := List.nodup_cons.mp n2'
      refine ⟨p, dx, vs, _, rfl, e2, hle, rfl, ?_⟩
      have S1 := SeesL.ext (sub_shr (B := B2) g.st.sub) _ e3
      have S2 := r2.shr g.st.sub (C := B2) (fun b hb => hb)
      have H0 : ∀ o' : HO, Mu o' → Hd K T s h A σ env (shr s1 h1 B2) (upd h1 p o') A1 [p] := fun o' mu' => hh.change (by simp) e2 trivial mu' (fun b hb => by simp [hb]) np (by simp) (by simpa using np) (by simp)
      split at q
      · rename_i hk
        simp only [inM, Option.bind_some, Option.some.injEq] at q
        subst q
        refine ⟨.inl (by omega), ?_⟩
        rw [if_pos (by omega)]
        refine ⟨_, _, fin (H0 (.ins (T.cl c) dx ((T.fl c).zip (vs.set i y))) trivial) ?_⟩
        exact ⟨p, rfl, rfl, dx, _, upd_same, by simpa using hle, S1.set S2⟩
      · rename_i hk
        split at q
        · rename_i hk2
          simp only [inM, Option.bind_some, Option.some.injEq] at q
          subst q
          refine ⟨.inr (by omega), ?_⟩
          rw [if_neg (by omega)]
          refine ⟨_, _, fin (H0 (.ins (T.cl c) dx ((T.fl c).zip (vs ++ [y]))) trivial) ?_⟩
          exact ⟨p, rfl, rfl, dx, _, upd_same, by simp; omega, S1.app (SeesL.one S2)⟩
        · cases q
  · cases q
def sFldS (n j c i : Nat) (f : Env' → Option (D × M × Env')) : Sf := fun env => (f env).bind fun x => match x.2.2[j]? with
  | some (some (.ins c' xs, mx)) => if c' = c then (setFD n i c xs (x.1, x.2.1) mx).bind fun z => some (.nx, x.2.2.set j (some z)) else none
  | _ => none
theorem js_fld {ix nf : Nat} {fd : Str} {pos' : Pos} (C : FldG X.K T cc) (hnf : (T.fl cc).length = nf) (hi : (T.fl cc)[ix]? = some fd) (hN : X.N[j]? = some x) (he : JE T X e f) (hv : Vis X.env.scope x := by first | exact Or.inl rfl | exact Or.inr (Or.inl rfl) | exact Or.inr (Or.inr rfl)) (hd : (x == ("__debug__" : Str)) = false := by decide) (hcd : (x == ("__classdict__" : Str)) = false := by decide)
    (hs : swapsWith e (some (.Attribute (.Name x p) fd pos')) pos.line X.env = pure false := by rfl) : JS T X io (.Assign [.Attribute (.Name x p) fd pos'] e pos) (sFldS nf j cc ix f) := by
  subst hnf
  refine js_mk (ps_fld (pe_var hN hv hd hcd) he hs) fun E σ h ⟨s, env, A, fl, env', o, q, w⟩ => ?_
  obtain ⟨⟨d, m, env1⟩, e1, q⟩ := Option.bind_eq_some_iff.mp q
  refine ⟨s, env, A, d, m, env1, o, e1, fun y s1 h1 A1 B1 g1 => ?_⟩
  dsimp only at q
  split at q
  · rename_i c' xs mx ej
    split at q
    · rename_i ec
      subst ec
      obtain ⟨z, e2, q⟩ := Option.bind_eq_some_iff.mp q
      cases q
      obtain ⟨v, A2, B2, ev, g2⟩ := g1.one.takeC ej
      obtain ⟨p0, dx, vs, vs', rfl, e3, e4, rfl, e5, s3, B3, g3⟩ := setFD_go g2 e2
      refine ⟨.ref p0, ev, p0, T.cl c', dx, _, rfl, e3, C.cls, C.na fd (List.mem_of_getElem? hi), ?_, ?_⟩
      · rw [List.length_zip]
        have := C.few
        omega
      · rw [putF_zip C.nd y hi]
        obtain ⟨A5, g5⟩ := g3.put (get_hole ej) ev
        rw [set_set_none] at g5
        rcases e5 with e5 | e5
        · rw [if_pos e5] at g5 ⊢
          exact w σ s3 _ A5 g5 Pin.rfl'
        · rw [if_neg (by omega)] at g5 ⊢
          rw [if_pos e5]
          exact w σ s3 _ A5 g5 Pin.rfl'
    · cases q
  · cases q
/-! name = [comprehension] -/
theorem js_setLcV {st : Stmt} {i : Nat} {t : TE} (h : PS X st (tAsg t (gName i))) (r : RdP X.K T t fp) : JS T X io st (sSet io i (eV fp)) := js_mk h fun E σ h q => sSet_go (fun σ h Q ⟨s, env, A, d, m, env', o, q, w⟩ => by
  obtain ⟨⟨d', m'⟩, e1, q⟩ := Option.bind_eq_some_iff.mp q
  dsimp only at q
  split at q
  · rename_i hm
    subst hm
    cases q
    refine r σ h h (vw env) _ _ Q o.at e1 fun v s' h' B g => ?_
    obtain ⟨s2, g2⟩ := GotE.of_view o g
    exact w v s2 h' A B g2
  · cases q) E σ h q
theorem js_setLcS {st : Stmt} {i : Nat} {t : TE} (h : PS X st (tAsg t (gName i))) (r : RdP X.K T t fp) : JS T X io st (sSet io i (eS fp)) := js_mk h fun E σ h q => sSet_go (fun σ h Q ⟨s, env, A, d, m, env', o, q, w⟩ => by
  obtain ⟨⟨d', m'⟩, e1, q⟩ := Option.bind_eq_some_iff.mp q
  cases q
  exact r σ _ h (shv env) _ _ Q o.ats e1 fun v s' h' B g => w v s' h' A B (GotE.of_shared o g)) E σ h q
/-! own == -/
/-- the own __eq__ of class c -/
structure EqG' (P : Program) (w : World) (K : PySem.W.Frag) (mg : Str → Option Value) (base : Heap) (T : Tx) (k : Nat) (c : Nat) (run : Fi) : Prop where
  ex : ∃ f fd ps, FnG P w K mg base CX0 k f fd ps (spG K T 2 run) ∧ PySem.W.findIn K (.ref (T.cl c)) "__eq__" = some (some (.ref f)) ∧ PySem.W.isFn K (.ref f) = true ∧ Binds K fd ps []
  bt : ∀ n ∈ ["NoneType", "bool", "int", "str", "list", "tuple", "dict"], PySem.W.subIn K (.type n) (.ref (T.cl c)) = some false
def gEqI (c : Nat) (run : Fi) (a b : D) : Option (D × M) := match a with
  | .ins c' _ => if c' = c then match b with
      | .ins c2 _ => if c2 = c then (run [(a, im a), (b, im b)]).bind fun y => match y.1 with
          | .bl r => some (.bl r, .dp)
          | _ => none else none
      | .dt _ _ => none
      | _ => (run [(a, im a), (b, im b)]).bind fun y => match y.1 with
          | .bl r => some (.bl r, .dp)
          | _ => none
    else none
  | _ => none
def rEqI (c : Nat) (T : Tx) (K : PySem.W.Frag) (run : Fi) : R2 := fun x y H Q => ∃ a dx fs, x = .ref a ∧ H a = some (.ins (T.cl c) dx fs) ∧ ((∃ b dx fs, y = .ref b ∧ H b = some (.ins (T.cl c) dx fs)) ∨ ∃ n, n ∈ ["NoneType", "bool", "int", "str", "list", "tuple", "dict"] ∧ TyX K H y (.type n)) ∧ spG K T 2 run [x, y] H (fun v H' => ∃ r, v = .bl r ∧ Q v H') E0
theorem op_eqI (F : EqG' X.prog X.w X.K X.mg X.base T l cc run) (hr : RoomG l X.A) : OpR X (compareOp .Eq) (rEqI cc T X.K run) := by
  intro pins s σ H x y v u Q I rx ry hq
  obtain ⟨a, dx, fs, rfl, ha, hy, sp⟩ := hq
  obtain ⟨ff, fd, ps, F0, hs, hf, hb⟩ := F.ex
  show wpAny (model X.prog X.w) X.A (richCompare .Eq v u) (EP X pins σ Q) X.xe s
  obtain rfl : v = Value.ref a := rx
  obtain ⟨mA, J, _⟩ := ins_get I.hok ha
  obtain ⟨od, J, _⟩ := J.look
  obtain ⟨m, hF⟩ := I.fr
  have fin : ∀ tb, PySem.W.Looks (model X.prog X.w) s.heap (typeOf u) tb → PySem.W.notFirst X.K (T.cl cc) tb = true → wpAny (model X.prog X.w) X.A (richCompare .Eq (.ref a) u) (EP X pins σ Q) X.xe s := fun tb lk nf => by
    refine PySem.W.cmp_K (op := .Eq) (tb := tb) hr.units0 hF I.ok.mod.kin J lk nf hs hf ?_
    refine thn (F0.go (us := [.ref a, u]) (ws := [.ref a, u]) (kw := []) (vs := [.ref a, y]) hr pass0 I (hb s [.ref a, u] I.kIn (by have := F0.len _ _ _ _ sp; exact this)) (.cons rfl (.cons ry .nil)) sp) fun w s' hw => ?_
    obtain ⟨z, H', I', rz, r, rfl, q⟩ := hw
    obtain rfl : w = Value.bool r := rz
    exact ⟨.bl r, H', I', rfl, q⟩
  rcases hy with ⟨b, dx', fs', rfl, hb'⟩ | ⟨n, hn, ty⟩
  · obtain rfl : u = Value.ref b := ry
    obtain ⟨mB, J', _⟩ := ins_get I.hok hb'
    obtain ⟨od', J', _⟩ := J'.look
    exact fin _ J'.type (by simp [PySem.W.notFirst])
  · obtain ⟨P, Z, p, _⟩ := kit_of I ry ty
    exact fin _ (Z.ty _ _ I.kIn p) (by simp [PySem.W.notFirst, F.bt n hn])
theorem o2_eqI (F : EqG' X.prog X.w X.K X.mg X.base T l cc run) (hr : RoomG j X.A) (hl : l ≤ j) : O2 T X (compareOp .Eq) (gEqI cc run) := by
  refine ⟨_, op_eqI F (hr.mono hl), fun s h x y a b d m Q e tb ra rb q w => ?_⟩
  unfold gEqI at q
  split at q
  · rename_i c' xs
    split at q
    · rename_i ec
      subst ec
      have core : ∀ {r : Bool} {mm : M} {ps : List (D × M)}, run [(.ins c' xs, im (.ins c' xs)), (b, im b)] = some (.bl r, mm, ps) → (∀ v s' h' B, Got X.K T s h v (.bl r) .dp s' h' B → Q v h') → spG X.K T 2 run [x, y] h (fun v H' => ∃ r, v = .bl r ∧ Q v H') E0 := fun {r mm ps} eq w => by
        have o : Own X.K T s h [] [] [] := ⟨e, tb, ⟨rfl, rfl⟩, List.nodup_nil, fun _ ha => by cases ha⟩
        have g : GotL X.K T s h [] [] [x, y] [(.ins c' xs, im (.ins c' xs)), (b, im b)] [] s h [] [] := (Hd.nil o).got ⟨x, [y], [], [], rfl, rfl, ra.rep e, y, [], [], [], rfl, rfl, rb.rep e, rfl, rfl⟩
        refine call_core g rfl eq fun v s2 h2 B2 g2 => ?_
        obtain ⟨v', q', C1, C2, e4, rfl, g5, r5⟩ := g2.head
        cases e4
        have sv := g5.rp.sees g5.st.sub
        simp only [Sees] at sv
        subst sv
        have gg := g5.got.gr
        exact ⟨r, rfl, w _ s2 h2 [] ((got_bl gg.sub).pre gg)⟩
      simp only [Sees] at ra
      obtain ⟨p, dx, vs, rfl, e2, _, e3⟩ := id ra
      have e2' := e.at_ _ _ e2 (by intro _ z; cases z)
      split at q
      · rename_i c2 ys
        split at q
        · rename_i ec
          subst ec
          obtain ⟨⟨dz, mz, pz⟩, e5, q⟩ := Option.bind_eq_some_iff.mp q
          dsimp only at q
          split at q
          · cases q
            have rb' := rb
            simp only [Sees] at rb'
            obtain ⟨p2, dx2, vs2, rfl, e6, _, _⟩ := rb'
            exact ⟨p, dx, _, rfl, e2', .inl ⟨p2, dx2, _, rfl, e.at_ _ _ e6 (by intro _ z; cases z)⟩, core e5 w⟩
          · cases q
        · cases q
      · cases q
      · rename_i nb1 nb
        obtain ⟨⟨dz, mz, pz⟩, e5, q⟩ := Option.bind_eq_some_iff.mp q
        dsimp only at q
        split at q
        · cases q
          refine ⟨p, dx, _, rfl, e2', .inr ?_, core e5 w⟩
          cases hb : tyN b with
          | none => cases b <;> simp [tyN] at hb <;> first | exact absurd rfl (nb _ _) | exact absurd rfl (nb1 _ _)
          | some n => exact ⟨n, by cases b <;> simp [tyN] at hb <;> subst hb <;> decide, tyX_of e rb hb⟩
        · cases q
    · cases q
  · cases q
end
end G
set_option Elab.async false
set_option linter.all false
set_option maxRecDepth 100000
set_option maxHeartbeats 4000000
/-! G18: calls with keywords alone -/
namespace G
open PySem PySem.Spec PyProof.Rows L2
/-- the keywords' values in the parameters' order -/
def permL {α : Type} (perm : List Nat) (ws : List α) : List α := perm.filterMap fun i => ws[i]?
theorem permL_map {α β : Type} (f : α → β) (perm : List Nat) (ws : List α) : permL perm (ws.map f) = (permL perm ws).map f := by
  unfold permL
  rw [List.map_filterMap]
  congr 1
  funext i
  rw [List.getElem?_map]
theorem paired_at {α β : Type} {R : α → β → Prop} : ∀ {xs : List α} {ys : List β} {i : Nat}, Paired R xs ys → (xs[i]? = none ∧ ys[i]? = none) ∨ ∃ x y, xs[i]? = some x ∧ ys[i]? = some y ∧ R x y
  | _, _, _, .nil => .inl ⟨rfl, rfl⟩
  | _, _, 0, .cons r t => .inr ⟨_, _, rfl, rfl, r⟩
  | _, _, i + 1, .cons r t => by simpa using paired_at (i := i) t
theorem permL_vals {vs : List V} {us : List Value} (r : Vals vs us) : ∀ perm : List Nat, Vals (permL perm vs) (permL perm us)
  | [] => .nil
  | i :: perm => by
    unfold permL
    rw [List.filterMap_cons, List.filterMap_cons]
    rcases paired_at (i := i) r with ⟨e1, e2⟩ | ⟨x, y, e1, e2, rr⟩
    · rw [e1, e2]; exact permL_vals r perm
    · rw [e1, e2]; exact .cons rr (permL_vals r perm)
theorem permL_sees {K : PySem.W.Frag} {T : Tx} {s : Hp} {vs : List V} {ds : List D} (r : SeesL K T s vs ds) : ∀ perm : List Nat, SeesL K T s (permL perm vs) (permL perm ds)
  | [] => by simp [permL, SeesL]
  | i :: perm => by
    unfold permL
    rw [List.filterMap_cons, List.filterMap_cons]
    cases e : ds[i]? with
    | none =>
      have : vs[i]? = none := by
        rw [List.getElem?_eq_none_iff] at e ⊢
        rw [SeesL.len _ r]; exact e
      rw [this]
      exact permL_sees r perm
    | some d =>
      obtain ⟨v, e1, e2⟩ := r.get e
      rw [e1]
      simp only [SeesL]
      exact ⟨v, _, rfl, e2, permL_sees r perm⟩
/-- a def that may be called by its name with these keywords alone -/
structure CalK (P : Program) (w : World) (K : PySem.W.Frag) (mg : Str → Option Value) (base : Heap) (T : Tx) (k : Nat) (x : Str) (n : Nat) (ks : List Str) (perm : List Nat) (run : Fi) : Prop where
  ex : ∃ f fd ps, FnG P w K mg base CX0 k f fd ps (spG K T n run) ∧ mg x = some (.ref f) ∧ PySem.W.keepIn K (.ref f) = true ∧ ∀ (s : Shared) (ws : List Value), ws.length = ks.length → BindsTo s fd ⟨[], ks.zip ws⟩ (ps.zip (permL perm ws))
structure MakK (P : Program) (w : World) (K : PySem.W.Frag) (mg : Str → Option Value) (base : Heap) (T : Tx) (k : Nat) (x : Str) (c : Nat) (n : Nat) (ks : List Str) (perm : List Nat) (run : Fi) : Prop where
  ex : ∃ f fd ps, Mk K (T.cl c) f ∧ mg x = some (.ref (T.cl c)) ∧ FnG P w K mg base CX0 k f fd ps (spG K T n run) ∧ ∀ (s : Shared) (u : Value) (ws : List Value), ws.length = ks.length → BindsTo s fd ⟨[u], ks.zip ws⟩ (ps.zip (u :: permL perm ws))
section
variable {X : Cx} {T : Tx} {fl : VEnv → Option (List (D × M))} {pos p : Pos} {x : Str} {j l n cc : Nat} {run : Fi} {ks : List Str} {perm : List Nat} {kws : List Keyword}
/-- values seen, as the arguments of a call that only reads -/
theorem rd_sees {K : PySem.W.Frag} {s h s1 h1 : Hp} {σ : St} {A A1 : List Addr} {env1 : Env'} {vs : List V} {ds : List D} {ps' : List (D × M)} {d : D} {m : M} {Q : VK} {E : XK} (g : Go K T s h A σ env1 s1 h1 A1) (r : SeesL K T s1 vs ds) (hn : ds.length = n) (q : run (ds.map fun d => (d, im d)) = some (d, m, ps'))
    (w : ∀ v s2 h2 A2 B2, GotE K T s h A σ v d m env1 s2 h2 A2 B2 → Q v h2) : spG K T n run vs h1 Q E := by
  have g2 : GotL K T s h A σ vs (ds.map fun d => (d, im d)) env1 s1 h1 A1 [] := ⟨g.st, g.own.tab, g.own.er, SeesL.repL g.own.sub _ r, by rw [List.append_nil]; exact g.own.nd, fun a ha => g.own.fr a (by simpa using ha), fun a ha => g.wh a (by simpa using ha)⟩
  refine call_core g2 (by rw [List.length_map]; exact hn) q fun v s4 h4 B4 g4 => ?_
  obtain ⟨v', q', C1, C2, e4, rfl, g5, r5⟩ := g4.head
  cases e4
  exact w v s4 h4 A1 C1 g5
def pCallK (n nk : Nat) (perm : List Nat) (run : Fi) (k : VEnv → Option (List (D × M))) : VEnv → Option (D × M) := fun ve => (k ve).bind fun r => if r.length = nk ∧ (permL perm r).length = n then (run (rdL (permL perm r))).bind fun y => some (y.1, y.2.1) else none
theorem jp_callK {nk : Nat} (F : CalK X.prog X.w X.K X.mg X.base T l x n ks perm run) (hr : RoomG j X.A) (hl : l ≤ j) (hg : Gl X x) (hkw : JK T X kws fl) (hnk : ks.length = nk := by rfl) (hall : (backToKw pos (keywordEach kws X.env)).all (·.1.isSome) = true := by rfl) (hks : (backToKw pos (keywordEach kws X.env)).filterMap (·.1) = ks := by rfl)
    (hdb : (x == ("__debug__" : Str)) = false := by decide) (hpl : ((backTo pos (starEach [] X.env)).any (·.1) || (backToKw pos (keywordEach kws X.env)).any (·.1.isNone)) = false := by rfl) :
    JP T X (.Call (.Name x p) [] kws pos) (pCallK n nk perm run fl) := by
  obtain ⟨ff, fd, ps, F0, hm, kp, bd⟩ := F.ex
  obtain ⟨t, a1, a2⟩ := hkw
  subst hnk
  refine ⟨_, peG_callK (g := permL perm) (gV := permL perm) F0 (hr.mono hl) hg hm kp bd (fun r => permL_vals r perm) pass0 a1 hall hks hdb hpl, fun σ s h ve d m Q A q w => ?_⟩
  obtain ⟨ds, e1, q⟩ := Option.bind_eq_some_iff.mp q
  split at q
  · rename_i hn
    obtain ⟨⟨dz, mz, ps'⟩, e2, q⟩ := Option.bind_eq_some_iff.mp q
    cases q
    refine a2 σ s h ve ds _ A e1 fun vs s1 h1 B g1 r1 f1 => ⟨by rw [r1.len]; exact hn.1, ?_⟩
    obtain ⟨g2, r2⟩ := (A.gotL g1 r1 f1).seen
    have r3 := permL_sees r2 perm
    refine rd_sees g2 r3 (by rw [permL_map, List.length_map]; exact hn.2) (by rw [permL_map, List.map_map]; exact e2) fun v s2 h2 A2 B2 g2 => w v s2 h2 B2 g2.got
  · cases q
def pMakeK (c n nk : Nat) (perm : List Nat) (run : Fi) (k : VEnv → Option (List (D × M))) : VEnv → Option (D × M) := fun ve => (k ve).bind fun r => if r.length = nk then mkR c n run (rdL (permL perm r)) else none
theorem jp_makeK {nk : Nat} (F : MakK X.prog X.w X.K X.mg X.base T l x cc n ks perm run) (hr : RoomG j X.A) (hl : l + 1 ≤ j) (hg : Gl X x) (hkw : JK T X kws fl) (hnk : ks.length = nk := by rfl) (hall : (backToKw pos (keywordEach kws X.env)).all (·.1.isSome) = true := by rfl) (hks : (backToKw pos (keywordEach kws X.env)).filterMap (·.1) = ks := by rfl)
    (hdb : (x == ("__debug__" : Str)) = false := by decide) (hpl : ((backTo pos (starEach [] X.env)).any (·.1) || (backToKw pos (keywordEach kws X.env)).any (·.1.isNone)) = false := by rfl) :
    JP T X (.Call (.Name x p) [] kws pos) (pMakeK cc n nk perm run fl) := by
  obtain ⟨ff, fd, ps, M0, hm, F0, bd⟩ := F.ex
  obtain ⟨t, a1, a2⟩ := hkw
  subst hnk
  refine ⟨_, peG_makeK (g := permL perm) (gV := permL perm) M0 F0 (hr.mono hl) hg hm bd (fun r => permL_vals r perm) pass0 a1 hall hks hdb hpl, fun σ s h ve d m Q A q w => ?_⟩
  obtain ⟨ds, e1, q⟩ := Option.bind_eq_some_iff.mp q
  split at q
  · rename_i hn
    refine a2 σ s h ve ds _ A e1 fun vs s1 h1 B g1 r1 f1 => ⟨by rw [r1.len]; exact hn, ?_⟩
    obtain ⟨g2, r2⟩ := (A.gotL g1 r1 f1).seen
    have r3 := permL_sees r2 perm
    have g3 : GotL X.K T s h [] σ (permL perm vs) (rdL (permL perm ds)) (noEnv σ) _ h1 [] [] := ⟨g2.st, g2.own.tab, g2.own.er, by
      have := SeesL.repL g2.own.sub _ r3
      rw [permL_map, List.map_map] at this
      exact this, by simp, fun a ha => by simp at ha, fun a ha => by simp at ha⟩
    exact make_go g3 q fun v s2 h2 A2 B2 g2 => w v s2 h2 B2 g2.got
  · cases q
end
end G
set_option Elab.async false
set_option linter.all false
set_option maxRecDepth 100000
set_option maxHeartbeats 4000000
/-! G19: leaves that find their own way; small things for derivations -/
namespace G
open PySem PySem.Spec PyProof.Rows L2
section
variable {X : Cx} {T : Tx} {io : List Bool} {a b c e o i tg : Expr} {es : List Expr} {f k : Env' → Option (D × M × Env')} {fi fp fq : VEnv → Option (D × M)} {fl : VEnv → Option (List (D × M))} {pos p apos cpos : Pos} {x m : Str} {j l n cc : Nat} {run : Fi}
/-- of the views, where the answer is all new; otherwise of what is shared -/
def eB (f : VEnv → Option (D × M)) : Env' → Option (D × M × Env') := fun env => match eV f env with
  | some r => some r
  | none => eS f env
theorem je_b (h : JP T X e fp) : JE T X e (eB fp) := by
  obtain ⟨t, a1, a2⟩ := h
  refine je_mk a1 fun σ h Q ⟨s, env, A, d, m, env', o, q, w⟩ => ?_
  unfold eB at q
  split at q
  · rename_i r er
    cases q
    obtain ⟨⟨d', m'⟩, e1, er⟩ := Option.bind_eq_some_iff.mp er
    dsimp only at er
    split at er
    · rename_i hm
      subst hm
      cases er
      refine a2 σ h h (vw env) _ _ Q o.at e1 fun v s' h' B g => ?_
      obtain ⟨s2, g2⟩ := GotE.of_view o g
      exact w v s2 h' A B g2
    · cases er
  · obtain ⟨⟨d', m'⟩, e1, q⟩ := Option.bind_eq_some_iff.mp q
    cases q
    exact a2 σ _ h (shv env) _ _ Q o.ats e1 fun v s' h' B g => w v s' h' A B (GotE.of_shared o g)
/-- a name: a copy of what is shared or holds no list; what is ours moves out of its slot -/
def eMv (j : Nat) : Env' → Option (D × M × Env') := fun env => match env[j]? with
  | some (some (d, m)) => if imm d = true then some (d, .dp, env) else match m with
    | .sh => some (d, .sh, env)
    | _ => some (d, m, env.set j none)
  | _ => none
theorem copy_go {K : PySem.W.Frag} {s h : Hp} {σ : St} {env : Env'} {A : List Addr} {d : D} {mm : M} (o : Own K T s h σ env A) (ex : env[j]? = some (some (d, mm))) (hi : imm d = true ∨ mm = .sh) : ∃ v, σ[j]? = some (some v) ∧ GotE K T s h A σ v d (im d) env (shr s h []) h A [] := by
  obtain ⟨v, B, e1, e2, _⟩ := o.er.get ex
  refine ⟨v, e1, GotE.of_shared o (Got.of (Gr.refl (shr_sub o.sub)) ?_)⟩
  rcases hi with hi | rfl
  · exact Deep.shr d (Sees.deep d hi (e2.sees o.sub)) (fun b hb => by cases hb)
  · exact e2.2.ext (sub_shr o.sub) d
theorem je_mv (hN : X.N[j]? = some x := by rfl) (hv : Vis X.env.scope x := by first | exact Or.inl rfl | exact Or.inr (Or.inl rfl) | exact Or.inr (Or.inr rfl)) (hd : (x == ("__debug__" : Str)) = false := by decide) (hcd : (x == ("__classdict__" : Str)) = false := by decide) : JE T X (.Name x p) (eMv j) := by
  refine je_mk (pe_var hN hv hd hcd) fun σ h Q ⟨s, env, A, d, m, env', o, q, w⟩ => ?_
  unfold eMv at q
  split at q
  · rename_i d' m' ex
    split at q
    · rename_i hi
      cases q
      obtain ⟨v, e1, g⟩ := copy_go o ex (.inl hi)
      rw [im, if_pos hi] at g
      exact ⟨v, e1, w v _ h A [] g⟩
    · rename_i hi
      split at q
      · cases q
        obtain ⟨v, e1, g⟩ := copy_go o ex (.inr rfl)
        rw [im, if_neg hi] at g
        exact ⟨v, e1, w v _ h A [] g⟩
      · cases q
        obtain ⟨v, A0, B, eσ, g0⟩ := GotE.take (Go.refl o) ex
        exact ⟨v, eσ, w v s h A0 B g0⟩
  · cases q
/-- .. what is ours is shared from then on -/
def eCp (j : Nat) : Env' → Option (D × M × Env') := fun env => (frz j env).bind fun e => match e[j]? with
  | some (some (d, m)) => some (d, m, e)
  | _ => none
theorem je_cp (hN : X.N[j]? = some x := by rfl) (hv : Vis X.env.scope x := by first | exact Or.inl rfl | exact Or.inr (Or.inl rfl) | exact Or.inr (Or.inr rfl)) (hd : (x == ("__debug__" : Str)) = false := by decide) (hcd : (x == ("__classdict__" : Str)) = false := by decide) : JE T X (.Name x p) (eCp j) := by
  refine je_mk (pe_var hN hv hd hcd) fun σ h Q ⟨s, env, A, d, m, env', o, q, w⟩ => ?_
  obtain ⟨env1, e1, q⟩ := Option.bind_eq_some_iff.mp q
  split at q
  · rename_i d' m' ex
    cases q
    obtain ⟨s2, A2, g⟩ := (Go.refl o).frz e1
    have hm : m = im d := by
      unfold frz at e1
      split at e1
      · rename_i dm eq
        cases e1
        have hl := (List.getElem?_eq_some_iff.mp eq).1
        rw [List.getElem?_set_self hl] at ex
        cases ex
        rfl
      · cases e1
    subst hm
    have hi : imm d = true ∨ im d = .sh := by
      unfold im
      split
      · rename_i z; exact .inl z
      · exact .inr rfl
    obtain ⟨v, e2, g2⟩ := copy_go g.own ex hi
    exact ⟨v, e2, w v _ h A2 [] (GotE.pre g g2)⟩
  · cases q
/-- name = [comprehension] -/
theorem js_lcB {st : Stmt} {i : Nat} {t : TE} (h : PS X st (tAsg t (gName i))) (r : RdP X.K T t fp) : JS T X io st (sSet io i (eB fp)) := js_mk h fun E σ h q => sSet_go (fun σ h Q ⟨s, env, A, d, m, env', o, q, w⟩ => by
  unfold eB at q
  split at q
  · rename_i rr er
    cases q
    obtain ⟨⟨d', m'⟩, e1, er⟩ := Option.bind_eq_some_iff.mp er
    dsimp only at er
    split at er
    · rename_i hm
      subst hm
      cases er
      refine r σ h h (vw env) _ _ Q o.at e1 fun v s' h' B g => ?_
      obtain ⟨s2, g2⟩ := GotE.of_view o g
      exact w v s2 h' A B g2
    · cases er
  · obtain ⟨⟨d', m'⟩, e1, q⟩ := Option.bind_eq_some_iff.mp q
    cases q
    exact r σ _ h (shv env) _ _ Q o.ats e1 fun v s' h' B g => w v s' h' A B (GotE.of_shared o g)) E σ h q
theorem js_lc {y : Str} {py : Pos} {elt iter : Expr} {ifs : List Expr} {scope : Scope} {own : List (Str × Nat)} {ii : VEnv → Option (List D)} {g : D → VEnv → Option VEnv} {ft : VEnv → Option Bool} {fe : VEnv → Option (D × M)} {spos : Pos} {j : Nat} (hc : X.calm = true) (hN : X.N.Nodup) (hy : X.N[j]? = some y) (hyl : X.env.scope.names.lookup y = some .local)
    (hsw : swapsWith (.ListComp elt [⟨tg, iter, ifs, 0⟩] scope pos) (some (.Name y py)) spos.line X.env = pure true) (hi : JI T X tg iter ii) (ok : BlkOk X.N X.env.scope scope own)
    (hg : ∀ (s : Shared) (H : Hp) (C : Addr) (cl : List (Str × Addr)) (fp : List Addr), JG T (X.blk s H scope (compEnvC scope cl C X.env) fp) tg (own.map (·.2)) g)
    (ht : ∀ (s : Shared) (H : Hp) (C : Addr) (cl : List (Str × Addr)) (fp : List Addr), JTs T (X.blk s H scope (compEnvC scope cl C X.env) fp) ifs ft)
    (he : ∀ (s : Shared) (H : Hp) (C : Addr) (cl : List (Str × Addr)) (fp : List Addr), JP T (X.blk s H scope (compEnvC scope cl C X.env) fp) elt fe) (hs : ∀ x, foldedSetIterable iter X.env x = pure x := by intro _; rfl) :
    JS T X io (.Assign [.Name y py] (.ListComp elt [⟨tg, iter, ifs, 0⟩] scope pos) spos) (sSet io j (eB (pComp (own.map (·.2)) ii g ft fe))) := by
  obtain ⟨wi, i1, i2⟩ := hi
  exact js_lcB (ps_setLc (g := tG X.K T (own.map fun (x : Str × Nat) => x.2) g) (tt := tT X.K T ft) (te := tP X.K T fe) (own := own) hc hN hy hyl hsw i1 ok hg ht (fun s H C cl fp => (he s H C cl fp).pe) hs) (comp_rd i2)
end
theorem hu1 {k : Nat} {A : Around} (r : RoomG k A) : A.units + 1 < cLine := by have := r.rm.un; omega
theorem hu64 {k : Nat} {A : Around} (r : RoomG k A) : A.units + 64 < cLine := by have := r.rm.un; omega
theorem hu65 {k : Nat} {A : Around} (r : RoomG k A) : A.units + 65 < cLine := by have := r.rm.un; omega
end G
set_option Elab.async false
set_option linter.all false
set_option maxRecDepth 100000
set_option maxHeartbeats 4000000
/-! G20: tuples of ints by their order -/
namespace G
open PySem PySem.Spec PyProof.Rows L2
/-- the answer for two rows of ints: lt the order of two unlike items, z that of the lengths -/
def lexG (lt : Int → Int → Bool) (z : Bool) (ns ms : List Int) : Bool := Ob.lexAt (fun j => decide (ns.getD j 0 = ms.getD j 0)) (fun j => lt (ns.getD j 0) (ms.getD j 0)) z 0 (min ns.length ms.length)
def rTup (K : PySem.W.Frag) (lt : Int → Int → Bool) (zz : Nat → Nat → Bool) : R2 := fun x y H Q => ∃ (a b : Addr) (ns ms : List Int), x = .ref a ∧ y = .ref b ∧ SqT K H a (ns.map V.int) ∧ SqT K H b (ms.map V.int) ∧ Q (.bl (lexG lt (zz ns.length ms.length) ns ms)) H
section
variable {X : Cx} {T : Tx}
theorem int_parts {its : List Value} {ns : List Int} (i1 : PyProof.Rows.IntsAre its ns) : its.toArray.size = ns.length ∧ ∀ j (h1 : j < its.toArray.size), ∃ t, its.toArray[j] = .int (ns.getD j 0) t :=
  ⟨by rw [List.size_toArray]; exact i1.length, fun j h1 => PyProof.Rows.IntsAre.int_at i1 _ _ (by simp at h1; simp [h1])⟩
theorem eq_at {A : Around} {s : Shared} {x y : Value} {i k : Int} (h1 : ∃ t, x = .int i t) (h2 : ∃ t, y = .int k t) : SeqAt.EqAt A s x y (decide (i = k)) := by
  obtain ⟨t, rfl⟩ := h1
  obtain ⟨t', rfl⟩ := h2
  have z : (i == k) = decide (i = k) := by
    by_cases q : i = k
    · rw [decide_eq_true q]; exact beq_iff_eq.mpr q
    · rw [decide_eq_false q]; exact beq_eq_false_iff_ne.mpr q
  rw [← z]
  exact SeqAt.EqAt.int_int _ _ _ _
theorem op_geT (hu : X.A.units < cLine) : OpR X (compareOp .GtE) (rTup X.K (fun i k => decide (k ≤ i)) fun n m => decide (n ≥ m)) := by
  intro pins s σ H x y v u Q I rx ry h
  obtain ⟨a, b, ns, ms, rfl, rfl, ha, hb, q⟩ := h
  cases rx
  cases ry
  obtain ⟨its, r1, p1, _⟩ := I.tuple ha
  obtain ⟨its2, r2, p2, _⟩ := I.tuple hb
  obtain ⟨e1, at1⟩ := int_parts (Vals.ints r1)
  obtain ⟨e2, at2⟩ := int_parts (Vals.ints r2)
  have R := Ob.RcOp.tuples_ge (A := X.A) (s := s) (e := fun j => decide (ns.getD j 0 = ms.getD j 0)) (r := fun j => decide (ms.getD j 0 ≤ ns.getD j 0)) p1 p2 hu (fun j h1 h2 => eq_at (at1 j h1) (at2 j h2)) (fun j h1 h2 _ => by
    obtain ⟨t, et⟩ := at1 j h1
    obtain ⟨t', et'⟩ := at2 j h2
    rw [et, et']
    exact Ob.RcOp.ge_int _ _ _ _)
  rw [e1, e2] at R
  have z : wpAny (model X.prog X.w) X.A (compareOp .GtE (.ref a) (.ref b)) (EP X pins σ Q) X.xe s := R X.prog X.w X.xe (EP X pins σ Q) ⟨.bl _, H, I, rfl, q⟩
  exact z
theorem seesL_toInts {K : PySem.W.Frag} {s : Hp} {vs : List V} {ds : List D} {ns : List Int} (r : SeesL K T s vs ds) (e : toInts ds = some ns) : vs = ns.map V.int := by
  have := toInts_eq e
  subst this
  exact seesL_ints_inv ns r
def gGeX : D → D → Option (D × M)
  | .tup xs, .tup ys => (toInts xs).bind fun ns => (toInts ys).bind fun ms => some (.bl (lexG (fun i k => decide (k ≤ i)) (decide (ns.length ≥ ms.length)) ns ms), .dp)
  | a, b => gGe a b
theorem op_or2 {F : Value → Value → Sem Value} {r r' : R2} (h : OpR X F r) (h' : OpR X F r') : OpR X F (fun x y H Q => r x y H Q ∨ r' x y H Q) := by
  intro pins s σ H x y v u Q I rx ry hq
  rcases hq with hq | hq
  · exact h pins s σ H x y v u Q I rx ry hq
  · exact h' pins s σ H x y v u Q I rx ry hq
theorem o2_geX (hu : X.A.units < cLine) : O2 T X (compareOp .GtE) gGeX := by
  obtain ⟨r1, o1, o2⟩ := o2_ge (T := T) (X := X)
  refine ⟨_, op_or2 (op_geT hu) o1, fun s h x y a b d m Q e tb ra rb q w => ?_⟩
  unfold gGeX at q
  split at q
  · obtain ⟨ns, e1, q⟩ := Option.bind_eq_some_iff.mp q
    obtain ⟨ms, e2, q⟩ := Option.bind_eq_some_iff.mp q
    cases q
    simp only [Sees] at ra rb
    obtain ⟨p, vs, rfl, r1, r2⟩ := ra
    obtain ⟨p', vs', rfl, r1', r2'⟩ := rb
    have := seesL_toInts r2 e1
    subst this
    have := seesL_toInts r2' e2
    subst this
    exact .inl ⟨p, p', ns, ms, rfl, rfl, (sqT_ext e r1).sq, (sqT_ext e r1').sq, w _ s h [] (got_bl e)⟩
  · exact .inr (o2 s h x y a b d m Q e tb ra rb q w)
end
theorem hu0 {k : Nat} {A : Around} (r : RoomG k A) : A.units < cLine := by have := r.rm.un; omega
end G
set_option Elab.async false
set_option linter.all false
set_option maxRecDepth 100000
set_option maxHeartbeats 4000000
/-! G21: what the written part gives, for heads -/
namespace G
open PySem PySem.Spec PyProof.Rows L2
/-- a def of the module -/
structure TopDef (K : PySem.W.Frag) (mg : Str → Option Value) (x : Str) (st : Stmt) : Prop where
  ex : ∃ f fd, Fun K x x st f fd ∧ mg x = some (.ref f)
/-- a method of the class at C -/
structure TopMeth (K : PySem.W.Frag) (C : Addr) (m qual : Str) (st : Stmt) : Prop where
  ex : ∃ f fd, Fun K m qual st f fd ∧ Meth K C m f
structure TopCls (K : PySem.W.Frag) (mg : Str → Option Value) (C : Addr) (x : Str) : Prop where
  cls : Cls K C
  mgC : mg x = some (.ref C)
  makes : PySem.W.makesIn K C = true
  kp : PySem.W.keepIn K (.ref C) = true
structure EqNo (K : PySem.W.Frag) (C : Addr) : Prop where
  no : ∀ n ∈ ["NoneType", "bool", "int", "str", "list", "tuple", "dict"], PySem.W.subIn K (.type n) (.ref C) = some false
section
variable {K : PySem.W.Frag} {mg : Str → Option Value} {h : Heap}
theorem topDef_mk {x : Str} {st : Stmt} {f : Addr} {oc : Value} {od an : Option Addr} {osl : Array (Option Value)} {kV doc pm cdv ct : Value} (X : K.In h) (G : h.Ns mainGlobals mg) (a : PySem.W.nsIn K mainGlobals x = some (some (.ref f)))
    (l : K.lookup f = some ⟨oc, od, .func (PySem.W.fnOf x x (defArgs st) (defBody st) (defScope st) .none kV doc pm an cdv ct), osl⟩) (c : PySem.W.codeIn K cdv x = true) (k : PySem.W.keepIn K (.ref f) = true) : TopDef K mg x st := ⟨f, _, fun_mk l c k, PySem.W.mg_of X G a⟩
theorem topMeth_mk {C : Addr} {xc m qual : Str} {st : Stmt} {f : Addr} {oc : Value} {od an : Option Addr} {osl : Array (Option Value)} {kV doc pm cdv ct : Value} (Q : TopCls K mg C xc) (a : PySem.W.findIn K (.ref C) m = some (some (.ref f))) (i : PySem.W.isFn K (.ref f) = true)
    (l : K.lookup f = some ⟨oc, od, .func (PySem.W.fnOf m qual (defArgs st) (defBody st) (defScope st) .none kV doc pm an cdv ct), osl⟩) (c : PySem.W.codeIn K cdv qual = true) (k : PySem.W.keepIn K (.ref f) = true) : TopMeth K C m qual st := ⟨f, _, fun_mk l c k, a, i, k⟩
theorem topCls_mk {C : Addr} {x : Str} (X : K.In h) (G : h.Ns mainGlobals mg) (a : PySem.W.nsIn K mainGlobals x = some (some (.ref C))) (pg : PySem.W.plainGet K C Str.empty = true) (hd : PySem.W.hasDictIn K C = true) (po : PySem.W.plainOver K C = true)
    (sa : PySem.W.findIn K (.ref C) "__setattr__" = some (some (.builtin "object.__setattr__"))) (mk : PySem.W.makesIn K C = true) (kc : PySem.W.keepIn K (.ref C) = true) : TopCls K mg C x := ⟨⟨pg, hd, po, sa⟩, PySem.W.mg_of X G a, mk, kc⟩
/-- seven facts as one -/
theorem seven {p : String → Prop} (a : p "NoneType") (b : p "bool") (c : p "int") (d : p "str") (e : p "list") (f : p "tuple") (g : p "dict") : ∀ n ∈ ["NoneType", "bool", "int", "str", "list", "tuple", "dict"], p n := by
  intro n hn
  simp only [List.mem_cons, List.not_mem_nil, or_false] at hn
  rcases hn with rfl | rfl | rfl | rfl | rfl | rfl | rfl <;> assumption
theorem eqNo_mk {C : Addr} {xc : Str} (Q : TopCls K mg C xc) (a : PySem.W.subIn K (.type "NoneType") (.ref C) = some false) (b : PySem.W.subIn K (.type "bool") (.ref C) = some false) (c : PySem.W.subIn K (.type "int") (.ref C) = some false) (d : PySem.W.subIn K (.type "str") (.ref C) = some false)
    (e : PySem.W.subIn K (.type "list") (.ref C) = some false) (f : PySem.W.subIn K (.type "tuple") (.ref C) = some false) (g : PySem.W.subIn K (.type "dict") (.ref C) = some false) : EqNo K C := ⟨seven a b c d e f g⟩
/-- isinstance of class C -/
structure TopIsi (K : PySem.W.Frag) (C : Addr) : Prop where
  ha : PySem.W.findIn K (.ref C) "__class__" = some (some (.builtin "object.__class__"))
  hn : PySem.W.specialIn K (.builtin "object.__class__") "__get__" = some (some (.builtin "getset_descriptor.__get__"))
  htk : PySem.W.takesIn K (.builtin "object.__class__") = some true
  hm : PySem.W.mroIn K C (.type "object") = some true
  me : PySem.W.kitOne K (.ref C) (.ref C) = some true
  bt : ∀ n ∈ ["NoneType", "bool", "int", "str", "list", "tuple", "dict"], PySem.W.kitOne K (.type n) (.ref C) = some false
theorem kitOne_self (v : Value) : PySem.W.kitOne K v v = some true := by
  unfold PySem.W.kitOne
  rw [if_pos (by simp)]
theorem kitOne_no {C : Addr} {n : String} (ic : PySem.W.isClsIn K C = true) (tc : PySem.W.typeIn K (.ref C) = some (.type "type")) (a : PySem.W.subIn K (.type n) (.ref C) = some false) : PySem.W.kitOne K (.type n) (.ref C) = some false := by
  unfold PySem.W.kitOne PySem.W.kitCls
  rw [if_neg (by simp)]
  have ic' : (PySem.W.clsIn K C).isSome = true := ic
  show (if ((PySem.W.clsIn K C).isSome && PySem.W.typeIn K (.ref C) == some (.type "type")) = true then PySem.W.subIn K (.type n) (.ref C) else none) = some false
  rw [ic', tc]
  simpa using a
theorem topIsi_mk {C : Addr} {xc : Str} (Q : TopCls K mg C xc) (ha : PySem.W.findIn K (.ref C) "__class__" = some (some (.builtin "object.__class__"))) (hn : PySem.W.specialIn K (.builtin "object.__class__") "__get__" = some (some (.builtin "getset_descriptor.__get__")))
    (htk : PySem.W.takesIn K (.builtin "object.__class__") = some true) (hm : PySem.W.mroIn K C (.type "object") = some true) (ic : PySem.W.isClsIn K C = true) (tc : PySem.W.typeIn K (.ref C) = some (.type "type"))
    (a : PySem.W.subIn K (.type "NoneType") (.ref C) = some false) (b : PySem.W.subIn K (.type "bool") (.ref C) = some false) (c : PySem.W.subIn K (.type "int") (.ref C) = some false) (d : PySem.W.subIn K (.type "str") (.ref C) = some false)
    (e : PySem.W.subIn K (.type "list") (.ref C) = some false) (f : PySem.W.subIn K (.type "tuple") (.ref C) = some false) (g : PySem.W.subIn K (.type "dict") (.ref C) = some false) : TopIsi K C :=
  ⟨ha, hn, htk, hm, kitOne_self _, seven (kitOne_no ic tc a) (kitOne_no ic tc b) (kitOne_no ic tc c) (kitOne_no ic tc d) (kitOne_no ic tc e) (kitOne_no ic tc f) (kitOne_no ic tc g)⟩
theorem TopIsi.isi {T : Tx} {c : Nat} (I : TopIsi K (T.cl c)) (cl : Cls K (T.cl c)) : IsiC K T c := ⟨cl, I.ha, I.hn, I.htk, I.hm, I.me, I.bt⟩
variable {x qual : Str} {st : Stmt} {f : Addr} {fd : FuncData} {ps ks : List Str} {perm : List Nat}
theorem _root_.L2.Fun.bind1 {p : Str} (F : Fun K x qual st f fd) (h : ∀ (kV doc pm : Value) (an : Option Addr) (cdv ct v : Value), bindArgs (PySem.W.fnOf x qual (defArgs st) (defBody st) (defScope st) .none kV doc pm an cdv ct) ⟨[v], []⟩ = pure [(p, v)]) (s : Shared) (v : Value) : BindsTo s fd ⟨[v], []⟩ [(p, v)] := by
  obtain ⟨oc, od, kV, doc, pm, an, cdv, ct, osl, rfl, lk, hcd⟩ := F.ex
  exact .of_eq (h kV doc pm an cdv ct v)
theorem _root_.L2.Fun.kb (F : Fun K x qual st f fd) (h : ∀ (kV doc pm : Value) (an : Option Addr) (cdv ct : Value) (ws : List Value), ws.length = ks.length → bindArgs (PySem.W.fnOf x qual (defArgs st) (defBody st) (defScope st) .none kV doc pm an cdv ct) ⟨[], ks.zip ws⟩ = pure (ps.zip (permL perm ws))) (s : Shared) (ws : List Value) (hl : ws.length = ks.length) : BindsTo s fd ⟨[], ks.zip ws⟩ (ps.zip (permL perm ws)) := by
  obtain ⟨oc, od, kV, doc, pm, an, cdv, ct, osl, rfl, lk, hcd⟩ := F.ex
  exact .of_eq (h kV doc pm an cdv ct ws hl)
theorem _root_.L2.Fun.kb1 (F : Fun K x qual st f fd) (h : ∀ (kV doc pm : Value) (an : Option Addr) (cdv ct u : Value) (ws : List Value), ws.length = ks.length → bindArgs (PySem.W.fnOf x qual (defArgs st) (defBody st) (defScope st) .none kV doc pm an cdv ct) ⟨[u], ks.zip ws⟩ = pure (ps.zip (u :: permL perm ws))) (s : Shared) (u : Value) (ws : List Value) (hl : ws.length = ks.length) : BindsTo s fd ⟨[u], ks.zip ws⟩ (ps.zip (u :: permL perm ws)) := by
  obtain ⟨oc, od, kV, doc, pm, an, cdv, ct, osl, rfl, lk, hcd⟩ := F.ex
  exact .of_eq (h kV doc pm an cdv ct u ws hl)
/-- the law's def at a script -/
theorem law_in {T : Tx} {H : Hp} {a : Addr} {ns : List Int} {run : Fi} {m : M} {ps : List (D × M)} {Q : VK} {E : XK} (hT : T.tabs = []) (hS : SqL K H a (ns.map V.int)) (e : run [(.scr ns, .sh)] = some (.bl true, m, ps)) (k : ∀ H', Q (.bl true) H') : spG K T 1 run [.ref a] H Q E := by
  refine ⟨H, [(.scr ns, .sh)], [], _, m, ps, rfl, ⟨Sub.rfl', ?_, ⟨some (.ref a), [], [], [], rfl, rfl, ⟨.ref a, rfl, rfl, ?_⟩, rfl, rfl⟩, List.nodup_nil, fun _ ha => by cases ha⟩, e, fun v s' h' A' B g => ?_⟩
  · unfold Tabs
    rw [hT]
    exact fun q hq => by cases hq
  · simp only [Sees]
    exact ⟨a, rfl, hS⟩
  · have r := g.rp.sees g.st.sub
    simp only [Sees] at r
    subst r
    exact k h'
end
end G
set_option Elab.async false
set_option linter.all false
set_option maxRecDepth 100000
set_option maxHeartbeats 4000000
/-! G22: equality of plain data, told in Lean -/
namespace G
open PySem PySem.Spec
mutual
/-- no bool, text, dict, instance in it -/
def pl : D → Bool
  | .non => true
  | .int _ => true
  | .lst xs => plL xs
  | .tup xs => plL xs
  | _ => false
def plL : List D → Bool
  | [] => true
  | d :: ds => pl d && plL ds
end
mutual
def dpt : D → Nat
  | .lst xs => dptL xs + 1
  | .tup xs => dptL xs + 1
  | _ => 0
def dptL : List D → Nat
  | [] => 0
  | d :: ds => max (dpt d) (dptL ds)
end
mutual
theorem pl_lay : ∀ d : D, pl d = true → (py d).canLay0 = true
  | .non, _ => rfl
  | .int _, _ => rfl
  | .lst xs, h => by
    simp only [pl] at h
    simp only [py, PyData.canLay0]
    exact plL_lay xs h
  | .tup xs, h => by
    simp only [pl] at h
    simp only [py, PyData.canLay0]
    exact plL_lay xs h
  | .bl _, h => by simp [pl] at h
  | .str _, h => by simp [pl] at h
  | .dk _ _, h => by simp [pl] at h
  | .dt _ _, h => by simp [pl] at h
  | .ins _ _, h => by simp [pl] at h
  | .scr _, h => by simp [pl] at h
theorem plL_lay : ∀ ds : List D, plL ds = true → PyData.canLayAll0 (pyL ds) = true
  | [], _ => rfl
  | d :: ds, h => by
    simp only [plL, Bool.and_eq_true] at h
    simp only [pyL, PyData.canLayAll0, pl_lay d h.1, plL_lay ds h.2, Bool.and_self]
end
mutual
theorem dpt_py : ∀ d : D, pl d = true → (py d).depth = dpt d
  | .non, _ => rfl
  | .int _, _ => rfl
  | .lst xs, h => by
    simp only [pl] at h
    simp only [py, PyData.depth, dpt, dptL_py xs h]
  | .tup xs, h => by
    simp only [pl] at h
    simp only [py, PyData.depth, dpt, dptL_py xs h]
  | .bl _, h => by simp [pl] at h
  | .str _, h => by simp [pl] at h
  | .dk _ _, h => by simp [pl] at h
  | .dt _ _, h => by simp [pl] at h
  | .ins _ _, h => by simp [pl] at h
  | .scr _, h => by simp [pl] at h
theorem dptL_py : ∀ ds : List D, plL ds = true → PyData.depthAll (pyL ds) = dptL ds
  | [], _ => rfl
  | d :: ds, h => by
    simp only [plL, Bool.and_eq_true] at h
    simp only [pyL, PyData.depthAll, dptL, dpt_py d h.1, dptL_py ds h.2]
end
theorem eqOk_pl {d : D} (h : pl d = true) (hd : dpt d ≤ 64) : eqOk d = true := by
  unfold eqOk SeqAt.shaped
  rw [pl_lay d h, dpt_py d h]
  simpa using hd
mutual
theorem eqv_pl : ∀ a b : D, pl a = true → pl b = true → (PyData.eqv (py a) (py b) = true ↔ a = b)
  | .non, .non, _, _ => by simp [py, PyData.eqv]
  | .non, .int _, _, _ => by simp [py, PyData.eqv]
  | .non, .lst _, _, _ => by simp [py, PyData.eqv]
  | .non, .tup _, _, _ => by simp [py, PyData.eqv]
  | .int _, .non, _, _ => by simp [py, PyData.eqv]
  | .int i, .int j, _, _ => by simp [py, PyData.eqv]
  | .int _, .lst _, _, _ => by simp [py, PyData.eqv]
  | .int _, .tup _, _, _ => by simp [py, PyData.eqv]
  | .lst _, .non, _, _ => by simp [py, PyData.eqv]
  | .lst _, .int _, _, _ => by simp [py, PyData.eqv]
  | .lst xs, .lst ys, h1, h2 => by
    simp only [pl] at h1 h2
    simp only [py, PyData.eqv, D.lst.injEq]
    exact eqvL_pl xs ys h1 h2
  | .lst _, .tup _, _, _ => by simp [py, PyData.eqv]
  | .tup _, .non, _, _ => by simp [py, PyData.eqv]
  | .tup _, .int _, _, _ => by simp [py, PyData.eqv]
  | .tup _, .lst _, _, _ => by simp [py, PyData.eqv]
  | .tup xs, .tup ys, h1, h2 => by
    simp only [pl] at h1 h2
    simp only [py, PyData.eqv, D.tup.injEq]
    exact eqvL_pl xs ys h1 h2
  | .bl _, _, h, _ => by simp [pl] at h
  | .str _, _, h, _ => by simp [pl] at h
  | .dk _ _, _, h, _ => by simp [pl] at h
  | .dt _ _, _, h, _ => by simp [pl] at h
  | .ins _ _, _, h, _ => by simp [pl] at h
  | .scr _, _, h, _ => by simp [pl] at h
  | .non, .bl _, _, h => by simp [pl] at h
  | .non, .str _, _, h => by simp [pl] at h
  | .non, .dk _ _, _, h => by simp [pl] at h
  | .non, .dt _ _, _, h => by simp [pl] at h
  | .non, .ins _ _, _, h => by simp [pl] at h
  | .non, .scr _, _, h => by simp [pl] at h
  | .int _, .bl _, _, h => by simp [pl] at h
  | .int _, .str _, _, h => by simp [pl] at h
  | .int _, .dk _ _, _, h => by simp [pl] at h
  | .int _, .dt _ _, _, h => by simp [pl] at h
  | .int _, .ins _ _, _, h => by simp [pl] at h
  | .int _, .scr _, _, h => by simp [pl] at h
  | .lst _, .bl _, _, h => by simp [pl] at h
  | .lst _, .str _, _, h => by simp [pl] at h
  | .lst _, .dk _ _, _, h => by simp [pl] at h
  | .lst _, .dt _ _, _, h => by simp [pl] at h
  | .lst _, .ins _ _, _, h => by simp [pl] at h
  | .lst _, .scr _, _, h => by simp [pl] at h
  | .tup _, .bl _, _, h => by simp [pl] at h
  | .tup _, .str _, _, h => by simp [pl] at h
  | .tup _, .dk _ _, _, h => by simp [pl] at h
  | .tup _, .dt _ _, _, h => by simp [pl] at h
  | .tup _, .ins _ _, _, h => by simp [pl] at h
  | .tup _, .scr _, _, h => by simp [pl] at h
theorem eqvL_pl : ∀ xs ys : List D, plL xs = true → plL ys = true → (PyData.eqvAll (pyL xs) (pyL ys) = true ↔ xs = ys)
  | [], [], _, _ => by simp [pyL, PyData.eqvAll]
  | [], _ :: _, _, _ => by simp [pyL, PyData.eqvAll]
  | _ :: _, [], _, _ => by simp [pyL, PyData.eqvAll]
  | x :: xs, y :: ys, h1, h2 => by
    simp only [plL, Bool.and_eq_true] at h1 h2
    simp only [pyL, PyData.eqvAll, Bool.and_eq_true, eqv_pl x y h1.1 h2.1, eqvL_pl xs ys h1.2 h2.2, List.cons.injEq]
end
/-- data of a Lean type: injective, plain, not deep -/
class Enc (α : Type) where
  en : α → D
  inj : ∀ a b, en a = en b → a = b
  pln : ∀ a, pl (en a) = true
  dep : Nat
  hdep : ∀ a, dpt (en a) ≤ dep
instance : Enc Int := ⟨.int, fun _ _ h => by simpa using h, fun _ => rfl, 0, fun _ => Nat.le_refl _⟩
theorem plL_map {α : Type} [Enc α] : ∀ xs : List α, plL (xs.map Enc.en) = true
  | [] => rfl
  | x :: xs => by simp only [List.map_cons, plL, Enc.pln, plL_map xs, Bool.and_self]
theorem dptL_map {α : Type} [Enc α] : ∀ xs : List α, dptL (xs.map Enc.en) ≤ Enc.dep α
  | [] => Nat.zero_le _
  | x :: xs => by
    simp only [List.map_cons, dptL]
    exact Nat.max_le.mpr ⟨Enc.hdep x, dptL_map xs⟩
theorem map_en_inj {α : Type} [Enc α] : ∀ xs ys : List α, xs.map Enc.en = ys.map Enc.en → xs = ys
  | [], [], _ => rfl
  | [], _ :: _, h => by simp at h
  | _ :: _, [], h => by simp at h
  | x :: xs, y :: ys, h => by
    simp only [List.map_cons, List.cons.injEq] at h
    rw [Enc.inj x y h.1, map_en_inj xs ys h.2]
instance {α : Type} [Enc α] : Enc (List α) := ⟨fun xs => .lst (xs.map Enc.en), fun a b h => map_en_inj a b (by simpa using h), fun xs => by simp only [pl]; exact plL_map xs, Enc.dep α + 1, fun xs => by simp only [dpt]; have := dptL_map xs; omega⟩
instance encPair : Enc (Int × Int) := ⟨pD, fun a b h => by
  unfold pD at h
  simp at h
  exact Prod.ext h.1 h.2, fun a => by simp [pD, pl, plL], 1, fun a => by simp [pD, dpt, dptL]⟩
theorem gEq_en {α : Type} [Enc α] [DecidableEq α] (a b : α) (h : Enc.dep α ≤ 64 := by decide) : gEq (Enc.en a) (Enc.en b) = some (.bl (decide (a = b)), .dp) := by
  have o : ∀ x : α, eqOk (Enc.en x) = true := fun x => eqOk_pl (Enc.pln x) (Nat.le_trans (Enc.hdep x) h)
  unfold gEq
  rw [o a, o b]
  have : PyData.eqv (py (Enc.en a)) (py (Enc.en b)) = decide (a = b) := by
    rw [Bool.eq_iff_iff, eqv_pl _ _ (Enc.pln a) (Enc.pln b), decide_eq_true_eq]
    exact ⟨Enc.inj a b, fun h => h ▸ rfl⟩
  simp [this]
theorem gNe_en {α : Type} [Enc α] [DecidableEq α] (a b : α) (h : Enc.dep α ≤ 64 := by decide) : gNe (Enc.en a) (Enc.en b) = some (.bl (decide (a ≠ b)), .dp) := by
  have o : ∀ x : α, eqOk (Enc.en x) = true := fun x => eqOk_pl (Enc.pln x) (Nat.le_trans (Enc.hdep x) h)
  unfold gNe
  rw [o a, o b]
  have : PyData.eqv (py (Enc.en a)) (py (Enc.en b)) = decide (a = b) := by
    rw [Bool.eq_iff_iff, eqv_pl _ _ (Enc.pln a) (Enc.pln b), decide_eq_true_eq]
    exact ⟨Enc.inj a b, fun h => h ▸ rfl⟩
  simp [this]
theorem gEq_int (a b : Int) : gEq (.int a) (.int b) = some (.bl (decide (a = b)), .dp) := gEq_en a b
theorem gNe_int (a b : Int) : gNe (.int a) (.int b) = some (.bl (decide (a ≠ b)), .dp) := gNe_en a b
theorem gEq_ints (a b : List Int) : gEq (.lst (a.map .int)) (.lst (b.map .int)) = some (.bl (decide (a = b)), .dp) := gEq_en a b
theorem gNe_ints (a b : List Int) : gNe (.lst (a.map .int)) (.lst (b.map .int)) = some (.bl (decide (a ≠ b)), .dp) := gNe_en a b
theorem gEq_pairs (a b : List (Int × Int)) : gEq (.lst (a.map pD)) (.lst (b.map pD)) = some (.bl (decide (a = b)), .dp) := gEq_en a b
theorem gNe_pairs (a b : List (Int × Int)) : gNe (.lst (a.map pD)) (.lst (b.map pD)) = some (.bl (decide (a ≠ b)), .dp) := gNe_en a b
theorem gNe_nil {ds : List D} (h : plL ds = true) (hd : dptL ds ≤ 63) : gNe (.lst ds) (.lst []) = some (.bl (decide (ds ≠ [])), .dp) := by
  have o1 : eqOk (.lst ds) = true := eqOk_pl (by simpa only [pl] using h) (by simp only [dpt]; omega)
  have o2 : eqOk (.lst []) = true := eqOk_pl rfl (by decide)
  unfold gNe
  rw [o1, o2]
  have : PyData.eqv (py (.lst ds)) (py (.lst [])) = decide (ds = []) := by
    rw [Bool.eq_iff_iff, eqv_pl _ _ (by simpa only [pl] using h) rfl, decide_eq_true_eq, D.lst.injEq]
  simp [this]
/-! ### loops over Lean data -/
section
variable {α S : Type} {g : D × M → Env' → Option Env'} {b : Sf} {t : Env' → Option (Bool × Env')} {en : α → D} {R : S → Env' → Prop} {f : S → α → S}
theorem forL_rel (h : ∀ s x e, R s e → ∃ e1 e2, g (en x, im (en x)) e = some e1 ∧ b e1 = some (.nx, e2) ∧ R (f s x) e2) : ∀ (xs : List α) (s : S) (e : Env'), R s e → ∃ e', forL g b (xs.map en) e = some (.nx, e') ∧ R (xs.foldl f s) e'
  | [], s, e, r => ⟨e, rfl, r⟩
  | x :: xs, s, e, r => by
    obtain ⟨e1, e2, h1, h2, h3⟩ := h s x e r
    obtain ⟨e', h4, h5⟩ := forL_rel h xs (f s x) e2 h3
    refine ⟨e', ?_, h5⟩
    simp only [List.map_cons, forL, h1, h2, Option.bind_some]
    exact h4
/-- with what is known of the items -/
theorem forL_mem {P : α → Prop} (h : ∀ s x e, P x → R s e → ∃ e1 e2, g (en x, im (en x)) e = some e1 ∧ b e1 = some (.nx, e2) ∧ R (f s x) e2) : ∀ (xs : List α) (s : S) (e : Env'), (∀ x ∈ xs, P x) → R s e → ∃ e', forL g b (xs.map en) e = some (.nx, e') ∧ R (xs.foldl f s) e'
  | [], s, e, _, r => ⟨e, rfl, r⟩
  | x :: xs, s, e, m, r => by
    obtain ⟨e1, e2, h1, h2, h3⟩ := h s x e (m x List.mem_cons_self) r
    obtain ⟨e', h4, h5⟩ := forL_mem h xs (f s x) e2 (fun y hy => m y (List.mem_cons_of_mem _ hy)) h3
    refine ⟨e', ?_, h5⟩
    simp only [List.map_cons, forL, h1, h2, Option.bind_some]
    exact h4
/-- the invariant by the items gone through -/
theorem forL_inv {ds : List D} {I : Nat → Env' → Prop} (h : ∀ i d e, ds[i]? = some d → I i e → ∃ e1 e2, g (d, im d) e = some e1 ∧ b e1 = some (.nx, e2) ∧ I (i + 1) e2) (e : Env') (r : I 0 e) : ∃ e', forL g b ds e = some (.nx, e') ∧ I ds.length e' := by
  have go : ∀ (xs : List D) (k : Nat) (e : Env'), ds.drop k = xs → k ≤ ds.length → I k e → ∃ e', forL g b xs e = some (.nx, e') ∧ I ds.length e' := by
    intro xs
    induction xs with
    | nil =>
      intro k e hd hk r
      have : k = ds.length := by
        have := congrArg List.length hd
        simp at this
        omega
      subst this
      exact ⟨e, rfl, r⟩
    | cons x xs ih =>
      intro k e hd hk r
      have hk2 : k < ds.length := by
        have := congrArg List.length hd
        simp at this
        omega
      have hx : ds[k]? = some x := by
        have h0 := List.getElem_cons_drop hk2
        rw [hd] at h0
        rw [List.getElem?_eq_getElem hk2]
        exact congrArg some (List.cons.inj h0).1
      have hd2 : ds.drop (k + 1) = xs := by
        have h0 := List.getElem_cons_drop hk2
        rw [hd] at h0
        exact (List.cons.inj h0).2
      obtain ⟨e1, e2, h1, h2, h3⟩ := h k x e hx r
      obtain ⟨e', h4, h5⟩ := ih (k + 1) e2 hd2 hk2 h3
      refine ⟨e', ?_, h5⟩
      simp only [forL, h1, h2, Option.bind_some]
      exact h4
  exact go ds 0 e rfl (Nat.zero_le _) r
/-- while: a measure -/
theorem whL_inv {I : Nat → Env' → Prop} {F : Fl → Env' → Prop} (h : ∀ m e, I m e → ∃ z e1, t e = some (z, e1) ∧ (z = false → F .nx e1) ∧ (z = true → ∃ fl e2, b e1 = some (fl, e2) ∧ match fl with
    | .nx => ∃ m', m' < m ∧ I m' e2
    | .ct => ∃ m', m' < m ∧ I m' e2
    | .bk => F .nx e2
    | .rt d k => F (.rt d k) e2)) : ∀ (m : Nat) (e : Env'), I m e → ∃ fl e', whL t b (m + 1) e = some (fl, e') ∧ F fl e' := by
  intro m
  induction m using Nat.strongRecOn with
  | ind m ih =>
    intro e r
    obtain ⟨z, e1, h1, h2, h3⟩ := h m e r
    cases z with
    | false => exact ⟨.nx, e1, by simp [whL, h1], h2 rfl⟩
    | true =>
      obtain ⟨fl, e2, h4, h5⟩ := h3 rfl
      cases fl with
      | nx =>
        obtain ⟨m', hm, r'⟩ := h5
        obtain ⟨fl, e', h6, h7⟩ := ih m' hm e2 r'
        refine ⟨fl, e', ?_, h7⟩
        have h8 := whL_le h6 (show m' + 1 ≤ m by omega)
        simp only [whL, h1, h4, Option.bind_some, if_true]
        exact h8
      | ct =>
        obtain ⟨m', hm, r'⟩ := h5
        obtain ⟨fl, e', h6, h7⟩ := ih m' hm e2 r'
        refine ⟨fl, e', ?_, h7⟩
        have h8 := whL_le h6 (show m' + 1 ≤ m by omega)
        simp only [whL, h1, h4, Option.bind_some, if_true]
        exact h8
      | bk => exact ⟨.nx, e2, by simp [whL, h1, h4], h5⟩
      | rt d k => exact ⟨.rt d k, e2, by simp [whL, h1, h4], h5⟩
/-- .. as a statement -/
theorem sWhile_inv {I : Nat → Env' → Prop} {F : Fl → Env' → Prop} (h : ∀ m e, I m e → ∃ z e1, t e = some (z, e1) ∧ (z = false → F .nx e1) ∧ (z = true → ∃ fl e2, b e1 = some (fl, e2) ∧ match fl with
    | .nx => ∃ m', m' < m ∧ I m' e2
    | .ct => ∃ m', m' < m ∧ I m' e2
    | .bk => F .nx e2
    | .rt d k => F (.rt d k) e2)) (m : Nat) (e : Env') (hm : m < fuel) (r : I m e) : ∃ fl e', sWhile t b e = some (fl, e') ∧ F fl e' := by
  obtain ⟨fl, e', h1, h2⟩ := whL_inv h m e r
  exact ⟨fl, e', sWhile_eq h1 hm, h2⟩
end
theorem im_int (i : Int) : im (.int i) = .dp := rfl
theorem gIn_ints (a : Int) (ns : List Int) : gIn (.int a) (.lst (ns.map .int)) = some (.bl (decide (a ∈ ns)), .dp) := by
  have o1 : eqOk (.int a) = true := eqOk_pl rfl (Nat.zero_le _)
  have o2 : eqOk (.lst (ns.map .int)) = true := eqOk_pl (d := .lst (ns.map Enc.en)) (by simp only [pl]; exact plL_map ns) (by simp only [dpt]; have := dptL_map ns; have e : Enc.dep Int = 0 := rfl; omega)
  unfold gIn inB
  simp only [o1, o2, Bool.and_self, if_true, Option.bind_some]
  congr 3
  induction ns with
  | nil => simp [pyL]
  | cons n ns ih =>
    have o3 : eqOk (.lst (ns.map .int)) = true := eqOk_pl (d := .lst (ns.map Enc.en)) (by simp only [pl]; exact plL_map ns) (by simp only [dpt]; have := dptL_map ns; have e : Enc.dep Int = 0 := rfl; omega)
    have ih' := ih o3
    simp only [py] at ih'
    simp only [List.map_cons, pyL, py, List.any_cons, ih', PyData.eqv, List.mem_cons]
    by_cases h1 : n = a
    · subst h1; simp
    · have h2 : ¬ a = n := fun z => h1 z.symm
      simp [h1, h2]
theorem gNotIn_ints (a : Int) (ns : List Int) : gNotIn (.int a) (.lst (ns.map .int)) = some (.bl (!decide (a ∈ ns)), .dp) := by
  have := gIn_ints a ns
  unfold gIn at this
  unfold gNotIn
  obtain ⟨c, e1, e2⟩ := Option.bind_eq_some_iff.mp this
  rw [e1]
  simp at e2
  simp [e2]
/-! ### comprehensions over Lean data -/
theorem compL_go {α : Type} {en : α → D} {out : α → D × M} {p : α → Bool} {g : D → VEnv → Option VEnv} {t : VEnv → Option Bool} {e : VEnv → Option (D × M)} {ve : VEnv} : ∀ {xs : List α}, (∀ x ∈ xs, ∃ ve', g (en x) ve = some ve' ∧ t ve' = some (p x) ∧ (p x = true → e ve' = some (out x))) → compL g t e ve (xs.map en) = some ((xs.filter p).map out)
  | [], _ => rfl
  | x :: xs, h => by
    obtain ⟨ve', h1, h2, h3⟩ := h x List.mem_cons_self
    have ih := compL_go (xs := xs) fun y hy => h y (List.mem_cons_of_mem _ hy)
    simp only [List.map_cons, compL, h1, h2, Option.bind_some]
    cases hp : p x with
    | true => simp [h3 hp, ih, hp]
    | false => simp [ih, hp]
theorem compL_all {α : Type} {en : α → D} {out : α → D × M} {g : D → VEnv → Option VEnv} {e : VEnv → Option (D × M)} {ve : VEnv} {xs : List α} (h : ∀ x ∈ xs, ∃ ve', g (en x) ve = some ve' ∧ e ve' = some (out x)) : compL g bYes e ve (xs.map en) = some (xs.map out) := by
  have := compL_go (p := fun _ => true) (t := bYes) (en := en) (out := out) (g := g) (e := e) (ve := ve) (xs := xs) fun x hx => by
    obtain ⟨ve', h1, h2⟩ := h x hx
    exact ⟨ve', h1, rfl, fun _ => h2⟩
  rw [List.filter_eq_self.mpr (fun _ _ => rfl)] at this
  exact this
theorem gSorted_ints (ns : List Int) : gSorted [.lst (ns.map .int)] = some (.lst ((isort ns).map .int), .dp) := by simp [gSorted, toInts_map]
theorem gSorted_pairs (ps : List (Int × Int)) : gSorted [.lst (ps.map pD)] = some (.lst ((psort ps).map pD), .dp) := by
  cases ps with
  | nil => rfl
  | cons p ps =>
    have h : toInts ((p :: ps).map pD) = none := rfl
    simp only [gSorted, h, toPairs_map, Option.bind_some]
theorem gNe_ints_nil (ls : List Int) : gNe (.lst (ls.map .int)) (.lst []) = some (.bl (decide (ls ≠ [])), .dp) := gNe_ints ls []
theorem allDp_map {α : Type} {out : α → D × M} {xs : List α} (h : ∀ x ∈ xs, (out x).2 = .dp) : allDp (xs.map out) = true := by
  unfold allDp
  rw [List.all_map, List.all_eq_true]
  intro x hx
  simpa using h x hx
theorem perm_erase {α : Type} : ∀ (l : List α) (i : Nat) (h : i < l.length), (l[i] :: l.eraseIdx i).Perm l
  | [], _, h => by simp at h
  | x :: l, 0, _ => List.Perm.refl _
  | x :: l, i + 1, h => by
    have := perm_erase l i (by simpa using h)
    simp only [List.getElem_cons_succ, List.eraseIdx_cons_succ]
    exact (List.Perm.swap _ _ _).trans (List.Perm.cons x this)
theorem pComp_eq {vs : List Nat} {i : VEnv → Option (List D)} {g : D → VEnv → Option VEnv} {t : VEnv → Option Bool} {e : VEnv → Option (D × M)} {ve : VEnv} {ds : List D} {r : List (D × M)} (h1 : i ve = some ds) (h2 : ds.length ≤ lim) (h3 : compL g t e (wipeV ve vs) ds = some r) : pComp vs i g t e ve = some (.lst (r.map (·.1)), dm r) := by
  unfold pComp
  rw [h1]
  show (if ds.length ≤ lim then _ else _) = _
  rw [if_pos h2, h3]
  rfl
theorem le_lim {n : Nat} (h : n ≤ 16777216) : n ≤ lim := h
end G
set_option Elab.async false
set_option linter.all false
set_option maxRecDepth 100000
set_option maxHeartbeats 4000000
/-! G23: closed runs by the kernel; small helps for statements -/
namespace G
open PySem PySem.Spec L2
def eqKey : Key → Key → Bool := fun a b => decide (a = b)
mutual
/-- equality, by the kernel -/
def eqD : D → D → Bool
  | .non, .non => true
  | .bl a, .bl b => a == b
  | .int a, .int b => decide (a = b)
  | .str a, .str b => decide (a = b)
  | .lst a, .lst b => eqDs a b
  | .tup a, .tup b => eqDs a b
  | .dk k a, .dk l b => decide (k = l) && eqDs a b
  | .ins c a, .ins d b => decide (c = d) && eqDs a b
  | .scr a, .scr b => decide (a = b)
  | _, _ => false
def eqDs : List D → List D → Bool
  | [], [] => true
  | a :: l, b :: m => eqD a b && eqDs l m
  | _, _ => false
end
mutual
theorem eqD_ok : ∀ a b : D, eqD a b = true → a = b
  | .non, b, h => by cases b <;> simp_all [eqD]
  | .bl a, b, h => by cases b <;> simp_all [eqD]
  | .int a, b, h => by cases b <;> simp_all [eqD]
  | .str a, b, h => by cases b <;> simp_all [eqD]
  | .lst a, b, h => by
    cases b with
    | lst b => simp only [eqD] at h; rw [eqDs_ok a b h]
    | _ => simp [eqD] at h
  | .tup a, b, h => by
    cases b with
    | tup b => simp only [eqD] at h; rw [eqDs_ok a b h]
    | _ => simp [eqD] at h
  | .dk k a, b, h => by
    cases b with
    | dk l b =>
      simp only [eqD, Bool.and_eq_true, decide_eq_true_eq] at h
      rw [h.1, eqDs_ok a b h.2]
    | _ => simp [eqD] at h
  | .ins k a, b, h => by
    cases b with
    | ins l b =>
      simp only [eqD, Bool.and_eq_true, decide_eq_true_eq] at h
      rw [h.1, eqDs_ok a b h.2]
    | _ => simp [eqD] at h
  | .scr a, b, h => by cases b <;> simp_all [eqD]
theorem eqDs_ok : ∀ a b : List D, eqDs a b = true → a = b
  | [], b, h => by cases b <;> simp_all [eqDs]
  | a :: l, [], h => by simp [eqDs] at h
  | a :: l, b :: m, h => by
    simp only [eqDs, Bool.and_eq_true] at h
    rw [eqD_ok a b h.1, eqDs_ok l m h.2]
end
def eqP (a b : D × M) : Bool := eqD a.1 b.1 && decide (a.2 = b.2)
theorem eqP_ok {a b : D × M} (h : eqP a b = true) : a = b := by
  simp only [eqP, Bool.and_eq_true, decide_eq_true_eq] at h
  exact Prod.ext (eqD_ok _ _ h.1) h.2
def eqPs : List (D × M) → List (D × M) → Bool
  | [], [] => true
  | a :: l, b :: m => eqP a b && eqPs l m
  | _, _ => false
theorem eqPs_ok : ∀ {a b : List (D × M)}, eqPs a b = true → a = b
  | [], b, h => by cases b <;> simp_all [eqPs]
  | a :: l, [], h => by simp [eqPs] at h
  | a :: l, b :: m, h => by
    simp only [eqPs, Bool.and_eq_true] at h
    rw [eqP_ok h.1, eqPs_ok h.2]
def eqR : Option (D × M × List (D × M)) → Option (D × M × List (D × M)) → Bool
  | some (a, m, l), some (b, n, k) => eqD a b && decide (m = n) && eqPs l k
  | _, _ => false
/-- a closed run: (h by decide +kernel) -/
theorem run_is {x y : Option (D × M × List (D × M))} (h : eqR x y = true) : x = y := by
  cases x with
  | none => simp [eqR] at h
  | some x =>
    cases y with
    | none => simp [eqR] at h
    | some y =>
      obtain ⟨a, m, l⟩ := x
      obtain ⟨b, n, k⟩ := y
      simp only [eqR, Bool.and_eq_true, decide_eq_true_eq] at h
      rw [eqD_ok _ _ h.1.1, h.1.2, eqPs_ok h.2]
def eqO : Option (D × M) → Option (D × M) → Bool
  | none, none => true
  | some a, some b => eqP a b
  | _, _ => false
theorem eqO_ok : ∀ {a b : Option (D × M)}, eqO a b = true → a = b
  | none, none, _ => rfl
  | some a, some b, h => by rw [eqP_ok h]
  | none, some _, h => by simp [eqO] at h
  | some _, none, h => by simp [eqO] at h
def eqE : Env' → Env' → Bool
  | [], [] => true
  | a :: l, b :: m => eqO a b && eqE l m
  | _, _ => false
theorem eqE_ok : ∀ {a b : Env'}, eqE a b = true → a = b
  | [], b, h => by cases b <;> simp_all [eqE]
  | a :: l, [], h => by simp [eqE] at h
  | a :: l, b :: m, h => by
    simp only [eqE, Bool.and_eq_true] at h
    rw [eqO_ok h.1, eqE_ok h.2]
def eqNx : Option (Fl × Env') → Env' → Bool
  | some (.nx, e), f => eqE e f
  | _, _ => false
/-- a closed statement that goes on -/
theorem nx_is {x : Option (Fl × Env')} {f : Env'} (h : eqNx x f = true) : x = some (.nx, f) := by
  cases x with
  | none => simp [eqNx] at h
  | some x =>
    obtain ⟨fl, e⟩ := x
    cases fl with
    | nx => simp only [eqNx] at h; rw [eqE_ok h]
    | _ => simp [eqNx] at h
def isNx : Option (Fl × Env') → Bool
  | some (.nx, _) => true
  | _ => false
theorem nx_ex {x : Option (Fl × Env')} (h : isNx x = true) : ∃ f, x = some (.nx, f) := by
  cases x with
  | none => simp [isNx] at h
  | some x =>
    obtain ⟨fl, e⟩ := x
    cases fl with
    | nx => exact ⟨e, rfl⟩
    | _ => simp [isNx] at h
/-! ### statements piece by piece -/
theorem sSeq_nx {a b : Sf} {e e1 : Env'} (h : a e = some (.nx, e1)) : sSeq a b e = b e1 := by
  unfold sSeq
  rw [h]
  rfl
theorem sSeq_rt {a b : Sf} {e e1 : Env'} {d : D} {m : M} (h : a e = some (.rt d m, e1)) : sSeq a b e = some (.rt d m, e1) := by
  unfold sSeq
  rw [h]
  rfl
theorem sFor_of {i : Env' → Option (List D × Env')} {g : D × M → Env' → Option Env'} {b : Sf} {e e1 : Env'} {ds : List D} {r : Option (Fl × Env')} (h : i e = some (ds, e1)) (q : forL g b ds e1 = r) : sFor i g b e = r := by
  unfold sFor
  rw [h]
  exact q
theorem sIf_t {t : Env' → Option (Bool × Env')} {a b : Sf} {e e1 : Env'} (h : t e = some (true, e1)) : sIf t a b e = a e1 := by
  unfold sIf
  rw [h]
  rfl
theorem sIf_f {t : Env' → Option (Bool × Env')} {a b : Sf} {e e1 : Env'} (h : t e = some (false, e1)) : sIf t a b e = b e1 := by
  unfold sIf
  rw [h]
  rfl
theorem iRg2_of {f k : VEnv → Option (D × M)} {ve : VEnv} {i j : Int} {m m' : M} (h1 : f ve = some (.int i, m)) (h2 : k ve = some (.int j, m')) (h3 : bd62 i = true) (h4 : bd62 j = true) : iRg2 f k ve = some (rgD i j) := by
  unfold iRg2
  rw [h1, h2]
  show (if bd62 i && bd62 j then some (rgD i j) else none) = _
  rw [h3, h4]
  rfl
theorem iRg1_of {f : VEnv → Option (D × M)} {ve : VEnv} {j : Int} {m : M} (h1 : f ve = some (.int j, m)) (h4 : bd62 j = true) : iRg1 f ve = some (rgD 0 j) := by
  unfold iRg1
  rw [h1]
  show (if bd62 j then some (rgD 0 j) else none) = _
  rw [h4]
  rfl
theorem bd_nat {k : Nat} (h : k ≤ 1000000) : bd62 (k : Int) = true := bd62_of (by omega)
theorem rgD_map (a b : Int) : rgD a b = (List.range (b - a).toNat).map fun i : Nat => D.int (a + (i : Int)) := rfl
theorem gEq_bl (a b : Bool) : gEq (.bl a) (.bl b) = some (.bl (a == b), .dp) := by
  cases a <;> cases b <;> rfl
end G
set_option Elab.async false
set_option linter.all false
set_option maxRecDepth 100000
set_option maxHeartbeats 4000000
/-! GE: the end of a law whose def is shown where no repr is under way -/
namespace G
open PySem PySem.Spec PyProof.Rows L2
theorem callerG {k : Nat} (hr : Room k callerA) : RoomG k callerA := ⟨hr, rfl⟩
/-- what the law's call finds: nothing tracked but, it may be, the script at a -/
theorem env_scr {P : Program} {w : World} {K : PySem.W.Frag} {mg mb : Str → Option Value} {a : Addr} {s : Shared} {vs : List Value} {H : Hp} (KX : K.In s.heap) (hns : s.heap.Ns mainGlobals mg) (hb : s.heap.Ns builtinsNs mb) (hbb : ∀ x : Str, x ≠ "__name__" → mb x = bootBuiltins x)
    (hlim : s.heap.NoLimit) (hg : s.gens = #[]) (ha : s.heap.get? a = some { cls := .type "list", data := .seq vs.toArray }) (ok : HOk P w H s.heap) (one : ∀ b, H b ≠ none → b = a) (ap : H a ≠ none → K.lookup a = none) :
    ∃ base : Heap, K.In base ∧ base.Ns mainGlobals mg ∧ Env0 P w K mg base callerA [] s H := by
  have low : ∀ {b : Addr} {o : Obj}, s.heap.get? b = some o → H b = none → (hidT s.heap H).get? b = some o := fun e n => hidT_get e n
  have dct : ∀ {b : Addr} {m : Str → Option Value}, s.heap.Ns b m → (hidT s.heap H).Ns b m := by
    rintro b m ⟨o, es, ep, e, d, r⟩
    refine ⟨o, es, ep, low e ?_, d, r⟩
    by_cases hz : H b = none
    · exact hz
    · obtain rfl := one b hz
      have z := e.symm.trans ha
      cases z
      exact nomatch (show Data.seq vs.toArray _ = Data.dict es ep from d)
  have kin : K.In (hidT s.heap H) := fun b o e => low (KX b o e) (by
    by_cases hz : H b = none
    · exact hz
    · obtain rfl := one b hz
      rw [ap hz] at e
      cases e)
  obtain ⟨mc, l1, l2⟩ := hlim
  exact ⟨hidT s.heap H, kin, dct hns, rfl, ⟨kin, dct hns, ⟨mb, dct hb, hbb⟩, mc, dct l1, l2⟩, fun _ _ => of_hidT, Nat.le_of_eq (hidT_size _ _), trivial, fun b z => absurd (show b ∈ ([] : List Addr) from z) (by simp), ok, .of_eq hg⟩
theorem lawG_call {P : Program} {w : World} {K : PySem.W.Frag} {mg mb : Str → Option Value} {k : Nat} {fa a : Addr} {fd : FuncData} {x : Str} {sp : Sp} {s : Shared} {vs : List Value} {ns : List Int}
    (KX : K.In s.heap) (hns : s.heap.Ns mainGlobals mg) (hb : s.heap.Ns builtinsNs mb) (hbb : ∀ x : Str, x ≠ "__name__" → mb x = bootBuiltins x) (hlim : s.heap.NoLimit) (hg : s.gens = #[])
    (ha : s.heap.get? a = some { cls := .type "list", data := .seq vs.toArray }) (hi : IntsAre vs ns) (hl : ns.length ≤ sizeLine) (hr : Room k callerA)
    (F : ∀ base : Heap, K.In base → base.Ns mainGlobals mg → FnG P w K mg base CX0 k fa fd [x] sp) (bt : ∀ (s : Shared) (u : Value), BindsTo s fd ⟨[u], []⟩ [(x, u)])
    (hsp : ∀ H : Hp, Only H → SqL K H a (ns.map V.int) → sp [.ref a] H (fun v _ => v = .bl true) fun _ _ _ => False) :
    codeAny (model P w) callerA (.call (.ref fa) ⟨[.ref a], []⟩) (fun r s' => r = .ok (.ret (.bool true)) ∧ OldK s.heap s'.heap ∧ s'.os = s.os ∧ AllBare s'.gens) s := by
  have rv := vals_ints hi
  have go : ∀ H : Hp, Only H → SqL K H a (ns.map V.int) → HOk P w H s.heap → (∀ b, H b ≠ none → b = a) → (H a ≠ none → K.lookup a = none) →
      codeAny (model P w) callerA (.call (.ref fa) ⟨[.ref a], []⟩) (fun r s' => r = .ok (.ret (.bool true)) ∧ OldK s.heap s'.heap ∧ s'.os = s.os ∧ AllBare s'.gens) s := fun H only seq ok one ap => by
    obtain ⟨base, k1, k2, e0⟩ := env_scr (P := P) (w := w) KX hns hb hbb hlim hg ha ok one ap
    refine codeAny_mono ((F base k1 k2).run (ws := [.ref a]) (vs := [V.ref a]) (callerG hr) e0 (bt s (.ref a)) (.cons rfl .nil) (hsp H only seq)) fun res s2 hq => ?_
    match res, hq with
    | .error e, hq => exact hq.elim
    | .ok (.ret u), ⟨v, H2, eos, bare, un, ok2, ru, ev⟩ =>
      have ev' : v = .bl true := ev
      subst ev'
      cases (show u = Value.bool true from ru)
      refine ⟨rfl, OldK.of_keep fun b o e => ?_, eos, bare⟩
      cases hz : H b with
      | none => exact un.keep b o e hz (fun z => absurd (show b ∈ ([] : List Addr) from z) (by simp)) (by simp)
      | some u =>
        rcases only b with z | ⟨ob, xs, z⟩
        · exact nomatch hz.symm.trans z
        · have i1 := (ok b _ z).1
          have i2 := (ok2 b _ (un.frzs b ob _ z)).1
          exact i2.trans (i1.symm.trans e)
  cases hk : K.lookup a with
  | some o =>
    have e := (KX a o hk).symm.trans ha
    cases e
    exact go (fun _ => none) (fun _ => .inl rfl) (.inr ⟨_, vs.toArray, _, hk, rfl, rfl, rfl, by rw [List.size_toArray, hi.length]; exact hl, by simpa using rv⟩) (fun _ _ z => nomatch (show (none : Option HO) = some _ from z)) (fun _ z => absurd rfl z) fun z => absurd rfl z
  | none =>
    let H : Hp := fun b => if b = a then some (.frz { cls := .type "list", data := .seq vs.toArray } (.lst (ns.map V.int))) else none
    have at_ : H a = some (.frz { cls := .type "list", data := .seq vs.toArray } (.lst (ns.map V.int))) := if_pos rfl
    have off : ∀ b, b ≠ a → H b = none := fun b n => if_neg n
    have two : ∀ b, b = a ∨ H b = none := fun b => if h : b = a then .inl h else .inr (off b h)
    refine go H (fun b => ?_) (.inl (.inr ⟨_, at_⟩)) (fun b u z => ?_) (fun b z => (two b).resolve_right z) fun _ => hk
    · rcases two b with rfl | n
      · exact .inr ⟨_, _, at_⟩
      · exact .inl n
    · rcases two b with rfl | n
      · cases at_.symm.trans z
        exact ⟨ha, by rw [List.length_map]; exact hl, vs, _, rv, ha⟩
      · exact nomatch n.symm.trans z
theorem walkG_of {l : PySem.W.OpenLaw} {n k : Nat} {q : Program} {loose : List Str} {XP : (Str → Option Value) → Heap → Prop} {YP : World → Heap → Prop} {d : DefRec} {K : Params → PySem.W.Frag} {sp : World → Sp} {x : Str} (hn : l.most = some n) (hn2 : n ≤ sizeLine) (hdf : d.params.defaults = []) (hr : Room k callerA)
    (hY : ∀ (w : World) (h : Heap), YP w h → (K w.params).In h)
    (F : ∀ (w : World) (mg : Str → Option Value) (fa : Addr) (h : Heap), (K w.params).In h → h.Ns mainGlobals mg → mg d.name = some (.ref fa) →
      ∃ fd : FuncData, (∀ (s : Shared) (u : Value), BindsTo s fd ⟨[u], []⟩ [(x, u)]) ∧ ∀ base : Heap, (K w.params).In base → base.Ns mainGlobals mg → FnG l.prog w (K w.params) mg base CX0 k fa fd [x] (sp w))
    (hsp : ∀ (w : World) (H : Hp) (a : Addr) (ns : List Int), ns.length ≤ n → Only H → SqL (K w.params) H a (ns.map V.int) → sp w [.ref a] H (fun v _ => v = .bl true) fun _ _ _ => False) : PySem.W.WalkO q loose XP YP l.row.toRowW d [] (fun f vs => PySem.call f vs) :=
  Att.attach_call hn hdf fun w s₀ s mg mb fa o pm cd doc a vs ns G Y ho hd hcd hmg hobj hints hlen hg => by
    obtain ⟨fd, hb, hF⟩ := F w mg fa _ (hY w _ Y) G.T.g hmg
    exact lawG_call (hY w _ Y) G.T.g G.T.b G.T.builtins G.T.nolimit hg hobj hints (Nat.le_trans hlen hn2) hr hF hb fun H hO hS => hsp w H a ns hlen hO hS
end G
set_option Elab.async false
set_option linter.all false
set_option maxRecDepth 100000
set_option maxHeartbeats 4000000
/-! G24: repr; enumerate walked; {} ; a list unpacked; dict(pairs); a dict's keys -/
namespace G
open PySem PySem.Spec PyProof.Rows L2
section
variable {X : Cx} {T : Tx} {io : List Bool} {a b c e o i tg : Expr} {es : List Expr} {f k : Env' → Option (D × M × Env')} {fi fp fq : VEnv → Option (D × M)} {fl : VEnv → Option (List (D × M))} {pos p apos cpos : Pos} {x m : Str} {j l n cc : Nat} {run : Fi}
/-! ### repr -/
/-- data that repr tells in full -/
def reprOk (d : D) : Bool := eqOk d && (py d).showable && decide ((py d).shown.length ≤ lim)
def gRepr : List D → Option (D × M)
  | [d] => if reprOk d = true then some (.str (py d).shown, .dp) else none
  | _ => none
theorem call_reprD (hg : X.A.guards = some []) (hu : X.A.units + 66 < cLine) : CallR X (.builtin "repr") (fun xs H Q => ∃ y d, xs = [y] ∧ Dp X.K H y d ∧ SeqAt.shaped d = true ∧ d.showable = true ∧ d.shown.length ≤ sizeLine ∧ Q (.str d.shown) H) := by
  intro pins s σ H xs us Q I r h
  obtain ⟨y, d, rfl, hd, sh, ok, hz, q⟩ := h
  obtain ⟨u, rfl, ru⟩ := vals1 r
  obtain ⟨as, rd⟩ := Dp.reads I d y u hd ru
  have nod := PyData.hasDict_of_canLay d (SeqAt.canLay_of_shaped sh)
  have dep : d.depth ≤ 64 := by
    unfold SeqAt.shaped at sh
    simp only [Bool.and_eq_true, decide_eq_true_eq] at sh
    exact sh.2
  have tok : EP X pins σ Q (.str d.shown s.toks) { s with toks := s.toks + 1 } := ⟨.str d.shown, H, I.tok _, ⟨_, rfl⟩, q⟩
  cases rd with
  | none => exact PySem.P.repr_of_none tok
  | bool z => exact PySem.P.repr_of_bool tok
  | int z t => exact PySem.P.repr_of_int (by simpa [PyData.showable] using ok) tok
  | str z t => exact PySem.P.repr_of_str tok hz
  | list h1 h2 h3 h4 => exact repr_of_reads' (.list h1 h2 h3 h4) ok (fun z => absurd (nod.symm.trans z) (by simp)) hg (by omega) (fun _ _ e => e) (fun h' t tk hk => ⟨.str _, H, I.kept hk, ⟨t, rfl⟩, q⟩) hz
  | tuple h1 h2 h3 h4 => exact repr_of_reads' (.tuple h1 h2 h3 h4) ok (fun z => absurd (nod.symm.trans z) (by simp)) hg (by omega) (fun _ _ e => e) (fun h' t tk hk => ⟨.str _, H, I.kept hk, ⟨t, rfl⟩, q⟩) hz
  | dict h1 h2 h3 h4 h5 => exact absurd nod (by simp [PyData.hasDict])
theorem oc_repr (hr : RoomG j X.A) : OC T X (.builtin "repr") gRepr := by
  refine ⟨_, call_reprD hr.gd (by have := hr.rm.un; omega), fun s h xs ds d m Q u tb rs q w => ?_⟩
  unfold gRepr at q
  split at q
  · split at q
    · rename_i d0 ok
      cases q
      obtain ⟨y, rfl, ry⟩ := sees1 rs
      unfold reprOk at ok
      simp only [Bool.and_eq_true, decide_eq_true_eq] at ok
      exact ⟨y, py d0, rfl, ry.dp u d0 (eqOk_lay ok.1.1), ok.1.1, ok.1.2, by rw [← lim_eq]; exact ok.2, w _ s h [] (got_str u)⟩
    · cases q
  · cases q
/-! ### for i, x in enumerate(e) -/
theorem itOk_enum {K : PySem.W.Frag} {s : Hp} {p : Addr} {vs : List V} {ds : List D} (e2 : s p = some (.lst vs)) (e3 : SeesL K T s vs ds) : ItOk K T (Ite K p) s (enD 0 ds) := by
  have up : ∀ h, Sub s h → h p = some (.lst vs) := fun h u => u.at_ _ _ e2 (by intro _ z; cases z)
  refine ⟨fun i h u hi => ?_, fun i h u hi => ⟨vs, SqL.of (up h u), by rw [SeesL.len _ e3, ← enD_length 0]; exact hi⟩, fun i s2 h x h2 u u' tb hi y => ?_⟩
  · have hv : i < vs.length := by rw [SeesL.len _ e3, ← enD_length 0]; exact hi
    exact ⟨vs, vs[i], SqL.of (up h u), List.getElem?_eq_getElem hv⟩
  · obtain ⟨Tp, x0, rfl, nT, rfl, y⟩ := y
    obtain ⟨d, f1, f2⟩ := e3.getV (y vs (SqL.of (up h (u.trans u'))))
    refine ⟨.tup [.int i, d], upd s2 Tp (.tup [.int i, x0]), ?_, Gr.alloc u' nT, ?_⟩
    · rw [enD_get, f1]; simp
    · simp only [Sees, SeesL]
      exact ⟨Tp, _, rfl, upd_same, _, _, rfl, rfl, _, _, rfl, (f2.ext u d).ext (sub_upd u' nT |>.trans Sub.rfl') d, rfl⟩
def iEnE (f : Env' → Option (D × M × Env')) : Env' → Option (List D × Env') := fun env => (f env).bind fun x => match x.1 with
  | .lst ds => some (enD 0 ds, x.2.2)
  | _ => none
theorem jie_enum {p tpos : Pos} {elts : List Expr} {kk : Nat} (hg : Gl X "enumerate") (hm : X.mg "enumerate" = none) (ha : JE T X a f) (hs : starEach [a] X.env = [(false, eval a X.env)] := by rfl) : JIE T X (.Tuple elts kk tpos) (.Call (.Name "enumerate" p) [a] [] pos) (iEnE f) :=
  ji_mk (pi_enum hg hm (pa_cons ha pa_nil hs) hs) fun σ h R ⟨s, env, A, ds, env', o, q, w⟩ => by
    obtain ⟨⟨d, m, env1⟩, e1, q⟩ := Option.bind_eq_some_iff.mp q
    refine ⟨s, env, A, d, m, env1, o, e1, fun v s1 h1 A1 B1 g1 => ?_⟩
    obtain ⟨g2, r2⟩ := g1.seen
    dsimp only at q
    split at q
    · cases q
      simp only [Sees] at r2
      obtain ⟨p, vs, rfl, e2, e3⟩ := r2
      exact ⟨p, vs, rfl, SqL.of (g2.own.sub.at_ _ _ e2 (by intro _ z; cases z)), w _ _ h1 A1 g2 (itOk_enum e2 e3)⟩
    · cases q
/-! ### a, b = a list -/
/-- the items of a list -/
def unLst : D × M → Option (List (D × M)) := fun x => match x.1, x.2 with
  | .lst ds, .sh => some (ds.map fun d => (d, im d))
  | .lst ds, .dp => if immL ds = true then some (ds.map fun d => (d, .dp)) else none
  | _, _ => none
theorem DeepL.repI {K : PySem.W.Frag} {s h : Hp} {C : List Addr} : ∀ {vs : List V} (ds : List D) {B : List Addr}, immL ds = true → DeepL K T h vs ds B → RepL K T s h vs (ds.map fun d => (d, M.dp)) []
  | _, [], _, _, r => by simp only [DeepL] at r; exact ⟨r.1, rfl⟩
  | _, d :: ds, _, hi, r => by
    simp only [immL, Bool.and_eq_true] at hi
    simp only [DeepL] at r
    obtain ⟨v, q, B1, B2, e1, _, e3, e4⟩ := r
    have := Deep.nil d hi.1 e3
    subst this
    exact ⟨v, q, [], [], e1, rfl, e3, DeepL.repI (C := C) ds hi.2 e4⟩
theorem Rep.unLst {K : PySem.W.Frag} {s h : Hp} {B : List Addr} {v : V} {dm : D × M} {ds : List (D × M)} (u : Sub s h) (rp : Rep K T s h v dm.1 dm.2 B) (q : G.unLst dm = some ds) : ∃ p vs, v = .ref p ∧ h p = some (.lst vs) ∧ RepL K T s h vs ds [] := by
  obtain ⟨d, m⟩ := dm
  unfold G.unLst at q
  split at q
  · rename_i xs e1 e2
    cases q
    dsimp only at e1 e2
    subst e1 e2
    simp only [Rep, Sees] at rp
    obtain ⟨rfl, p, vs, rfl, r1, r2⟩ := rp
    exact ⟨p, vs, rfl, u.at_ _ _ r1 (by intro _ z; cases z), SeesL.repL u _ r2⟩
  · rename_i xs e1 e2
    split at q
    · rename_i hi
      cases q
      dsimp only at e1 e2
      subst e1 e2
      simp only [Rep, Deep] at rp
      obtain ⟨p, vs, C, rfl, r1, rfl, r2⟩ := rp
      exact ⟨p, vs, rfl, r1, DeepL.repI (C := []) _ hi r2⟩
    · cases q
  · cases q
def goLst (n : Nat) (k : List (D × M) → Env' → Option Env') : D × M → Env' → Option Env' := fun x env => (unLst x).bind fun ds => if ds.length = n then k ds env else none
theorem Go.wide {K : PySem.W.Frag} {s h s1 h1 : Hp} {A A' A1 : List Addr} {σ : St} {env : Env'} (g : Go K T s h A σ env s1 h1 A1) (u : ∀ a ∈ A, a ∈ A') : Go K T s h A' σ env s1 h1 A1 :=
  ⟨g.st.mono u, g.own, fun x hx => (g.wh x hx).imp (u x) id⟩
theorem jgo_lst {k1 : List (D × M) → Env' → Option Env'} {kk n : Nat} (hc : X.calm = true) (h : JGOs T X io es k1) (hn : (assignEach es X.env).length = n := by rfl) (hst : (assignEach es X.env).findIdx? (·.1) = none := by rfl) : JGO T X io (.Tuple es kk pos) (goLst n k1) := by
  refine ⟨fun pins sx σ H v u Q I r ⟨s, d, m, env, A, B, env', g, rp, q, w⟩ => ?_⟩
  obtain ⟨ds, e1, q⟩ := Option.bind_eq_some_iff.mp q
  split at q
  · rename_i hl
    obtain ⟨p, vs, rfl, r1, r2⟩ := Rep.unLst (dm := (d, m)) g.sub rp e1
    have g2 : Hold X.K T s H σ env A [] := ⟨g.sub, g.tab, g.er, by rw [List.append_nil]; exact (List.nodup_append.mp g.nd).1, fun a ha => g.fr a (by rw [List.append_nil] at ha; exact List.mem_append_left _ ha)⟩
    exact (pg_unl (n := n) hc h hn hst).run pins sx σ H _ u Q I r ⟨p, vs, rfl, SqL.of r1, by rw [r2.len]; exact hl, s, ds, env, A, [], env', g2, r2, q, fun σ' s' h' A' go pin => w σ' s' h' A' (go.wide fun a ha => by rw [List.append_nil] at ha; exact List.mem_append_left _ ha) pin⟩
  · cases q
/-! ### {} -/
def pDict0 : VEnv → Option (D × M) := fun _ => some (.dk [] [], .dp)
def pDictT0 : VEnv → Option (D × M) := fun _ => some (.dt [] [], .dp)
theorem got_own {K : PySem.W.Frag} {s h : Hp} {p : Addr} {ob : HO} {d : D} (u : Sub s h) (n : h p = none) (r : Deep K T (upd h p ob) (.ref p) d [p]) : Got K T s h (.ref p) d .dp s (upd h p ob) [p] :=
  ⟨Gr.own u n, r, by simp, fun b hb => by rw [List.mem_singleton.mp hb]; exact n, fun b hb => by rw [List.mem_singleton.mp hb]; exact u.no _ n⟩
theorem jp_dict0 : JP T X (.Dict [] [] pos) pDict0 := ⟨_, pe_dnewK, fun σ s h ve d m Q A q w => by
  cases q
  intro p n
  exact w _ _ _ _ (got_own A.sub n (by simp only [Deep]; exact ⟨p, [], [], rfl, upd_same, rfl, rfl, rfl, rfl⟩))⟩
theorem jp_dictT0 : JP T X (.Dict [] [] pos) pDictT0 := ⟨_, pe_dnewT, fun σ s h ve d m Q A q w => by
  cases q
  intro p n
  exact w _ _ _ _ (got_own A.sub n (by simp only [Deep]; exact ⟨p, [], [], rfl, upd_same, rfl, rfl, rfl, rfl⟩))⟩
/-! ### dict(pairs), list(d), sorted(d) -/
/-- pairs of a key and something -/
def kvsOf : List D → Option (List (Key × D))
  | [] => some []
  | .tup [a, b] :: ds => (isKey a).bind fun k => (kvsOf ds).bind fun r => some ((k, b) :: r)
  | _ :: _ => none
def putAll : List Key × List D → List (Key × D) → List Key × List D
  | acc, [] => acc
  | acc, kv :: r => putAll (putD acc.1 acc.2 kv.1 kv.2) r
def gDictC : List D → Option (D × M)
  | [.lst ds] => (kvsOf ds).bind fun kvs => some (.dk (putAll ([], []) kvs).1 (putAll ([], []) kvs).2, lm (putAll ([], []) kvs).2)
  | [.dk ks vs] => some (.dk ks vs, lm vs)
  | _ => none
/-- how a new dict is held -/
theorem got_dk {K : PySem.W.Frag} {s h : Hp} {p : Addr} {ks : List Key} {vs : List V} {ds : List D} (u : Sub s h) (n : h p = none) (hl : ks.length = vs.length) (r : SeesL K T s vs ds) : Got K T s h (.ref p) (.dk ks ds) (lm ds) s (upd h p (.dK (ks.zip vs))) [p] := by
  have g : Gr T s h s (upd h p (.dK (ks.zip vs))) := Gr.own u n
  refine ⟨g, ?_, by simp, fun b hb => ?_, fun b hb => ?_⟩
  · unfold lm
    split
    · rename_i i
      simp only [Rep, Deep]
      exact ⟨p, vs, [], rfl, upd_same, hl, rfl, SeesL.deep ds i (r.ext g.sub ds)⟩
    · exact ⟨p, rfl, rfl, vs, upd_same, hl, r⟩
  · rw [List.mem_singleton.mp hb]; exact n
  · rw [List.mem_singleton.mp hb]; exact u.no p n
theorem putK_sees {K : PySem.W.Frag} {s : Hp} {ks : List Key} {vs : List V} {ds : List D} {k : Key} {y : V} {dy : D} (hl : ks.length = vs.length) (r : SeesL K T s vs ds) (ry : Sees K T s y dy) :
    ∃ vs', putK (ks.zip vs) k y = (putD ks ds k dy).1.zip vs' ∧ (putD ks ds k dy).1.length = vs'.length ∧ SeesL K T s vs' (putD ks ds k dy).2 := by
  rw [putK_zip hl]
  by_cases h : hasK ks k
  · exact ⟨updW ks vs k y, by simp [putD, h], by simp [putD, h, updW_len, hl], by simp only [putD, if_pos h]; exact r.updW ry⟩
  · exact ⟨vs ++ [y], by simp [putD, h], by simp [putD, h, hl], by simp only [putD, if_neg h]; exact r.app (SeesL.one ry)⟩
theorem kvs_sees {K : PySem.W.Frag} {s h : Hp} (u : Sub s h) : ∀ {ds : List D} {vs : List V} {kvs : List (Key × D)}, kvsOf ds = some kvs → SeesL K T s vs ds → ∃ (ps : List Addr) (ws : List V), vs = ps.map V.ref ∧ Paired (fun p (kv : Key × V) => SqT K h p [kV kv.1, kv.2]) ps ((kvs.map (·.1)).zip ws) ∧ SeesL K T s ws (kvs.map (·.2))
  | [], vs, kvs, q, r => by
    cases q
    simp only [SeesL] at r
    subst r
    exact ⟨[], [], rfl, .nil, by simp [SeesL]⟩
  | d :: ds, vs, kvs, q, r => by
    unfold kvsOf at q
    split at q
    · rename_i e0
      cases e0
    · rename_i a b ds' e0
      cases e0
      obtain ⟨k, e1, q⟩ := Option.bind_eq_some_iff.mp q
      obtain ⟨kr, e2, q⟩ := Option.bind_eq_some_iff.mp q
      cases q
      simp only [SeesL] at r
      obtain ⟨v, vr, rfl, r1, r2⟩ := r
      simp only [Sees, SeesL] at r1
      obtain ⟨p, ws, rfl, r3, va, q1, rfl, ra, vb, q2, rfl, rb, rfl⟩ := r1
      obtain ⟨ps, ws, rfl, pp, rs⟩ := kvs_sees u e2 r2
      refine ⟨p :: ps, vb :: ws, rfl, .cons ?_ pp, ?_⟩
      · have := key_sees e1 ra
        subst this
        exact (sqT_ext u r3).sq
      · simp only [List.map_cons, SeesL]
        exact ⟨_, _, rfl, rb, rs⟩
    · cases q
theorem merge_sees {K : PySem.W.Frag} {s : Hp} : ∀ {kvs : List (Key × D)} {ws : List V} {ks : List Key} {vs : List V} {ds : List D}, ks.length = vs.length → SeesL K T s vs ds → SeesL K T s ws (kvs.map (·.2)) →
    ∃ vs', mergeK (ks.zip vs) ((kvs.map (·.1)).zip ws) = (putAll (ks, ds) kvs).1.zip vs' ∧ (putAll (ks, ds) kvs).1.length = vs'.length ∧ SeesL K T s vs' (putAll (ks, ds) kvs).2
  | [], ws, ks, vs, ds, hl, r, _ => ⟨vs, by simp [mergeK, putAll], hl, r⟩
  | kv :: kvs, ws, ks, vs, ds, hl, r, rw_ => by
    simp only [List.map_cons, SeesL] at rw_
    obtain ⟨w, wr, rfl, r1, r2⟩ := rw_
    obtain ⟨vs1, e1, l1, r3⟩ := putK_sees (k := kv.1) hl r r1
    obtain ⟨vs', e2, l2, r4⟩ := merge_sees (kvs := kvs) (ws := wr) l1 r3 r2
    refine ⟨vs', ?_, l2, r4⟩
    show mergeK (putK (ks.zip vs) kv.1 w) ((kvs.map (·.1)).zip wr) = _
    rw [e1]
    exact e2
theorem oc_dict (hc : X.calm = true) : OC T X (.type "dict") gDictC := by
  refine ⟨_, CallR.or (call_dictP hc) call_dictD, fun s h xs ds d m Q u tb r q w => ?_⟩
  unfold gDictC at q
  split at q
  · rename_i ds0
    obtain ⟨kvs, e1, q⟩ := Option.bind_eq_some_iff.mp q
    cases q
    obtain ⟨v, rfl, r1⟩ := sees1 r
    simp only [Sees] at r1
    obtain ⟨p, vs, rfl, e2, e3⟩ := r1
    obtain ⟨ps, ws, rfl, pp, rs⟩ := kvs_sees u e1 e3
    obtain ⟨vs', e4, l4, r4⟩ := merge_sees (ks := []) (vs := []) (ds := []) (T := T) rfl (by simp [SeesL]) rs
    refine .inl ⟨p, ps, _, rfl, SqL.of (u.at_ _ _ e2 (by intro _ z; cases z)), pp, fun p' n => ?_⟩
    have e5 : mergeK [] ((kvs.map (·.1)).zip ws) = (putAll ([], []) kvs).1.zip vs' := e4
    rw [e5]
    exact w _ _ _ _ (got_dk u n l4 r4)
  · rename_i ks vs0
    cases q
    obtain ⟨v, rfl, r1⟩ := sees1 r
    simp only [Sees] at r1
    obtain ⟨p, vs, rfl, e2, e3, e4⟩ := r1
    exact .inr ⟨p, _, rfl, rd_ext u (by intro _ z; cases z) e2, fun p' n => w _ _ _ _ (got_dk u n e3 e4)⟩
  · cases q
/-! ### a dict's keys -/
def keyD : Key → D
  | .inl i => .int i
  | .inr x => .str x
theorem keyD_sees {K : PySem.W.Frag} {s : Hp} : ∀ ks : List Key, SeesL K T s (ks.map kV) (ks.map keyD)
  | [] => by simp [SeesL]
  | k :: ks => by
    simp only [List.map_cons, SeesL]
    refine ⟨_, _, rfl, ?_, keyD_sees ks⟩
    cases k <;> simp [keyD, kV, Sees]
/-- the keys, where they are tuples -/
def keyTD (ks : List Key) : D := .tup (ks.map keyD)
theorem keyT_sees {K : PySem.W.Frag} {s : Hp} {b : Addr} {ks : List Key} (e : s b = some (.tup (ks.map kV))) : Sees K T s (.ref b) (keyTD ks) := by
  simp only [keyTD, Sees]
  exact ⟨b, _, rfl, e, keyD_sees ks⟩
theorem isKeys_sees {K : PySem.W.Frag} {s : Hp} : ∀ {kvs : List (List Key × V)} {bs : List Addr}, IsKeys s kvs bs → SeesL K T s (bs.map V.ref) (kvs.map fun p => keyTD p.1)
  | _, _, .nil => by simp [SeesL]
  | _, _, .cons h t => by
    simp only [List.map_cons, SeesL]
    exact ⟨_, _, rfl, keyT_sees h, isKeys_sees t⟩
def gListD : List D → Option (D × M)
  | [.dk ks _] => some (.lst (ks.map keyD), lm (ks.map keyD))
  | [.dt ks _] => some (.lst (ks.map keyTD), lm (ks.map keyTD))
  | ds => gList ds
end
end G
set_option Elab.async false
set_option linter.all false
set_option maxRecDepth 100000
set_option maxHeartbeats 4000000
/-! G25: sorted(d), d a dict whose keys are ints or pairs of ints, of any size -/
namespace G
open PySem PySem.Spec PyProof.Rows L2
section
variable {prog : Program} {w : World} {A : Around} {E : Value → Shared → Prop} {s : Shared} {Q : Value → Shared → Prop} {a : Addr}
/-- sorted of what gives its items one after the other -/
theorem sorted_src {Good : List Value → Prop} {ltv : Value → Value → Bool} (O : SrtO.Swo ltv)
    (col : ∀ R : List Value → Shared → Prop, (∀ (h1 : Heap) (tk : Nat) (vs : List Value), (∀ b o, s.heap.get? b = some o → h1.get? b = some o) → Good vs → R vs { s with heap := h1, toks := tk }) → wpAny (model prog w) A.in1 (collect (.ref a)) R E s)
    (hz : ∀ vs, Good vs → vs.length ≤ sizeLine)
    (hS : ∀ (vs : List Value) (h1 : Heap) (tk : Nat) (d : Addr), Good vs → 2 ≤ vs.length → (∀ b o, s.heap.get? b = some o → h1.get? b = some o) → h1.get? d = some (seqObj "list" vs.toArray 0) → SrtO.SortableO prog w A.in1.in1 { s with heap := h1, toks := tk } d vs ltv)
    (h : ∀ (mid h1 : Heap) (tk : Nat) (vs out : List Value), (∀ b o, s.heap.get? b = some o → mid.get? b = some o) → Good vs → SrtO.Srtd ltv out → SrtO.Stb ltv out vs → (∀ b o, mid.get? b = some o → h1.get? b = some o) → (∃ n, h1.get? mid.objs.size = some (seqObj "list" out.toArray n)) → Q (.ref mid.objs.size) { s with heap := h1, toks := tk }) :
    wpAny (model prog w) A (call (.builtin "sorted") [.ref a]) Q E s := by
  refine Calls.call_function_entry kind_sorted plain_sorted entry_sorted (args_sorted1 _) ?_
  unfold Builtin.«sorted»
  refine wpAny_bind (m := checkCount "sorted" 1 1 _) (wpAny_pure (wpAny_bind (col _ fun h1 tk vs kp gd => wpAny_bind (wpAny_newList ?_ (hz vs gd)))))
  have at1 : (h1.push (seqObj "list" vs.toArray 0)).get? h1.objs.size = some (seqObj "list" vs.toArray 0) := Heap.get?_push_size _ rfl
  have kp1 : ∀ b o, s.heap.get? b = some o → (h1.push (seqObj "list" vs.toArray 0)).get? b = some o := fun b o e => Heap.get?_push_of_some _ (kp b o e)
  refine wpAny_bind (wpAny_holding (wpAny_call_entry slot_list_sort ⟨_, at1, rfl⟩ entry_list_sort (SrtO.list_sort_ord (s := { s with heap := h1.push (seqObj "list" vs.toArray 0), toks := tk }) O at1 (hz vs gd) (fun h2 => hS vs _ tk _ gd h2 kp1 at1) fun out hs hb => ⟨_, rfl, ?_⟩) (args_list_sort _)))
  obtain ⟨n, at2⟩ := sortedHeap_at (vs := vs) (out := out.toArray) at1
  refine wpAny_pure ⟨_, rfl, h h1 _ tk vs out kp gd hs hb (fun b o e => ?_) ⟨n, at2⟩⟩
  have hb2 : b < h1.objs.size := Heap.lt_size e
  rw [sortedHeap_old (Nat.ne_of_lt hb2) (by rw [size_push']; exact Nat.lt_succ_of_lt hb2)]
  exact Heap.get?_push_of_some _ e
end
theorem prd_get {α β : Type} {F : α → β → Prop} : ∀ {l : List α} {m : List β} {i : Nat} {x : β}, Paired F l m → m[i]? = some x → ∃ y, l[i]? = some y ∧ F y x
  | _, _, _, _, .nil, e => by simp at e
  | _, _, 0, _, .cons h _, e => by
    simp at e
    subst e
    exact ⟨_, rfl, h⟩
  | _, _, i + 1, _, .cons _ t, e => by
    obtain ⟨y, e1, e2⟩ := prd_get (i := i) t (by simpa using e)
    exact ⟨y, by simpa using e1, e2⟩
section
variable {X : Cx} {T : Tx}
/-- sorted(d), the keys ints -/
theorem call_sortedKI (hc : X.calm = true) : CallR X (.builtin "sorted") (fun xs H Q => ∃ (d : Addr) (kvs : List (Key × V)) (ks : List Int), xs = [.ref d] ∧ Rd H d (.dK kvs) ∧ kvs.map (·.1) = ks.map Sum.inl ∧
    ∀ (ys : List Int) (p : Addr), ys.Perm ks → ys.Pairwise (· ≤ ·) → H p = none → Q (.ref p) (upd H p (.lst (ys.map V.int)))) := by
  intro pins s σ H xs us Q I r ⟨d, kvs, ks, ex, hd, hks, q⟩
  subst ex
  obtain ⟨u, rfl, ru⟩ := vals1 r
  cases (show u = Value.ref d from ru)
  obtain ⟨z, lo, vs, rel, dd⟩ := dk_rd I.hok hd
  obtain ⟨ep, hat⟩ := dd.dictAt
  have hl : vs.length = ks.length := by
    have e := congrArg List.length (rel.keys.symm.trans hks)
    simpa using e
  have h16 : vs.length ≤ sizeLine := by rw [← rel.length]; exact z
  have each : ∀ (acc : Array Value), acc.size = vs.length → (∀ (i : Nat) (v : Value), acc[i]? = some v → ∃ (k : Key) (x : Value), vs[i]? = some (k, x) ∧ (mixKind X.prog X.w).is k v = true) → IntsAre acc.toList ks := fun acc hs hi => ints_each (by rw [Array.length_toList, hs, hl]) fun j v e => by
    obtain ⟨k, x, e1, e2⟩ := hi j v (by rw [← Array.getElem?_toList]; exact e)
    have e3 : (ks.map Sum.inl : List Key)[j]? = some k := by rw [← hks, rel.keys, List.getElem?_map, e1]; rfl
    rw [List.getElem?_map] at e3
    obtain ⟨y, e4, e5⟩ := Option.map_eq_some_iff.mp e3
    subst e5
    rcases keyIs_shape (show keyIs (Sum.inl y) v = true from e2) with ⟨i, t, ek, ev⟩ | ⟨zz, t, ek, ev⟩
    · cases ek
      exact ⟨y, t, e4, ev⟩
    · exact nomatch ek
  refine sorted_src (Good := fun us => IntsAre us ks) SrtO.swo_int (fun R hR => PySem.W.kdu_collect (A := X.A.in1) (PySem.W.kdl_dict (knd := mixKind X.prog X.w) (kvs := vs) (ep := ep) lo) (I.ok.hd hc) hat h16 fun h1 tk acc hk hacc => hR h1 tk acc.toList hk (each acc hacc.1 hacc.2)) (fun us hI => by rw [hI.length, ← hl]; exact h16) (fun us h1 tk d2 hI h2 _ _ => SrtO.ints_sortable hI h2) fun mid h1 tk us out k1 hI hs hb k2 ⟨n, hn⟩ => ?_
  obtain ⟨g1, g2, g3⟩ := SrtO.ints_out hI hs hb
  have J : Inv X pins σ H { s with heap := mid, toks := tk } := I.kept k1
  have hlen : ((out.map SrtO.iv).map V.int).length ≤ sizeLine := by rw [List.length_map, g2.length_eq, ← hl]; exact h16
  exact ⟨.ref mid.objs.size, upd H mid.objs.size (.lst ((out.map SrtO.iv).map V.int)), J.laid (t' := tk) k2 (Nat.le_refl _) ⟨hlen, out, n, vals_of_ints g1, hn⟩, rfl, q _ _ g2 g3 (J.hok.fresh (Nat.le_refl _))⟩
/-- sorted(d), the keys pairs of ints -/
theorem call_sortedKP (hc : X.calm = true) : CallR X (.builtin "sorted") (fun xs H Q => ∃ (d : Addr) (kvs : List (List Key × V)) (ks : List (Int × Int)), xs = [.ref d] ∧ Rd H d (.dT kvs) ∧ kvs.map (·.1) = ks.map (fun p => [Sum.inl p.1, Sum.inl p.2]) ∧
    ∀ (ys : List Addr) (k : V → Int × Int) (p : Addr), SrtO.Srtd (ltP k) (ys.map V.ref) → ((ys.map V.ref).map k).Perm ks → (∀ b ∈ ys, H b = some (.tup [.int (k (.ref b)).1, .int (k (.ref b)).2])) → H p = none → Q (.ref p) (upd H p (.lst (ys.map V.ref)))) := by
  intro pins s σ H xs us Q I r ⟨d, kvs, ks, ex, hd, hks, q⟩
  subst ex
  obtain ⟨u, rfl, ru⟩ := vals1 r
  cases (show u = Value.ref d from ru)
  obtain ⟨z, lo, es0, pr, o, es, ep, ho, hx, hdt, he, hn⟩ := (show ObjOk X.prog X.w H s.heap d (.dT kvs) from hd.ok I.hok)
  have l1 : es.size = es0.length := size_of_entries he
  have l2 : kvs.length = es0.length := Paired.length pr
  have lk : kvs.length = ks.length := by have e := congrArg List.length hks; simpa using e
  -- the pair that stands at an address
  let kf : Value → Int × Int := fun v => match v with
    | .ref b => match H b with
      | some (.tup [.int i, .int j]) => (i, j)
      | _ => (0, 0)
    | _ => (0, 0)
  have tup_at : ∀ (i : Nat) (x : List Key × Addr × Value), es0[i]? = some x → ∃ p : Int × Int, ks[i]? = some p ∧ H x.2.1 = some (.tup [.int p.1, .int p.2]) := fun i x e => by
    have hp := prd_get pr e
    obtain ⟨y, ey, h1, h2, _⟩ := hp
    have e3 : (ks.map fun p : Int × Int => ([Sum.inl p.1, Sum.inl p.2] : List Key))[i]? = some y.1 := by rw [← hks, List.getElem?_map, ey]; rfl
    rw [List.getElem?_map] at e3
    obtain ⟨p, e4, e5⟩ := Option.map_eq_some_iff.mp e3
    refine ⟨p, e4, ?_⟩
    rw [h2, ← e5]
    rfl
  let goodL : List Value := es0.map fun x => Value.ref x.2.1
  have gl : goodL.length = ks.length := by simp [goodL]; omega
  have gk : goodL.map kf = ks := by
    apply List.ext_getElem?
    intro i
    rw [List.getElem?_map]
    cases e : es0[i]? with
    | none =>
      have h1 := List.getElem?_eq_none_iff.mp e
      rw [List.getElem?_eq_none (by omega), List.getElem?_eq_none (by omega)]
      rfl
    | some x =>
      obtain ⟨p, e4, e5⟩ := tup_at i x e
      have : goodL[i]? = some (Value.ref x.2.1) := by simp [goodL, e]
      rw [this, e4]
      show some (kf (Value.ref x.2.1)) = some p
      simp only [kf, e5]
  have pairs : ∀ v ∈ goodL, ∃ b, v = .ref b ∧ H b = some (.tup [.int (kf v).1, .int (kf v).2]) := fun v hv => by
    obtain ⟨x, hx, rfl⟩ := List.mem_map.mp hv
    obtain ⟨i, hi⟩ := List.mem_iff_getElem?.mp hx
    obtain ⟨p, e4, e5⟩ := tup_at i x hi
    refine ⟨_, rfl, ?_⟩
    simp only [kf, e5]
  have isp : ∀ v ∈ goodL, Srt.IsPair s.heap v (kf v).1 (kf v).2 := fun v hv => by
    obtain ⟨b, rfl, hb⟩ := pairs v hv
    obtain ⟨_, its, r2, oo, ho2, hc2, n, hd2⟩ := I.hok _ _ hb
    obtain ⟨u1, u2, rfl, ri, rj⟩ := vals2 r2
    obtain ⟨t1, rfl⟩ := ri
    obtain ⟨t2, rfl⟩ := rj
    exact ⟨b, oo, t1, t2, n, rfl, ho2, hc2, hd2⟩
  refine sorted_src (Good := fun us => us = goodL) (SrtO.swo_lex kf) (fun R hR => PySem.W.kdu_collect (A := X.A.in1) (kdl_raw lo hx hdt) (I.ok.hd hc) ho (by omega) fun h1 tk acc hk hacc => hR h1 tk acc.toList hk ?_) (fun us e => by rw [e, gl, ← lk]; exact z) (fun us h1 tk d2 e h2 kp at1 => ?_) fun mid h1 tk us out k1 e hs hb k2 ⟨n, hn2⟩ => ?_
  · apply List.ext_getElem?
    intro j
    cases hj : acc.toList[j]? with
    | none =>
      have h3 := List.getElem?_eq_none_iff.mp hj
      rw [Array.length_toList, hacc.1, l1] at h3
      rw [List.getElem?_eq_none (by simp [goodL]; omega)]
    | some v =>
      obtain ⟨en, hen, hv⟩ := hacc.2 j v (by rw [← Array.getElem?_toList]; exact hj)
      have qe := entry_at he j
      rw [hen] at qe
      cases hb : es0[j]? with
      | none => rw [hb] at qe; exact nomatch qe
      | some b =>
        rw [hb] at qe
        have e2 : en = entryOfKey (tupleKind (mixKind X.prog X.w)) b := Option.some.inj qe
        simp only [goodL, List.getElem?_map, hb]
        rw [hv, e2]
        rfl
  · subst e
    refine SrtO.pairs_sortableO (s := { s with heap := h1, toks := tk }) (by omega) (fun v hv => (isp v hv).keeps fun b o e _ => kp b o e) fun o e c => ?_
    rw [at1] at e
    cases e
    exact absurd (Value.type.inj c) (by decide)
  · subst e
    have J : Inv X pins σ H { s with heap := mid, toks := tk } := I.kept k1
    have om : ∀ v ∈ out, v ∈ goodL := fun v hv => hb.perm.mem_iff.mp hv
    obtain ⟨bs, rfl⟩ : ∃ bs : List Addr, out = bs.map Value.ref := by
      have : ∀ l : List Value, (∀ v ∈ l, v ∈ goodL) → ∃ bs : List Addr, l = bs.map Value.ref := by
        intro l
        induction l with
        | nil => exact fun _ => ⟨[], rfl⟩
        | cons v l ih =>
          intro hm
          obtain ⟨b, rfl, _⟩ := pairs v (hm v List.mem_cons_self)
          obtain ⟨bs, rfl⟩ := ih fun w hw => hm w (List.mem_cons_of_mem _ hw)
          exact ⟨b :: bs, rfl⟩
      exact this out om
    let kv : V → Int × Int := fun v => match v with
      | .ref b => kf (.ref b)
      | _ => (0, 0)
    have hlen : (bs.map V.ref).length ≤ sizeLine := by
      have := hb.perm.length_eq
      simp only [List.length_map] at this ⊢
      rw [this, gl, ← lk]
      exact z
    refine ⟨.ref mid.objs.size, upd H mid.objs.size (.lst (bs.map V.ref)), J.laid (t' := tk) k2 (Nat.le_refl _) ⟨hlen, bs.map Value.ref, n, vals_refs bs, hn2⟩, rfl, q bs kv _ ?_ ?_ (fun b hb2 => ?_) (J.hok.fresh (Nat.le_refl _))⟩
    · unfold SrtO.Srtd at hs ⊢
      rw [List.pairwise_map] at hs ⊢
      exact hs
    · have e1 : (bs.map V.ref).map kv = (bs.map Value.ref).map kf := by simp [kv, Function.comp_def]
      rw [e1, ← gk]
      exact hb.perm.map kf
    · obtain ⟨b', e1, e2⟩ := pairs (.ref b) (om _ (List.mem_map.mpr ⟨b, hb2, rfl⟩))
      cases e1
      exact e2
end
end G
set_option Elab.async false
set_option linter.all false
set_option maxRecDepth 100000
set_option maxHeartbeats 4000000
/-! G26: list(d), sorted(d) over data; d.get(k, e) of a dict that is ours; d.update; dict comprehensions -/
namespace G
open PySem PySem.Spec PyProof.Rows L2
section
variable {X : Cx} {T : Tx}
/-- all tuples are seen by all -/
theorem Gr.tups {s h : Hp} (u : Sub s h) : Gr T s h (G.shr s h []) h := (Gr.refl u).shr Fresh.nil
theorem isKeys_mono {s h : Hp} (k : ∀ b xs, h b = some (.tup xs) → s b = some (.tup xs)) : ∀ {kvs : List (List Key × V)} {bs : List Addr}, IsKeys h kvs bs → IsKeys s kvs bs
  | _, _, .nil => .nil
  | _, _, .cons e t => .cons (k _ _ e) (isKeys_mono k t)
theorem map_fst_zip {α β γ : Type} (f : α → γ) : ∀ {ks : List α} {vs : List β}, ks.length = vs.length → (ks.zip vs).map (fun p => f p.1) = ks.map f
  | [], [], _ => rfl
  | [], _ :: _, h => by simp at h
  | _ :: _, [], h => by simp at h
  | k :: ks, v :: vs, h => by
    simp only [List.zip_cons_cons, List.map_cons, map_fst_zip f (ks := ks) (vs := vs) (by simpa using h)]
theorem oc_listD (hc : X.calm = true) : OC T X (.type "list") gListD := by
  refine ⟨_, CallR.or call_list_of (CallR.or (call_listD hc) (call_list_dT hc)), fun s h xs ds d m Q u tb r q w => ?_⟩
  unfold gListD at q
  split at q
  · rename_i ks vs0
    cases q
    obtain ⟨v, rfl, r1⟩ := sees1 r
    simp only [Sees] at r1
    obtain ⟨p, vs, rfl, e2, e3, e4⟩ := r1
    refine .inr (.inl ⟨p, _, rfl, rd_ext u (by intro _ z; cases z) e2, fun p' n => ?_⟩)
    rw [map_fst_zip kV e3]
    exact w _ _ _ _ (got_list u n (keyD_sees ks))
  · rename_i ks vs0
    cases q
    obtain ⟨v, rfl, r1⟩ := sees1 r
    simp only [Sees] at r1
    obtain ⟨p, vs, rfl, e2, e3, e4⟩ := r1
    refine .inr (.inr ⟨p, _, rfl, rd_ext u (by intro _ z; cases z) e2, fun p' bs n ik => ?_⟩)
    have g := Gr.tups (T := T) u
    have sk := isKeys_sees (T := T) (K := X.K) (isKeys_mono (fun b xs e => shr_tup (s := s) (B := []) e) ik)
    rw [map_fst_zip keyTD e3] at sk
    exact w _ _ _ _ ((got_list g.sub n sk).pre g)
  · obtain ⟨p, ys, e1, e2, e3⟩ : ∃ p ys, xs = [.ref p] ∧ (SqL X.K h p ys ∨ SqT X.K h p ys) ∧ ∀ l, h l = none → Q (.ref l) (upd h l (.lst ys)) := by
      obtain ⟨rr, o1, o2⟩ := oc_list (T := T) (X := X)
      unfold gList at q
      split at q
      · cases q
        obtain ⟨v, rfl, r1⟩ := sees1 r
        simp only [Sees] at r1
        obtain ⟨p, vs, rfl, e2, e3⟩ := r1
        exact ⟨p, vs, rfl, .inl (SqL.of (u.at_ _ _ e2 (by intro _ z; cases z))), fun l n => w _ _ _ _ (got_list u n e3)⟩
      · cases q
        obtain ⟨v, rfl, r1⟩ := sees1 r
        simp only [Sees] at r1
        obtain ⟨p, vs, rfl, e2, e3⟩ := r1
        exact ⟨p, vs, rfl, .inr (sqT_ext u e2).sq, fun l n => w _ _ _ _ (got_list u n e3)⟩
      · cases q
    exact .inl ⟨p, ys, e1, e2, e3⟩
/-! ### sorted(d) -/
def intsK : List Key → Option (List Int)
  | [] => some []
  | .inl i :: ks => (intsK ks).bind fun r => some (i :: r)
  | .inr _ :: _ => none
def pairsK : List (List Key) → Option (List (Int × Int))
  | [] => some []
  | [.inl i, .inl j] :: ks => (pairsK ks).bind fun r => some ((i, j) :: r)
  | _ :: _ => none
theorem intsK_map : ∀ {ks : List Key} {ns : List Int}, intsK ks = some ns → ks = ns.map Sum.inl
  | [], ns, h => by cases h; rfl
  | .inl i :: ks, ns, h => by
    obtain ⟨r, e1, h⟩ := Option.bind_eq_some_iff.mp h
    cases h
    rw [intsK_map e1]
    rfl
  | .inr _ :: _, _, h => by cases h
theorem pairsK_map : ∀ {ks : List (List Key)} {ps : List (Int × Int)}, pairsK ks = some ps → ks = ps.map fun p => [Sum.inl p.1, Sum.inl p.2]
  | [], ps, h => by cases h; rfl
  | k :: ks, ps, h => by
    unfold pairsK at h
    split at h
    · rename_i e; cases e
    · rename_i i j ks' e
      cases e
      obtain ⟨r, e1, h⟩ := Option.bind_eq_some_iff.mp h
      cases h
      rw [List.map_cons, ← pairsK_map e1]
    · cases h
def gSortedD : List D → Option (D × M)
  | [.dk ks _] => (intsK ks).bind fun ns => some (.lst ((isort ns).map .int), .dp)
  | [.dt ks _] => (pairsK ks).bind fun ps => some (.lst ((psort ps).map pD), .dp)
  | ds => gSorted ds
theorem immL_pairs : ∀ L : List (Int × Int), immL (L.map pD) = true
  | [] => rfl
  | l :: L => by simp [immL, pD, imm, immL_pairs L]
theorem oc_sortedD (hc : X.calm = true) : OC T X (.builtin "sorted") gSortedD := by
  obtain ⟨r0, o1, o2⟩ := oc_sorted (T := T) (X := X)
  refine ⟨_, CallR.or o1 (CallR.or (call_sortedKI hc) (call_sortedKP hc)), fun s h xs ds d m Q u tb r q w => ?_⟩
  unfold gSortedD at q
  split at q
  · rename_i ks vs0
    obtain ⟨ns, e0, q⟩ := Option.bind_eq_some_iff.mp q
    cases q
    obtain ⟨v, rfl, r1⟩ := sees1 r
    simp only [Sees] at r1
    obtain ⟨p, vs, rfl, e2, e3, e4⟩ := r1
    have ek := intsK_map e0
    refine .inr (.inl ⟨p, _, ns, rfl, rd_ext u (by intro _ z; cases z) e2, (List.map_fst_zip (Nat.le_of_eq e3)).trans ek, fun ys p' yp ys2 n => ?_⟩)
    have : ys = isort ns := sorted_uniq ys2 (isort_sorted ns) (yp.trans (isort_perm ns).symm)
    subst this
    exact w _ _ _ _ (got_ints u n)
  · rename_i ks vs0
    obtain ⟨ps, e0, q⟩ := Option.bind_eq_some_iff.mp q
    cases q
    obtain ⟨v, rfl, r1⟩ := sees1 r
    simp only [Sees] at r1
    obtain ⟨p, vs, rfl, e2, e3, e4⟩ := r1
    have ek := pairsK_map e0
    refine .inr (.inr ⟨p, _, ps, rfl, rd_ext u (by intro _ z; cases z) e2, (List.map_fst_zip (Nat.le_of_eq e3)).trans ek, fun ys k p' hs hp hb n => ?_⟩)
    have es : (ys.map V.ref).map k = psort ps := by
      refine psort_uniq ?_ (psort_sorted ps) (hp.trans (psort_perm ps).symm)
      refine List.pairwise_map.mpr (hs.imp fun {a b} hab => ?_)
      have := SrtO.lexB_no.mp hab
      unfold pLe
      omega
    have g := Gr.tups (T := T) u
    have sy : SeesL X.K T (shr s h []) (ys.map V.ref) ((psort ps).map pD) := by
      rw [← es]
      clear es hs hp n w
      induction ys with
      | nil => simp [SeesL]
      | cons b ys ih =>
        simp only [List.map_cons, SeesL]
        refine ⟨_, _, rfl, ?_, ih fun c hcm => hb c (List.mem_cons_of_mem _ hcm)⟩
        simp only [pD, Sees, SeesL]
        exact ⟨b, _, rfl, shr_tup (hb b List.mem_cons_self), _, _, rfl, rfl, _, _, rfl, rfl, rfl⟩
    have := got_list (T := T) g.sub n sy
    unfold lm at this
    rw [if_pos (immL_pairs _)] at this
    exact w _ _ _ _ (this.pre g)
  · exact .inl (o2 s h xs ds d m Q u tb r q w)
end
end G
set_option Elab.async false
set_option linter.all false
set_option maxRecDepth 100000
set_option maxHeartbeats 4000000
/-! G27: d.get(k, e) of a dict that a name holds; {k: v} with a tuple for a key -/
namespace G
open PySem PySem.Spec PyProof.Rows L2
section
variable {X : Cx} {T : Tx} {io : List Bool} {a b c e e' o i tg : Expr} {es : List Expr} {f k : Env' → Option (D × M × Env')} {fi fp fq fk fe : VEnv → Option (D × M)} {fl : VEnv → Option (List (D × M))} {pos p apos cpos : Pos} {x m : Str} {j l n cc : Nat} {run : Fi}
/-- what a dict has under a key -/
def lookE (d k : D) : Option (Option D) := match d with
  | .dk ks vs => (isKey k).bind fun kk => some (look ks vs kk)
  | .dt ks vs => (isKeyT k).bind fun kk => some (look ks vs kk)
  | _ => none
theorem look_val {κ : Type} [DecidableEq κ] {K : PySem.W.Frag} {s : Hp} {x : κ} : ∀ {ks : List κ} {vs : List V} {ds : List D}, ks.length = vs.length → SeesL K T s vs ds → match look ks ds x with
    | some d => ∃ w, valV (ks.zip vs) x = some w ∧ Sees K T s w d
    | none => valV (ks.zip vs) x = none := by
  intro ks vs ds hl r
  cases q : look ks ds x with
  | some d => exact look_some hl r q
  | none =>
    have := look_none (x := x) hl r
    rw [q] at this
    cases z : valV (ks.zip vs) x with
    | none => rfl
    | some w => rw [z] at this; cases this
/-- what was read -/
def ReadAs (K : PySem.W.Frag) (T : Tx) (s h : Hp) (m : M) (o : Option V) : Option D → Prop
  | some dd => ∃ w, o = some w ∧ (m ≠ .dp → Sees K T s w dd) ∧ Sees K T h w dd
  | none => o = none
/-- where the dict stands, and what is read of it -/
theorem dict_at {K : PySem.W.Frag} {s h : Hp} {v : V} {d : D} {m : M} {B : List Addr} (u : Sub s h) (r : Rep K T s h v d m B) {k : D} {res : Option D} (q : lookE d k = some res) : ∃ p, v = .ref p ∧ (∀ h2, Sub h h2 → IsD h2 p) ∧
    ∀ (s2 h2 : Hp) (y : V), Sub h h2 → Sub s2 h2 → Sees K T s2 y k → ∃ o, DGet h2 p y o ∧ ReadAs K T s h m o res := by
  have key : ∀ {κ : Type} [DecidableEq κ] (ks : List κ) (ds : List D) (vs : List V) (kk : κ), ks.length = vs.length → SeesL K T h vs ds → (m ≠ .dp → SeesL K T s vs ds) → ReadAs K T s h m (valV (ks.zip vs) kk) (look ks ds kk) := by
    intro κ _ ks ds vs kk hl r1 r2
    have a1 := look_val (x := kk) hl r1
    cases e : look ks ds kk with
    | none => rw [e] at a1; exact a1
    | some dd =>
      rw [e] at a1
      obtain ⟨w, e1, e2⟩ := a1
      refine ⟨w, e1, fun hm => ?_, e2⟩
      have a2 := look_val (x := kk) hl (r2 hm)
      rw [e] at a2
      obtain ⟨w', e3, e4⟩ := a2
      rw [e1] at e3
      cases e3
      exact e4
  unfold lookE at q
  split at q
  · rename_i ks ds
    obtain ⟨kk, hk, q⟩ := Option.bind_eq_some_iff.mp q
    cases q
    obtain ⟨p, vs, rfl, rd, hl, r1, r2⟩ : ∃ p vs, v = .ref p ∧ Rd h p (.dK (ks.zip vs)) ∧ ks.length = vs.length ∧ SeesL K T h vs ds ∧ (m ≠ .dp → SeesL K T s vs ds) := by
      cases m with
      | sh =>
        obtain ⟨_, r⟩ := r
        simp only [Sees] at r
        obtain ⟨p, vs, rfl, e2, e3, e4⟩ := r
        exact ⟨p, vs, rfl, rd_ext u (by intro _ z; cases z) e2, e3, e4.ext u ds, fun _ => e4⟩
      | o1 =>
        obtain ⟨p, rfl, _, vs, e1, e3, e4⟩ := r
        exact ⟨p, vs, rfl, .inl e1, e3, e4.ext u ds, fun _ => e4⟩
      | dp =>
        simp only [Rep, Deep] at r
        obtain ⟨p, vs, C, rfl, e1, e3, _, e4⟩ := r
        exact ⟨p, vs, rfl, .inl e1, e3, DeepL.sees _ e4, fun z => absurd rfl z⟩
    refine ⟨p, rfl, fun h2 g => .inl ⟨_, rd_ext g (by intro _ z; cases z) rd⟩, fun s2 h2 y g g2 ry => ⟨valV (ks.zip vs) kk, .inl ⟨_, kk, rd_ext g (by intro _ z; cases z) rd, key_sees hk ry, rfl⟩, ?_⟩⟩
    exact key ks ds vs kk hl r1 r2
  · rename_i ks ds
    obtain ⟨kk, hk, q⟩ := Option.bind_eq_some_iff.mp q
    cases q
    obtain ⟨p, vs, rfl, rd, hl, r1, r2⟩ : ∃ p vs, v = .ref p ∧ Rd h p (.dT (ks.zip vs)) ∧ ks.length = vs.length ∧ SeesL K T h vs ds ∧ (m ≠ .dp → SeesL K T s vs ds) := by
      cases m with
      | sh =>
        obtain ⟨_, r⟩ := r
        simp only [Sees] at r
        obtain ⟨p, vs, rfl, e2, e3, e4⟩ := r
        exact ⟨p, vs, rfl, rd_ext u (by intro _ z; cases z) e2, e3, e4.ext u ds, fun _ => e4⟩
      | o1 =>
        obtain ⟨p, rfl, _, vs, e1, e3, e4⟩ := r
        exact ⟨p, vs, rfl, .inl e1, e3, e4.ext u ds, fun _ => e4⟩
      | dp =>
        simp only [Rep, Deep] at r
        obtain ⟨p, vs, C, rfl, e1, e3, _, e4⟩ := r
        exact ⟨p, vs, rfl, .inl e1, e3, DeepL.sees _ e4, fun z => absurd rfl z⟩
    refine ⟨p, rfl, fun h2 g => .inr ⟨_, rd_ext g (by intro _ z; cases z) rd⟩, fun s2 h2 y g g2 ry => ?_⟩
    obtain ⟨b, rfl, eb⟩ := key_seesT hk ry
    exact ⟨valV (ks.zip vs) kk, .inr ⟨_, kk, b, rd_ext g (by intro _ z; cases z) rd, rfl, g2.at_ _ _ eb (by intro _ z; cases z), rfl⟩, key ks ds vs kk hl r1 r2⟩
  · cases q
def eGet (j : Nat) (fk fe : VEnv → Option (D × M)) : Env' → Option (D × M × Env') := fun env => match env[j]? with
  | some (some (d, m)) => (fk (shv env)).bind fun k => (fe (shv env)).bind fun z => (lookE d k.1).bind fun r => match r with
    | some y => if imm y = true then some (y, .dp, env) else if m = .dp then none else some (y, .sh, env)
    | none => some (z.1, z.2, env)
  | _ => none
theorem je_get (hu : X.A.units + 1 < cLine) (hN : X.N[j]? = some x) (hk : JP T X e fk) (he : JP T X e' fe) (hm : M2 X (.Name x p) "get" apos e e' cpos) (hv : Vis X.env.scope x := by first | exact Or.inl rfl | exact Or.inr (Or.inl rfl) | exact Or.inr (Or.inr rfl)) (hd : (x == ("__debug__" : Str)) = false := by decide) (hcd : (x == ("__classdict__" : Str)) = false := by decide) :
    JE T X (.Call (.Attribute (.Name x p) "get" apos) [e, e'] [] cpos) (eGet j fk fe) := by
  obtain ⟨tk, k1, k2⟩ := hk
  obtain ⟨te, e1, e2⟩ := he
  refine je_mk (pe_dget2 hu (pe_var hN hv hd hcd) k1 e1 hm) fun σ h Q ⟨s, env, A, d, m, env', o, q, w⟩ => ?_
  unfold eGet at q
  split at q
  · rename_i dd mm ex
    obtain ⟨⟨dk, mk⟩, q1, q⟩ := Option.bind_eq_some_iff.mp q
    obtain ⟨⟨dz, mz⟩, q2, q⟩ := Option.bind_eq_some_iff.mp q
    obtain ⟨res, q3, q⟩ := Option.bind_eq_some_iff.mp q
    obtain ⟨v, B, ev, rp, _⟩ := o.er.get ex
    obtain ⟨p0, rfl, isd, at_⟩ := dict_at o.sub rp q3
    refine ⟨_, ev, p0, rfl, isd h Sub.rfl', k2 σ _ h (shv env) dk mk _ o.ats q1 fun y s1 h1 B1 G1 => ?_⟩
    obtain ⟨g1, r1⟩ := G1.seen
    refine e2 σ _ h1 (shv env) dz mz _ (o.ats.grow g1) q2 fun z s2 h2 B2 G2 => ?_
    have gg := g1.trans G2.gr
    obtain ⟨ov, dg, val⟩ := at_ _ h2 y gg.hh (G2.gr.ss.trans G2.gr.sub) r1
    refine ⟨ov, dg, ?_⟩
    cases res with
    | none =>
      cases val
      cases q
      exact w z s2 h2 A B2 (GotE.of_shared o (G2.pre g1))
    | some yy =>
      obtain ⟨w0, rfl, hs, hh⟩ := val
      dsimp only at q
      split at q
      · rename_i hi
        cases q
        have g2 := G2.gr.shr G2.fr
        refine w w0 _ h2 A [] (GotE.of_shared o ⟨g1.trans g2, ?_, Fresh.nil⟩)
        exact Deep.keep gg.tupK _ (Sees.deep _ hi hh) fun b hb => by cases hb
      · split at q
        · cases q
        · rename_i hi hmm
          cases q
          have g2 := G2.gr.shr G2.fr
          refine w w0 _ h2 A [] (GotE.of_shared o ⟨g1.trans g2, ⟨rfl, ?_⟩, Fresh.nil⟩)
          exact (hs hmm).ext ((sub_shr o.sub).trans (g1.trans g2).ss) _
  · cases q
/-! ### {k: v}, k a tuple -/
def tDictT1 (tk tv : TE) : TE := fun σ H Q => ∀ p, H p = none → tk σ (upd H p (.dT [])) fun y H1 => tv σ H1 fun v H2 => ∃ kk bk, y = .ref bk ∧ H2 bk = some (.tup (kk.map kV)) ∧ H2 p = some (.dT []) ∧ Q (.ref p) (upd H2 p (.dT [(kk, v)]))
theorem pe_dictT1 {tk tv : TE} (hu : X.A.units + 1 < cLine) (hk : PE X a tk) (hv : PE X b tv) : PE X (.Dict [some a] [b] pos) (tDictT1 tk tv) := by
  refine ⟨fun pins s σ H Q I h => ?_⟩
  have I1 : Inv X pins σ (upd H s.heap.objs.size (.dT [])) { s with heap := s.heap.push { cls := .type "dict", data := .dict #[] } } :=
    I.laid (a := s.heap.objs.size) (o := .dT []) (t' := s.toks) (fun _ _ q => Heap.get?_push_of_some _ q) (Nat.le_refl _) (dt_empty s.heap I.big)
  have hp := h s.heap.objs.size (I.hok.fresh (Nat.le_refl _))
  have sh : (evalEachOpt [some a] X.env).zip ((evalEach [b] X.env).map fun v => do let x ← v; standAt pos; pure x) = ([(eval a X.env, do let x ← eval b X.env; standAt pos; pure x)] : List (Sem Value × Sem Value)).map fun p => (some p.1, p.2) := rfl
  rw [arm_eval_Dict, sh, dictDisplay_pairs _ (by simp) (by simp)]
  refine wpAny_bind (wpAny_standAt (wpAny_bind (wpAny_subDictH (knd := tupleKind (mixKind X.prog X.w)) (by show X.A.units < cLine; omega) (by simp) ?_)))
  refine evalPairs_cons (thn (hk.run pins _ σ _ _ I1 hp) fun u s1 ⟨y, H1, I2, r1, q1⟩ => ?_)
  refine wpAny_bind (thn (hv.run pins s1 σ H1 _ I2 q1) fun u2 s2 ⟨v, H2, I3, r2, kk, bk, ey, eb, e3, q2⟩ => ?_)
  refine wpAny_bind (wpAny_standAt (wpAny_pure (evalPairs_nil ?_)))
  subst ey
  cases (show u = Value.ref bk from r1)
  obtain ⟨z, hd, xs, rel, dd⟩ := dt_of I3.hok e3
  cases rel
  refine ⟨[(kk, bk, u2)], ⟨rfl, rfl, key_of I3.hok eb, trivial⟩, dd, fun h' tk dd' sb => ?_⟩
  obtain ⟨q, es, ep, hq, h2, h3, h4, _, h5⟩ := dd'
  have J := d_write (t' := tk) (ob := .dT [(kk, v)]) I3 (by rw [e3]; exact True.intro) sb ⟨q, hq⟩ ⟨by show 1 ≤ sizeLine; decide, hd, [(kk, bk, u2)], .cons ⟨rfl, by
    show upd H2 _ _ bk = _
    rw [upd_ne (ne_of eb e3 (fun z => nomatch z))]
    exact eb, r2⟩ .nil, q, es, ep, hq, h2, h3, h4, h5⟩
  exact wpAny_pure ⟨.ref s.heap.objs.size, _, J, rfl, q2⟩
def pDictT1 (f g : VEnv → Option (D × M)) : VEnv → Option (D × M) := fun ve => (f ve).bind fun x => (g ve).bind fun y => (isKeyT x.1).bind fun k => some (.dt [k] [y.1], if y.2 = .dp then .dp else .o1)
theorem jp_dictT1 (hu : X.A.units + 1 < cLine) (ha : JP T X a fp) (hb : JP T X b fq) : JP T X (.Dict [some a] [b] pos) (pDictT1 fp fq) := by
  obtain ⟨ta, a1, a2⟩ := ha
  obtain ⟨tb, b1, b2⟩ := hb
  refine ⟨_, pe_dictT1 hu a1 b1, fun σ s h ve d m Q A q w => ?_⟩
  obtain ⟨⟨dx, mx⟩, e1, q⟩ := Option.bind_eq_some_iff.mp q
  obtain ⟨⟨dy, my⟩, e2, q⟩ := Option.bind_eq_some_iff.mp q
  obtain ⟨kk, e3, q⟩ := Option.bind_eq_some_iff.mp q
  cases q
  intro p np
  have g0 : Gr T s h s (upd h p (.dT [])) := Gr.own A.sub np
  refine a2 σ s _ ve dx mx _ (A.grow g0) e1 fun y s1 h1 B1 G1 => ?_
  obtain ⟨g1, r1⟩ := G1.seen
  refine b2 σ _ h1 ve dy my _ ((A.grow g0).grow g1) e2 fun v s2 h2 B2 G2 => ?_
  have sp1 : shr s1 h1 B1 p = none := grow_none g1 (o := .dT []) (upd_same) trivial (A.sub.no p np)
  have gg : Gr T s h s2 h2 := (g0.trans g1).trans G2.gr
  have e4 : h2 p = some (.dT []) := (g1.trans G2.gr).hh.at_ p _ upd_same (by intro _ z; cases z)
  have s2p : s2 p = none := grow_none (g1.trans G2.gr) (o := .dT []) upd_same trivial (A.sub.no p np)
  have nB : p ∉ B2 := fun z => by
    have := G2.fr.nw p z
    rw [g1.hh.at_ p _ upd_same (by intro _ z; cases z)] at this
    cases this
  have fB : Fresh h s2 B2 := ⟨G2.fr.nd, fun b hb => (g0.trans g1).non (G2.fr.nw b hb), G2.fr.ns⟩
  obtain ⟨bk, rfl, ebk⟩ := key_seesT e3 r1
  refine ⟨kk, bk, rfl, (G2.gr.ss.trans G2.gr.sub).at_ _ _ ebk (by intro _ z; cases z), e4, ?_⟩
  by_cases hm : my = .dp
  · subst hm
    have g3 := gg.put (o' := .dT [(kk, v)]) np e4 trivial s2p
    refine w _ s2 _ (p :: B2) ⟨g3, ?_, List.nodup_cons.mpr ⟨nB, fB.nd⟩, fun b hb => ?_, fun b hb => ?_⟩
    · simp only [if_true, Rep, Deep]
      refine ⟨p, [v], B2, rfl, upd_same, rfl, rfl, DeepL.one (Deep.put (show Deep X.K T h2 v dy B2 from G2.rep) e4 trivial nB)⟩
    · rcases List.mem_cons.mp hb with rfl | hb
      · exact np
      · exact fB.nw b hb
    · rcases List.mem_cons.mp hb with rfl | hb
      · exact s2p
      · exact fB.ns b hb
  · have g3 := (gg.shr fB)
    have s3p : shr s2 h2 B2 p = none := shr_none s2p e4 trivial nB
    have g4 := g3.put (o' := .dT [(kk, v)]) np e4 trivial s3p
    refine w _ _ _ [p] ⟨g4, ?_, by simp, fun b hb => ?_, fun b hb => ?_⟩
    · simp only [if_neg hm]
      exact ⟨p, rfl, rfl, [v], upd_same, rfl, SeesL.one (G2.rep.shr G2.gr.sub fun _ hb => hb)⟩
    · rw [List.mem_singleton.mp hb]; exact np
    · rw [List.mem_singleton.mp hb]; exact s3p
end
end G
set_option Elab.async false
set_option linter.all false
set_option maxRecDepth 100000
set_option maxHeartbeats 4000000
/-! G28: {k: v for ..}, the keys ints or texts, the values without lists; d.update(e) -/
namespace G
open PySem PySem.Spec PyProof.Rows L2
theorem putAll_snoc (acc : List Key × List D) : ∀ (l : List (Key × D)) (acc : List Key × List D) (x : Key × D), putAll acc (l ++ [x]) = putD (putAll acc l).1 (putAll acc l).2 x.1 x.2
  | [], _, _ => rfl
  | _ :: l, _, x => putAll_snoc acc l _ x
theorem putD_len (ks : List Key) (ds : List D) (k : Key) (y : D) : (putD ks ds k y).1.length ≤ ks.length + 1 := by
  unfold putD
  split <;> simp
theorem putAll_len : ∀ (l : List (Key × D)) (acc : List Key × List D), (putAll acc l).1.length ≤ acc.1.length + l.length
  | [], _ => by simp [putAll]
  | x :: l, acc => by
    have h1 := putAll_len l (putD acc.1 acc.2 x.1 x.2)
    have h2 := putD_len acc.1 acc.2 x.1 x.2
    simp only [putAll, List.length_cons]
    omega
theorem immL_updV : ∀ (ks : List Key) (ds : List D) (k : Key) (y : D), immL ds = true → imm y = true → immL (updV ks ds k y) = true
  | [], ds, _, _, h, _ => h
  | _ :: _, [], _, _, h, _ => h
  | k :: ks, d :: ds, x, y, h, hy => by
    simp only [immL, Bool.and_eq_true] at h
    simp only [updV, immL, Bool.and_eq_true]
    refine ⟨?_, immL_updV ks ds x y h.2 hy⟩
    split
    · exact hy
    · exact h.1
theorem immL_app : ∀ (a b : List D), immL (a ++ b) = (immL a && immL b)
  | [], b => by simp [immL]
  | x :: a, b => by simp only [List.cons_append, immL, immL_app a b, Bool.and_assoc]
theorem immL_putD {ks : List Key} {ds : List D} {k : Key} {y : D} (h : immL ds = true) (hy : imm y = true) : immL (putD ks ds k y).2 = true := by
  unfold putD
  split
  · exact immL_updV _ _ _ _ h hy
  · simp only [immL_app, h, immL, hy, Bool.and_self]
section
variable {X : Cx} {T : Tx} {io : List Bool} {a b c e e' o i tg iter kx vx : Expr} {ifs es : List Expr} {f fi fp fq fk fe : VEnv → Option (D × M)} {ft : VEnv → Option Bool} {pos p apos cpos : Pos} {x m : Str} {j l n cc : Nat}
/-- the pairs that a dict comprehension puts -/
def compD (g : D → VEnv → Option VEnv) (t : VEnv → Option Bool) (k e : VEnv → Option (D × M)) (ve : VEnv) : List D → Option (List (Key × D))
  | [] => some []
  | d :: ds => (g d ve).bind fun ve' => (t ve').bind fun b => if b = true then (k ve').bind fun y => (e ve').bind fun z => (isKey y.1).bind fun kk => if imm z.1 = true then (compD g t k e ve ds).bind fun r => some ((kk, z.1) :: r) else none else compD g t k e ve ds
def pCompD (vs : List Nat) (i : VEnv → Option (List D)) (g : D → VEnv → Option VEnv) (t : VEnv → Option Bool) (k e : VEnv → Option (D × M)) : VEnv → Option (D × M) := fun ve =>
  (i ve).bind fun ds => if ds.length ≤ lim then (compD g t k e (wipeV ve vs) ds).bind fun r => some (.dk (putAll ([], []) r).1 (putAll ([], []) r).2, .dp) else none
theorem compD_rd {i : VEnv → Option (List D)} {g : D → VEnv → Option VEnv} {wi : TI} {K : PySem.W.Frag} {vs : List Nat} (i2 : ∀ (σ : St) (s h : Hp) (ve : VEnv) (ds : List D) (R : It → Hp → Prop), At K T s h σ ve → i ve = some ds → (∀ J s' h', Gr T s h s' h' → ItOk K T J s' ds → R J h') → wi σ h R) :
    RdP K T (tDc wi (tG K T vs g) (tT K T ft) (tP K T fk) (tP K T fe) vs) (pCompD vs i g ft fk fe) := by
  intro σ s h ve d m Q A q w
  obtain ⟨ds, e1, q⟩ := Option.bind_eq_some_iff.mp q
  split at q
  · rename_i hlim
    obtain ⟨fin, e2, q⟩ := Option.bind_eq_some_iff.mp q
    cases q
    refine i2 σ s h ve ds _ A e1 fun J s1 h1 g1 IO => ?_
    intro Dd nD
    let St (i : Nat) (H : Hp) : Prop := i ≤ ds.length ∧ ∃ s' vals done rest, Gr T s1 h1 s' H ∧ H Dd = some (.dK ((putAll ([], []) done).1.zip vals)) ∧ s' Dd = none ∧ (putAll ([], []) done).1.length = vals.length ∧ SeesL K T s' vals (putAll ([], []) done).2 ∧ immL (putAll ([], []) done).2 = true ∧ done.length ≤ i ∧ compD g ft fk fe (wipeV ve vs) (ds.drop i) = some rest ∧ fin = done ++ rest
    refine ⟨fun i m H => m = ds.length - i ∧ St i H, ⟨ds.length, by simp, Nat.zero_le _, s1, [], [], fin, Gr.own g1.sub nD, upd_same, g1.sub.no _ nD, rfl, by simp [putAll, SeesL], rfl, by simp, e2, rfl⟩, ?_⟩
    rintro i m H ⟨rfl, hi, s', vals, done, rest, g2, eD, sD, hl, sl, il, dl, ec, ef⟩
    by_cases hlt : i < ds.length
    · refine .inr ⟨IO.go i H (g2.ss.trans g2.sub) hlt, St (i + 1), fun H' hN => ⟨ds.length - (i + 1), by omega, rfl, hN⟩, fun x H' hy => ?_⟩
      have A2 : At K T s' H σ ve := A.grow (g1.trans g2)
      obtain ⟨d, s3, ed, g3, rx⟩ := IO.yld i s' H x H' g2.ss g2.sub A2.tab hlt hy
      have hdr : ds.drop i = d :: ds.drop (i + 1) := by
        obtain ⟨h0, h1'⟩ := List.getElem?_eq_some_iff.mp ed
        rw [← h1']
        exact (List.getElem_cons_drop h0).symm
      rw [hdr] at ec
      simp only [compD] at ec
      obtain ⟨ve', eg, ec⟩ := Option.bind_eq_some_iff.mp ec
      obtain ⟨b, et, ec⟩ := Option.bind_eq_some_iff.mp ec
      refine ⟨s3, d, wipeV ve vs, ve', ((A2.grow g3).wipe vs), rx, eg, fun σ' A3 kσ lσ => ⟨?_, s3, ve', b, A3, et, fun s4 H4 g4 => ?_⟩⟩
      · rw [wipe_same lσ kσ]
        exact wipe_same (by rw [wipe_length]) fun j hj => by rw [wipe_get, if_neg (fun z => hj z.1)]
      · have g34 := g3.trans g4
        have eD4 := g34.hh.at_ _ _ eD (by intro _ z; cases z)
        have sD4 : s4 Dd = none := grow_none g34 eD trivial sD
        cases b with
        | false =>
          simp only [Bool.false_eq_true, if_false] at ec ⊢
          exact ⟨by omega, s4, vals, done, rest, g2.trans g34, eD4, sD4, hl, sl.ext g34.ss _, il, by omega, ec, ef⟩
        | true =>
          simp only [if_true] at ec ⊢
          obtain ⟨kv, ek, ec⟩ := Option.bind_eq_some_iff.mp ec
          obtain ⟨zv, ez, ec⟩ := Option.bind_eq_some_iff.mp ec
          obtain ⟨kk, eky, ec⟩ := Option.bind_eq_some_iff.mp ec
          split at ec
          · rename_i hz
            obtain ⟨rs, er, ec⟩ := Option.bind_eq_some_iff.mp ec
            cases ec
            refine ⟨s4, ve', kv.1, kv.2, A3.grow g4, ek, fun y s5 H5 B5 G5 => ?_⟩
            obtain ⟨g5, r5⟩ := G5.seen
            refine ⟨_, ve', zv.1, zv.2, (A3.grow g4).grow g5, ez, fun z s6 H6 B6 G6 => ?_⟩
            obtain ⟨g6, r6⟩ := G6.seen
            have gA := (g34.trans g5).trans g6
            have eD6 := gA.hh.at_ _ _ eD (by intro _ z; cases z)
            have sD6 := grow_none gA eD trivial sD
            obtain ⟨vs', p1, p2, p3⟩ := putK_sees (k := kk) hl (sl.ext gA.ss _) r6
            have lz : ((putAll ([], []) done).1.zip vals).length < sizeLine := by
              rw [List.length_zip, ← hl, Nat.min_self, ← lim_eq]
              have := putAll_len done ([], [])
              simp at this
              omega
            refine ⟨_, kk, key_sees eky r5, eD6, lz, ?_⟩
            rw [p1]
            have pe : putAll ([], []) (done ++ [(kk, zv.1)]) = putD (putAll ([], []) done).1 (putAll ([], []) done).2 kk zv.1 := putAll_snoc ([], []) done ([], []) (kk, zv.1)
            refine ⟨by omega, _, vs', done ++ [(kk, zv.1)], rs, (g2.trans gA).put nD eD6 trivial sD6, by rw [pe]; exact upd_same, sD6, by rw [pe]; exact p2, by rw [pe]; exact p3, by rw [pe]; exact immL_putD il hz, by simp; omega, er, by rw [ef]; simp⟩
          · cases ec
    · have hie : i = ds.length := by omega
      subst hie
      refine .inl ⟨IO.stop _ H (g2.ss.trans g2.sub) (Nat.le_refl _), ?_⟩
      simp only [List.drop_length, compD] at ec
      cases ec
      rw [List.append_nil] at ef
      subst ef
      refine w _ s' H [Dd] ⟨g1.trans g2, ?_, by simp, fun b hb => ?_, fun b hb => ?_⟩
      · simp only [Rep, Deep]
        exact ⟨Dd, vals, [], rfl, eD, hl, rfl, SeesL.deep _ il (sl.ext g2.sub _)⟩
      · rw [List.mem_singleton.mp hb]; exact g1.non nD
      · rw [List.mem_singleton.mp hb]; exact sD
  · cases q
theorem jp_compD {scope : Scope} {own : List (Str × Nat)} {i : VEnv → Option (List D)} {g : D → VEnv → Option VEnv} (hc : X.calm = true) (hN : X.N.Nodup) (hi : JI T X tg iter i) (ok : BlkOk X.N X.env.scope scope own)
    (hg : ∀ (s : Shared) (H : Hp) (C : Addr) (cl : List (Str × Addr)) (fp : List Addr), JG T (X.blk s H scope (compEnvC scope cl C X.env) fp) tg (own.map (·.2)) g)
    (ht : ∀ (s : Shared) (H : Hp) (C : Addr) (cl : List (Str × Addr)) (fp : List Addr), JTs T (X.blk s H scope (compEnvC scope cl C X.env) fp) ifs ft)
    (hk : ∀ (s : Shared) (H : Hp) (C : Addr) (cl : List (Str × Addr)) (fp : List Addr), JP T (X.blk s H scope (compEnvC scope cl C X.env) fp) kx fk)
    (he : ∀ (s : Shared) (H : Hp) (C : Addr) (cl : List (Str × Addr)) (fp : List Addr), JP T (X.blk s H scope (compEnvC scope cl C X.env) fp) vx fe) (hs : ∀ x, foldedSetIterable iter X.env x = pure x := by intro _; rfl) :
    JP T X (.DictComp kx vx [⟨tg, iter, ifs, 0⟩] scope pos) (pCompD (own.map (·.2)) i g ft fk fe) := by
  obtain ⟨wi, i1, i2⟩ := hi
  exact ⟨_, pe_dc (g := tG X.K T (own.map fun (x : Str × Nat) => x.2) g) (tt := tT X.K T ft) (tk := tP X.K T fk) (tv := tP X.K T fe) (own := own) hc hN i1 ok hg ht (fun s H C cl fp => (hk s H C cl fp).pe) (fun s H C cl fp => (he s H C cl fp).pe) hs, compD_rd i2⟩
theorem immL_mem : ∀ {xs : List D} {x : D}, immL xs = true → x ∈ xs → imm x = true
  | [], _, _, h => by cases h
  | y :: xs, x, hi, h => by
    simp only [immL, Bool.and_eq_true] at hi
    rcases List.mem_cons.mp h with rfl | h
    · exact hi.1
    · exact immL_mem hi.2 h
/-! ### d.update(e), all of it without lists -/
def gUpdate : Mf := fun x ds => match x.1, x.2, ds with
  | .dk ks vs, .dp, [(.dk ks2 vs2, .dp)] => if immL vs = true ∧ immL vs2 = true ∧ ks.length + ks2.length ≤ lim then some ((.non, .dp), (.dk (putAll (ks, vs) (ks2.zip vs2)).1 (putAll (ks, vs) (ks2.zip vs2)).2, .dp)) else none
  | _, _, _ => none
theorem mt_updateK : MtM X "dict.update" (fun x xs H Q => ∃ d e kvs more, x = .ref d ∧ xs = [.ref e] ∧ d ≠ e ∧ H d = some (.dK kvs) ∧ Rd H e (.dK more) ∧ kvs.length + more.length ≤ sizeLine ∧ Q .non (upd H d (.dK (mergeK kvs more)))) := by
  intro pins s σ H x xs v us Q I rx rxs ⟨d, e, kvs, more, ex, exs, ne, hd, he, hz, q⟩
  subst ex exs
  cases (show v = Value.ref d from rx)
  obtain ⟨u, rfl, ru⟩ := vals1 rxs
  cases (show u = Value.ref e from ru)
  obtain ⟨z1, lo1, vs1, rel1, dd1⟩ := dk_of I.hok hd
  obtain ⟨z2, lo2, vs2, rel2, dd2⟩ := dk_rd I.hok he
  refine call_meetsIn PySem.F.slot_dict_update dd1.typeIs PySem.F.entry_dict_update (PySem.F.args_dict_update_2 _ _) (meets_dict_update (mixKind X.prog X.w) d e ne lo2) ⟨vs1, vs2, dd1, dd2, by rw [← rel1.length, ← rel2.length]; exact hz, fun h' m1 m2 sb => ?_⟩
  have hl : (mergeK kvs more).length ≤ sizeLine := Nat.le_trans (length_mergeK more kvs) hz
  exact ⟨.non, _, d_write I (by rw [hd]; exact True.intro) sb (let ⟨o, _, _, ho, _⟩ := m1; ⟨o, ho⟩) (dk_new hl lo1 (KV.merge rel2 rel1) m1), rfl, q⟩
theorem om_update : OMut T X "dict.update" gUpdate := by
  refine ⟨_, mt_updateK, fun s h A σ v vs x ds env s1 h1 A1 B y z Q g q w => ?_⟩
  obtain ⟨dx, mx⟩ := x
  have hh := g.hd
  unfold gUpdate at q
  dsimp only at q
  split at q
  · rename_i ks xs ks2 xs2
    split at q
    · rename_i hc
      obtain ⟨i1, i2, hlim⟩ := hc
      cases q
      obtain ⟨v', q', B0, B1, e0, rfl, r0, r1⟩ := g.rp
      cases e0
      obtain ⟨v2, q2, B2, B3, e0, rfl, r2, r3⟩ := r1
      cases e0
      obtain ⟨rfl, rfl⟩ := r3
      simp only [Rep, Deep] at r0 r2
      obtain ⟨p, ws, C, rfl, e2, hl, rfl, e3⟩ := r0
      obtain ⟨p2, ws2, C2, rfl, f2, hl2, rfl, f3⟩ := r2
      have c0 := DeepL.nil _ i1 e3
      have c1 := DeepL.nil _ i2 f3
      subst c0 c1
      have nd : ([p] ++ ([p2] ++ [])).Nodup := (List.nodup_append.mp hh.nd).2.1
      have ne : p ≠ p2 := by
        simp at nd
        exact nd
      obtain ⟨ws', m1, m2, m3⟩ := merge_sees (kvs := ks2.zip xs2) (ws := ws2) hl (DeepL.sees _ e3) (by
        have : (ks2.zip xs2).map (·.2) = xs2 := List.map_snd_zip (by rw [← SeesL.len _ (DeepL.sees _ f3), hl2]; exact Nat.le_refl _)
        rw [this]
        exact DeepL.sees _ f3)
      have k2 : ((ks2.zip xs2).map (·.1)) = ks2 := List.map_fst_zip (by rw [← SeesL.len _ (DeepL.sees _ f3), hl2]; exact Nat.le_refl _)
      rw [k2] at m1
      refine ⟨p, p2, _, _, rfl, rfl, ne, e2, .inl f2, by rw [List.length_zip, List.length_zip, ← hl, ← hl2, Nat.min_self, Nat.min_self, ← lim_eq]; exact hlim, ?_⟩
      rw [m1]
      have il : immL (putAll (ks, xs) (ks2.zip xs2)).2 = true := by
        have : ∀ (l : List (Key × D)) (acc : List Key × List D), immL acc.2 = true → (∀ x ∈ l, imm x.2 = true) → immL (putAll acc l).2 = true := by
          intro l
          induction l with
          | nil => exact fun _ h _ => h
          | cons x l ih => exact fun acc h hm => ih _ (immL_putD h (hm x List.mem_cons_self)) fun y hy => hm y (List.mem_cons_of_mem _ hy)
        refine this _ _ i1 fun x hx => ?_
        have hx2 : x.2 ∈ xs2 := (List.of_mem_zip hx).2
        exact immL_mem i2 hx2
      have H2 := hh.change (o' := .dK ((putAll (ks, xs) (ks2.zip xs2)).1.zip ws')) (S := []) (B' := [p]) (by simp) e2 trivial trivial (by simp) (by simp) (by simp) (by simp) (by simp)
      refine w .non _ _ [p] (H2.got (RepL.non2 ?_))
      simp only [Rep, Deep]
      refine ⟨p, ws', [], rfl, upd_same, m2, rfl, ?_⟩
      exact (SeesL.deep _ il m3).put e2 trivial (by simp)
    · cases q
  · cases q
def isDk : Option (Option (D × M)) → Bool
  | some (some (.dk _ _, .dp)) => true
  | _ => false
def eMutD (j : Nat) (g : Mf) (k : Env' → Option (List (D × M) × Env')) : Env' → Option (D × M × Env') := fun env => if isDk env[j]? then (k env).bind (eOn j g) else none
theorem slot_dk {K : PySem.W.Frag} {s h : Hp} {σ : St} {env : Env'} {A : List Addr} {j : Nat} (o : Own K T s h σ env A) (e : isDk env[j]? = true) : ∃ p kvs, σ[j]? = some (some (.ref p)) ∧ h p = some (.dK kvs) := by
  unfold isDk at e
  split at e
  · rename_i ks vs ex
    obtain ⟨v, B, e1, e2, _⟩ := o.er.get ex
    simp only [Rep, Deep] at e2
    obtain ⟨p, ws, C, rfl, e3, _⟩ := e2
    exact ⟨p, _, e1, e3⟩
  · cases e
variable {name : Str} {id : String} {g : Mf} {ka : Env' → Option (List (D × M) × Env')}
theorem je_mutD (slot : Slot "dict" name id) (hty : typeOf (.builtin id) = pure (.type "method_descriptor")) (om : OMut T X id g) (hN : X.N[j]? = some x) (ha : JAE T X (e :: es) ka) (hv : Vis X.env.scope x := by first | exact Or.inl rfl | exact Or.inr (Or.inl rfl) | exact Or.inr (Or.inr rfl)) (hd : (x == ("__debug__" : Str)) = false := by decide) (hcd : (x == ("__classdict__" : Str)) = false := by decide)
    (hbase : attributeBase (.Name x p) name X.env (eval (.Name x p) X.env) = eval (.Name x p) X.env := by rfl)
    (hfew : ((backTo cpos (starEach (e :: es) X.env)).all (fun x => !x.1) && (backToKw cpos (keywordEach [] X.env)).all (fun x => x.1.isSome)
      && decide ((e :: es).length + ([] : List Keyword).length + (if ([] : List Keyword).isEmpty then 0 else 1) < 30)) = true := by rfl)
    (hline : (apos.endLine == cpos.line) = true := by rfl) (hs : starEach (e :: es) X.env = (false, eval e X.env) :: starEach es X.env := by rfl) (hplain : (backTo cpos (starEach es X.env)).any (·.1) = false := by rfl) :
    JE T X (.Call (.Attribute (.Name x p) name apos) (e :: es) [] cpos) (eMutD j g ka) := by
  obtain ⟨r, o1, o2⟩ := om
  refine je_mk (pe_bm PySem.F.plainAttrs_dict slot hty o1 (pe_var hN hv hd hcd) ha hbase hfew hline hs hplain) fun σ h Q ⟨s, env, A, d, m, env', o, q, w⟩ => ?_
  unfold eMutD at q
  split at q
  · rename_i hl
    obtain ⟨⟨ds, env1⟩, e1, q⟩ := Option.bind_eq_some_iff.mp q
    obtain ⟨p0, kvs, eσ, ew⟩ := slot_dk o hl
    refine ⟨.ref p0, eσ, ?_, s, env, A, ds, env1, o, e1, fun vs s1 h1 A1 B1 g1 => ?_⟩
    · exact .inr (.inr (.inl ⟨rfl, .inl ⟨kvs, ew⟩⟩))
    · obtain ⟨v, eσ', rr⟩ := eOn_go o2 g1 q w
      rw [eσ] at eσ'
      cases eσ'
      exact rr
  · cases q
end
end G
set_option Elab.async false
set_option linter.all false
set_option maxRecDepth 100000
set_option maxHeartbeats 4000000
/-! G29: [.. for k in d ..], d a dict -/
namespace G
open PySem PySem.Spec PyProof.Rows L2
/-- a dict -/
def Dct : HO → Prop
  | .dK _ => True
  | .dT _ => True
  | _ => False
section
variable {K : PySem.W.Frag} {T : Tx} {s : Hp} {p : Addr} {u : HO} {od : Obj}
theorem rd_lock {q : Addr} {o : HO} (e : s p = some u) (du : Dct u) (r : Rd s q o) : Rd (upd s p (.frz od u)) q o := by
  by_cases h : q = p
  · subst h
    rcases r with r | ⟨ob, r⟩
    · rw [e] at r
      cases r
      exact .inr ⟨od, upd_same⟩
    · rw [e] at r
      cases r
      exact du.elim
  · rcases r with r | ⟨ob, r⟩
    · exact .inl (by rw [upd_ne h]; exact r)
    · exact .inr ⟨ob, by rw [upd_ne h]; exact r⟩
theorem rd_free {q : Addr} {o : HO} (e : s p = some (.frz od u)) (nf : ∀ od2 u2, u ≠ .frz od2 u2) (no : ∀ od2 u2, o ≠ .frz od2 u2) (r : Rd s q o) : Rd (upd s p u) q o := by
  by_cases h : q = p
  · subst h
    rcases r with r | ⟨ob, r⟩
    · rw [e] at r
      cases r
      exact absurd rfl (no _ _)
    · rw [e] at r
      cases r
      exact .inl upd_same
  · rcases r with r | ⟨ob, r⟩
    · exact .inl (by rw [upd_ne h]; exact r)
    · exact .inr ⟨ob, by rw [upd_ne h]; exact r⟩
mutual
theorem Sees.re {s s' : Hp} (rd : ∀ q o, (∀ od2 u2, o ≠ .frz od2 u2) → Rd s q o → Rd s' q o) (at_ : ∀ q o, ¬ Dct o → (∀ od2 u2, o ≠ .frz od2 u2) → s q = some o → s' q = some o) : ∀ {v : V} (d : D), Sees K T s v d → Sees K T s' v d
  | _, .non, r => by simpa only [Sees] using r
  | _, .bl _, r => by simpa only [Sees] using r
  | _, .int _, r => by simpa only [Sees] using r
  | _, .str _, r => by simpa only [Sees] using r
  | _, .lst ds, r => by
    simp only [Sees] at r ⊢
    obtain ⟨p, vs, e1, e2, e3⟩ := r
    exact ⟨p, vs, e1, at_ _ _ (fun z => z) (by intro _ _ z; cases z) e2, SeesL.re rd at_ ds e3⟩
  | _, .tup ds, r => by
    simp only [Sees] at r ⊢
    obtain ⟨p, vs, e1, e2, e3⟩ := r
    exact ⟨p, vs, e1, at_ _ _ (fun z => z) (by intro _ _ z; cases z) e2, SeesL.re rd at_ ds e3⟩
  | _, .dk ks ds, r => by
    simp only [Sees] at r ⊢
    obtain ⟨p, vs, e1, e2, e3, e4⟩ := r
    exact ⟨p, vs, e1, rd _ _ (by intro _ _ z; cases z) e2, e3, SeesL.re rd at_ ds e4⟩
  | _, .dt ks ds, r => by
    simp only [Sees] at r ⊢
    obtain ⟨p, vs, e1, e2, e3, e4⟩ := r
    exact ⟨p, vs, e1, rd _ _ (by intro _ _ z; cases z) e2, e3, SeesL.re rd at_ ds e4⟩
  | _, .ins c ds, r => by
    simp only [Sees] at r ⊢
    obtain ⟨p, dx, vs, e1, e2, e3, e4⟩ := r
    exact ⟨p, dx, vs, e1, at_ _ _ (fun z => z) (by intro _ _ z; cases z) e2, e3, SeesL.re rd at_ ds e4⟩
  | _, .scr ns, r => by
    simp only [Sees] at r ⊢
    obtain ⟨p, e1, e2⟩ := r
    refine ⟨p, e1, ?_⟩
    rcases e2 with e2 | e2
    · exact .inl (rd _ _ (by intro _ _ z; cases z) e2)
    · exact .inr e2
theorem SeesL.re {s s' : Hp} (rd : ∀ q o, (∀ od2 u2, o ≠ .frz od2 u2) → Rd s q o → Rd s' q o) (at_ : ∀ q o, ¬ Dct o → (∀ od2 u2, o ≠ .frz od2 u2) → s q = some o → s' q = some o) : ∀ {vs : List V} (ds : List D), SeesL K T s vs ds → SeesL K T s' vs ds
  | _, [], r => by simpa only [SeesL] using r
  | _, d :: ds, r => by
    simp only [SeesL] at r ⊢
    obtain ⟨v, q, e1, e2, e3⟩ := r
    exact ⟨v, q, e1, Sees.re rd at_ d e2, SeesL.re rd at_ ds e3⟩
end
theorem Sees.lock (e : s p = some u) (du : Dct u) {v : V} (d : D) (r : Sees K T s v d) : Sees K T (upd s p (.frz od u)) v d :=
  Sees.re (fun q o _ r => rd_lock e du r) (fun q o nd _ eq => by
    by_cases h : q = p
    · subst h
      rw [e] at eq
      cases eq
      exact absurd du nd
    · rw [upd_ne h]; exact eq) d r
theorem dct_nf (du : Dct u) : ∀ od2 u2, u ≠ .frz od2 u2 := fun _ _ z => by subst z; exact du
theorem Sees.free (e : s p = some (.frz od u)) (du : Dct u) {v : V} (d : D) (r : Sees K T s v d) : Sees K T (upd s p u) v d :=
  Sees.re (fun q o no r => rd_free e (dct_nf du) no r) (fun q o nd nf eq => by
    by_cases h : q = p
    · subst h
      rw [e] at eq
      cases eq
      exact absurd rfl (nf _ _)
    · rw [upd_ne h]; exact eq) d r
theorem sub_up {s h : Hp} {o : HO} (g : Sub s h) (e : s p ≠ none) : Sub (upd s p o) (upd h p o) := by
  refine ⟨fun b q r n => ?_, fun b r => ?_⟩
  · by_cases hb : b = p
    · subst hb
      rw [upd_same] at r ⊢
      exact r
    · rw [upd_ne hb] at r ⊢
      exact g.at_ _ _ r n
  · by_cases hb : b = p
    · subst hb
      rw [upd_same] at r
      cases r
    · rw [upd_ne hb] at r ⊢
      exact g.no b r
/-- behind an expression that ran while the dict at p was locked -/
theorem Got.free {h s2 h2 : Hp} {v : V} {d : D} {m : M} {B : List Addr} (g0 : Sub s h) (e : s p = some u) (du : Dct u) (tb : Tabs T h) (g : Got K T (upd s p (.frz od u)) (upd h p (.frz od u)) v d m s2 h2 B) : h2 p = some (.frz od u) ∧ Got K T s h v d m (upd s2 p u) (upd h2 p u) B := by
  have nf := dct_nf du
  have nt : ∀ ps, u ≠ .tbl ps := fun ps z => by subst z; exact du
  have hp : h p = some u := g0.at_ _ _ e nt
  have e2 : s2 p = some (.frz od u) := g.gr.ss.at_ _ _ upd_same (by intro _ z; cases z)
  have f2 : h2 p = some (.frz od u) := g.gr.hh.at_ _ _ upd_same (by intro _ z; cases z)
  refine ⟨f2, ⟨⟨fun b q r n => ?_, fun b r => ?_⟩, ⟨fun b q r n => ?_, fun b r => ?_⟩, fun a ps r => ?_, sub_up g.gr.sub (by rw [e2]; simp), fun a n => ?_, fun tab => ?_⟩, ?_, g.fr.nd, fun b hb => ?_, fun b hb => ?_⟩
  · by_cases hb : b = p
    · subst hb
      rw [upd_same, ← r, e]
    · rw [upd_ne hb]
      exact g.gr.ss.at_ _ _ (by rw [upd_ne hb]; exact r) n
  · by_cases hb : b = p
    · subst hb
      rw [upd_same] at r
      cases r
    · rw [upd_ne hb] at r
      have := g.gr.ss.no b r
      rwa [upd_ne hb] at this
  · by_cases hb : b = p
    · subst hb
      rw [upd_same, ← r, hp]
    · rw [upd_ne hb]
      exact g.gr.hh.at_ _ _ (by rw [upd_ne hb]; exact r) n
  · by_cases hb : b = p
    · subst hb
      rw [upd_same] at r
      cases r
    · rw [upd_ne hb] at r
      have := g.gr.hh.no b r
      rwa [upd_ne hb] at this
  · have ha : a ≠ p := fun z => by
      subst z
      rw [hp] at r
      exact nt ps (Option.some.inj r)
    obtain ⟨more, q⟩ := g.gr.tbl a ps (by rw [upd_ne ha]; exact r)
    exact ⟨more, by rw [upd_ne ha]; exact q⟩
  · by_cases ha : a = p
    · subst ha
      exact .inl (by rw [e]; simp)
    · rw [upd_ne ha] at n
      rcases g.gr.new a n with z | z | ⟨xs, z⟩
      · rw [upd_ne ha] at z; exact .inl z
      · rw [upd_ne ha] at z; exact .inr (.inl z)
      · rw [upd_ne ha] at z; exact .inr (.inr ⟨xs, z⟩)
  · refine tabs_put (g.gr.tab (tabs_put tab hp nt fun φ z => by subst z; exact du)) f2 (by intro _ z; cases z) (by intro _ z; cases z)
  · have off : ∀ b ∈ B, b ≠ p := fun b hb z => by
      subst z
      have := g.fr.nw b hb
      rw [upd_same] at this
      cases this
    cases m with
    | sh =>
      obtain ⟨r1, r2⟩ := g.rep
      exact ⟨r1, Sees.free e2 du d r2⟩
    | dp => exact Deep.keep (fun a xs q => by rw [upd_ne (fun z => by subst z; rw [f2] at q; cases q)]; exact q) d g.rep fun b hb => upd_ne (off b hb)
    | o1 =>
      obtain ⟨p1, rfl, rfl, t⟩ := g.rep
      have ne : p1 ≠ p := off p1 (by simp)
      refine ⟨p1, rfl, rfl, ?_⟩
      have rds : ∀ q o, (∀ od2 u2, o ≠ .frz od2 u2) → Rd s2 q o → Rd (upd s2 p u) q o := fun q o no r => rd_free e2 nf no r
      have ats : ∀ q o, ¬ Dct o → (∀ od2 u2, o ≠ .frz od2 u2) → s2 q = some o → upd s2 p u q = some o := fun q o nd no eq => by
        by_cases hq : q = p
        · subst hq
          rw [e2] at eq
          cases eq
          exact absurd rfl (no _ _)
        · rw [upd_ne hq]; exact eq
      cases d with
      | lst ds =>
        obtain ⟨vs, q1, q2⟩ := t
        exact ⟨vs, (upd_ne ne).trans q1, SeesL.re rds ats ds q2⟩
      | dk ks ds =>
        obtain ⟨vs, q1, q3, q2⟩ := t
        exact ⟨vs, (upd_ne ne).trans q1, q3, SeesL.re rds ats ds q2⟩
      | dt ks ds =>
        obtain ⟨vs, q1, q3, q2⟩ := t
        exact ⟨vs, (upd_ne ne).trans q1, q3, SeesL.re rds ats ds q2⟩
      | ins c ds =>
        obtain ⟨dx, vs, q1, q3, q2⟩ := t
        exact ⟨dx, vs, (upd_ne ne).trans q1, q3, SeesL.re rds ats ds q2⟩
      | _ => exact t.elim
  · have hne : b ≠ p := fun z => by
      subst z
      have := g.fr.nw b hb
      rw [upd_same] at this
      cases this
    have := g.fr.nw b hb
    rwa [upd_ne hne] at this
  · have hne : b ≠ p := fun z => by
      subst z
      have := g.fr.nw b hb
      rw [upd_same] at this
      cases this
    rw [upd_ne hne]
    exact g.fr.ns b hb
end
section
variable {X : Cx} {T : Tx} {a b c e e' o i tg iter elt : Expr} {ifs es : List Expr} {f fi fp fq fk fe : VEnv → Option (D × M)} {ft : VEnv → Option Bool} {pos p apos cpos : Pos} {x m : Str} {j l n cc : Nat}
/-- one of two readings -/
theorem pe_either {t1 t2 : TE} (h1 : PE X e t1) (h2 : PE X e t2) : PE X e (fun σ H Q => t1 σ H Q ∨ t2 σ H Q) := ⟨fun pins s σ H Q I h => h.elim (h1.run pins s σ H Q I) (h2.run pins s σ H Q I)⟩
/-- the keys of a dict that a name holds -/
def iKeysV (j : Nat) : VEnv → Option (List D) := fun ve => match ve[j]? with
  | some (some (.dk ks _)) => some (ks.map keyD)
  | some (some (.dt ks _)) => some (ks.map keyTD)
  | _ => none
theorem itOk_keys {K : PySem.W.Frag} {s0 : Hp} {d : Addr} {od : Obj} {ks : List Key} {vs : List V} (hl : ks.length = vs.length) (e : s0 d = some (.frz od (.dK (ks.zip vs)))) : ItOk K T (Itk d od (ks.zip vs)) s0 (ks.map keyD) := by
  have ln : (ks.zip vs).length = (ks.map keyD).length := by simp [hl]
  have up : ∀ h, Sub s0 h → h d = some (.frz od (.dK (ks.zip vs))) := fun h u => u.at_ _ _ e (by intro _ z; cases z)
  refine ⟨fun i h u hi => ⟨up h u, by rw [ln]; exact hi⟩, fun i h u hi => ⟨up h u, by rw [ln]; exact hi⟩, fun i s h x h' u u' tb hi y => ?_⟩
  obtain ⟨rfl, k, v, ek, rfl⟩ := y
  have e1 : ks[i]? = some k := by
    have := List.getElem?_zip_eq_some.mp ek
    exact this.1
  refine ⟨keyD k, s, by rw [List.getElem?_map, e1]; rfl, Gr.refl u', ?_⟩
  cases k <;> simp [keyD, kV, Sees]
theorem itOk_keysT {K : PySem.W.Frag} {s0 : Hp} {d : Addr} {od : Obj} {ks : List (List Key)} {vs : List V} (hl : ks.length = vs.length) (e : s0 d = some (.frz od (.dT (ks.zip vs)))) : ItOk K T (Itkt d od (ks.zip vs)) s0 (ks.map keyTD) := by
  have ln : (ks.zip vs).length = (ks.map keyTD).length := by simp [hl]
  have up : ∀ h, Sub s0 h → h d = some (.frz od (.dT (ks.zip vs))) := fun h u => u.at_ _ _ e (by intro _ z; cases z)
  refine ⟨fun i h u hi => ⟨up h u, by rw [ln]; exact hi⟩, fun i h u hi => ⟨up h u, by rw [ln]; exact hi⟩, fun i s h x h' u u' tb hi y => ?_⟩
  obtain ⟨rfl, k, v, q, ek, rfl, eq⟩ := y
  have e1 : ks[i]? = some k := by
    have := List.getElem?_zip_eq_some.mp ek
    exact this.1
  exact ⟨keyTD k, shr s h' [], by rw [List.getElem?_map, e1]; rfl, Gr.tups u', keyT_sees (shr_tup eq)⟩
theorem jp_compK {scope : Scope} {own : List (Str × Nat)} {g : D → VEnv → Option VEnv} (hc : X.calm = true) (hN : X.N.Nodup) (hj : X.N[j]? = some x) (ok : BlkOk X.N X.env.scope scope own)
    (hg : ∀ (s : Shared) (H : Hp) (C : Addr) (cl : List (Str × Addr)) (fp : List Addr), JG T (X.blk s H scope (compEnvC scope cl C X.env) fp) tg (own.map (·.2)) g)
    (ht : ∀ (s : Shared) (H : Hp) (C : Addr) (cl : List (Str × Addr)) (fp : List Addr), JTs T (X.blk s H scope (compEnvC scope cl C X.env) fp) ifs ft)
    (he : ∀ (s : Shared) (H : Hp) (C : Addr) (cl : List (Str × Addr)) (fp : List Addr), JP T (X.blk s H scope (compEnvC scope cl C X.env) fp) elt f) (hs : ∀ y, foldedSetIterable (.Name x p) X.env y = pure y := by intro _; rfl)
    (hv : Vis X.env.scope x := by first | exact Or.inl rfl | exact Or.inr (Or.inl rfl) | exact Or.inr (Or.inr rfl)) (hd : (x == ("__debug__" : Str)) = false := by decide) (hcd : (x == ("__classdict__" : Str)) = false := by decide) :
    JP T X (.ListComp elt [⟨tg, .Name x p, ifs, 0⟩] scope pos) (pComp (own.map (·.2)) (iKeysV j) g ft f) := by
  have base := pe_lc (X := X) (pos := pos) (g := tG X.K T (own.map fun (x : Str × Nat) => x.2) g) (tt := tT X.K T ft) (te := tP X.K T f) (own := own) hc hN (pi_keys (tg := tg) (pe_var (pos := p) hj hv hd hcd)) ok hg ht (fun s H C cl fp => (he s H C cl fp).pe) hs
  refine ⟨_, pe_either (pe_lock base) base, fun σ s h ve d m Q A q w => ?_⟩
  -- the dict
  have hi : ∃ ds, iKeysV j ve = some ds := by
    unfold pComp at q
    obtain ⟨ds, e1, _⟩ := Option.bind_eq_some_iff.mp q
    exact ⟨ds, e1⟩
  obtain ⟨ds0, ei⟩ := hi
  unfold iKeysV at ei
  split at ei
  · rename_i ks vs0 ej
    cases ei
    obtain ⟨v, ev, rv⟩ := A.ok j _ ej
    have rv' := rv
    simp only [Sees] at rv'
    obtain ⟨d0, vs, rfl, rd, hl, _⟩ := rv'
    have ii : ∀ (s1 h1 : Hp) (od : Obj), Sub s1 h1 → s1 d0 = some (.frz od (.dK (ks.zip vs))) → ∀ (ds : List D) (R : It → Hp → Prop), iKeysV j ve = some ds → (∀ J s' h', Gr T s1 h1 s' h' → ItOk X.K T J s' ds → R J h') → iKeys (tVar j) σ h1 R := fun s1 h1 od u1 e1 ds R eds hR => by
      have : ds = ks.map keyD := by
        unfold iKeysV at eds
        rw [ej] at eds
        exact (Option.some.inj eds).symm
      subst this
      exact ⟨_, ev, d0, od, rfl, .inl ⟨_, u1.at_ _ _ e1 (by intro _ z; cases z), hR _ s1 h1 (Gr.refl u1) (itOk_keys hl e1)⟩⟩
    rcases rd with rd | ⟨od, rd⟩
    · refine .inl ⟨d0, _, A.sub.at_ _ _ rd (by intro _ z; cases z), trivial, fun od => ?_⟩
      have hd0 : h d0 = some (.dK (ks.zip vs)) := A.sub.at_ _ _ rd (by intro _ z; cases z)
      have A2 : At X.K T (upd s d0 (.frz od (.dK (ks.zip vs)))) (upd h d0 (.frz od (.dK (ks.zip vs)))) σ ve := ⟨sub_up A.sub (by rw [rd]; simp), tabs_put A.tab hd0 (by intro _ z; cases z) (by intro _ z; cases z), fun i dd e1 => by
        obtain ⟨v, f1, f2⟩ := A.ok i dd e1
        exact ⟨v, f1, Sees.lock rd trivial dd f2⟩, A.len⟩
      refine comp_at (ii _ _ od A2.sub upd_same) A2 q fun v s2 h2 B g2 => ?_
      obtain ⟨f2, g3⟩ := Got.free A.sub rd trivial A.tab g2
      exact ⟨f2, w v _ _ B g3⟩
    · exact .inr (comp_at (ii s h od A.sub rd) A q w)
  · rename_i ks vs0 ej
    cases ei
    obtain ⟨v, ev, rv⟩ := A.ok j _ ej
    have rv' := rv
    simp only [Sees] at rv'
    obtain ⟨d0, vs, rfl, rd, hl, _⟩ := rv'
    have ii : ∀ (s1 h1 : Hp) (od : Obj), Sub s1 h1 → s1 d0 = some (.frz od (.dT (ks.zip vs))) → ∀ (ds : List D) (R : It → Hp → Prop), iKeysV j ve = some ds → (∀ J s' h', Gr T s1 h1 s' h' → ItOk X.K T J s' ds → R J h') → iKeys (tVar j) σ h1 R := fun s1 h1 od u1 e1 ds R eds hR => by
      have : ds = ks.map keyTD := by
        unfold iKeysV at eds
        rw [ej] at eds
        exact (Option.some.inj eds).symm
      subst this
      exact ⟨_, ev, d0, od, rfl, .inr ⟨_, u1.at_ _ _ e1 (by intro _ z; cases z), hR _ s1 h1 (Gr.refl u1) (itOk_keysT hl e1)⟩⟩
    rcases rd with rd | ⟨od, rd⟩
    · refine .inl ⟨d0, _, A.sub.at_ _ _ rd (by intro _ z; cases z), trivial, fun od => ?_⟩
      have hd0 : h d0 = some (.dT (ks.zip vs)) := A.sub.at_ _ _ rd (by intro _ z; cases z)
      have A2 : At X.K T (upd s d0 (.frz od (.dT (ks.zip vs)))) (upd h d0 (.frz od (.dT (ks.zip vs)))) σ ve := ⟨sub_up A.sub (by rw [rd]; simp), tabs_put A.tab hd0 (by intro _ z; cases z) (by intro _ z; cases z), fun i dd e1 => by
        obtain ⟨v, f1, f2⟩ := A.ok i dd e1
        exact ⟨v, f1, Sees.lock rd trivial dd f2⟩, A.len⟩
      refine comp_at (ii _ _ od A2.sub upd_same) A2 q fun v s2 h2 B g2 => ?_
      obtain ⟨f2, g3⟩ := Got.free A.sub rd trivial A.tab g2
      exact ⟨f2, w v _ _ B g3⟩
    · exact .inr (comp_at (ii s h od A.sub rd) A q w)
  · cases ei
end
end G
set_option Elab.async false
set_option linter.all false
set_option maxRecDepth 100000
set_option maxHeartbeats 4000000
/-! G30: a and b, a or b as values, the parts changing something -/
namespace G
open PySem PySem.Spec PyProof.Rows L2
section
variable {X : Cx} {T : Tx} {a b : Expr} {rest : List Expr} {f k : Env' → Option (D × M × Env')} {pos : Pos}
theorem je_one {op : BoolOp} (h : JE T X a f) : JE T X (.BoolOp op [a] pos) f := pe_one h
def eAnd (f k : Env' → Option (D × M × Env')) : Env' → Option (D × M × Env') := fun env => (f env).bind fun x => (tru x.1).bind fun z => if z = true then k x.2.2 else some x
def eOr (f k : Env' → Option (D × M × Env')) : Env' → Option (D × M × Env') := fun env => (f env).bind fun x => (tru x.1).bind fun z => if z = true then some x else k x.2.2
theorem je_and (ha : JE T X a f) (hb : JE T X (.BoolOp .And (b :: rest) pos) k) : JE T X (.BoolOp .And (a :: b :: rest) pos) (eAnd f k) := by
  refine je_mk (pe_andT ha hb) fun σ h Q ⟨s, env, A, d, m, env', o, q, w⟩ => ?_
  obtain ⟨⟨d1, m1, env1⟩, e1, q⟩ := Option.bind_eq_some_iff.mp q
  obtain ⟨z, e2, q⟩ := Option.bind_eq_some_iff.mp q
  refine ⟨s, env, A, d1, m1, env1, o, e1, fun v s1 h1 A1 B1 g1 => ?_⟩
  obtain ⟨g2, r2⟩ := g1.seen
  refine ⟨z, tru_go g2.own.sub r2 e2, ?_⟩
  cases z with
  | true =>
    simp only [if_true] at q ⊢
    exact ⟨_, env1, A1, d, m, env', g2.own, q, fun v s2 h2 A2 B2 g3 => w v s2 h2 A2 B2 (GotE.pre g2 g3)⟩
  | false =>
    simp only [Bool.false_eq_true, if_false] at q ⊢
    cases q
    exact w v s1 h1 A1 B1 g1
theorem je_or (ha : JE T X a f) (hb : JE T X (.BoolOp .Or (b :: rest) pos) k) : JE T X (.BoolOp .Or (a :: b :: rest) pos) (eOr f k) := by
  refine je_mk (pe_orT ha hb) fun σ h Q ⟨s, env, A, d, m, env', o, q, w⟩ => ?_
  obtain ⟨⟨d1, m1, env1⟩, e1, q⟩ := Option.bind_eq_some_iff.mp q
  obtain ⟨z, e2, q⟩ := Option.bind_eq_some_iff.mp q
  refine ⟨s, env, A, d1, m1, env1, o, e1, fun v s1 h1 A1 B1 g1 => ?_⟩
  obtain ⟨g2, r2⟩ := g1.seen
  refine ⟨z, tru_go g2.own.sub r2 e2, ?_⟩
  cases z with
  | true =>
    simp only [if_true] at q ⊢
    cases q
    exact w v s1 h1 A1 B1 g1
  | false =>
    simp only [Bool.false_eq_true, if_false] at q ⊢
    exact ⟨_, env1, A1, d, m, env', g2.own, q, fun v s2 h2 A2 B2 g3 => w v s2 h2 A2 B2 (GotE.pre g2 g3)⟩
end
end G
set_option Elab.async false
set_option linter.all false
set_option maxRecDepth 100000
set_option maxHeartbeats 4000000
/-! G31: runs put together step by step -/
namespace G
open PySem L2
section
variable {f k : VEnv → Option (D × M)} {ft kt : VEnv → Option Bool} {ka : VEnv → Option (List (D × M))} {ve : VEnv} {d d1 d2 : D} {m m1 m2 : M} {ds ps : List (D × M)} {x y : D × M} {b : Bool} {env e1 e2 : Env'} {n i j : Nat} {run : Fi} {io : List Bool} {fe : Env' → Option (D × M × Env')} {te : Env' → Option (Bool × Env')} {sa sb : Sf}
theorem eB_dp (h : f (vw env) = some (d, .dp)) : eB f env = some (d, .dp, env) := by
  unfold eB eV
  rw [h]
  rfl
theorem sRet_of (h : fe env = some (d, m, e1)) : sRet fe env = some (.rt d m, e1) := by
  unfold sRet
  rw [h]
  rfl
theorem sSet_nx (h : fe env = some (d, m, e1)) (q : putS io i (d, m) e1 = some e2) : sSet io i fe env = some (.nx, e2) := by
  unfold sSet
  rw [h]
  show (putS io i (d, m) e1).bind _ = _
  rw [q]
  rfl
theorem sAsg_nx {g : D × M → Env' → Option Env'} (h : fe env = some (d, m, e1)) (q : g (d, m) e1 = some e2) : sAsg fe g env = some (.nx, e2) := by
  unfold sAsg
  rw [h]
  show (g (d, m) e1).bind _ = _
  rw [q]
  rfl
theorem sExpr_nx (h : fe env = some (d, m, e1)) : sExpr fe env = some (.nx, e1) := by
  unfold sExpr
  rw [h]
  rfl
theorem tV_of (h : ft (vw env) = some b) : tV ft env = some (b, env) := by
  unfold tV
  rw [h]
  rfl
theorem tOf_of (h : f ve = some (.bl b, m)) : tOf f ve = some b := by
  unfold tOf
  rw [h]
  rfl
theorem bNot_of (h : ft ve = some b) : bNot ft ve = some (!b) := by
  unfold bNot
  rw [h]
  rfl
theorem bTru_of (h : f ve = some (.bl b, m)) : bTru f ve = some b := by
  unfold bTru
  rw [h]
  rfl
theorem bOr_f (h : ft ve = some false) : bOr ft kt ve = kt ve := by
  unfold bOr
  rw [h]
  rfl
theorem bOr_t (h : ft ve = some true) : bOr ft kt ve = some true := by
  unfold bOr
  rw [h]
  rfl
theorem bAnd_t (h : ft ve = some true) : bAnd ft kt ve = kt ve := by
  unfold bAnd
  rw [h]
  rfl
theorem bAnd_f (h : ft ve = some false) : bAnd ft kt ve = some false := by
  unfold bAnd
  rw [h]
  rfl
theorem p1_of {g : D → Option (D × M)} (h : f ve = some (d, m)) : p1 g f ve = g d := by
  unfold p1
  rw [h]
  rfl
theorem p2_of {g : D → D → Option (D × M)} (h1 : f ve = some (d1, m1)) (h2 : k ve = some (d2, m2)) : p2 g f k ve = g d1 d2 := by
  unfold p2
  rw [h1, h2]
  rfl
theorem pVar_of (h : ve[i]? = some (some d)) : pVar i ve = some (d, im d) := by
  unfold pVar
  rw [h]
theorem aCons_of (h1 : f ve = some x) (h2 : ka ve = some ds) : aCons f ka ve = some (x :: ds) := by
  unfold aCons
  rw [h1, h2]
  rfl
theorem pCB_of {g : List D → Option (D × M)} (h : ka ve = some ds) : pCB g ka ve = g (ds.map (·.1)) := by
  unfold pCB
  rw [h]
  rfl
theorem pCalG_of (h1 : ka ve = some ds) (h2 : ds.length = n) (h3 : run (rdL ds) = some (d, m, ps)) : pCalG n run ka ve = some (d, m) := by
  unfold pCalG
  rw [h1]
  show (if ds.length = n then _ else _) = _
  rw [if_pos h2, h3]
  rfl
theorem pCallK_of {nk : Nat} {perm : List Nat} (h1 : ka ve = some ds) (h2 : ds.length = nk ∧ (permL perm ds).length = n) (h3 : run (rdL (permL perm ds)) = some (d, m, ps)) : pCallK n nk perm run ka ve = some (d, m) := by
  unfold pCallK
  rw [h1]
  show (if ds.length = nk ∧ (permL perm ds).length = n then _ else _) = _
  rw [if_pos h2, h3]
  rfl
theorem pAnd_t (h : f ve = some (.bl true, m)) : pAnd f k ve = k ve := by
  unfold pAnd
  rw [h]
  rfl
theorem pAnd_f (h : f ve = some (.bl false, m)) : pAnd f k ve = some (.bl false, m) := by
  unfold pAnd
  rw [h]
  rfl
theorem pOr_t (h : f ve = some (.bl true, m)) : pOr f k ve = some (.bl true, m) := by
  unfold pOr
  rw [h]
  rfl
theorem pOr_f (h : f ve = some (.bl false, m)) : pOr f k ve = k ve := by
  unfold pOr
  rw [h]
  rfl
theorem putS_ok (h : io[i]? ≠ some true) (hl : i < env.length) : putS io i x env = some (env.set i (some x)) := by
  unfold putS
  rw [if_neg h, if_pos hl]
end
end G
set_option Elab.async false
set_option linter.all false
set_option maxRecDepth 100000
set_option maxHeartbeats 4000000
/-! G32: d.get(k, e) where what the dict holds is its own: from then on it holds shared things -/
namespace G
open PySem PySem.Spec PyProof.Rows L2
section
variable {X : Cx} {T : Tx} {e e' : Expr} {fk fe : VEnv → Option (D × M)} {pos p apos cpos : Pos} {x : Str} {j : Nat}
/-- an own dict holds shared things from now on -/
def loosen (j : Nat) (env : Env') : Option Env' := match env[j]? with
  | some (some (.dt ks vs, .dp)) => some (env.set j (some (.dt ks vs, .o1)))
  | some (some (.dk ks vs, .dp)) => some (env.set j (some (.dk ks vs, .o1)))
  | _ => none
theorem upd_self {h : Hp} {p : Addr} {o : HO} (e : h p = some o) : upd h p o = h := by
  funext q
  by_cases hq : q = p
  · subst hq
    rw [upd_same, e]
  · rw [upd_ne hq]
theorem Go.loosen {K : PySem.W.Frag} {s h s1 h1 : Hp} {A A1 : List Addr} {σ : St} {env env' : Env'} {j : Nat} (g : Go K T s h A σ env s1 h1 A1) (e : G.loosen j env = some env') : ∃ s2 A2, Go K T s h A σ env' s2 h1 A2 := by
  have fin : ∀ {s2 h2 : Hp} {env : Env'} {A1 : List Addr} {d : D} {m : M} {B' : List Addr} {v : V}, Hd K T s h A σ env s2 h2 A1 B' → Rep K T s2 h2 v d m B' → GotE K T s h A σ v d m env s2 h2 A1 B' := fun H R => ⟨H.st, H.tab, H.er, R, H.nd, H.fr, H.wh⟩
  unfold G.loosen at e
  split at e
  · rename_i ks ds eq
    cases e
    obtain ⟨v, A0, B, eσ, g0⟩ := GotE.take g eq
    have hh := g0.one.hd
    have r0 := g0.rp
    simp only [Rep, Deep] at r0
    obtain ⟨p, vs, C, rfl, e2, hl, rfl, e3⟩ := r0
    have np : p ∉ C := (List.nodup_cons.mp (List.nodup_append.mp hh.nd).2.1).1
    have S1 := DeepL.shr (s := s1) (C := C) _ e3 (fun b hb => hb)
    have H2 := hh.change (o' := .dT (ks.zip vs)) (S := C) (B' := [p]) (by simp) e2 trivial trivial (fun b hb => by simp [hb]) np (by simp) (by simpa using np) (by simp)
    rw [upd_self e2] at H2
    obtain ⟨A2, g3⟩ := (fin (d := .dt ks ds) (m := .o1) (v := .ref p) H2 ⟨p, rfl, rfl, vs, e2, hl, S1⟩).put (get_hole eq) eσ
    rw [set_set_none] at g3
    exact ⟨_, A2, g3⟩
  · rename_i ks ds eq
    cases e
    obtain ⟨v, A0, B, eσ, g0⟩ := GotE.take g eq
    have hh := g0.one.hd
    have r0 := g0.rp
    simp only [Rep, Deep] at r0
    obtain ⟨p, vs, C, rfl, e2, hl, rfl, e3⟩ := r0
    have np : p ∉ C := (List.nodup_cons.mp (List.nodup_append.mp hh.nd).2.1).1
    have S1 := DeepL.shr (s := s1) (C := C) _ e3 (fun b hb => hb)
    have H2 := hh.change (o' := .dK (ks.zip vs)) (S := C) (B' := [p]) (by simp) e2 trivial trivial (fun b hb => by simp [hb]) np (by simp) (by simpa using np) (by simp)
    rw [upd_self e2] at H2
    obtain ⟨A2, g3⟩ := (fin (d := .dk ks ds) (m := .o1) (v := .ref p) H2 ⟨p, rfl, rfl, vs, e2, hl, S1⟩).put (get_hole eq) eσ
    rw [set_set_none] at g3
    exact ⟨_, A2, g3⟩
  · cases e
def eGetL (j : Nat) (fk fe : VEnv → Option (D × M)) : Env' → Option (D × M × Env') := fun env => match loosen j env with
  | some env2 => eGet j fk fe env2
  | none => eGet j fk fe env
theorem je_getL (hu : X.A.units + 1 < cLine) (hN : X.N[j]? = some x) (hk : JP T X e fk) (he : JP T X e' fe) (hm : M2 X (.Name x p) "get" apos e e' cpos) (hv : Vis X.env.scope x := by first | exact Or.inl rfl | exact Or.inr (Or.inl rfl) | exact Or.inr (Or.inr rfl)) (hd : (x == ("__debug__" : Str)) = false := by decide) (hcd : (x == ("__classdict__" : Str)) = false := by decide) :
    JE T X (.Call (.Attribute (.Name x p) "get" apos) [e, e'] [] cpos) (eGetL j fk fe) := by
  refine je_mk (je_get hu hN hk he hm hv hd hcd) fun σ h Q ⟨s, env, A, d, m, env', o, q, w⟩ => ?_
  unfold eGetL at q
  split at q
  · rename_i env2 e2
    obtain ⟨s2, A2, g⟩ := Go.loosen (Go.refl o) e2
    exact ⟨s2, env2, A2, d, m, env', g.own, q, fun v s3 h3 A3 B3 g3 => w v s3 h3 A3 B3 (GotE.pre g g3)⟩
  · exact ⟨s, env, A, d, m, env', o, q, w⟩
end
end G
set_option Elab.async false
set_option linter.all false
set_option maxRecDepth 100000
set_option maxHeartbeats 4000000

/-! L90: the run-functions of the defs -/
namespace L90
open PySem L2 G

/-- is_whole(value); names: 0 value -/
def b_is_whole : Sf := (sRet (eB (pAnd (pIsi "int" (pVar 0)) (pNot (pIsi "bool" (pVar 0))))))
def r_is_whole : Fi := runG [false] 0 b_is_whole
/-- is_between(value, low, high); names: 0 value, 1 low, 2 high -/
def b_is_between : Sf := (sSeq (sIf (tV (bNot (bTru (pCalG 1 r_is_whole (aCons (pVar 0) aNil)))))
(sRet (eB (pC (.bl false))))
sNext)
(sRet (eB (pAnd (pOr (p2 gIs (pVar 1) (pC .non)) (p2 gGeX (pVar 0) (pVar 1))) (pOr (p2 gIs (pVar 2) (pC .non)) (p2 gLe (pVar 0) (pVar 2)))))))
def r_is_between : Fi := runG [false, false, false] 0 b_is_between
/-- is_order_list(value); names: 0 value, 1 item -/
def c_is_order_list_1 : VEnv → Option (D × M) := (pComp [1] (iLst (pVar 0)) (gSet 1) (bNot (bTru (pCalG 3 r_is_between (aCons (pVar 1) (aCons (pC (.int 0)) (aCons (p2 gSub (pCB gLen (aCons (pVar 0) aNil)) (pC (.int 1))) aNil)))))) (pVar 1))
def b_is_order_list : Sf := (sSeq (sIf (tV (bOr (bNot (bTru (pIsi "list" (pVar 0)))) (tOf (p2 gGt (pCB gLen (aCons (pVar 0) aNil)) (pC (.int 200))))))
(sRet (eB (pC (.bl false))))
sNext)
(sSeq (sIf (tV (tOf (p2 gNe c_is_order_list_1 (pLst aNil))))
(sRet (eB (pC (.bl false))))
sNext)
(sRet (eB (p2 gEq (pCB gSortedD (aCons (pVar 0) aNil)) (pLr (iRg1 (pCB gLen (aCons (pVar 0) aNil)))))))))
def r_is_order_list : Fi := runG [false] 1 b_is_order_list
/-- check_order(order); names: 0 order -/
def b_check_order : Sf := (sIf (tV (bNot (bTru (pCalG 1 r_is_order_list (aCons (pVar 0) aNil)))))
sNever
sNext)
def r_check_order : Fi := runG [false] 0 b_check_order
/-- places_from(order); names: 0 order, 1 found, 2 at, 3 item -/
def b_places_from_1 : Sf := (sAsg (eCp 2) (gSetL 1 (pVar 3)))
def b_places_from : Sf := (sSeq (sSet [false] 1 (eB (p2 gMul (pLst (aCons (pC (.int 0)) aNil)) (pCB gLen (aCons (pVar 0) aNil)))))
(sSeq (sFor (iEnE (eMv 0)) (goTup 2 (goC (putS [false] 2) (goC (putS [false] 3) goN))) b_places_from_1)
(sRet (eMv 1))))
def r_places_from : Fi := runG [false] 3 b_places_from
/-- check_two_orders(one, other); names: 0 one, 1 other -/
def b_check_two_orders : Sf := (sSeq (sExpr (eB (pCalG 1 r_check_order (aCons (pVar 0) aNil))))
(sSeq (sExpr (eB (pCalG 1 r_check_order (aCons (pVar 1) aNil))))
(sIf (tV (tOf (p2 gNe (pCB gLen (aCons (pVar 0) aNil)) (pCB gLen (aCons (pVar 1) aNil)))))
sNever
sNext)))
def r_check_two_orders : Fi := runG [false, false] 0 b_check_two_orders
/-- unlike_pairs(here, there); names: 0 here, 1 there, 2 found, 3 low, 4 high -/
def b_unlike_pairs_1 : Sf := (sIf (tV (tOf (p2 gNe (p2 gLt (p2 gIx (pVar 0) (pVar 3)) (p2 gIx (pVar 0) (pVar 4))) (p2 gLt (p2 gIx (pVar 1) (pVar 3)) (p2 gIx (pVar 1) (pVar 4))))))
(sExpr (eMut 2 gAppend (eCons (eTup (eCons (eCp 3) (eCons (eCp 4) eNil))) eNil)))
sNext)
def b_unlike_pairs_2 : Sf := (sFor (iRg2E (eB (p2 gAdd (pVar 3) (pC (.int 1)))) (eB (pCB gLen (aCons (pVar 0) aNil)))) (putS [false, false] 4) b_unlike_pairs_1)
def b_unlike_pairs : Sf := (sSeq (sSet [false, false] 2 (eB (pLst aNil)))
(sSeq (sFor (iRg1E (eB (pCB gLen (aCons (pVar 0) aNil)))) (putS [false, false] 3) b_unlike_pairs_2)
(sRet (eMv 2))))
def r_unlike_pairs : Fi := runG [false, false] 3 b_unlike_pairs
/-- counted(here, there, low, high); names: 0 here, 1 there, 2 low, 3 high, 4 least, 5 most, 6 number, 7 ahead, 8 behind, 9 one -/
def c_counted_1 : VEnv → Option (D × M) := (pComp [9] (iLst (pLst (aCons (pVar 2) (aCons (pVar 3) aNil)))) (gSet 9) (bAnd (tOf (p2 gLt (p2 gIx (pVar 0) (pVar 6)) (p2 gIx (pVar 0) (pVar 9)))) (tOf (p2 gLt (p2 gIx (pVar 1) (pVar 6)) (p2 gIx (pVar 1) (pVar 9))))) (pVar 9))
def c_counted_2 : VEnv → Option (D × M) := (pComp [9] (iLst (pLst (aCons (pVar 2) (aCons (pVar 3) aNil)))) (gSet 9) (bAnd (tOf (p2 gGt (p2 gIx (pVar 0) (pVar 6)) (p2 gIx (pVar 0) (pVar 9)))) (tOf (p2 gGt (p2 gIx (pVar 1) (pVar 6)) (p2 gIx (pVar 1) (pVar 9))))) (pVar 9))
def b_counted_1 : Sf := (sSeq (sSet [false, false, false, false] 7 (eB c_counted_1))
(sSeq (sSet [false, false, false, false] 8 (eB c_counted_2))
(sPar [false, false, false, false] 4 5 (eCons (eB (p2 gAdd (pVar 4) (pCB gInt (aCons (p2 gNe (pVar 7) (pLst aNil)) aNil)))) (eCons (eB (p2 gAdd (pVar 5) (pCB gInt (aCons (p2 gEq (pVar 8) (pLst aNil)) aNil)))) eNil)))))
def b_counted : Sf := (sSeq (sAsg (eTup (eCons (eB (pC (.int 0))) (eCons (eB (pC (.int 0))) eNil))) (goTup 2 (goC (putS [false, false, false, false] 4) (goC (putS [false, false, false, false] 5) goN))))
(sSeq (sFor (iRg2E (eB (p2 gAdd (pVar 2) (pC (.int 1)))) (eCp 3)) (putS [false, false, false, false] 6) b_counted_1)
(sRet (eTup (eCons (eMv 4) (eCons (eMv 5) eNil))))))
def r_counted : Fi := runG [false, false, false, false] 6 b_counted
/-- counts_of(one, other); names: 0 one, 1 other, 2 here, 3 there, 4 low, 5 high -/
def c_counts_of_1 : VEnv → Option (D × M) := (pComp [4, 5] (iLst (pCalG 2 r_unlike_pairs (aCons (pVar 2) (aCons (pVar 3) aNil)))) (gTupD 2 (gsC (gSet 4) (gsC (gSet 5) gsN))) bYes (p2 gAdd (pTup (aCons (pVar 4) (aCons (pVar 5) aNil))) (pCalG 4 r_counted (aCons (pVar 2) (aCons (pVar 3) (aCons (pVar 4) (aCons (pVar 5) aNil)))))))
def b_counts_of : Sf := (sSeq (sAsg (eTup (eCons (eB (pCalG 1 r_places_from (aCons (pVar 0) aNil))) (eCons (eB (pCalG 1 r_places_from (aCons (pVar 1) aNil))) eNil))) (goTup 2 (goC (putS [false, false] 2) (goC (putS [false, false] 3) goN))))
(sRet (eB c_counts_of_1)))
def r_counts_of : Fi := runG [false, false] 4 b_counts_of
/-- needs_of(one, other); names: 0 one, 1 other, 2 found, 3 _, 4 low, 5 high, 6 count -/
def c_needs_of_1 : VEnv → Option (D × M) := (pCompD [6] (iRg2 (pVar 4) (p2 gAdd (pVar 5) (pC (.int 1)))) (gSet 6) bYes (pVar 6) (pC (.bl true)))
def b_needs_of_1 : Sf := (sExpr (eMutD 2 gUpdate (eCons (eB c_needs_of_1) eNil)))
def b_needs_of : Sf := (sSeq (sSet [false, false] 2 (eB pDict0))
(sSeq (sFor (iLstE (eB (pCalG 2 r_counts_of (aCons (pVar 0) (aCons (pVar 1) aNil))))) (goTup 4 (goC (putS [false, false] 3) (goC (putS [false, false] 3) (goC (putS [false, false] 4) (goC (putS [false, false] 5) goN))))) b_needs_of_1)
(sRet (eB (pCB gSortedD (aCons (pCB gListD (aCons (pVar 2) aNil)) aNil))))))
def r_needs_of : Fi := runG [false, false] 5 b_needs_of
/-- pair_counts(one, other); names: 0 one, 1 other -/
def b_pair_counts : Sf := (sSeq (sExpr (eB (pCalG 2 r_check_two_orders (aCons (pVar 0) (aCons (pVar 1) aNil)))))
(sRet (eB (pCalG 2 r_counts_of (aCons (pVar 0) (aCons (pVar 1) aNil))))))
def r_pair_counts : Fi := runG [false, false] 0 b_pair_counts
/-- needed(one, other); names: 0 one, 1 other -/
def b_needed : Sf := (sSeq (sExpr (eB (pCalG 2 r_check_two_orders (aCons (pVar 0) (aCons (pVar 1) aNil)))))
(sRet (eB (pCalG 2 r_needs_of (aCons (pVar 0) (aCons (pVar 1) aNil))))))
def r_needed : Fi := runG [false, false] 0 b_needed
/-- _law_hash(_law_seed, _law_index); names: 0 _law_seed, 1 _law_index, 2 _law_mixed -/
def b_l_hash : Sf := (sSeq (sSet [false, false] 2 (eB (p2 gMod (pCB gInt (aCons (p2 gAdd (p2 gAdd (p2 gAdd (p2 gMul (pVar 0) (pC (.int 1140671))) (p2 gMul (p2 gMul (pC (.int 27644437)) (pVar 1)) (pVar 1))) (p2 gMul (pC (.int 131)) (pVar 1))) (pC (.int 19))) aNil)) (pC (.int 2147483629)))))
(sSeq (sSet [false, false] 2 (eB (p2 gMod (pCB gInt (aCons (p2 gAdd (p2 gAdd (p2 gMul (pVar 2) (pVar 2)) (p2 gMul (pC (.int 62089)) (pVar 1))) (pC (.int 32416187))) aNil)) (pC (.int 2147483587)))))
(sRet (eB (p2 gMod (pCB gInt (aCons (p2 gMul (pVar 2) (pC (.int 48271))) aNil)) (pC (.int 2147483647)))))))
def r_l_hash : Fi := runG [false, false] 1 b_l_hash
/-- _law_random(_law_generator_here, _law_bound); names: 0 _law_generator_here, 1 _law_bound, 2 _law_drawn, 3 _law_turn -/
def b_l_random_1 : Sf := (sSeq (sAsg (eB (p2 gAdd (p2 gIx (pVar 0) (pC (.int 2))) (pC (.int 1)))) (gSetL 0 (pC (.int 2))))
(sSet [true, false] 2 (eB (p2 gAdd (p2 gMul (pVar 2) (pC (.int 2147483587))) (pCalG 2 r_l_hash (aCons (p2 gIx (pVar 0) (pC (.int 1))) (aCons (p2 gIx (pVar 0) (pC (.int 2))) aNil)))))))
def b_l_random : Sf := (sSeq (sIf (tV (tOf (p2 gGt (p2 gIx (pVar 0) (pC (.int 0))) (pC (.int 0)))))
(sSeq (sSet [true, false] 2 (eB (p2 gMod (pCB gInt (aCons (p2 gIx (pVar 0) (pC (.int 0))) aNil)) (pVar 1))))
(sSeq (sAsg (eB (p2 gFdiv (p2 gIx (pVar 0) (pC (.int 0))) (pVar 1))) (gSetL 0 (pC (.int 0))))
(sRet (eMv 2))))
sNext)
(sSeq (sSet [true, false] 2 (eB (pC (.int 0))))
(sSeq (sFor (iRg1E (eB (p2 gAdd (pC (.int 1)) (p2 gFdiv (pBits (pVar 1)) (pC (.int 30)))))) (putS [true, false] 3) b_l_random_1)
(sRet (eB (p2 gMod (pCB gInt (aCons (pVar 2) aNil)) (pVar 1)))))))
def r_l_random : Fi := runG [true, false] 2 b_l_random
/-- _law_cell(_law_script, _law_index); names: 0 _law_script, 1 _law_index -/
def b_l_cell : Sf := (sSeq (sIf (tV (tOf (p2 gLt (pVar 1) (pCB gLen (aCons (pVar 0) aNil)))))
(sRet (eB (p2 gIx (pVar 0) (pVar 1))))
sNext)
(sRet (eB (p2 gMod (pCB gSum (aCons (pSl (pVar 0) oNone (oSome (pC (.int 1)))) aNil)) (pC (.int 1000003))))))
def r_l_cell : Fi := runG [false, false] 0 b_l_cell
/-- _law_generator(_law_script, _law_index); names: 0 _law_script, 1 _law_index, 2 _law_seed -/
def b_l_generator : Sf := (sSeq (sSet [false, false] 2 (eB (pCalG 2 r_l_cell (aCons (pVar 0) (aCons (pVar 1) aNil)))))
(sRet (eLst (eCons (eB (p2 gMod (pCB gInt (aCons (pCB gMax (aCons (p2 gSub (pVar 2) (p2 gPow (pC (.int 10)) (pC (.int 18)))) (aCons (pC (.int 0)) aNil))) aNil)) (p2 gPow (p2 gPow (pC (.int 10)) (pC (.int 60))) (pC (.int 10))))) (eCons (eB (p2 gMod (pCB gInt (aCons (pVar 2) aNil)) (pC (.int 2147483647)))) (eCons (eB (p2 gMul (pC (.int 1000)) (pVar 1))) eNil))))))
def r_l_generator : Fi := runG [false, false] 1 b_l_generator
/-- _law_order(_law_generator_here, _law_size); names: 0 _law_generator_here, 1 _law_size, 2 _law_left_here, 3 _law_found -/
def t_l_order_1 : Env' → Option (Bool × Env') := (tV (tOf (p2 gNe (pVar 2) (pLst aNil))))
def b_l_order_1 : Sf := (sExpr (eMut 3 gAppend (eCons (eMut 2 gPopAt (eCons (eCall [true, false] 2 r_l_random (caC (rSl 0) (caC (rVl (eB (pCB gLen (aCons (pVar 2) aNil)))) caN))) eNil)) eNil)))
def b_l_order : Sf := (sSeq (sPar [true, false] 2 3 (eCons (eB (pLr (iRg1 (pVar 1)))) (eCons (eB (pLst aNil)) eNil)))
(sSeq (sWhile t_l_order_1 b_l_order_1)
(sRet (eMv 3))))
def r_l_order : Fi := runG [true, false] 2 b_l_order
/-- _law_exchanged(_law_order_here, _law_at); names: 0 _law_order_here, 1 _law_at -/
def b_l_exchanged : Sf := (sRet (eB (p2 gAdd (p2 gAdd (pSl (pVar 0) oNone (oSome (pVar 1))) (pLst (aCons (p2 gIx (pVar 0) (p2 gAdd (pVar 1) (pC (.int 1)))) (aCons (p2 gIx (pVar 0) (pVar 1)) aNil)))) (pSl (pVar 0) (oSome (p2 gAdd (pVar 1) (pC (.int 2)))) oNone))))
def r_l_exchanged : Fi := runG [false, false] 0 b_l_exchanged
/-- _law_left(_law_order_here, _law_at); names: 0 _law_order_here, 1 _law_at, 2 _law_low, 3 _law_high, 4 _law_number -/
def c_l_left_1 : VEnv → Option (D × M) := (pComp [4] (iLst (pSl (pVar 0) oNone (oSome (pVar 1)))) (gSet 4) (tOf (pChain gLt gLt (pVar 2) (pVar 4) (pVar 3))) (pVar 4))
def b_l_left : Sf := (sSeq (sAsg (eTup (eCons (eB (pCB gMin (aCons (p2 gIx (pVar 0) (pVar 1)) (aCons (p2 gIx (pVar 0) (p2 gAdd (pVar 1) (pC (.int 1)))) aNil)))) (eCons (eB (pCB gMax (aCons (p2 gIx (pVar 0) (pVar 1)) (aCons (p2 gIx (pVar 0) (p2 gAdd (pVar 1) (pC (.int 1)))) aNil)))) eNil))) (goTup 2 (goC (putS [false, false] 2) (goC (putS [false, false] 3) goN))))
(sRet (eB (pCB gLen (aCons c_l_left_1 aNil)))))
def r_l_left : Fi := runG [false, false] 3 b_l_left
/-- _law_unlike(_law_one, _law_other); names: 0 _law_one, 1 _law_other, 2 _law_places, 3 _law_found, 4 _law_at, 5 _law_low, 6 _law_high, 7 _law_number -/
def c_l_unlike_1 : VEnv → Option (D × M) := (pComp [4, 7] (iEn (pVar 1)) (gTupD 2 (gsC (gSet 4) (gsC (gSet 7) gsN))) bYes (pTup (aCons (pVar 7) (aCons (pVar 4) aNil))))
def b_l_unlike_1 : Sf := (sIf (tV (tOf (p2 gGt (p2 gIx (pVar 2) (pVar 5)) (p2 gIx (pVar 2) (pVar 6)))))
(sExpr (eMut 3 gAppend (eCons (eTup (eCons (eB (pCB gMin (aCons (pVar 5) (aCons (pVar 6) aNil)))) (eCons (eB (pCB gMax (aCons (pVar 5) (aCons (pVar 6) aNil)))) eNil))) eNil)))
sNext)
def b_l_unlike_2 : Sf := (sFor (iLstE (eB (pSl (pVar 0) (oSome (p2 gAdd (pVar 4) (pC (.int 1)))) oNone))) (putS [false, false] 6) b_l_unlike_1)
def b_l_unlike : Sf := (sSeq (sPar [false, false] 2 3 (eCons (eB (pCB gDictC (aCons c_l_unlike_1 aNil))) (eCons (eB (pLst aNil)) eNil)))
(sSeq (sFor (iEnE (eCp 0)) (goTup 2 (goC (putS [false, false] 4) (goC (putS [false, false] 5) goN))) b_l_unlike_2)
(sRet (eB (pCB gSortedD (aCons (pVar 3) aNil))))))
def r_l_unlike : Fi := runG [false, false] 6 b_l_unlike
/-- _law_low_high(_law_one, _law_other, _law_low, _law_high); names: 0 _law_one, 1 _law_other, 2 _law_low, 3 _law_high, 4 _law_here, 5 _law_there, 6 _law_least, 7 _law_most, 8 _law_number, 9 _law_ahead, 10 _law_behind, 11 _law_at, 12 _law_end -/
def c_l_low_high_1 : VEnv → Option (D × M) := (pComp [11, 8] (iEn (pVar 0)) (gTupD 2 (gsC (gSet 11) (gsC (gSet 8) gsN))) bYes (pTup (aCons (pVar 8) (aCons (pVar 11) aNil))))
def c_l_low_high_2 : VEnv → Option (D × M) := (pComp [11, 8] (iEn (pVar 1)) (gTupD 2 (gsC (gSet 11) (gsC (gSet 8) gsN))) bYes (pTup (aCons (pVar 8) (aCons (pVar 11) aNil))))
def c_l_low_high_3 : VEnv → Option (D × M) := (pComp [12] (iLst (pLst (aCons (pVar 2) (aCons (pVar 3) aNil)))) (gSet 12) (bAnd (tOf (p2 gLt (p2 gIx (pVar 4) (pVar 8)) (p2 gIx (pVar 4) (pVar 12)))) (tOf (p2 gLt (p2 gIx (pVar 5) (pVar 8)) (p2 gIx (pVar 5) (pVar 12))))) (pVar 12))
def c_l_low_high_4 : VEnv → Option (D × M) := (pComp [12] (iLst (pLst (aCons (pVar 2) (aCons (pVar 3) aNil)))) (gSet 12) (bAnd (tOf (p2 gGt (p2 gIx (pVar 4) (pVar 8)) (p2 gIx (pVar 4) (pVar 12)))) (tOf (p2 gGt (p2 gIx (pVar 5) (pVar 8)) (p2 gIx (pVar 5) (pVar 12))))) (pVar 12))
def b_l_low_high_1 : Sf := (sSeq (sSet [false, false, false, false] 9 (eB c_l_low_high_3))
(sSeq (sSet [false, false, false, false] 10 (eB c_l_low_high_4))
(sPar [false, false, false, false] 6 7 (eCons (eB (p2 gAdd (pVar 6) (pCB gInt (aCons (p2 gNe (pVar 9) (pLst aNil)) aNil)))) (eCons (eB (p2 gAdd (pVar 7) (pCB gInt (aCons (p2 gEq (pVar 10) (pLst aNil)) aNil)))) eNil)))))
def b_l_low_high : Sf := (sSeq (sSet [false, false, false, false] 4 (eB (pCB gDictC (aCons c_l_low_high_1 aNil))))
(sSeq (sSet [false, false, false, false] 5 (eB (pCB gDictC (aCons c_l_low_high_2 aNil))))
(sSeq (sAsg (eTup (eCons (eB (pC (.int 0))) (eCons (eB (pC (.int 0))) eNil))) (goTup 2 (goC (putS [false, false, false, false] 6) (goC (putS [false, false, false, false] 7) goN))))
(sSeq (sFor (iRg2E (eB (p2 gAdd (pVar 2) (pC (.int 1)))) (eCp 3)) (putS [false, false, false, false] 8) b_l_low_high_1)
(sRet (eTup (eCons (eMv 2) (eCons (eMv 3) (eCons (eMv 6) (eCons (eMv 7) eNil))))))))))
def r_l_low_high : Fi := runG [false, false, false, false] 9 b_l_low_high
/-- _law_needs(_law_one, _law_other); names: 0 _law_one, 1 _law_other, 2 _law_found, 3 _law_low, 4 _law_high, 5 _law_least, 6 _law_most, 7 _law_count -/
def b_l_needs_1 : Sf := (sAsg (eB (pC (.bl true))) (gSetD 2 (pVar 7)))
def b_l_needs_2 : Sf := (sSeq (sAsg (eB (pCalG 4 r_l_low_high (aCons (pVar 0) (aCons (pVar 1) (aCons (pVar 3) (aCons (pVar 4) aNil)))))) (goTup 4 (goC (putS [false, false] 3) (goC (putS [false, false] 4) (goC (putS [false, false] 5) (goC (putS [false, false] 6) goN))))))
(sFor (iRg2E (eCp 5) (eB (p2 gAdd (pVar 6) (pC (.int 1))))) (putS [false, false] 7) b_l_needs_1))
def b_l_needs : Sf := (sSeq (sSet [false, false] 2 (eB pDict0))
(sSeq (sFor (iLstE (eB (pCalG 2 r_l_unlike (aCons (pVar 0) (aCons (pVar 1) aNil))))) (goTup 2 (goC (putS [false, false] 3) (goC (putS [false, false] 4) goN))) b_l_needs_2)
(sRet (eB (pCB gSortedD (aCons (pVar 2) aNil))))))
def r_l_needs : Fi := runG [false, false] 6 b_l_needs
/-- _law_steps(_law_order_here, _law_goal); names: 0 _law_order_here, 1 _law_goal, 2 _law_places, 3 _law_at, 4 _law_number -/
def c_l_steps_1 : VEnv → Option (D × M) := (pComp [3, 4] (iEn (pVar 1)) (gTupD 2 (gsC (gSet 3) (gsC (gSet 4) gsN))) bYes (pTup (aCons (pVar 4) (aCons (pVar 3) aNil))))
def c_l_steps_2 : VEnv → Option (D × M) := (pComp [3] (iRg1 (p2 gSub (pCB gLen (aCons (pVar 0) aNil)) (pC (.int 1)))) (gSet 3) (tOf (p2 gGt (p2 gIx (pVar 2) (p2 gIx (pVar 0) (pVar 3))) (p2 gIx (pVar 2) (p2 gIx (pVar 0) (p2 gAdd (pVar 3) (pC (.int 1))))))) (pVar 3))
def b_l_steps : Sf := (sSeq (sSet [false, false] 2 (eB (pCB gDictC (aCons c_l_steps_1 aNil))))
(sRet (eB c_l_steps_2)))
def r_l_steps : Fi := runG [false, false] 3 b_l_steps
/-- _law_seen(_law_one, _law_other); names: 0 _law_one, 1 _law_other, 2 _law_found, 3 _law_rows, 4 _law_known, 5 _law_at, 6 _law_place, 7 _law_low, 8 _law_high, 9 _law_counts, 10 _law_count, 11 _law_fresh -/
def b_l_seen_1 : Sf := (sSeq (sAsg (eB (pCB gSortedD (aCons (pSl (p2 gIx (pVar 3) (pVar 5)) (oSome (pVar 6)) (oSome (p2 gAdd (pVar 6) (pC (.int 2))))) aNil))) (goLst 2 (goC (putS [false, false] 7) (goC (putS [false, false] 8) goN))))
(sSeq (sSet [false, false] 9 (eGetL 2 (pTup (aCons (pVar 7) (aCons (pVar 8) aNil))) (pLst aNil)))
(sSeq (sSet [false, false] 10 (eB (pCalG 2 r_l_left (aCons (p2 gIx (pVar 3) (pVar 5)) (aCons (pVar 6) aNil)))))
(sSeq (sAsg (eIf (tV (tOf (p2 gIn (pVar 10) (pVar 9)))) (eCp 9) (eB (p2 gAdd (pVar 9) (pLst (aCons (pVar 10) aNil))))) (gSetD 2 (pTup (aCons (pVar 7) (aCons (pVar 8) aNil)))))
(sSeq (sSet [false, false] 11 (eB (pCalG 2 r_l_exchanged (aCons (p2 gIx (pVar 3) (pVar 5)) (aCons (pVar 6) aNil)))))
(sIf (tV (tOf (p2 gNotIn (pCB gTuple (aCons (pVar 11) aNil)) (pVar 4))))
(sSeq (sAsg (eB (pC (.bl true))) (gSetD 4 (pCB gTuple (aCons (pVar 11) aNil))))
(sExpr (eMut 3 gAppend (eCons (eCp 11) eNil))))
sNext))))))
def t_l_seen_1 : Env' → Option (Bool × Env') := (tV (tOf (p2 gLt (pVar 5) (pCB gLen (aCons (pVar 3) aNil)))))
def b_l_seen_2 : Sf := (sSeq (sFor (iLstE (eB (pCalG 2 r_l_steps (aCons (p2 gIx (pVar 3) (pVar 5)) (aCons (pVar 1) aNil))))) (putS [false, false] 6) b_l_seen_1)
(sSet [false, false] 5 (eB (p2 gAdd (pVar 5) (pC (.int 1))))))
def b_l_seen : Sf := (sSeq (sAsg (eTup (eCons (eB pDictT0) (eCons (eLst (eCons (eB (pCB gListD (aCons (pVar 0) aNil))) eNil)) (eCons (eB (pDictT1 (pCB gTuple (aCons (pVar 0) aNil)) (pC (.bl true)))) (eCons (eB (pC (.int 0))) eNil))))) (goTup 4 (goC (putS [false, false] 2) (goC (putS [false, false] 3) (goC (putS [false, false] 4) (goC (putS [false, false] 5) goN))))))
(sSeq (sWhile t_l_seen_1 b_l_seen_2)
(sRet (eMv 2))))
def r_l_seen : Fi := runG [false, false] 10 b_l_seen
/-- _law_near(_law_generator_here, _law_order_here, _law_steps_here); names: 0 _law_generator_here, 1 _law_order_here, 2 _law_steps_here, 3 _law_found, 4 _law_turn -/
def b_l_near_1 : Sf := (sSet [true, true, false] 3 (eCall [false, false] 2 r_l_exchanged (caC (rVl (eCp 3)) (caC (rVl (eCall [true, false] 2 r_l_random (caC (rSl 0) (caC (rVl (eB (p2 gSub (pCB gLen (aCons (pVar 1) aNil)) (pC (.int 1))))) caN)))) caN))))
def b_l_near : Sf := (sSeq (sSet [true, true, false] 3 (eB (pCB gListD (aCons (pVar 1) aNil))))
(sSeq (sFor (iRg1E (eB (p2 gMul (pVar 2) (pCB gInt (aCons (p2 gGt (pCB gLen (aCons (pVar 1) aNil)) (pC (.int 1))) aNil))))) (putS [true, true, false] 4) b_l_near_1)
(sRet (eMv 3))))
def r_l_near : Fi := runG [true, true, false] 2 b_l_near
/-- _law_two_right(_law_one, _law_other); names: 0 _law_one, 1 _law_other, 2 _law_kept, 3 _law_due, 4 _law_told, 5 _law_counts, 6 _law_low, 7 _law_high -/
def c_l_two_right_1 : VEnv → Option (D × M) := (pComp [6, 7] (iLst (pCalG 2 r_l_unlike (aCons (pVar 0) (aCons (pVar 1) aNil)))) (gTupD 2 (gsC (gSet 6) (gsC (gSet 7) gsN))) bYes (pCalG 4 r_l_low_high (aCons (pVar 0) (aCons (pVar 1) (aCons (pVar 6) (aCons (pVar 7) aNil))))))
def b_l_two_right : Sf := (sSeq (sSet [true, false] 2 (eB (pCB gRepr (aCons (pTup (aCons (pVar 0) (aCons (pVar 1) aNil))) aNil))))
(sSeq (sSet [true, false] 3 (eB c_l_two_right_1))
(sSeq (sIf (tV (bOr (tOf (p2 gNe (pCalG 2 r_pair_counts (aCons (pVar 0) (aCons (pVar 1) aNil))) (pVar 3))) (bOr (tOf (p2 gNe (pCallK 2 2 [1, 0] r_pair_counts (aCons (pVar 1) (aCons (pVar 0) aNil))) (pVar 3))) (tOf (p2 gNe (pCalG 2 r_pair_counts (aCons (pVar 1) (aCons (pVar 0) aNil))) (pVar 3))))))
(sRet (eB (pC (.bl false))))
sNext)
(sSeq (sIf (tV (bOr (tOf (p2 gNe (pCalG 2 r_needed (aCons (pVar 0) (aCons (pVar 1) aNil))) (pCalG 2 r_l_needs (aCons (pVar 0) (aCons (pVar 1) aNil))))) (tOf (p2 gNe (pCallK 2 2 [1, 0] r_needed (aCons (pVar 0) (aCons (pVar 1) aNil))) (pCalG 2 r_l_needs (aCons (pVar 0) (aCons (pVar 1) aNil)))))))
(sRet (eB (pC (.bl false))))
sNext)
(sSeq (sPar [true, false] 4 5 (eCons (eB (pCalG 2 r_pair_counts (aCons (pVar 0) (aCons (pVar 1) aNil)))) (eCons (eB (pCalG 2 r_needed (aCons (pVar 0) (aCons (pVar 1) aNil)))) eNil)))
(sSeq (sExpr (eMut 4 gAppend (eCons (eB (pC .non)) eNil)))
(sSeq (sExpr (eMut 5 gAppend (eCons (eB (pC .non)) eNil)))
(sSeq (sExpr (eMut0 0 gReverse))
(sSeq (sIf (tV (bOr (tOf (p2 gNe (pCalG 2 r_needed (aCons (pVar 0) (aCons (pVar 1) aNil))) (pCalG 2 r_l_needs (aCons (pVar 0) (aCons (pVar 1) aNil))))) (tOf (p2 gNe (pCB gLen (aCons (pCalG 2 r_pair_counts (aCons (pVar 0) (aCons (pVar 1) aNil))) aNil)) (pCB gLen (aCons (pCalG 2 r_l_unlike (aCons (pVar 0) (aCons (pVar 1) aNil))) aNil))))))
(sRet (eB (pC (.bl false))))
sNext)
(sSeq (sExpr (eMut0 0 gReverse))
(sRet (eB (pAnd (p2 gEq (pCalG 2 r_pair_counts (aCons (pVar 0) (aCons (pVar 1) aNil))) (pVar 3)) (pAnd (p2 gEq (pCalG 2 r_needed (aCons (pVar 0) (aCons (pVar 1) aNil))) (pCalG 2 r_l_needs (aCons (pVar 0) (aCons (pVar 1) aNil)))) (p2 gEq (pCB gRepr (aCons (pTup (aCons (pVar 0) (aCons (pVar 1) aNil))) aNil)) (pVar 2))))))))))))))))
def r_l_two_right : Fi := runG [true, false] 6 b_l_two_right
/-- _law_right(_law_generator_here); names: 0 _law_generator_here, 1 _law_size, 2 _law_one, 3 _law_other, 4 _law_seen_here, 5 _law_many, 6 _law_long, 7 _law_low, 8 _law_high, 9 _law_pair -/
def c_l_right_1 : VEnv → Option (D × M) := (pComp [7, 8] (iLst (pCB gSortedD (aCons (pVar 4) aNil))) (gTupD 2 (gsC (gSet 7) (gsC (gSet 8) gsN))) bYes (pTup (aCons (pVar 7) (aCons (pVar 8) (aCons (pCB gMin (aCons (p2 gIx (pVar 4) (pTup (aCons (pVar 7) (aCons (pVar 8) aNil)))) aNil)) (aCons (pCB gMax (aCons (p2 gIx (pVar 4) (pTup (aCons (pVar 7) (aCons (pVar 8) aNil)))) aNil)) aNil))))))
def c_l_right_2 : VEnv → Option (D × M) := (pComp [9] (iKeysV 4) (gSet 9) (tOf (p2 gNe (pCB gSortedD (aCons (p2 gIx (pVar 4) (pVar 9)) aNil)) (pLr (iRg2 (pCB gMin (aCons (p2 gIx (pVar 4) (pVar 9)) aNil)) (p2 gAdd (pCB gMax (aCons (p2 gIx (pVar 4) (pVar 9)) aNil)) (pC (.int 1))))))) (pVar 9))
def b_l_right : Sf := (sSeq (sSet [true] 1 (eCall [true, false] 2 r_l_random (caC (rSl 0) (caC (rVl (eB (pC (.int 7)))) caN))))
(sSeq (sSet [true] 2 (eCall [true, false] 2 r_l_order (caC (rSl 0) (caC (rVl (eCp 1)) caN))))
(sSeq (sSet [true] 3 (eIf (tOfE (e2 gEq (eCall [true, false] 2 r_l_random (caC (rSl 0) (caC (rVl (eB (pC (.int 2)))) caN))) (eB (pC (.int 0))))) (eCall [true, false] 2 r_l_order (caC (rSl 0) (caC (rVl (eMv 1)) caN))) (eCall [true, true, false] 3 r_l_near (caC (rSl 0) (caC (rSl 2) (caC (rVl (eB (pC (.int 6)))) caN))))))
(sSeq (sIf (tNotE (tTruE (eCall [true, false] 2 r_l_two_right (caC (rSl 2) (caC (rVl (eCp 3)) caN)))))
(sRet (eB (pC (.bl false))))
sNext)
(sSeq (sSet [true] 4 (eCall [false, false] 2 r_l_seen (caC (rVl (eCp 2)) (caC (rVl (eCp 3)) caN))))
(sSeq (sIf (tV (tOf (p2 gNe c_l_right_1 (pCalG 2 r_pair_counts (aCons (pVar 2) (aCons (pVar 3) aNil))))))
(sRet (eB (pC (.bl false))))
sNext)
(sSeq (sIf (tV (tOf (p2 gNe c_l_right_2 (pLst aNil))))
(sRet (eB (pC (.bl false))))
sNext)
(sSeq (sSet [true] 5 (e2 gAdd (eB (pC (.int 7))) (eCall [true, false] 2 r_l_random (caC (rSl 0) (caC (rVl (eB (pC (.int 14)))) caN)))))
(sSeq (sSet [true] 6 (eCall [true, false] 2 r_l_order (caC (rSl 0) (caC (rVl (eCp 5)) caN))))
(sRet (eAnd (eCall [true, false] 2 r_l_two_right (caC (rSl 6) (caC (rVl (eCall [true, true, false] 3 r_l_near (caC (rSl 0) (caC (rSl 6) (caC (rVl (eB (pC (.int 200)))) caN))))) caN))) (eCall [true, false] 2 r_l_two_right (caC (rSl 6) (caC (rVl (eCall [true, false] 2 r_l_order (caC (rSl 0) (caC (rVl (eMv 5)) caN)))) caN))))))))))))))
def r_l_right : Fi := runG [true] 9 b_l_right
/-- law(_law_script); names: 0 _law_script, 1 _law_index, 2 _law_high, 3 _law_great, 4 _law_wide -/
def b_law_1 : Sf := (sIf (tNotE (tTruE (eCall [true] 1 r_l_right (caC (rVl (eB (pCalG 2 r_l_generator (aCons (pVar 0) (aCons (pVar 1) aNil))))) caN))))
(sRet (eB (pC (.bl false))))
sNext)
def b_law : Sf := (sSeq (sFor (iRg1E (eB (pC (.int 3)))) (putS [false] 1) b_law_1)
(sSeq (sIf (tV (bOr (tOf (p2 gNe (pCalG 2 r_pair_counts (aCons (pLst (aCons (pC (.int 3)) (aCons (pC (.int 4)) (aCons (pC (.int 0)) (aCons (pC (.int 1)) (aCons (pC (.int 2)) aNil)))))) (aCons (pLst (aCons (pC (.int 3)) (aCons (pC (.int 0)) (aCons (pC (.int 1)) (aCons (pC (.int 2)) (aCons (pC (.int 4)) aNil)))))) aNil))) (pLst (aCons (pTup (aCons (pC (.int 0)) (aCons (pC (.int 4)) (aCons (pC (.int 1)) (aCons (pC (.int 1)) aNil))))) (aCons (pTup (aCons (pC (.int 1)) (aCons (pC (.int 4)) (aCons (pC (.int 1)) (aCons (pC (.int 1)) aNil))))) (aCons (pTup (aCons (pC (.int 2)) (aCons (pC (.int 4)) (aCons (pC (.int 1)) (aCons (pC (.int 1)) aNil))))) aNil)))))) (tOf (p2 gNe (pCalG 2 r_needed (aCons (pLst aNil) (aCons (pLst aNil) aNil))) (pLst aNil)))))
(sRet (eB (pC (.bl false))))
sNext)
(sSeq (sSet [false] 2 (eB (p2 gAdd (pLr (iRg2 (pC (.int 1)) (pC (.int 61)))) (pLst (aCons (pC (.int 0)) (aCons (pC (.int 61)) aNil))))))
(sSeq (sIf (tV (bOr (tOf (p2 gNe (pCalG 2 r_needed (aCons (pVar 2) (aCons (p2 gAdd (pSl (pVar 2) oNone (oSome (pC (.int 60)))) (pLst (aCons (pC (.int 61)) (aCons (pC (.int 0)) aNil)))) aNil))) (pLst (aCons (pC (.int 60)) aNil)))) (tOf (p2 gNe (pCalG 2 r_needed (aCons (pLst (aCons (pC (.int 0)) (aCons (pC (.int 1)) (aCons (pC (.int 2)) (aCons (pC (.int 3)) aNil))))) (aCons (pLst (aCons (pC (.int 3)) (aCons (pC (.int 2)) (aCons (pC (.int 1)) (aCons (pC (.int 0)) aNil))))) aNil))) (pLst (aCons (pC (.int 0)) (aCons (pC (.int 1)) (aCons (pC (.int 2)) aNil))))))))
(sRet (eB (pC (.bl false))))
sNext)
(sSeq (sPar [false] 3 4 (eCons (eB (pLr (iRg1 (pC (.int 200))))) (eCons (eB (pLr (iRg1 (pC (.int 40))))) eNil)))
(sRet (eB (pAnd (p2 gEq (pCalG 2 r_needed (aCons (pVar 3) (aCons (pVar 3) aNil))) (pLst aNil)) (pAnd (p2 gEq (pCB gLen (aCons (pCalG 2 r_pair_counts (aCons (pVar 4) (aCons (p1 gRev (pVar 4)) aNil))) aNil)) (pC (.int 780))) (p2 gEq (pCalG 2 r_needed (aCons (pLst (aCons (pC (.int 0)) aNil)) (aCons (pLst (aCons (pC (.int 0)) aNil)) aNil))) (pLst aNil)))))))))))
def r_law : Fi := runG [false] 4 b_law
end L90
set_option Elab.async false
set_option linter.all false
set_option maxRecDepth 100000
set_option maxHeartbeats 4000000
namespace L90
open PySem G
theorem kb_int_int : L2.kitB "int" "int" = some true := by decide +kernel
theorem kb_int_bool : L2.kitB "int" "bool" = some false := by decide +kernel
theorem kb_tup_tup : L2.kitB "tuple" "tuple" = some true := by decide +kernel
theorem kb_lst_lst : L2.kitB "list" "list" = some true := by decide +kernel
theorem kb_dk_lst : L2.kitB "dict" "list" = some false := by decide +kernel
theorem at_0 {α : Type} (a : α) (l : List α) : L2.atI (a :: l) 0 = some a := by simp [L2.atI, L2.ixN]
theorem at_1 {α : Type} (a b : α) (l : List α) : L2.atI (a :: b :: l) 1 = some b := by
  have : (1 : Int) < (l.length : Int) + 1 + 1 := by omega
  simp [L2.atI, L2.ixN, this]
theorem at_2 {α : Type} (a b c : α) (l : List α) : L2.atI (a :: b :: c :: l) 2 = some c := by
  have : (2 : Int) < (l.length : Int) + 1 + 1 + 1 := by omega
  simp [L2.atI, L2.ixN, this]
theorem fm (a : Int) {b : Int} (h : 0 < b) : 0 ≤ Int.fmod a b ∧ Int.fmod a b < b := ⟨Int.fmod_nonneg_of_pos a h, Int.fmod_lt_of_pos a h⟩
theorem e_is_whole (i : Int) : r_is_whole [(.int i, .dp)] = some (.bl true, .dp, [(.int i, .dp)]) := by
  simp [iRg1, iRg2, iLst, pLr, runG, outP, im, imm, immL, eB, eV, eS, eMv, eCp, frz, eNil, eCons, eLst, eTup, e2, e1, eCB, eIf, eMut, eMut0, eOn, isLst, eTmp, eCall, callR, takeA, convL, putA, rSl, rVl, caN, caC, eMake, mkR, rdL, sSeq, sIf, sRet, sRetN, sExpr, sSet, putS, sPar, sPar3, sAsg, goTup, goC, goN, unTup, sFor, iLstE, iRg1E, iRg2E, iS, iEnE, iEn, sNext, sNever, tV, tAndE, tOrE, tNotE, tTruE, tOfE, asBE, bAnd, bOr, bNot, bTru, tOf, asB, p2, p1, pC, pVar, pAnd, pOr, pNot, pIf, pChain, pCalG, pCallK, permL, pMake, pMakeK, pMeth, pMeth0, pFld, pIsi, pIsC, isiC, tyN, pCB, gLen, gListD, gList, gDictC, gSortedD, gInt, gAdd, gSub, gI, gC, gLt, gLe, gGt, gGe, gGeX, gIs, gIsNot, isB, aNil, aCons, vw, shv, tru, kb_int_int, kb_int_bool, kb_tup_tup, kb_lst_lst, kb_dk_lst, eAnd, gMod, gFdiv, gMul, gPow, gIx, gSetL, setAtD, inM, gMax, gMin, toInts, maxL, minL, gEq_int, gNe_int, im_int, pLst, pTup, lim, dm, allDp, at_0, at_1, at_2, bd62, r_is_whole, b_is_whole]
theorem e_is_between (i a b : Int) : r_is_between [(.int i, .dp), (.int a, .dp), (.int b, .dp)] = some (.bl (decide (a ≤ i) && decide (i ≤ b)), .dp, [(.int i, .dp), (.int a, .dp), (.int b, .dp)]) := by
  by_cases h1 : a ≤ i <;> by_cases h2 : i ≤ b <;> simp [iRg1, iRg2, iLst, pLr, runG, outP, im, imm, immL, eB, eV, eS, eMv, eCp, frz, eNil, eCons, eLst, eTup, e2, e1, eCB, eIf, eMut, eMut0, eOn, isLst, eTmp, eCall, callR, takeA, convL, putA, rSl, rVl, caN, caC, eMake, mkR, rdL, sSeq, sIf, sRet, sRetN, sExpr, sSet, putS, sPar, sPar3, sAsg, goTup, goC, goN, unTup, sFor, iLstE, iRg1E, iRg2E, iS, iEnE, iEn, sNext, sNever, tV, tAndE, tOrE, tNotE, tTruE, tOfE, asBE, bAnd, bOr, bNot, bTru, tOf, asB, p2, p1, pC, pVar, pAnd, pOr, pNot, pIf, pChain, pCalG, pCallK, permL, pMake, pMakeK, pMeth, pMeth0, pFld, pIsi, pIsC, isiC, tyN, pCB, gLen, gListD, gList, gDictC, gSortedD, gInt, gAdd, gSub, gI, gC, gLt, gLe, gGt, gGe, gGeX, gIs, gIsNot, isB, aNil, aCons, vw, shv, tru, kb_int_int, kb_int_bool, kb_tup_tup, kb_lst_lst, kb_dk_lst, eAnd, gMod, gFdiv, gMul, gPow, gIx, gSetL, setAtD, inM, gMax, gMin, toInts, maxL, minL, gEq_int, gNe_int, im_int, pLst, pTup, lim, dm, allDp, at_0, at_1, at_2, bd62, r_is_between, b_is_between, e_is_whole, h1, h2]
theorem sm {i : Int} (h0 : 0 ≤ i) (h : i < 2 ^ 62) : small64 i = true := by
  simp only [small64, Bool.and_eq_true, decide_eq_true_eq]
  omega
theorem sm_const : small64 1140671 = true ∧ small64 27644437 = true ∧ small64 131 = true ∧ small64 62089 = true ∧ small64 48271 = true ∧ small64 2147483587 = true ∧ small64 1000 = true := by decide
def hashF (s i : Int) : Int :=
  let m1 := Int.fmod (s * 1140671 + 27644437 * i * i + 131 * i + 19) 2147483629
  let m2 := Int.fmod (m1 * m1 + 62089 * i + 32416187) 2147483587
  Int.fmod (m2 * 48271) 2147483647
theorem e_hash (s i : Int) (h0 : 0 ≤ i) (h : i < 2 ^ 62) : r_l_hash [(.int s, .dp), (.int i, .dp)] = some (.int (hashF s i), .dp, [(.int s, .dp), (.int i, .dp)]) := by
  obtain ⟨c1, c2, c3, c4, c5, c6, c7⟩ := sm_const
  have hi := sm h0 h
  have b1 := fm (s * 1140671 + 27644437 * i * i + 131 * i + 19) (b := 2147483629) (by decide)
  have hm := sm b1.1 (by omega)
  simp [iRg1, iRg2, iLst, pLr, runG, outP, im, imm, immL, eB, eV, eS, eMv, eCp, frz, eNil, eCons, eLst, eTup, e2, e1, eCB, eIf, eMut, eMut0, eOn, isLst, eTmp, eCall, callR, takeA, convL, putA, rSl, rVl, caN, caC, eMake, mkR, rdL, sSeq, sIf, sRet, sRetN, sExpr, sSet, putS, sPar, sPar3, sAsg, goTup, goC, goN, unTup, sFor, iLstE, iRg1E, iRg2E, iS, iEnE, iEn, sNext, sNever, tV, tAndE, tOrE, tNotE, tTruE, tOfE, asBE, bAnd, bOr, bNot, bTru, tOf, asB, p2, p1, pC, pVar, pAnd, pOr, pNot, pIf, pChain, pCalG, pCallK, permL, pMake, pMakeK, pMeth, pMeth0, pFld, pIsi, pIsC, isiC, tyN, pCB, gLen, gListD, gList, gDictC, gSortedD, gInt, gAdd, gSub, gI, gC, gLt, gLe, gGt, gGe, gGeX, gIs, gIsNot, isB, aNil, aCons, vw, shv, tru, kb_int_int, kb_int_bool, kb_tup_tup, kb_lst_lst, kb_dk_lst, eAnd, gMod, gFdiv, gMul, gPow, gIx, gSetL, setAtD, inM, gMax, gMin, toInts, maxL, minL, gEq_int, gNe_int, im_int, pLst, pTup, lim, dm, allDp, at_0, at_1, at_2, bd62, r_l_hash, b_l_hash, c1, c2, c3, c4, c5, hi, hm, hashF]
/-- a generator behind at most k draws -/
def Gn (g : D × M) (k : Nat) : Prop := ∃ g0 g1 g2 : Int, g = (.lst [.int g0, .int g1, .int g2], .dp) ∧ 0 ≤ g2 ∧ g2 ≤ 100000 + k
theorem e_random (g : D × M) (k : Nat) (b : Int) (hg : Gn g k) (hk : k ≤ 1000000000) (h0 : 0 < b) (hb : b < 1000000) : ∃ (r : Int) (g' : D × M), r_l_random [g, (.int b, .dp)] = some (.int r, .dp, [g', (.int b, .dp)]) ∧ 0 ≤ r ∧ r < b ∧ Gn g' (k + 1) := by
  obtain ⟨g0, g1, g2, rfl, hg0, hg1⟩ := hg
  obtain ⟨c1, c2, c3, c4, c5, c6, c7⟩ := sm_const
  have hb0 : b ≠ 0 := by omega
  have hb1 : b.natAbs < 1073741824 := by omega
  by_cases hp : 0 < g0
  · have f1 := fm g0 h0
    have e : r_l_random [(.lst [.int g0, .int g1, .int g2], .dp), (.int b, .dp)] = some (.int (Int.fmod g0 b), .dp, [(.lst [.int (Int.fdiv g0 b), .int g1, .int g2], .dp), (.int b, .dp)]) := by simp [iRg1, iRg2, iLst, pLr, runG, outP, im, imm, immL, eB, eV, eS, eMv, eCp, frz, eNil, eCons, eLst, eTup, e2, e1, eCB, eIf, eMut, eMut0, eOn, isLst, eTmp, eCall, callR, takeA, convL, putA, rSl, rVl, caN, caC, eMake, mkR, rdL, sSeq, sIf, sRet, sRetN, sExpr, sSet, putS, sPar, sPar3, sAsg, goTup, goC, goN, unTup, sFor, iLstE, iRg1E, iRg2E, iS, iEnE, iEn, sNext, sNever, tV, tAndE, tOrE, tNotE, tTruE, tOfE, asBE, bAnd, bOr, bNot, bTru, tOf, asB, p2, p1, pC, pVar, pAnd, pOr, pNot, pIf, pChain, pCalG, pCallK, permL, pMake, pMakeK, pMeth, pMeth0, pFld, pIsi, pIsC, isiC, tyN, pCB, gLen, gListD, gList, gDictC, gSortedD, gInt, gAdd, gSub, gI, gC, gLt, gLe, gGt, gGe, gGeX, gIs, gIsNot, isB, aNil, aCons, vw, shv, tru, kb_int_int, kb_int_bool, kb_tup_tup, kb_lst_lst, kb_dk_lst, eAnd, gMod, gFdiv, gMul, gPow, gIx, gSetL, setAtD, inM, gMax, gMin, toInts, maxL, minL, gEq_int, gNe_int, im_int, pLst, pTup, lim, dm, allDp, at_0, at_1, at_2, bd62, r_l_random, b_l_random, b_l_random_1, hp, hb0, hb1, L2.ixN]
    exact ⟨_, _, e, f1.1, f1.2, ⟨_, _, _, rfl, hg0, by omega⟩⟩
  · have hbits : Int.fdiv (Builtin.Int.intBits b : Int) 30 = 0 := by
      have hb2 : Builtin.Int.intBits b ≤ 20 := intBits_le_iff.mpr (by omega)
      rw [Int.fdiv_eq_ediv_of_nonneg _ (by decide)]
      omega
    have eh := e_hash g1 (g2 + 1) (by omega) (by omega)
    have e : r_l_random [(.lst [.int g0, .int g1, .int g2], .dp), (.int b, .dp)] = some (.int (Int.fmod (0 * 2147483587 + hashF g1 (g2 + 1)) b), .dp, [(.lst [.int g0, .int g1, .int (g2 + 1)], .dp), (.int b, .dp)]) := by
      simp [iRg1, iRg2, iLst, pLr, runG, outP, im, imm, immL, eB, eV, eS, eMv, eCp, frz, eNil, eCons, eLst, eTup, e2, e1, eCB, eIf, eMut, eMut0, eOn, isLst, eTmp, eCall, callR, takeA, convL, putA, rSl, rVl, caN, caC, eMake, mkR, rdL, sSeq, sIf, sRet, sRetN, sExpr, sSet, putS, sPar, sPar3, sAsg, goTup, goC, goN, unTup, sFor, iLstE, iRg1E, iRg2E, iS, iEnE, iEn, sNext, sNever, tV, tAndE, tOrE, tNotE, tTruE, tOfE, asBE, bAnd, bOr, bNot, bTru, tOf, asB, p2, p1, pC, pVar, pAnd, pOr, pNot, pIf, pChain, pCalG, pCallK, permL, pMake, pMakeK, pMeth, pMeth0, pFld, pIsi, pIsC, isiC, tyN, pCB, gLen, gListD, gList, gDictC, gSortedD, gInt, gAdd, gSub, gI, gC, gLt, gLe, gGt, gGe, gGeX, gIs, gIsNot, isB, aNil, aCons, vw, shv, tru, kb_int_int, kb_int_bool, kb_tup_tup, kb_lst_lst, kb_dk_lst, eAnd, gMod, gFdiv, gMul, gPow, gIx, gSetL, setAtD, inM, gMax, gMin, toInts, maxL, minL, gEq_int, gNe_int, im_int, pLst, pTup, lim, dm, allDp, at_0, at_1, at_2, bd62, r_l_random, b_l_random, b_l_random_1, hp, hb0, hb1, L2.ixN, pBits, hbits, eh, c6, rgD, forL]
    have f1 := fm (0 * 2147483587 + hashF g1 (g2 + 1)) h0
    exact ⟨_, _, e, f1.1, f1.2, ⟨_, _, _, rfl, by omega, by omega⟩⟩
theorem toInts_cut (ns : List Int) (lo hi : Option Int) : toInts ((cutL ns lo hi).map D.int) = some (cutL ns lo hi) := toInts_map _
theorem e_cell (ns : List Int) (i : Int) (h0 : 0 ≤ i) : ∃ c, r_l_cell [(.scr ns, .sh), (.int i, .dp)] = some (.int c, .dp, [(.scr ns, .sh), (.int i, .dp)]) := by
  by_cases h : i < (ns.length : Int)
  · have hl : i.toNat < ns.length := by omega
    have ea : L2.atI ns i = some ns[i.toNat] := by
      simp [L2.atI, L2.ixN, h0, h]
    exact ⟨ns[i.toNat], by simp [iRg1, iRg2, iLst, pLr, runG, outP, im, imm, immL, eB, eV, eS, eMv, eCp, frz, eNil, eCons, eLst, eTup, e2, e1, eCB, eIf, eMut, eMut0, eOn, isLst, eTmp, eCall, callR, takeA, convL, putA, rSl, rVl, caN, caC, eMake, mkR, rdL, sSeq, sIf, sRet, sRetN, sExpr, sSet, putS, sPar, sPar3, sAsg, goTup, goC, goN, unTup, sFor, iLstE, iRg1E, iRg2E, iS, iEnE, iEn, sNext, sNever, tV, tAndE, tOrE, tNotE, tTruE, tOfE, asBE, bAnd, bOr, bNot, bTru, tOf, asB, p2, p1, pC, pVar, pAnd, pOr, pNot, pIf, pChain, pCalG, pCallK, permL, pMake, pMakeK, pMeth, pMeth0, pFld, pIsi, pIsC, isiC, tyN, pCB, gLen, gListD, gList, gDictC, gSortedD, gInt, gAdd, gSub, gI, gC, gLt, gLe, gGt, gGe, gGeX, gIs, gIsNot, isB, aNil, aCons, vw, shv, tru, kb_int_int, kb_int_bool, kb_tup_tup, kb_lst_lst, kb_dk_lst, eAnd, gMod, gFdiv, gMul, gPow, gIx, gSetL, setAtD, inM, gMax, gMin, toInts, maxL, minL, gEq_int, gNe_int, im_int, pLst, pTup, lim, dm, allDp, at_0, at_1, at_2, bd62, r_l_cell, b_l_cell, h, ea]⟩
  · refine ⟨Int.fmod (cutL ns none (some 1)).sum 1000003, ?_⟩
    simp [iRg1, iRg2, iLst, pLr, runG, outP, im, imm, immL, eB, eV, eS, eMv, eCp, frz, eNil, eCons, eLst, eTup, e2, e1, eCB, eIf, eMut, eMut0, eOn, isLst, eTmp, eCall, callR, takeA, convL, putA, rSl, rVl, caN, caC, eMake, mkR, rdL, sSeq, sIf, sRet, sRetN, sExpr, sSet, putS, sPar, sPar3, sAsg, goTup, goC, goN, unTup, sFor, iLstE, iRg1E, iRg2E, iS, iEnE, iEn, sNext, sNever, tV, tAndE, tOrE, tNotE, tTruE, tOfE, asBE, bAnd, bOr, bNot, bTru, tOf, asB, p2, p1, pC, pVar, pAnd, pOr, pNot, pIf, pChain, pCalG, pCallK, permL, pMake, pMakeK, pMeth, pMeth0, pFld, pIsi, pIsC, isiC, tyN, pCB, gLen, gListD, gList, gDictC, gSortedD, gInt, gAdd, gSub, gI, gC, gLt, gLe, gGt, gGe, gGeX, gIs, gIsNot, isB, aNil, aCons, vw, shv, tru, kb_int_int, kb_int_bool, kb_tup_tup, kb_lst_lst, kb_dk_lst, eAnd, gMod, gFdiv, gMul, gPow, gIx, gSetL, setAtD, inM, gMax, gMin, toInts, maxL, minL, gEq_int, gNe_int, im_int, pLst, pTup, lim, dm, allDp, at_0, at_1, at_2, bd62, r_l_cell, b_l_cell, h, pSl, oNone, oSome, gSl, gSum, toInts_cut]
theorem Gn.mono {g : D × M} {k l : Nat} (h : Gn g k) (hl : k ≤ l) : Gn g l := by
  obtain ⟨a, b, c, e, h0, h1⟩ := h
  exact ⟨a, b, c, e, h0, by omega⟩
theorem gPow_at {a b r : Int} (h : (decide (0 ≤ b) && decide ((Builtin.Int.intBits a : Int) * b ≤ 2 ^ 27)) = true) (e : a ^ b.toNat = r) : gPow (.int a) (.int b) = some (.int r, .dp) := by
  subst e
  exact if_pos h
theorem e_generator (ns : List Int) (i : Int) (h0 : 0 ≤ i) (h1 : i ≤ 100) : ∃ g : D, r_l_generator [(.scr ns, .sh), (.int i, .dp)] = some (g, .dp, [(.scr ns, .sh), (.int i, .dp)]) ∧ Gn (g, .dp) 0 := by
  obtain ⟨c, ec⟩ := e_cell ns i h0
  obtain ⟨c1, c2, c3, c4, c5, c6, c7⟩ := sm_const
  have q1 : gPow (.int 10) (.int 18) = some (.int (10 ^ 18), .dp) := gPow_at (by decide +kernel) rfl
  have q2 : gPow (.int 10) (.int 60) = some (.int (10 ^ 60), .dp) := gPow_at (by decide +kernel) rfl
  have q3 : gPow (.int (10 ^ 60)) (.int 10) = some (.int (10 ^ 600), .dp) := gPow_at (by decide +kernel) (by decide +kernel)
  generalize (10 ^ 18 : Int) = P1 at q1
  generalize e2 : (10 ^ 60 : Int) = P2 at q2 q3
  have hP : (10 ^ 600 : Int) ≠ 0 := by decide +kernel
  generalize (10 ^ 600 : Int) = P3 at q3 hP
  have e : ∃ a b : Int, r_l_generator [(.scr ns, .sh), (.int i, .dp)] = some (.lst [.int a, .int b, .int (1000 * i)], .dp, [(.scr ns, .sh), (.int i, .dp)]) := by
    by_cases hc : c - P1 < 0
    · (simp [iRg1, iRg2, iLst, pLr, runG, outP, im, imm, immL, eB, eV, eS, eMv, eCp, frz, eNil, eCons, eLst, eTup, e2, e1, eCB, eIf, eMut, eMut0, eOn, isLst, eTmp, eCall, callR, takeA, convL, putA, rSl, rVl, caN, caC, eMake, mkR, rdL, sSeq, sIf, sRet, sRetN, sExpr, sSet, putS, sPar, sPar3, sAsg, goTup, goC, goN, unTup, sFor, iLstE, iRg1E, iRg2E, iS, iEnE, iEn, sNext, sNever, tV, tAndE, tOrE, tNotE, tTruE, tOfE, asBE, bAnd, bOr, bNot, bTru, tOf, asB, p2, p1, pC, pVar, pAnd, pOr, pNot, pIf, pChain, pCalG, pCallK, permL, pMake, pMakeK, pMeth, pMeth0, pFld, pIsi, pIsC, isiC, tyN, pCB, gLen, gListD, gList, gDictC, gSortedD, gInt, gAdd, gSub, gI, gC, gLt, gLe, gGt, gGe, gGeX, gIs, gIsNot, isB, aNil, aCons, vw, shv, tru, kb_int_int, kb_int_bool, kb_tup_tup, kb_lst_lst, kb_dk_lst, eAnd, gMod, gFdiv, gMul, gIx, gSetL, setAtD, inM, gMax, gMin, toInts, maxL, minL, gEq_int, gNe_int, im_int, pLst, pTup, lim, dm, allDp, at_0, at_1, at_2, bd62, r_l_generator, b_l_generator, ec, q1, q2, q3, hP, hc, c7])
    · (simp [iRg1, iRg2, iLst, pLr, runG, outP, im, imm, immL, eB, eV, eS, eMv, eCp, frz, eNil, eCons, eLst, eTup, e2, e1, eCB, eIf, eMut, eMut0, eOn, isLst, eTmp, eCall, callR, takeA, convL, putA, rSl, rVl, caN, caC, eMake, mkR, rdL, sSeq, sIf, sRet, sRetN, sExpr, sSet, putS, sPar, sPar3, sAsg, goTup, goC, goN, unTup, sFor, iLstE, iRg1E, iRg2E, iS, iEnE, iEn, sNext, sNever, tV, tAndE, tOrE, tNotE, tTruE, tOfE, asBE, bAnd, bOr, bNot, bTru, tOf, asB, p2, p1, pC, pVar, pAnd, pOr, pNot, pIf, pChain, pCalG, pCallK, permL, pMake, pMakeK, pMeth, pMeth0, pFld, pIsi, pIsC, isiC, tyN, pCB, gLen, gListD, gList, gDictC, gSortedD, gInt, gAdd, gSub, gI, gC, gLt, gLe, gGt, gGe, gGeX, gIs, gIsNot, isB, aNil, aCons, vw, shv, tru, kb_int_int, kb_int_bool, kb_tup_tup, kb_lst_lst, kb_dk_lst, eAnd, gMod, gFdiv, gMul, gIx, gSetL, setAtD, inM, gMax, gMin, toInts, maxL, minL, gEq_int, gNe_int, im_int, pLst, pTup, lim, dm, allDp, at_0, at_1, at_2, bd62, r_l_generator, b_l_generator, ec, q1, q2, q3, hP, hc, c7])
  obtain ⟨a, b, e⟩ := e
  exact ⟨_, e, _, _, _, rfl, by omega, by omega⟩
end L90
set_option Elab.async false
set_option linter.all false
/-! U1: orders, places, the pairs that two orders put unlike, what lies ahead and behind -/
namespace Ord0
def rgI (i j : Int) : List Int := (List.range (j - i).toNat).map fun k : Nat => i + (k : Int)
theorem mem_rgI {i j x : Int} : x ∈ rgI i j ↔ i ≤ x ∧ x < j := by
  unfold rgI
  simp only [List.mem_map, List.mem_range]
  constructor
  · rintro ⟨k, h, rfl⟩
    omega
  · rintro ⟨h1, h2⟩
    exact ⟨(x - i).toNat, by omega, by omega⟩
theorem rgI_len (i j : Int) : (rgI i j).length = (j - i).toNat := by simp [rgI]
theorem rgI_pw (i j : Int) : (rgI i j).Pairwise (· < ·) := by
  unfold rgI
  rw [List.pairwise_map]
  refine List.Pairwise.imp ?_ List.pairwise_lt_range
  intro a b h
  omega
theorem rgI_nodup (i j : Int) : (rgI i j).Nodup := (rgI_pw i j).imp fun h => Int.ne_of_lt h
/-- an order of 0 .. n-1 -/
def Per (n : Nat) (a : List Int) : Prop := a.Perm (rgI 0 n)
theorem Per.nd {n : Nat} {a : List Int} (h : Per n a) : a.Nodup := h.nodup_iff.mpr (rgI_nodup _ _)
theorem Per.mem {n : Nat} {a : List Int} (h : Per n a) {x : Int} : x ∈ a ↔ 0 ≤ x ∧ x < (n : Int) := by rw [h.mem_iff, mem_rgI]
theorem Per.len {n : Nat} {a : List Int} (h : Per n a) : a.length = n := by rw [h.length_eq, rgI_len]; omega
theorem Per.rev {n : Nat} {a : List Int} (h : Per n a) : Per n a.reverse := (List.reverse_perm a).trans h
def ps (a : List Int) (v : Int) : Int := (a.idxOf v : Int)
theorem ps_get {n : Nat} {a : List Int} (h : Per n a) {i : Nat} {v : Int} (e : a[i]? = some v) : ps a v = (i : Int) := by
  obtain ⟨hi, e⟩ := List.getElem?_eq_some_iff.mp e
  subst e
  unfold ps
  have : a.idxOf a[i] < a.length := List.idxOf_lt_length_of_mem (List.getElem_mem hi)
  have e2 : a[a.idxOf a[i]] = a[i] := List.getElem_idxOf this
  have := (List.getElem_inj h.nd).mp e2
  omega
theorem get_ps {n : Nat} {a : List Int} {v : Int} (hv : v ∈ a) : a[(ps a v).toNat]? = some v := by
  unfold ps
  have : a.idxOf v < a.length := List.idxOf_lt_length_of_mem hv
  rw [Int.toNat_natCast, List.getElem?_eq_getElem this, List.getElem_idxOf this]
theorem ps_nn (a : List Int) (v : Int) : 0 ≤ ps a v := by unfold ps; omega
theorem ps_inj {n : Nat} {a : List Int} {x y : Int} (hx : x ∈ a) (hy : y ∈ a) (e : ps a x = ps a y) : x = y := by
  have h1 := get_ps (n := n) hx
  have h2 := get_ps (n := n) hy
  rw [e, h2] at h1
  simpa using h1.symm
theorem ps_lt {a : List Int} {v : Int} (hv : v ∈ a) : ps a v < (a.length : Int) := by
  unfold ps
  have : a.idxOf v < a.length := List.idxOf_lt_length_of_mem hv
  omega
def dis (a b : List Int) (x y : Int) : Bool := decide (ps a x < ps a y) != decide (ps b x < ps b y)
def uL (n : Int) (a b : List Int) : List (Int × Int) := (rgI 0 n).flatMap fun lo => ((rgI (lo + 1) n).filter (dis a b lo)).map fun hi => (lo, hi)
def ah (a b : List Int) (e z : Int) : Bool := decide (ps a z < ps a e) && decide (ps b z < ps b e)
def bh (a b : List Int) (e z : Int) : Bool := decide (ps a e < ps a z) && decide (ps b e < ps b z)
def lst (a b : List Int) (lo hi : Int) : Int := (((rgI (lo + 1) hi).filter fun z => ah a b lo z || ah a b hi z).length : Int)
def mst (a b : List Int) (lo hi : Int) : Int := (((rgI (lo + 1) hi).filter fun z => !(bh a b lo z || bh a b hi z)).length : Int)
theorem dis_comm (a b : List Int) : dis a b = dis b a := by
  funext x y
  unfold dis
  rw [bne_comm]
theorem ah_comm (a b : List Int) : ah a b = ah b a := by
  funext x y
  unfold ah
  rw [Bool.and_comm]
theorem bh_comm (a b : List Int) : bh a b = bh b a := by
  funext x y
  unfold bh
  rw [Bool.and_comm]
theorem uL_comm (n : Int) (a b : List Int) : uL n a b = uL n b a := by unfold uL; rw [dis_comm]
theorem lst_comm (a b : List Int) : lst a b = lst b a := by funext x y; unfold lst; rw [ah_comm]
theorem mst_comm (a b : List Int) : mst a b = mst b a := by funext x y; unfold mst; rw [bh_comm]
theorem mem_uL {n : Int} {a b : List Int} {p : Int × Int} : p ∈ uL n a b ↔ 0 ≤ p.1 ∧ p.1 < p.2 ∧ p.2 < n ∧ dis a b p.1 p.2 = true := by
  unfold uL
  simp only [List.mem_flatMap, List.mem_map, List.mem_filter, mem_rgI]
  constructor
  · rintro ⟨lo, h1, hi, ⟨h2, h3⟩, rfl⟩
    exact ⟨h1.1, by show lo < hi; omega, h2.2, h3⟩
  · rintro ⟨h1, h2, h3, h4⟩
    exact ⟨p.1, ⟨h1, by omega⟩, p.2, ⟨⟨by omega, h3⟩, h4⟩, rfl⟩
/-- in order of the first, then of the second -/
def pLt (x y : Int × Int) : Prop := x.1 < y.1 ∨ (x.1 = y.1 ∧ x.2 < y.2)
theorem flat_pw {α β : Type} {R : α → α → Prop} {S : β → β → Prop} {f : α → List β} : ∀ {l : List α}, l.Pairwise R → (∀ a, (f a).Pairwise S) → (∀ a b x y, R a b → x ∈ f a → y ∈ f b → S x y) → (l.flatMap f).Pairwise S
  | [], _, _, _ => by simp
  | a :: l, h, h1, h2 => by
    rw [List.flatMap_cons, List.pairwise_append]
    rw [List.pairwise_cons] at h
    refine ⟨h1 a, flat_pw h.2 h1 h2, fun x hx y hy => ?_⟩
    obtain ⟨b, hb, hy⟩ := List.mem_flatMap.mp hy
    exact h2 a b x y (h.1 b hb) hx hy
theorem uL_pw (n : Int) (a b : List Int) : (uL n a b).Pairwise pLt := by
  unfold uL
  refine flat_pw (rgI_pw _ _) (fun lo => ?_) (fun x y p q hxy hp hq => ?_)
  · rw [List.pairwise_map]
    exact ((rgI_pw _ _).filter _).imp fun h => Or.inr ⟨rfl, h⟩
  · obtain ⟨_, _, rfl⟩ := List.mem_map.mp hp
    obtain ⟨_, _, rfl⟩ := List.mem_map.mp hq
    exact Or.inl hxy
theorem uL_nodup (n : Int) (a b : List Int) : (uL n a b).Nodup := (uL_pw n a b).imp fun h e => by
  subst e
  unfold pLt at h
  omega
theorem flat_len {α β : Type} {f : α → List β} {m : Nat} : ∀ {l : List α}, (∀ a ∈ l, (f a).length ≤ m) → (l.flatMap f).length ≤ l.length * m
  | [], _ => by simp
  | a :: l, h => by
    rw [List.flatMap_cons, List.length_append, List.length_cons, Nat.add_mul, Nat.one_mul]
    have := h a (List.mem_cons_self ..)
    have := flat_len (f := f) (m := m) (l := l) fun b hb => h b (List.mem_cons_of_mem _ hb)
    omega
theorem uL_len (n : Nat) (a b : List Int) : (uL n a b).length ≤ n * n := by
  have := flat_len (f := fun lo => ((rgI (lo + 1) (n : Int)).filter (dis a b lo)).map fun hi => (lo, hi)) (m := n) (l := rgI 0 n) fun lo h => by
    rw [List.length_map]
    refine Nat.le_trans (List.length_filter_le _ _) ?_
    rw [rgI_len]
    have := (mem_rgI.mp h).1
    omega
  rw [rgI_len, show ((n : Int) - 0).toNat = n by omega] at this
  exact this
end Ord0
set_option Elab.async false
set_option linter.all false
set_option maxRecDepth 100000
set_option maxHeartbeats 4000000
namespace L90
open PySem G Ord0
def en2 (g : D × M) (m : Int) (ls ns : List Int) : Env' := [some g, some (.int m, .dp), some (.lst (ls.map .int), .dp), some (.lst (ns.map .int), .dp)]
theorem map_erase {α β : Type} (f : α → β) : ∀ (ls : List α) (i : Nat), (ls.map f).eraseIdx i = (ls.eraseIdx i).map f
  | [], i => by simp
  | _ :: _, 0 => by simp
  | x :: ls, i + 1 => by simp [map_erase f ls i]
theorem popAt_ints (ls : List Int) (i : Int) (h0 : 0 ≤ i) (h1 : i < (ls.length : Int)) (hb : ls.length ≤ 1000) (m : M) : gPopAt (.lst (ls.map .int), .dp) [(.int i, m)] = some ((.int (ls.getD i.toNat 0), .dp), (.lst ((ls.eraseIdx i.toNat).map .int), .dp)) := by
  have hlt : i.toNat < ls.length := by omega
  have e1 : seqIndex? i (ls.map D.int).length = some i.toNat := by
    rw [List.length_map]
    have h2 : ¬ i < 0 := by omega
    simp [seqIndex?, h2, h0, h1]
  have e2 : (ls.map D.int)[i.toNat]? = some (.int (ls.getD i.toNat 0)) := by
    rw [List.getElem?_map, List.getElem?_eq_getElem hlt, List.getD_eq_getElem?_getD, List.getElem?_eq_getElem hlt]
    rfl
  have e3 : bd62 i = true := bd62_of (by omega)
  simp only [gPopAt, e3, if_true, e1, e2, Option.bind_some, outM, map_erase]
theorem st_order (g : D × M) (k : Nat) (m : Int) (ns ls : List Int) (hg : Gn g k) (hk : k ≤ 1000) (hn : ns.length ≤ 1000) (hl : ls.length ≤ 1000) (hne : ls ≠ []) :
    ∃ (i : Nat) (g' : D × M), b_l_order_1 (en2 g m ls ns) = some (.nx, en2 g' m (ls.eraseIdx i) (ns ++ [ls.getD i 0])) ∧ i < ls.length ∧ Gn g' (k + 1) := by
  have hpos : 0 < ls.length := List.length_pos_iff.mpr hne
  have hnl : ns.length < 16777216 := by omega
  obtain ⟨r, g', e, h1, h2, h3⟩ := e_random g k (ls.length : Int) hg (by omega) (by omega) (by omega)
  refine ⟨r.toNat, g', ?_, by omega, h3⟩
  have ep := popAt_ints ls r h1 h2 hl .dp
  simp [iRg1, iRg2, iLst, pLr, runG, outP, im, imm, immL, eB, eV, eS, eMv, eCp, frz, eNil, eCons, eLst, eTup, e2, e1, eCB, eIf, eMut, eMut0, eOn, isLst, eTmp, eCall, callR, takeA, convL, putA, rSl, rVl, caN, caC, eMake, mkR, rdL, sSeq, sIf, sRet, sRetN, sExpr, sSet, putS, sPar, sPar3, sAsg, goTup, goC, goN, unTup, sFor, iLstE, iRg1E, iRg2E, iS, iEnE, iEn, sNext, sNever, tV, tAndE, tOrE, tNotE, tTruE, tOfE, asBE, bAnd, bOr, bNot, bTru, tOf, asB, p2, p1, pC, pVar, pAnd, pOr, pNot, pIf, pChain, pCalG, pCallK, permL, pMake, pMakeK, pMeth, pMeth0, pFld, pIsi, pIsC, isiC, tyN, pCB, gLen, gListD, gList, gDictC, gSortedD, gInt, gAdd, gSub, gI, gC, gLt, gLe, gGt, gGe, gGeX, gIs, gIsNot, isB, aNil, aCons, vw, shv, tru, kb_int_int, kb_int_bool, kb_tup_tup, kb_lst_lst, kb_dk_lst, eAnd, gMod, gFdiv, gMul, gPow, gIx, gSetL, setAtD, inM, gMax, gMin, toInts, maxL, minL, gEq_int, gNe_int, im_int, pLst, pTup, lim, dm, allDp, at_0, at_1, at_2, bd62, b_l_order_1, en2, gAppend, e, ep, hnl]
theorem lp_order (g : D × M) (k : Nat) (m : Int) (ls0 : List Int) (hg : Gn g k) (hk : k ≤ 500) (hl : ls0.length ≤ 100) :
    ∃ g' ns, sWhile t_l_order_1 b_l_order_1 (en2 g m ls0 []) = some (.nx, en2 g' m [] ns) ∧ Gn g' (k + ls0.length) ∧ ns.Perm ls0 := by
  obtain ⟨fl, e', h1, rfl, g', ns, h2, h3, h4⟩ := sWhile_inv (t := t_l_order_1) (b := b_l_order_1)
    (I := fun mm e => ∃ g' ns ls, e = en2 g' m ls ns ∧ Gn g' (k + ns.length) ∧ (ns ++ ls).Perm ls0 ∧ mm = ls.length)
    (F := fun fl e => fl = .nx ∧ ∃ g' ns, e = en2 g' m [] ns ∧ Gn g' (k + ns.length) ∧ ns.Perm ls0)
    (fun mm e ⟨g', ns, ls, he, hg', hp, hm⟩ => by
      have hlen : ns.length + ls.length = ls0.length := by rw [← hp.length_eq, List.length_append]
      refine ⟨decide (ls ≠ []), e, ?_, fun hz => ?_, fun hz => ?_⟩
      · subst he
        simp [iRg1, iRg2, iLst, pLr, runG, outP, im, imm, immL, eB, eV, eS, eMv, eCp, frz, eNil, eCons, eLst, eTup, e2, e1, eCB, eIf, eMut, eMut0, eOn, isLst, eTmp, eCall, callR, takeA, convL, putA, rSl, rVl, caN, caC, eMake, mkR, rdL, sSeq, sIf, sRet, sRetN, sExpr, sSet, putS, sPar, sPar3, sAsg, goTup, goC, goN, unTup, sFor, iLstE, iRg1E, iRg2E, iS, iEnE, iEn, sNext, sNever, tV, tAndE, tOrE, tNotE, tTruE, tOfE, asBE, bAnd, bOr, bNot, bTru, tOf, asB, p2, p1, pC, pVar, pAnd, pOr, pNot, pIf, pChain, pCalG, pCallK, permL, pMake, pMakeK, pMeth, pMeth0, pFld, pIsi, pIsC, isiC, tyN, pCB, gLen, gListD, gList, gDictC, gSortedD, gInt, gAdd, gSub, gI, gC, gLt, gLe, gGt, gGe, gGeX, gIs, gIsNot, isB, aNil, aCons, vw, shv, tru, kb_int_int, kb_int_bool, kb_tup_tup, kb_lst_lst, kb_dk_lst, eAnd, gMod, gFdiv, gMul, gPow, gIx, gSetL, setAtD, inM, gMax, gMin, toInts, maxL, minL, gEq_int, gNe_int, im_int, pLst, pTup, lim, dm, allDp, at_0, at_1, at_2, bd62, t_l_order_1, en2, gNe_ints_nil]
      · have : ls = [] := by simpa using hz
        subst this
        exact ⟨rfl, g', ns, he, hg', by simpa using hp⟩
      · have hne : ls ≠ [] := by simpa using hz
        obtain ⟨i, g2, e2, hi, hg2⟩ := st_order g' (k + ns.length) m ns ls hg' (by omega) (by omega) (by omega) hne
        subst he
        refine ⟨.nx, _, e2, (ls.eraseIdx i).length, ?_, g2, ns ++ [ls.getD i 0], ls.eraseIdx i, rfl, by simpa [Nat.add_assoc] using hg2, ?_, rfl⟩
        · rw [List.length_eraseIdx_of_lt hi]; omega
        · refine List.Perm.trans ?_ hp
          rw [List.append_assoc]
          refine List.Perm.append_left _ ?_
          have := perm_erase ls i hi
          rw [List.getD_eq_getElem?_getD, List.getElem?_eq_getElem hi]
          exact this)
    ls0.length (en2 g m ls0 []) (by unfold fuel; omega) ⟨g, [], ls0, rfl, hg, by simp, rfl⟩
  subst h2
  rw [h4.length_eq] at h3
  exact ⟨g', ns, h1, h3, h4⟩
theorem rgD_rgI (i j : Int) : rgD i j = (rgI i j).map D.int := by unfold rgD rgI; simp [List.map_map]
theorem e_order (g : D × M) (k : Nat) (n : Nat) (hg : Gn g k) (hk : k ≤ 500) (hn : n ≤ 100) : ∃ g' ns, r_l_order [g, (.int (n : Int), .dp)] = some (.lst (ns.map .int), .dp, [g', (.int (n : Int), .dp)]) ∧ Per n ns ∧ Gn g' (k + n) := by
  obtain ⟨g', ns, h1, h2, h3⟩ := lp_order g k n (rgI 0 n) hg hk (by rw [rgI_len]; omega)
  rw [rgI_len, show ((n : Int) - 0).toNat = n by omega] at h2
  refine ⟨g', ns, ?_, h3, h2⟩
  have hb : bd62 (n : Int) = true := bd_nat (by omega)
  have er := rgD_rgI 0 n
  have hl : (rgI 0 (n : Int)).length ≤ 16777216 := by rw [rgI_len]; omega
  simp only [en2, List.map_nil] at h1
  simp [-List.map_map, iRg1, iRg2, iLst, pLr, runG, outP, im, imm, immL, eB, eV, eS, eMv, eCp, frz, eNil, eCons, eLst, eTup, e2, e1, eCB, eIf, eMut, eMut0, eOn, isLst, eTmp, eCall, callR, takeA, convL, putA, rSl, rVl, caN, caC, eMake, mkR, rdL, sSeq, sIf, sRet, sRetN, sExpr, sSet, putS, sPar, sPar3, sAsg, goTup, goC, goN, unTup, sFor, iLstE, iRg1E, iRg2E, iS, iEnE, iEn, sNext, sNever, tV, tAndE, tOrE, tNotE, tTruE, tOfE, asBE, bAnd, bOr, bNot, bTru, tOf, asB, p2, p1, pC, pVar, pAnd, pOr, pNot, pIf, pChain, pCalG, pCallK, permL, pMake, pMakeK, pMeth, pMeth0, pFld, pIsi, pIsC, isiC, tyN, pCB, gLen, gListD, gList, gDictC, gSortedD, gInt, gAdd, gSub, gI, gC, gLt, gLe, gGt, gGe, gGeX, gIs, gIsNot, isB, aNil, aCons, vw, shv, tru, kb_int_int, kb_int_bool, kb_tup_tup, kb_lst_lst, kb_dk_lst, eAnd, gMod, gFdiv, gMul, gPow, gIx, gSetL, setAtD, inM, gMax, gMin, toInts, maxL, minL, gEq_int, gNe_int, im_int, pLst, pTup, lim, dm, allDp, at_0, at_1, at_2, r_l_order, b_l_order, hb, er, hl, h1, List.length_map]
end L90
set_option Elab.async false
set_option linter.all false
set_option maxRecDepth 100000
set_option maxHeartbeats 4000000
namespace L90
open PySem G Ord0
def iD (ns : List Int) : D := .lst (ns.map .int)
theorem imm_iD (ns : List Int) : imm (iD ns) = false := rfl
/-- where each number stands -/
def plc (n : Nat) (a : List Int) : List Int := (rgI 0 n).map (ps a)
theorem at_get {α : Type} (l : List α) (f : α → D) (i : Int) (x : α) (h0 : 0 ≤ i) (h : l[i.toNat]? = some x) : L2.atI (l.map f) i = some (f x) := by
  have hlt := (List.getElem?_eq_some_iff.mp h).1
  have h1 : i < (l.length : Int) := by omega
  have h2 := (List.getElem?_eq_some_iff.mp h).2
  simp [L2.atI, L2.ixN, h0, h1, h2]
theorem rgI_get {n : Nat} {z : Int} (h0 : 0 ≤ z) (h1 : z < (n : Int)) : (rgI 0 n)[z.toNat]? = some z := by
  unfold rgI
  have : z.toNat < ((n : Int) - 0).toNat := by omega
  rw [List.getElem?_map, List.getElem?_range this]
  show some (0 + (z.toNat : Int)) = some z
  congr 1
  omega
theorem at_plc {n : Nat} (a : List Int) {z : Int} (h0 : 0 ≤ z) (h1 : z < (n : Int)) : L2.atI ((plc n a).map D.int) z = some (.int (ps a z)) :=
  at_get _ _ _ _ h0 (by unfold plc; rw [List.getElem?_map, rgI_get h0 h1]; rfl)
def two (p : Int → Bool) (lo hi : Int) : List Int := [lo, hi].filter p
theorem two_ne (p : Int → Bool) (lo hi : Int) : decide (two p lo hi ≠ []) = (p lo || p hi) := by
  unfold two
  cases h1 : p lo <;> cases h2 : p hi <;> simp [h1, h2]
theorem two_eq (p : Int → Bool) (lo hi : Int) : decide (two p lo hi = []) = !(p lo || p hi) := by
  unfold two
  cases h1 : p lo <;> cases h2 : p hi <;> simp [h1, h2]
theorem c_ct_1 {n : Nat} (a b : List Int) (lo hi z : Int) (hlo : 0 ≤ lo ∧ lo < (n : Int)) (hhi : 0 ≤ hi ∧ hi < (n : Int)) (hz : 0 ≤ z ∧ z < (n : Int)) (y4 y5 y7 y8 y9 : Option D) :
    c_counted_1 [some (iD (plc n a)), some (iD (plc n b)), some (.int lo), some (.int hi), y4, y5, some (.int z), y7, y8, y9] = some (.lst ((two (fun e => ah a b e z) lo hi).map .int), .dp) := by
  have a1 := at_plc a hz.1 hz.2
  have a2 := at_plc b hz.1 hz.2
  have a3 := at_plc a hlo.1 hlo.2
  have a4 := at_plc b hlo.1 hlo.2
  have a5 := at_plc a hhi.1 hhi.2
  have a6 := at_plc b hhi.1 hhi.2
  by_cases q1 : ps a z < ps a lo <;> by_cases q2 : ps b z < ps b lo <;> by_cases q3 : ps a z < ps a hi <;> by_cases q4 : ps b z < ps b hi <;>
    simp [iRg1, iRg2, iLst, pLr, runG, outP, im, imm, immL, eB, eV, eS, eMv, eCp, frz, eNil, eCons, eLst, eTup, e2, e1, eCB, eIf, eMut, eMut0, eOn, isLst, eTmp, eCall, callR, takeA, convL, putA, rSl, rVl, caN, caC, eMake, mkR, rdL, sSeq, sIf, sRet, sRetN, sExpr, sSet, putS, sPar, sPar3, sAsg, goTup, goC, goN, unTup, sFor, iLstE, iRg1E, iRg2E, iS, iEnE, iEn, sNext, sNever, tV, tAndE, tOrE, tNotE, tTruE, tOfE, asBE, bAnd, bOr, bNot, bTru, tOf, asB, p2, p1, pC, pVar, pAnd, pOr, pNot, pIf, pChain, pCalG, pCallK, permL, pMake, pMakeK, pMeth, pMeth0, pFld, pIsi, pIsC, isiC, tyN, pCB, gLen, gListD, gList, gDictC, gSortedD, gInt, gAdd, gSub, gI, gC, gLt, gLe, gGt, gGe, gGeX, gIs, gIsNot, isB, aNil, aCons, vw, shv, tru, kb_int_int, kb_int_bool, kb_tup_tup, kb_lst_lst, kb_dk_lst, eAnd, gMod, gFdiv, gMul, gPow, gIx, gSetL, setAtD, inM, gMax, gMin, toInts, maxL, minL, gEq_int, gNe_int, im_int, pLst, pTup, lim, dm, allDp, at_0, at_1, at_2, c_counted_1, iD, pComp, compL, wipeV, gSet, a1, a2, a3, a4, a5, a6, two, ah, q1, q2, q3, q4, List.filter]
theorem c_ct_2 {n : Nat} (a b : List Int) (lo hi z : Int) (hlo : 0 ≤ lo ∧ lo < (n : Int)) (hhi : 0 ≤ hi ∧ hi < (n : Int)) (hz : 0 ≤ z ∧ z < (n : Int)) (y4 y5 y7 y8 y9 : Option D) :
    c_counted_2 [some (iD (plc n a)), some (iD (plc n b)), some (.int lo), some (.int hi), y4, y5, some (.int z), y7, y8, y9] = some (.lst ((two (fun e => bh a b e z) lo hi).map .int), .dp) := by
  have a1 := at_plc a hz.1 hz.2
  have a2 := at_plc b hz.1 hz.2
  have a3 := at_plc a hlo.1 hlo.2
  have a4 := at_plc b hlo.1 hlo.2
  have a5 := at_plc a hhi.1 hhi.2
  have a6 := at_plc b hhi.1 hhi.2
  by_cases q1 : ps a lo < ps a z <;> by_cases q2 : ps b lo < ps b z <;> by_cases q3 : ps a hi < ps a z <;> by_cases q4 : ps b hi < ps b z <;>
    simp [iRg1, iRg2, iLst, pLr, runG, outP, im, imm, immL, eB, eV, eS, eMv, eCp, frz, eNil, eCons, eLst, eTup, e2, e1, eCB, eIf, eMut, eMut0, eOn, isLst, eTmp, eCall, callR, takeA, convL, putA, rSl, rVl, caN, caC, eMake, mkR, rdL, sSeq, sIf, sRet, sRetN, sExpr, sSet, putS, sPar, sPar3, sAsg, goTup, goC, goN, unTup, sFor, iLstE, iRg1E, iRg2E, iS, iEnE, iEn, sNext, sNever, tV, tAndE, tOrE, tNotE, tTruE, tOfE, asBE, bAnd, bOr, bNot, bTru, tOf, asB, p2, p1, pC, pVar, pAnd, pOr, pNot, pIf, pChain, pCalG, pCallK, permL, pMake, pMakeK, pMeth, pMeth0, pFld, pIsi, pIsC, isiC, tyN, pCB, gLen, gListD, gList, gDictC, gSortedD, gInt, gAdd, gSub, gI, gC, gLt, gLe, gGt, gGe, gGeX, gIs, gIsNot, isB, aNil, aCons, vw, shv, tru, kb_int_int, kb_int_bool, kb_tup_tup, kb_lst_lst, kb_dk_lst, eAnd, gMod, gFdiv, gMul, gPow, gIx, gSetL, setAtD, inM, gMax, gMin, toInts, maxL, minL, gEq_int, gNe_int, im_int, pLst, pTup, lim, dm, allDp, at_0, at_1, at_2, c_counted_2, iD, pComp, compL, wipeV, gSet, a1, a2, a3, a4, a5, a6, two, bh, q1, q2, q3, q4, List.filter]
def stepC (a b : List Int) (lo hi : Int) (s : Int × Int) (z : Int) : Int × Int := (s.1 + (if ah a b lo z || ah a b hi z then 1 else 0), s.2 + (if !(bh a b lo z || bh a b hi z) then 1 else 0))
theorem foldC (a b : List Int) (lo hi : Int) : ∀ (l : List Int) (s : Int × Int), l.foldl (stepC a b lo hi) s = (s.1 + ((l.filter fun z => ah a b lo z || ah a b hi z).length : Int), s.2 + ((l.filter fun z => !(bh a b lo z || bh a b hi z)).length : Int))
  | [], s => by simp
  | z :: l, s => by
    rw [List.foldl_cons, foldC a b lo hi l, stepC, List.filter_cons, List.filter_cons]
    ext
    · dsimp only
      split
      · simp only [List.length_cons]; omega
      · simp
    · dsimp only
      split
      · simp only [List.length_cons]; omega
      · simp
def en3 (n : Nat) (a b : List Int) (m : M) (lo hi : Int) (s : Int × Int) (x6 x7 x8 x9 : Option (D × M)) : Env' := [some (iD (plc n a), m), some (iD (plc n b), m), some (.int lo, .dp), some (.int hi, .dp), some (.int s.1, .dp), some (.int s.2, .dp), x6, x7, x8, x9]
theorem st_counted {n : Nat} (a b : List Int) (m : M) (lo hi z : Int) (hlo : 0 ≤ lo ∧ lo < (n : Int)) (hhi : 0 ≤ hi ∧ hi < (n : Int)) (hz : 0 ≤ z ∧ z < (n : Int)) (s : Int × Int) (x7 x8 x9 : Option (D × M)) :
    ∃ y7 y8, b_counted_1 (en3 n a b m lo hi s (some (.int z, .dp)) x7 x8 x9) = some (.nx, en3 n a b m lo hi (stepC a b lo hi s z) (some (.int z, .dp)) y7 y8 x9) := by
  refine ⟨some (.lst ((two (fun e => ah a b e z) lo hi).map .int), .dp), some (.lst ((two (fun e => bh a b e z) lo hi).map .int), .dp), ?_⟩
  have e1 := c_ct_1 a b lo hi z hlo hhi hz (some (.int s.1)) (some (.int s.2)) (x7.map (·.1)) (x8.map (·.1)) (x9.map (·.1))
  have e2 := c_ct_2 a b lo hi z hlo hhi hz (some (.int s.1)) (some (.int s.2)) (some (.lst ((two (fun e => ah a b e z) lo hi).map .int))) (x8.map (·.1)) (x9.map (·.1))
  have e3 := gNe_ints (two (fun e => ah a b e z) lo hi) []
  have e4 := gEq_ints (two (fun e => bh a b e z) lo hi) []
  rw [two_ne] at e3
  rw [two_eq] at e4
  simp only [List.map_nil] at e3 e4
  cases h1 : (ah a b lo z || ah a b hi z) <;> cases h2 : (bh a b lo z || bh a b hi z) <;> rw [h1] at e3 <;> rw [h2] at e4 <;>
    simp [iRg1, iRg2, iLst, pLr, runG, outP, im, imm, immL, eB, eV, eS, eMv, eCp, frz, eNil, eCons, eLst, eTup, e2, e1, eCB, eIf, eMut, eMut0, eOn, isLst, eTmp, eCall, callR, takeA, convL, putA, rSl, rVl, caN, caC, eMake, mkR, rdL, sSeq, sIf, sRet, sRetN, sExpr, sSet, putS, sPar, sPar3, sAsg, goTup, goC, goN, unTup, sFor, iLstE, iRg1E, iRg2E, iS, iEnE, iEn, sNext, sNever, tV, tAndE, tOrE, tNotE, tTruE, tOfE, asBE, bAnd, bOr, bNot, bTru, tOf, asB, p2, p1, pC, pVar, pAnd, pOr, pNot, pIf, pChain, pCalG, pCallK, permL, pMake, pMakeK, pMeth, pMeth0, pFld, pIsi, pIsC, isiC, tyN, pCB, gLen, gListD, gList, gDictC, gSortedD, gInt, gAdd, gSub, gI, gC, gLt, gLe, gGt, gGe, gGeX, gIs, gIsNot, isB, aNil, aCons, vw, shv, tru, kb_int_int, kb_int_bool, kb_tup_tup, kb_lst_lst, kb_dk_lst, eAnd, gMod, gFdiv, gMul, gPow, gIx, gSetL, setAtD, inM, gMax, gMin, toInts, maxL, minL, gEq_int, gNe_int, im_int, pLst, pTup, lim, dm, allDp, at_0, at_1, at_2, bd62, b_counted_1, en3, e1, e2, e3, e4, stepC, h1, h2]
theorem e_counted {n : Nat} (a b : List Int) (lo hi : Int) (hlo : 0 ≤ lo ∧ lo < (n : Int)) (hhi : 0 ≤ hi ∧ hi < (n : Int)) (hn : n ≤ 1000) :
    r_counted [(iD (plc n a), .sh), (iD (plc n b), .sh), (.int lo, .dp), (.int hi, .dp)] = some (.tup [.int (lst a b lo hi), .int (mst a b lo hi)], .dp, [(iD (plc n a), .sh), (iD (plc n b), .sh), (.int lo, .dp), (.int hi, .dp)]) := by
  obtain ⟨e', h1, x6, x7, x8, x9, h2⟩ := forL_mem (en := D.int) (g := putS [false, false, false, false] 6) (b := b_counted_1) (f := stepC a b lo hi) (P := fun z => lo + 1 ≤ z ∧ z < hi)
    (R := fun s e => ∃ x6 x7 x8 x9, e = en3 n a b .sh lo hi s x6 x7 x8 x9)
    (fun s z e hz ⟨x6, x7, x8, x9, he⟩ => by
      subst he
      obtain ⟨y7, y8, q⟩ := st_counted a b .sh lo hi z hlo hhi ⟨by omega, by omega⟩ s x7 x8 x9
      exact ⟨en3 n a b .sh lo hi s (some (.int z, .dp)) x7 x8 x9, _, by simp [putS, im_int, en3], q, _, _, _, _, rfl⟩)
    (rgI (lo + 1) hi) (0, 0) (en3 n a b .sh lo hi (0, 0) none none none none) (fun z hz => mem_rgI.mp hz) ⟨_, _, _, _, rfl⟩
  rw [foldC] at h2
  subst h2
  have er := rgD_rgI (lo + 1) hi
  have b1 : bd62 (lo + 1) = true := bd62_of (by omega)
  have b2 : bd62 hi = true := bd62_of (by omega)
  simp only [en3] at h1
  have z1 : lst a b lo hi = 0 + (((rgI (lo + 1) hi).filter fun z => ah a b lo z || ah a b hi z).length : Int) := by unfold lst; omega
  have z2 : mst a b lo hi = 0 + (((rgI (lo + 1) hi).filter fun z => !(bh a b lo z || bh a b hi z)).length : Int) := by unfold mst; omega
  rw [z1, z2]
  simp [-List.map_map, iRg1, iRg2, iLst, pLr, runG, outP, im, imm, immL, eB, eV, eS, eMv, eCp, frz, eNil, eCons, eLst, eTup, e2, e1, eCB, eIf, eMut, eMut0, eOn, isLst, eTmp, eCall, callR, takeA, convL, putA, rSl, rVl, caN, caC, eMake, mkR, rdL, sSeq, sIf, sRet, sRetN, sExpr, sSet, putS, sPar, sPar3, sAsg, goTup, goC, goN, unTup, sFor, iLstE, iRg1E, iRg2E, iS, iEnE, iEn, sNext, sNever, tV, tAndE, tOrE, tNotE, tTruE, tOfE, asBE, bAnd, bOr, bNot, bTru, tOf, asB, p2, p1, pC, pVar, pAnd, pOr, pNot, pIf, pChain, pCalG, pCallK, permL, pMake, pMakeK, pMeth, pMeth0, pFld, pIsi, pIsC, isiC, tyN, pCB, gLen, gListD, gList, gDictC, gSortedD, gInt, gAdd, gSub, gI, gC, gLt, gLe, gGt, gGe, gGeX, gIs, gIsNot, isB, aNil, aCons, vw, shv, tru, kb_int_int, kb_int_bool, kb_tup_tup, kb_lst_lst, kb_dk_lst, eAnd, gMod, gFdiv, gMul, gPow, gIx, gSetL, setAtD, inM, gMax, gMin, toInts, maxL, minL, gEq_int, gNe_int, im_int, pLst, pTup, lim, dm, allDp, at_0, at_1, at_2, r_counted, b_counted, b1, b2, er, h1, imm_iD]
end L90
set_option Elab.async false
set_option linter.all false
set_option maxRecDepth 100000
set_option maxHeartbeats 4000000
namespace L90
open PySem G Ord0
/-! dicts of places -/
def enT (p : Int × Nat) : D := .tup [.int (p.2 : Int), .int p.1]
theorem enD_ints : ∀ (a : List Int) (k : Nat), enD k (a.map .int) = (a.zipIdx k).map enT
  | [], _ => rfl
  | x :: a, k => by
    simp only [List.map_cons, enD, List.zipIdx_cons, enD_ints a (k + 1), enT]
theorem iEn_ints {f : VEnv → Option (D × M)} {ve : VEnv} {a : List Int} {m : M} (h : f ve = some (iD a, m)) : iEn f ve = some (a.zipIdx.map enT) := by
  unfold iEn iLst
  rw [h]
  show some (enD 0 (a.map .int)) = _
  rw [enD_ints]
def kvT (p : Int × Nat) : L2.Key × D := (.inl p.1, .int (p.2 : Int))
theorem kvsOf_en : ∀ (l : List (Int × Nat)), kvsOf (l.map fun p => D.tup [.int p.1, .int (p.2 : Int)]) = some (l.map kvT)
  | [] => rfl
  | p :: l => by simp [kvsOf, isKey, kvsOf_en l, kvT]
theorem putAll_new : ∀ (l : List (L2.Key × D)) (ks : List L2.Key) (ds : List D), (ks ++ l.map (·.1)).Nodup → putAll (ks, ds) l = (ks ++ l.map (·.1), ds ++ l.map (·.2))
  | [], ks, ds, _ => by simp [putAll]
  | p :: l, ks, ds, nd => by
    have hn : ¬ hasK ks p.1 := fun h => by
      have := (List.nodup_append.mp nd).2.2 p.1 h p.1 (by simp)
      exact this rfl
    simp only [putAll, putD, if_neg hn]
    rw [putAll_new l (ks ++ [p.1]) (ds ++ [p.2]) (by simpa using nd)]
    simp
theorem zip_fst (a : List Int) (k : Nat) : (a.zipIdx k).map (fun p => p.1) = a := by simp
theorem zip_snd (a : List Int) (k : Nat) : (a.zipIdx k).map (fun p => (p.2 : Int)) = rgI k (k + a.length) := by
  have h := List.zipIdx_map_snd k a
  have : (a.zipIdx k).map (fun p => (p.2 : Int)) = ((a.zipIdx k).map Prod.snd).map fun (i : Nat) => (i : Int) := by
    rw [List.map_map]
    rfl
  rw [this, h]
  unfold rgI
  rw [List.range'_eq_map_range, List.map_map, show ((k : Int) + (a.length : Int) - k).toNat = a.length by omega]
  apply List.map_congr_left
  intro x _
  simp
/-- the places, by number -/
def plD (a : List Int) : D := .dk (a.map .inl) ((rgI 0 a.length).map .int)
theorem lm_ints (l : List Int) : lm (l.map .int) = .dp := by
  unfold lm
  rw [if_pos]
  induction l with
  | nil => rfl
  | cons x l ih => simpa [immL, imm] using ih
theorem dictC (a : List Int) (nd : a.Nodup) : gDictC [.lst (a.zipIdx.map fun p => D.tup [.int p.1, .int (p.2 : Int)])] = some (plD a, .dp) := by
  simp only [gDictC, kvsOf_en, Option.bind_some]
  have e1 : (a.zipIdx.map kvT).map (·.1) = a.map .inl := by
    rw [List.map_map]
    rw [show ((fun x : L2.Key × D => x.1) ∘ kvT) = (Sum.inl ∘ fun p : Int × Nat => p.1) from rfl, ← List.map_map, zip_fst]
  have e2 : (a.zipIdx.map kvT).map (·.2) = (rgI 0 a.length).map .int := by
    rw [List.map_map, show ((fun x : L2.Key × D => x.2) ∘ kvT) = (D.int ∘ fun p : Int × Nat => (p.2 : Int)) from rfl, ← List.map_map, zip_snd]
    simp
  rw [putAll_new _ [] [] (by
    rw [e1, List.nil_append]
    exact nd.map Sum.inl fun x y h q => h (by simpa using q))]
  rw [e1, e2]
  simp only [List.nil_append, plD, lm_ints]
theorem look_idx : ∀ (a : List Int) (ds : List D) (z : Int) (d : D), ds[a.idxOf z]? = some d → z ∈ a → look (a.map Sum.inl : List L2.Key) ds (.inl z) = some d
  | [], _, _, _, _, h => by cases h
  | x :: a, [], z, d, e, h => by simp at e
  | x :: a, y :: ds, z, d, e, h => by
    simp only [List.map_cons, look]
    by_cases hx : x = z
    · subst hx
      simp at e
      simp [e]
    · have hx2 : ¬ (Sum.inl x : L2.Key) = Sum.inl z := fun q => hx (by simpa using q)
      have hb : (x == z) = false := by simpa using hx
      rw [if_neg hx2]
      rw [List.idxOf_cons, hb] at e
      simp only [cond_false, List.getElem?_cons_succ] at e
      exact look_idx a ds z d e (by
        rcases List.mem_cons.mp h with q | q
        · exact absurd q.symm hx
        · exact q)
theorem look_pl {a : List Int} {z : Int} (h : z ∈ a) : look (a.map Sum.inl : List L2.Key) ((rgI 0 a.length).map .int) (.inl z) = some (.int (ps a z)) := by
  refine look_idx _ _ _ _ ?_ h
  have hl : a.idxOf z < a.length := List.idxOf_lt_length_of_mem h
  have := rgI_get (n := a.length) (z := ps a z) (ps_nn _ _) (by unfold ps; omega)
  rw [List.getElem?_map]
  unfold ps at this ⊢
  rw [Int.toNat_natCast] at this
  rw [this]
  rfl
/-- a dict from a list with its places -/
theorem e_places {i j : Nat} {f : VEnv → Option (D × M)} {ve : VEnv} {a : List Int} {m : M} (nd : a.Nodup) (hl : a.length ≤ 1000) (hf : f ve = some (iD a, m))
    (h : ∀ p ∈ a.zipIdx, ∃ ve', (gTupD 2 (gsC (gSet i) (gsC (gSet j) gsN))) (enT p) (wipeV ve [i, j]) = some ve' ∧ (pTup (aCons (pVar j) (aCons (pVar i) aNil))) ve' = some (D.tup [.int p.1, .int (p.2 : Int)], .dp)) :
    pCB gDictC (aCons (pComp [i, j] (iEn f) (gTupD 2 (gsC (gSet i) (gsC (gSet j) gsN))) bYes (pTup (aCons (pVar j) (aCons (pVar i) aNil)))) aNil) ve = some (plD a, .dp) := by
  have e1 := pComp_eq (vs := [i, j]) (iEn_ints hf) (by rw [List.length_map, List.length_zipIdx]; exact le_lim (by omega)) (compL_all h)
  have e2 : (List.map (fun p : Int × Nat => (D.tup [.int p.1, .int (p.2 : Int)], M.dp)) a.zipIdx).map (·.1) = a.zipIdx.map fun p => D.tup [.int p.1, .int (p.2 : Int)] := by rw [List.map_map]; rfl
  rw [e2] at e1
  unfold pCB
  simp only [aCons, aNil, e1, Option.bind_some, List.map_cons, List.map_nil]
  exact dictC a nd
end L90
set_option Elab.async false
set_option linter.all false
set_option maxRecDepth 100000
set_option maxHeartbeats 4000000
namespace L90
open PySem G Ord0
def en5 (a b : List Int) (m : M) (lo hi : Int) (s : Int × Int) (x8 x9 x10 : Option (D × M)) : Env' := [some (iD a, m), some (iD b, m), some (.int lo, .dp), some (.int hi, .dp), some (plD a, .dp), some (plD b, .dp), some (.int s.1, .dp), some (.int s.2, .dp), x8, x9, x10, none, none]
theorem c_lh_3 (a b : List Int) (lo hi z : Int) (ha : lo ∈ a ∧ hi ∈ a ∧ z ∈ a) (hb : lo ∈ b ∧ hi ∈ b ∧ z ∈ b) (y0 y1 y6 y7 y9 y10 y11 y12 : Option D) :
    c_l_low_high_3 [y0, y1, some (.int lo), some (.int hi), some (plD a), some (plD b), y6, y7, some (.int z), y9, y10, y11, y12] = some (.lst ((two (fun e => ah a b e z) lo hi).map .int), .dp) := by
  have a1 := look_pl ha.2.2
  have a2 := look_pl hb.2.2
  have a3 := look_pl ha.1
  have a4 := look_pl hb.1
  have a5 := look_pl ha.2.1
  have a6 := look_pl hb.2.1
  by_cases q1 : ps a z < ps a lo <;> by_cases q2 : ps b z < ps b lo <;> by_cases q3 : ps a z < ps a hi <;> by_cases q4 : ps b z < ps b hi <;>
    simp [iRg1, iRg2, iLst, pLr, runG, outP, im, imm, immL, eB, eV, eS, eMv, eCp, frz, eNil, eCons, eLst, eTup, e2, e1, eCB, eIf, eMut, eMut0, eOn, isLst, eTmp, eCall, callR, takeA, convL, putA, rSl, rVl, caN, caC, eMake, mkR, rdL, sSeq, sIf, sRet, sRetN, sExpr, sSet, putS, sPar, sPar3, sAsg, goTup, goC, goN, unTup, sFor, iLstE, iRg1E, iRg2E, iS, iEnE, iEn, sNext, sNever, tV, tAndE, tOrE, tNotE, tTruE, tOfE, asBE, bAnd, bOr, bNot, bTru, tOf, asB, p2, p1, pC, pVar, pAnd, pOr, pNot, pIf, pChain, pCalG, pCallK, permL, pMake, pMakeK, pMeth, pMeth0, pFld, pIsi, pIsC, isiC, tyN, pCB, gLen, gListD, gList, gDictC, gSortedD, gInt, gAdd, gSub, gI, gC, gLt, gLe, gGt, gGe, gGeX, gIs, gIsNot, isB, aNil, aCons, vw, shv, tru, kb_int_int, kb_int_bool, kb_tup_tup, kb_lst_lst, kb_dk_lst, eAnd, gMod, gFdiv, gMul, gPow, gIx, gSetL, setAtD, inM, gMax, gMin, toInts, maxL, minL, gEq_int, gNe_int, im_int, pLst, pTup, lim, dm, allDp, at_0, at_1, at_2, c_l_low_high_3, plD, pComp, compL, wipeV, gSet, isKey, a1, a2, a3, a4, a5, a6, two, ah, q1, q2, q3, q4, List.filter]
theorem c_lh_4 (a b : List Int) (lo hi z : Int) (ha : lo ∈ a ∧ hi ∈ a ∧ z ∈ a) (hb : lo ∈ b ∧ hi ∈ b ∧ z ∈ b) (y0 y1 y6 y7 y9 y10 y11 y12 : Option D) :
    c_l_low_high_4 [y0, y1, some (.int lo), some (.int hi), some (plD a), some (plD b), y6, y7, some (.int z), y9, y10, y11, y12] = some (.lst ((two (fun e => bh a b e z) lo hi).map .int), .dp) := by
  have a1 := look_pl ha.2.2
  have a2 := look_pl hb.2.2
  have a3 := look_pl ha.1
  have a4 := look_pl hb.1
  have a5 := look_pl ha.2.1
  have a6 := look_pl hb.2.1
  by_cases q1 : ps a lo < ps a z <;> by_cases q2 : ps b lo < ps b z <;> by_cases q3 : ps a hi < ps a z <;> by_cases q4 : ps b hi < ps b z <;>
    simp [iRg1, iRg2, iLst, pLr, runG, outP, im, imm, immL, eB, eV, eS, eMv, eCp, frz, eNil, eCons, eLst, eTup, e2, e1, eCB, eIf, eMut, eMut0, eOn, isLst, eTmp, eCall, callR, takeA, convL, putA, rSl, rVl, caN, caC, eMake, mkR, rdL, sSeq, sIf, sRet, sRetN, sExpr, sSet, putS, sPar, sPar3, sAsg, goTup, goC, goN, unTup, sFor, iLstE, iRg1E, iRg2E, iS, iEnE, iEn, sNext, sNever, tV, tAndE, tOrE, tNotE, tTruE, tOfE, asBE, bAnd, bOr, bNot, bTru, tOf, asB, p2, p1, pC, pVar, pAnd, pOr, pNot, pIf, pChain, pCalG, pCallK, permL, pMake, pMakeK, pMeth, pMeth0, pFld, pIsi, pIsC, isiC, tyN, pCB, gLen, gListD, gList, gDictC, gSortedD, gInt, gAdd, gSub, gI, gC, gLt, gLe, gGt, gGe, gGeX, gIs, gIsNot, isB, aNil, aCons, vw, shv, tru, kb_int_int, kb_int_bool, kb_tup_tup, kb_lst_lst, kb_dk_lst, eAnd, gMod, gFdiv, gMul, gPow, gIx, gSetL, setAtD, inM, gMax, gMin, toInts, maxL, minL, gEq_int, gNe_int, im_int, pLst, pTup, lim, dm, allDp, at_0, at_1, at_2, c_l_low_high_4, plD, pComp, compL, wipeV, gSet, isKey, a1, a2, a3, a4, a5, a6, two, bh, q1, q2, q3, q4, List.filter]
theorem imm_plD (a : List Int) : imm (plD a) = false := rfl
theorem st_lh (a b : List Int) (m : M) (lo hi z : Int) (ha : lo ∈ a ∧ hi ∈ a ∧ z ∈ a) (hb : lo ∈ b ∧ hi ∈ b ∧ z ∈ b) (s : Int × Int) (x9 x10 : Option (D × M)) :
    ∃ y9 y10, b_l_low_high_1 (en5 a b m lo hi s (some (.int z, .dp)) x9 x10) = some (.nx, en5 a b m lo hi (stepC a b lo hi s z) (some (.int z, .dp)) y9 y10) := by
  refine ⟨some (.lst ((two (fun e => ah a b e z) lo hi).map .int), .dp), some (.lst ((two (fun e => bh a b e z) lo hi).map .int), .dp), ?_⟩
  have e1 := c_lh_3 a b lo hi z ha hb (some (iD a)) (some (iD b)) (some (.int s.1)) (some (.int s.2)) (x9.map (·.1)) (x10.map (·.1)) none none
  have e2 := c_lh_4 a b lo hi z ha hb (some (iD a)) (some (iD b)) (some (.int s.1)) (some (.int s.2)) (some (.lst ((two (fun e => ah a b e z) lo hi).map .int))) (x10.map (·.1)) none none
  have e3 := gNe_ints (two (fun e => ah a b e z) lo hi) []
  have e4 := gEq_ints (two (fun e => bh a b e z) lo hi) []
  rw [two_ne] at e3
  rw [two_eq] at e4
  simp only [List.map_nil] at e3 e4
  cases h1 : (ah a b lo z || ah a b hi z) <;> cases h2 : (bh a b lo z || bh a b hi z) <;> rw [h1] at e3 <;> rw [h2] at e4 <;>
    simp [iRg1, iRg2, iLst, pLr, runG, outP, im, imm, immL, eB, eV, eS, eMv, eCp, frz, eNil, eCons, eLst, eTup, e2, e1, eCB, eIf, eMut, eMut0, eOn, isLst, eTmp, eCall, callR, takeA, convL, putA, rSl, rVl, caN, caC, eMake, mkR, rdL, sSeq, sIf, sRet, sRetN, sExpr, sSet, putS, sPar, sPar3, sAsg, goTup, goC, goN, unTup, sFor, iLstE, iRg1E, iRg2E, iS, iEnE, iEn, sNext, sNever, tV, tAndE, tOrE, tNotE, tTruE, tOfE, asBE, bAnd, bOr, bNot, bTru, tOf, asB, p2, p1, pC, pVar, pAnd, pOr, pNot, pIf, pChain, pCalG, pCallK, permL, pMake, pMakeK, pMeth, pMeth0, pFld, pIsi, pIsC, isiC, tyN, pCB, gLen, gListD, gList, gDictC, gSortedD, gInt, gAdd, gSub, gI, gC, gLt, gLe, gGt, gGe, gGeX, gIs, gIsNot, isB, aNil, aCons, vw, shv, tru, kb_int_int, kb_int_bool, kb_tup_tup, kb_lst_lst, kb_dk_lst, eAnd, gMod, gFdiv, gMul, gPow, gIx, gSetL, setAtD, inM, gMax, gMin, toInts, maxL, minL, gEq_int, gNe_int, im_int, pLst, pTup, lim, dm, allDp, at_0, at_1, at_2, bd62, b_l_low_high_1, en5, e1, e2, e3, e4, stepC, h1, h2, imm_plD]
theorem e_lh_dict1 {a : List Int} (nd : a.Nodup) (hl : a.length ≤ 1000) (y1 y2 y3 y4 y5 y6 y7 y8 y9 y10 y11 y12 : Option D) :
    pCB gDictC (aCons c_l_low_high_1 aNil) [some (iD a), y1, y2, y3, y4, y5, y6, y7, y8, y9, y10, y11, y12] = some (plD a, .dp) := by
  refine e_places (m := .sh) nd hl ?_ fun p hp => ⟨_, rfl, ?_⟩
  · simp [pVar, im, iD, imm]
  · simp [iRg1, iRg2, iLst, pLr, runG, outP, im, imm, immL, eB, eV, eS, eMv, eCp, frz, eNil, eCons, eLst, eTup, e2, e1, eCB, eIf, eMut, eMut0, eOn, isLst, eTmp, eCall, callR, takeA, convL, putA, rSl, rVl, caN, caC, eMake, mkR, rdL, sSeq, sIf, sRet, sRetN, sExpr, sSet, putS, sPar, sPar3, sAsg, goTup, goC, goN, unTup, sFor, iLstE, iRg1E, iRg2E, iS, iEnE, iEn, sNext, sNever, tV, tAndE, tOrE, tNotE, tTruE, tOfE, asBE, bAnd, bOr, bNot, bTru, tOf, asB, p2, p1, pC, pVar, pAnd, pOr, pNot, pIf, pChain, pCalG, pCallK, permL, pMake, pMakeK, pMeth, pMeth0, pFld, pIsi, pIsC, isiC, tyN, pCB, gLen, gListD, gList, gDictC, gSortedD, gInt, gAdd, gSub, gI, gC, gLt, gLe, gGt, gGe, gGeX, gIs, gIsNot, isB, aNil, aCons, vw, shv, tru, kb_int_int, kb_int_bool, kb_tup_tup, kb_lst_lst, kb_dk_lst, eAnd, gMod, gFdiv, gMul, gPow, gIx, gSetL, setAtD, inM, gMax, gMin, toInts, maxL, minL, gEq_int, gNe_int, im_int, pLst, pTup, lim, dm, allDp, at_0, at_1, at_2, wipeV, gSet]
theorem e_lh_dict2 {b : List Int} (nd : b.Nodup) (hl : b.length ≤ 1000) (y0 y2 y3 y4 y5 y6 y7 y8 y9 y10 y11 y12 : Option D) :
    pCB gDictC (aCons c_l_low_high_2 aNil) [y0, some (iD b), y2, y3, y4, y5, y6, y7, y8, y9, y10, y11, y12] = some (plD b, .dp) := by
  refine e_places (m := .sh) nd hl ?_ fun p hp => ⟨_, rfl, ?_⟩
  · simp [pVar, im, iD, imm]
  · simp [iRg1, iRg2, iLst, pLr, runG, outP, im, imm, immL, eB, eV, eS, eMv, eCp, frz, eNil, eCons, eLst, eTup, e2, e1, eCB, eIf, eMut, eMut0, eOn, isLst, eTmp, eCall, callR, takeA, convL, putA, rSl, rVl, caN, caC, eMake, mkR, rdL, sSeq, sIf, sRet, sRetN, sExpr, sSet, putS, sPar, sPar3, sAsg, goTup, goC, goN, unTup, sFor, iLstE, iRg1E, iRg2E, iS, iEnE, iEn, sNext, sNever, tV, tAndE, tOrE, tNotE, tTruE, tOfE, asBE, bAnd, bOr, bNot, bTru, tOf, asB, p2, p1, pC, pVar, pAnd, pOr, pNot, pIf, pChain, pCalG, pCallK, permL, pMake, pMakeK, pMeth, pMeth0, pFld, pIsi, pIsC, isiC, tyN, pCB, gLen, gListD, gList, gDictC, gSortedD, gInt, gAdd, gSub, gI, gC, gLt, gLe, gGt, gGe, gGeX, gIs, gIsNot, isB, aNil, aCons, vw, shv, tru, kb_int_int, kb_int_bool, kb_tup_tup, kb_lst_lst, kb_dk_lst, eAnd, gMod, gFdiv, gMul, gPow, gIx, gSetL, setAtD, inM, gMax, gMin, toInts, maxL, minL, gEq_int, gNe_int, im_int, pLst, pTup, lim, dm, allDp, at_0, at_1, at_2, wipeV, gSet]
theorem e_low_high {n : Nat} {a b : List Int} (pa : Per n a) (pb : Per n b) (lo hi : Int) (hlo : 0 ≤ lo ∧ lo < (n : Int)) (hhi : 0 ≤ hi ∧ hi < (n : Int)) (hn : n ≤ 1000) :
    r_l_low_high [(iD a, .sh), (iD b, .sh), (.int lo, .dp), (.int hi, .dp)] = some (.tup [.int lo, .int hi, .int (lst a b lo hi), .int (mst a b lo hi)], .dp, [(iD a, .sh), (iD b, .sh), (.int lo, .dp), (.int hi, .dp)]) := by
  obtain ⟨e', h1, x8, x9, x10, h2⟩ := forL_mem (en := D.int) (g := putS [false, false, false, false] 8) (b := b_l_low_high_1) (f := stepC a b lo hi) (P := fun z => lo + 1 ≤ z ∧ z < hi)
    (R := fun s e => ∃ x8 x9 x10, e = en5 a b .sh lo hi s x8 x9 x10)
    (fun s z e hz ⟨x8, x9, x10, he⟩ => by
      subst he
      obtain ⟨y9, y10, q⟩ := st_lh a b .sh lo hi z ⟨pa.mem.mpr hlo, pa.mem.mpr hhi, pa.mem.mpr ⟨by omega, by omega⟩⟩ ⟨pb.mem.mpr hlo, pb.mem.mpr hhi, pb.mem.mpr ⟨by omega, by omega⟩⟩ s x9 x10
      exact ⟨en5 a b .sh lo hi s (some (.int z, .dp)) x9 x10, _, by simp [putS, im_int, en5], q, _, _, _, rfl⟩)
    (rgI (lo + 1) hi) (0, 0) (en5 a b .sh lo hi (0, 0) none none none) (fun z hz => mem_rgI.mp hz) ⟨_, _, _, rfl⟩
  rw [foldC] at h2
  subst h2
  have er := rgD_rgI (lo + 1) hi
  have b1 : bd62 (lo + 1) = true := bd62_of (by omega)
  have b2 : bd62 hi = true := bd62_of (by omega)
  simp only [en5] at h1
  have z1 : lst a b lo hi = 0 + (((rgI (lo + 1) hi).filter fun z => ah a b lo z || ah a b hi z).length : Int) := by unfold lst; omega
  have z2 : mst a b lo hi = 0 + (((rgI (lo + 1) hi).filter fun z => !(bh a b lo z || bh a b hi z)).length : Int) := by unfold mst; omega
  rw [z1, z2]
  have d1 := e_lh_dict1 pa.nd (by rw [pa.len]; exact hn) (some (iD b)) (some (.int lo)) (some (.int hi)) none none none none none none none none none
  have d2 := e_lh_dict2 pb.nd (by rw [pb.len]; exact hn) (some (iD a)) (some (.int lo)) (some (.int hi)) (some (plD a)) none none none none none none none none
  unfold r_l_low_high runG b_l_low_high
  simp only [List.map_cons, List.map_nil, List.replicate, List.cons_append, List.nil_append]
  rw [sSeq_nx (sSet_nx (eB_dp d1) rfl), List.set, List.set, List.set, List.set, List.set]
  rw [sSeq_nx (sSet_nx (eB_dp d2) rfl), List.set, List.set, List.set, List.set, List.set, List.set]
  simp [-List.map_map, iRg1, iRg2, iLst, pLr, runG, outP, im, imm, immL, eB, eV, eS, eMv, eCp, frz, eNil, eCons, eLst, eTup, e2, e1, eCB, eIf, eMut, eMut0, eOn, isLst, eTmp, eCall, callR, takeA, convL, putA, rSl, rVl, caN, caC, eMake, mkR, rdL, sSeq, sIf, sRet, sRetN, sExpr, sSet, putS, sPar, sPar3, sAsg, goTup, goC, goN, unTup, sFor, iLstE, iRg1E, iRg2E, iS, iEnE, iEn, sNext, sNever, tV, tAndE, tOrE, tNotE, tTruE, tOfE, asBE, bAnd, bOr, bNot, bTru, tOf, asB, p2, p1, pC, pVar, pAnd, pOr, pNot, pIf, pChain, pCalG, pCallK, permL, pMake, pMakeK, pMeth, pMeth0, pFld, pIsi, pIsC, isiC, tyN, pCB, gLen, gListD, gList, gDictC, gSortedD, gInt, gAdd, gSub, gI, gC, gLt, gLe, gGt, gGe, gGeX, gIs, gIsNot, isB, aNil, aCons, vw, shv, tru, kb_int_int, kb_int_bool, kb_tup_tup, kb_lst_lst, kb_dk_lst, eAnd, gMod, gFdiv, gMul, gPow, gIx, gSetL, setAtD, inM, gMax, gMin, toInts, maxL, minL, gEq_int, gNe_int, im_int, pLst, pTup, lim, dm, allDp, at_0, at_1, at_2, b1, b2, er, h1, imm_iD, imm_plD]
end L90
set_option Elab.async false
set_option linter.all false
set_option maxRecDepth 100000
set_option maxHeartbeats 4000000
namespace L90
open PySem G Ord0
/-! places_from -/
def fnd (a : List Int) (j : Nat) (v : Int) : Int := if ps a v < (j : Int) then ps a v else 0
def F6 (n : Nat) (a : List Int) (j : Nat) : List Int := (rgI 0 n).map (fnd a j)
theorem F6_get {n : Nat} {a : List Int} {j i : Nat} (h : i < n) : (F6 n a j)[i]? = some (fnd a j (i : Int)) := by
  unfold F6
  have := rgI_get (n := n) (z := (i : Int)) (by omega) (by omega)
  rw [Int.toNat_natCast] at this
  rw [List.getElem?_map, this]
  rfl
theorem F6_len (n : Nat) (a : List Int) (j : Nat) : (F6 n a j).length = n := by unfold F6; rw [List.length_map, rgI_len]; omega
theorem F6_step {n : Nat} {a : List Int} (pa : Per n a) {j : Nat} {v : Int} (h : a[j]? = some v) : (F6 n a j).set v.toNat (j : Int) = F6 n a (j + 1) := by
  have hv := pa.mem.mp (List.mem_of_getElem? h)
  have hp := ps_get pa h
  apply List.ext_getElem?
  intro i
  by_cases hi : i < n
  · rw [F6_get hi]
    by_cases hiv : v.toNat = i
    · subst hiv
      rw [List.getElem?_set_self (by rw [F6_len]; exact hi)]
      congr 1
      have : ((v.toNat : Nat) : Int) = v := by omega
      rw [this, fnd, if_pos (by omega), hp]
    · rw [List.getElem?_set_ne hiv, F6_get hi]
      congr 1
      have hne : ps a (i : Int) ≠ (j : Int) := fun q => by
        have := ps_inj (n := n) (pa.mem.mpr ⟨by omega, by omega⟩) (pa.mem.mpr hv) (q.trans hp.symm)
        omega
      unfold fnd
      by_cases hq : ps a (i : Int) < (j : Int)
      · rw [if_pos hq, if_pos (by omega)]
      · rw [if_neg hq, if_neg (by omega)]
  · rw [List.getElem?_eq_none (by rw [List.length_set, F6_len]; omega), List.getElem?_eq_none (by rw [F6_len]; omega)]
theorem F6_zero (n : Nat) (a : List Int) : F6 n a 0 = List.replicate n 0 := by
  apply List.ext_getElem?
  intro i
  by_cases hi : i < n
  · rw [F6_get hi, List.getElem?_replicate, if_pos hi, fnd, if_neg]
    have := ps_nn a (i : Int)
    omega
  · rw [List.getElem?_eq_none (by rw [F6_len]; omega), List.getElem?_eq_none (by simp; omega)]
theorem F6_end {n : Nat} {a : List Int} (pa : Per n a) : F6 n a n = plc n a := by
  unfold F6 plc
  apply List.map_congr_left
  intro v hv
  have := ps_lt (pa.mem.mpr (mem_rgI.mp hv))
  rw [pa.len] at this
  rw [fnd, if_pos this]
def en6 (a : List Int) (fs : List Int) (x2 x3 : Option (D × M)) : Env' := [some (iD a, .sh), some (iD fs, .dp), x2, x3]
theorem st_places (a fs : List Int) (j : Nat) (v : Int) (h0 : 0 ≤ v) (h1 : v < (fs.length : Int)) :
    b_places_from_1 (en6 a fs (some (.int j, .dp)) (some (.int v, .dp))) = some (.nx, en6 a (fs.set v.toNat (j : Int)) (some (.int j, .dp)) (some (.int v, .dp))) := by
  have e1 : L2.ixN fs.length v = some v.toNat := by simp [L2.ixN, h0, h1]
  have h2 : v.toNat < fs.length := by omega
  have e2 : (fs.map D.int).set v.toNat (.int (j : Int)) = (fs.set v.toNat (j : Int)).map D.int := by rw [List.map_set]
  simp [-List.map_set, iRg1, iRg2, iLst, pLr, runG, outP, im, imm, immL, eB, eV, eS, eMv, eCp, frz, eNil, eCons, eLst, eTup, e2, e1, eCB, eIf, eMut, eMut0, eOn, isLst, eTmp, eCall, callR, takeA, convL, putA, rSl, rVl, caN, caC, eMake, mkR, rdL, sSeq, sIf, sRet, sRetN, sExpr, sSet, putS, sPar, sPar3, sAsg, goTup, goC, goN, unTup, sFor, iLstE, iRg1E, iRg2E, iS, iEnE, iEn, sNext, sNever, tV, tAndE, tOrE, tNotE, tTruE, tOfE, asBE, bAnd, bOr, bNot, bTru, tOf, asB, p2, p1, pC, pVar, pAnd, pOr, pNot, pIf, pChain, pCalG, pCallK, permL, pMake, pMakeK, pMeth, pMeth0, pFld, pIsi, pIsC, isiC, tyN, pCB, gLen, gListD, gList, gDictC, gSortedD, gInt, gAdd, gSub, gI, gC, gLt, gLe, gGt, gGe, gGeX, gIs, gIsNot, isB, aNil, aCons, vw, shv, tru, kb_int_int, kb_int_bool, kb_tup_tup, kb_lst_lst, kb_dk_lst, eAnd, gMod, gFdiv, gMul, gPow, gIx, gSetL, setAtD, inM, gMax, gMin, toInts, maxL, minL, gEq_int, gNe_int, im_int, pLst, pTup, lim, dm, allDp, at_0, at_1, at_2, b_places_from_1, en6, iD, e1, h2, e2]
theorem enT_get (a : List Int) (i : Nat) (d : D) (h : (a.zipIdx.map enT)[i]? = some d) : ∃ v, a[i]? = some v ∧ d = .tup [.int (i : Int), .int v] := by
  rw [List.getElem?_map, List.getElem?_zipIdx] at h
  cases e : a[i]? with
  | none => rw [e] at h; simp at h
  | some v =>
    rw [e] at h
    simp [enT] at h
    exact ⟨v, rfl, h.symm⟩
theorem e_places_from {n : Nat} {a : List Int} (pa : Per n a) (hn : n ≤ 1000) : r_places_from [(iD a, .sh)] = some (iD (plc n a), .dp, [(iD a, .sh)]) := by
  obtain ⟨e', h1, x2, x3, h2⟩ := forL_inv (g := goTup 2 (goC (putS [false] 2) (goC (putS [false] 3) goN))) (b := b_places_from_1) (ds := a.zipIdx.map enT)
    (I := fun j e => ∃ x2 x3, e = en6 a (F6 n a j) x2 x3)
    (fun j d e hd ⟨x2, x3, he⟩ => by
      obtain ⟨v, e1, rfl⟩ := enT_get a j d hd
      have hv := pa.mem.mp (List.mem_of_getElem? e1)
      subst he
      refine ⟨en6 a (F6 n a j) (some (.int j, .dp)) (some (.int v, .dp)), _, ?_, st_places a _ j v hv.1 (by rw [F6_len]; exact hv.2), _, _, by rw [F6_step pa e1]⟩
      simp [goTup, goC, goN, putS, unTup, im, imm, immL, en6])
    (en6 a (F6 n a 0) none none) ⟨_, _, rfl⟩
  rw [List.length_map, List.length_zipIdx, pa.len, F6_end pa] at h2
  subst h2
  have i1 : iEnE (eMv 0) [some (iD a, .sh), some (iD (F6 n a 0), .dp), none, none] = some (a.zipIdx.map enT, [some (iD a, .sh), some (iD (F6 n a 0), .dp), none, none]) := by
    have := enD_ints a 0
    simp [iEnE, eMv, iD, imm, this]
  have m1 : eB (p2 gMul (pLst (aCons (pC (.int 0)) aNil)) (pCB gLen (aCons (pVar 0) aNil))) [some (iD a, .sh), none, none, none] = some (iD (F6 n a 0), .dp, [some (iD a, .sh), none, none, none]) := by
    refine eB_dp ?_
    have h3 : small64 (2 * (n : Int)) = true := small64_b.mpr (by omega)
    have h4 : (List.replicate n [D.int 0]).flatten = (F6 n a 0).map .int := by
      rw [F6_zero]
      simp
    have h5 := lm_ints (F6 n a 0)
    have h6 : n ≤ 16777216 := by omega
    simp [iRg1, iRg2, iLst, pLr, runG, outP, im, imm, immL, eB, eV, eS, eMv, eCp, frz, eNil, eCons, eLst, eTup, e2, e1, eCB, eIf, eMut, eMut0, eOn, isLst, eTmp, eCall, callR, takeA, convL, putA, rSl, rVl, caN, caC, eMake, mkR, rdL, sSeq, sIf, sRet, sRetN, sExpr, sSet, putS, sPar, sPar3, sAsg, goTup, goC, goN, unTup, sFor, iLstE, iRg1E, iRg2E, iS, iEnE, iEn, sNext, sNever, tV, tAndE, tOrE, tNotE, tTruE, tOfE, asBE, bAnd, bOr, bNot, bTru, tOf, asB, p2, p1, pC, pVar, pAnd, pOr, pNot, pIf, pChain, pCalG, pCallK, permL, pMake, pMakeK, pMeth, pMeth0, pFld, pIsi, pIsC, isiC, tyN, pCB, gLen, gListD, gList, gDictC, gSortedD, gInt, gAdd, gSub, gI, gC, gLt, gLe, gGt, gGe, gGeX, gIs, gIsNot, isB, aNil, aCons, vw, shv, tru, kb_int_int, kb_int_bool, kb_tup_tup, kb_lst_lst, kb_dk_lst, eAnd, gMod, gFdiv, gMul, gPow, gIx, gSetL, setAtD, inM, gMax, gMin, toInts, maxL, minL, gEq_int, gNe_int, im_int, pLst, pTup, lim, dm, allDp, at_0, at_1, at_2, iD, h3, h4, h5, pa.len, h6]
  unfold r_places_from runG b_places_from
  simp only [List.map_cons, List.map_nil, List.replicate, List.cons_append, List.nil_append]
  rw [sSeq_nx (sSet_nx m1 rfl), List.set, List.set, sSeq_nx (sFor_of i1 h1)]
  simp [iRg1, iRg2, iLst, pLr, runG, outP, im, imm, immL, eB, eV, eS, eMv, eCp, frz, eNil, eCons, eLst, eTup, e2, e1, eCB, eIf, eMut, eMut0, eOn, isLst, eTmp, eCall, callR, takeA, convL, putA, rSl, rVl, caN, caC, eMake, mkR, rdL, sSeq, sIf, sRet, sRetN, sExpr, sSet, putS, sPar, sPar3, sAsg, goTup, goC, goN, unTup, sFor, iLstE, iRg1E, iRg2E, iS, iEnE, iEn, sNext, sNever, tV, tAndE, tOrE, tNotE, tTruE, tOfE, asBE, bAnd, bOr, bNot, bTru, tOf, asB, p2, p1, pC, pVar, pAnd, pOr, pNot, pIf, pChain, pCalG, pCallK, permL, pMake, pMakeK, pMeth, pMeth0, pFld, pIsi, pIsC, isiC, tyN, pCB, gLen, gListD, gList, gDictC, gSortedD, gInt, gAdd, gSub, gI, gC, gLt, gLe, gGt, gGe, gGeX, gIs, gIsNot, isB, aNil, aCons, vw, shv, tru, kb_int_int, kb_int_bool, kb_tup_tup, kb_lst_lst, kb_dk_lst, eAnd, gMod, gFdiv, gMul, gPow, gIx, gSetL, setAtD, inM, gMax, gMin, toInts, maxL, minL, gEq_int, gNe_int, im_int, pLst, pTup, lim, dm, allDp, at_0, at_1, at_2, en6, imm_iD]
end L90
set_option Elab.async false
set_option linter.all false
set_option maxRecDepth 100000
set_option maxHeartbeats 4000000
namespace L90
open PySem G Ord0
/-! unlike_pairs -/
def en7 (n : Nat) (a b : List Int) (fs : List (Int × Int)) (x3 x4 : Option (D × M)) : Env' := [some (iD (plc n a), .sh), some (iD (plc n b), .sh), some (.lst (fs.map pD), .dp), x3, x4]
theorem append_pD (fs : List (Int × Int)) (a b : Int) : fs.map pD ++ [.tup [.int a, .int b]] = (fs ++ [(a, b)]).map pD := by simp [pD]
def add7 (a b : List Int) (lo : Int) (fs : List (Int × Int)) (hi : Int) : List (Int × Int) := fs ++ (if dis a b lo hi then [(lo, hi)] else [])
theorem gLt_at (a b : List Int) (x y : Int) (m m' : M) : gNe (.bl (decide (ps a x < ps a y))) (.bl (decide (ps b x < ps b y))) = some (.bl (dis a b x y), .dp) := by
  unfold gNe dis
  cases decide (ps a x < ps a y) <;> cases decide (ps b x < ps b y) <;> rfl
theorem st_un_1 {n : Nat} (a b : List Int) (fs : List (Int × Int)) (lo hi : Int) (hlo : 0 ≤ lo ∧ lo < (n : Int)) (hhi : 0 ≤ hi ∧ hi < (n : Int)) (hl : fs.length < lim) :
    b_unlike_pairs_1 (en7 n a b fs (some (.int lo, .dp)) (some (.int hi, .dp))) = some (.nx, en7 n a b (add7 a b lo fs hi) (some (.int lo, .dp)) (some (.int hi, .dp))) := by
  have a3 := at_plc a hlo.1 hlo.2
  have a4 := at_plc b hlo.1 hlo.2
  have a5 := at_plc a hhi.1 hhi.2
  have a6 := at_plc b hhi.1 hhi.2
  have g := gLt_at a b lo hi .dp .dp
  have t : (tV (tOf (p2 gNe (p2 gLt (p2 gIx (pVar 0) (pVar 3)) (p2 gIx (pVar 0) (pVar 4))) (p2 gLt (p2 gIx (pVar 1) (pVar 3)) (p2 gIx (pVar 1) (pVar 4)))))) (en7 n a b fs (some (.int lo, .dp)) (some (.int hi, .dp))) = some (dis a b lo hi, en7 n a b fs (some (.int lo, .dp)) (some (.int hi, .dp))) := by
    refine tV_of (tOf_of (m := .dp) ?_)
    rw [← g]
    refine p2_of (m1 := .dp) (m2 := .dp) ?_ ?_
    · simp [iRg1, iRg2, iLst, pLr, runG, outP, im, imm, immL, eB, eV, eS, eMv, eCp, frz, eNil, eCons, eLst, eTup, e2, e1, eCB, eIf, eMut, eMut0, eOn, isLst, eTmp, eCall, callR, takeA, convL, putA, rSl, rVl, caN, caC, eMake, mkR, rdL, sSeq, sIf, sRet, sRetN, sExpr, sSet, putS, sPar, sPar3, sAsg, goTup, goC, goN, unTup, sFor, iLstE, iRg1E, iRg2E, iS, iEnE, iEn, sNext, sNever, tV, tAndE, tOrE, tNotE, tTruE, tOfE, asBE, bAnd, bOr, bNot, bTru, tOf, asB, p2, p1, pC, pVar, pAnd, pOr, pNot, pIf, pChain, pCalG, pCallK, permL, pMake, pMakeK, pMeth, pMeth0, pFld, pIsi, pIsC, isiC, tyN, pCB, gLen, gListD, gList, gDictC, gSortedD, gInt, gAdd, gSub, gI, gC, gLt, gLe, gGt, gGe, gGeX, gIs, gIsNot, isB, aNil, aCons, vw, shv, tru, kb_int_int, kb_int_bool, kb_tup_tup, kb_lst_lst, kb_dk_lst, eAnd, gMod, gFdiv, gMul, gPow, gIx, gSetL, setAtD, inM, gMax, gMin, toInts, maxL, minL, gEq_int, gNe_int, im_int, pLst, pTup, lim, dm, allDp, at_0, at_1, at_2, en7, iD, a3, a5]
    · simp [iRg1, iRg2, iLst, pLr, runG, outP, im, imm, immL, eB, eV, eS, eMv, eCp, frz, eNil, eCons, eLst, eTup, e2, e1, eCB, eIf, eMut, eMut0, eOn, isLst, eTmp, eCall, callR, takeA, convL, putA, rSl, rVl, caN, caC, eMake, mkR, rdL, sSeq, sIf, sRet, sRetN, sExpr, sSet, putS, sPar, sPar3, sAsg, goTup, goC, goN, unTup, sFor, iLstE, iRg1E, iRg2E, iS, iEnE, iEn, sNext, sNever, tV, tAndE, tOrE, tNotE, tTruE, tOfE, asBE, bAnd, bOr, bNot, bTru, tOf, asB, p2, p1, pC, pVar, pAnd, pOr, pNot, pIf, pChain, pCalG, pCallK, permL, pMake, pMakeK, pMeth, pMeth0, pFld, pIsi, pIsC, isiC, tyN, pCB, gLen, gListD, gList, gDictC, gSortedD, gInt, gAdd, gSub, gI, gC, gLt, gLe, gGt, gGe, gGeX, gIs, gIsNot, isB, aNil, aCons, vw, shv, tru, kb_int_int, kb_int_bool, kb_tup_tup, kb_lst_lst, kb_dk_lst, eAnd, gMod, gFdiv, gMul, gPow, gIx, gSetL, setAtD, inM, gMax, gMin, toInts, maxL, minL, gEq_int, gNe_int, im_int, pLst, pTup, lim, dm, allDp, at_0, at_1, at_2, en7, iD, a4, a6]
  unfold b_unlike_pairs_1
  cases hd : dis a b lo hi with
  | false =>
    rw [hd] at t
    rw [sIf_f t]
    simp [sNext, add7, hd]
  | true =>
    rw [hd] at t
    rw [sIf_t t]
    have hl' : fs.length < 16777216 := hl
    simp [iRg1, iRg2, iLst, pLr, runG, outP, im, imm, immL, eB, eV, eS, eMv, eCp, frz, eNil, eCons, eLst, eTup, e2, e1, eCB, eIf, eMut, eMut0, eOn, isLst, eTmp, eCall, callR, takeA, convL, putA, rSl, rVl, caN, caC, eMake, mkR, rdL, sSeq, sIf, sRet, sRetN, sExpr, sSet, putS, sPar, sPar3, sAsg, goTup, goC, goN, unTup, sFor, iLstE, iRg1E, iRg2E, iS, iEnE, iEn, sNext, sNever, tV, tAndE, tOrE, tNotE, tTruE, tOfE, asBE, bAnd, bOr, bNot, bTru, tOf, asB, p2, p1, pC, pVar, pAnd, pOr, pNot, pIf, pChain, pCalG, pCallK, permL, pMake, pMakeK, pMeth, pMeth0, pFld, pIsi, pIsC, isiC, tyN, pCB, gLen, gListD, gList, gDictC, gSortedD, gInt, gAdd, gSub, gI, gC, gLt, gLe, gGt, gGe, gGeX, gIs, gIsNot, isB, aNil, aCons, vw, shv, tru, kb_int_int, kb_int_bool, kb_tup_tup, kb_lst_lst, kb_dk_lst, eAnd, gMod, gFdiv, gMul, gPow, gIx, gSetL, setAtD, inM, gMax, gMin, toInts, maxL, minL, gEq_int, gNe_int, im_int, pLst, pTup, lim, dm, allDp, at_0, at_1, at_2, en7, gAppend, hl', add7, hd, pD]
theorem fold7 (a b : List Int) (lo : Int) : ∀ (l : List Int) (fs : List (Int × Int)), l.foldl (add7 a b lo) fs = fs ++ (l.filter (dis a b lo)).map fun hi => (lo, hi)
  | [], fs => by simp
  | hi :: l, fs => by
    rw [List.foldl_cons, fold7 a b lo l, add7, List.filter_cons]
    split <;> simp
def row7 (n : Int) (a b : List Int) (lo : Int) : List (Int × Int) := ((rgI (lo + 1) n).filter (dis a b lo)).map fun hi => (lo, hi)
theorem row7_len {n : Nat} (a b : List Int) {lo : Int} (h : 0 ≤ lo) : (row7 n a b lo).length ≤ n := by
  unfold row7
  rw [List.length_map]
  refine Nat.le_trans (List.length_filter_le _ _) ?_
  rw [rgI_len]
  omega
/-- walks over a list whose state grows by at most c each time -/
theorem forL_len {α β : Type} {en : α → D} {g : D × M → Env' → Option Env'} {b : Sf} {f : List β → α → List β} {R : List β → Env' → Prop} {P : α → Prop} {c B : Nat} (hf : ∀ s x, P x → (f s x).length ≤ s.length + c)
    (h : ∀ s x e, P x → s.length + c ≤ B → R s e → ∃ e1 e2, g (en x, im (en x)) e = some e1 ∧ b e1 = some (.nx, e2) ∧ R (f s x) e2) : ∀ (xs : List α) (s : List β) (e : Env'), (∀ x ∈ xs, P x) → s.length + c * xs.length ≤ B → R s e → ∃ e', forL g b (xs.map en) e = some (.nx, e') ∧ R (xs.foldl f s) e'
  | [], s, e, _, _, r => ⟨e, rfl, r⟩
  | x :: xs, s, e, m, hB, r => by
    rw [List.length_cons, Nat.mul_add, Nat.mul_one] at hB
    obtain ⟨e1, e2, h1, h2, h3⟩ := h s x e (m x List.mem_cons_self) (by omega) r
    have := hf s x (m x List.mem_cons_self)
    obtain ⟨e', h4, h5⟩ := forL_len hf h xs (f s x) e2 (fun y hy => m y (List.mem_cons_of_mem _ hy)) (by omega) h3
    refine ⟨e', ?_, h5⟩
    simp only [List.map_cons, forL, h1, h2, Option.bind_some]
    exact h4
theorem st_un_2 {n : Nat} (a b : List Int) (fs : List (Int × Int)) (lo : Int) (hlo : 0 ≤ lo ∧ lo < (n : Int)) (hl : fs.length + n < 2000000) (hn : n ≤ 1000) (x4 : Option (D × M)) :
    ∃ y4, b_unlike_pairs_2 (en7 n a b fs (some (.int lo, .dp)) x4) = some (.nx, en7 n a b (fs ++ row7 n a b lo) (some (.int lo, .dp)) y4) := by
  obtain ⟨e', h1, y4, h2⟩ := forL_len (en := D.int) (g := putS [false, false] 4) (b := b_unlike_pairs_1) (f := add7 a b lo) (c := 1) (B := 2000000) (P := fun z => lo + 1 ≤ z ∧ z < (n : Int))
    (R := fun s e => ∃ x4, e = en7 n a b s (some (.int lo, .dp)) x4)
    (fun s z _ => by unfold add7; split <;> simp)
    (fun s z e hz hs ⟨x4, he⟩ => by
      subst he
      have q := st_un_1 a b s lo z hlo ⟨by omega, hz.2⟩ (by unfold lim; omega)
      exact ⟨en7 n a b s (some (.int lo, .dp)) (some (.int z, .dp)), _, by simp [putS, im_int, en7], q, _, rfl⟩)
    (rgI (lo + 1) n) fs (en7 n a b fs (some (.int lo, .dp)) x4) (fun z hz => mem_rgI.mp hz) (by rw [rgI_len]; omega) ⟨_, rfl⟩
  rw [fold7] at h2
  subst h2
  refine ⟨y4, ?_⟩
  have er := rgD_rgI (lo + 1) n
  unfold b_unlike_pairs_2
  refine sFor_of ?_ h1
  have b1 : bd62 (lo + 1) = true := bd62_of (by omega)
  have b2 : bd62 (n : Int) = true := bd_nat (by omega)
  have hp : (plc n a).length = n := by unfold plc; rw [List.length_map, rgI_len]; omega
  simp [-List.map_map, iRg1, iRg2, iLst, pLr, runG, outP, im, imm, immL, eB, eV, eS, eMv, eCp, frz, eNil, eCons, eLst, eTup, e2, e1, eCB, eIf, eMut, eMut0, eOn, isLst, eTmp, eCall, callR, takeA, convL, putA, rSl, rVl, caN, caC, eMake, mkR, rdL, sSeq, sIf, sRet, sRetN, sExpr, sSet, putS, sPar, sPar3, sAsg, goTup, goC, goN, unTup, sFor, iLstE, iRg1E, iRg2E, iS, iEnE, iEn, sNext, sNever, tV, tAndE, tOrE, tNotE, tTruE, tOfE, asBE, bAnd, bOr, bNot, bTru, tOf, asB, p2, p1, pC, pVar, pAnd, pOr, pNot, pIf, pChain, pCalG, pCallK, permL, pMake, pMakeK, pMeth, pMeth0, pFld, pIsi, pIsC, isiC, tyN, pCB, gLen, gListD, gList, gDictC, gSortedD, gInt, gAdd, gSub, gI, gC, gLt, gLe, gGt, gGe, gGeX, gIs, gIsNot, isB, aNil, aCons, vw, shv, tru, kb_int_int, kb_int_bool, kb_tup_tup, kb_lst_lst, kb_dk_lst, eAnd, gMod, gFdiv, gMul, gPow, gIx, gSetL, setAtD, inM, gMax, gMin, toInts, maxL, minL, gEq_int, gNe_int, im_int, pLst, pTup, lim, dm, allDp, at_0, at_1, at_2, en7, iD, b1, b2, er, hp]
theorem fold7o (n : Int) (a b : List Int) : ∀ (l : List Int) (fs : List (Int × Int)), l.foldl (fun fs lo => fs ++ row7 n a b lo) fs = fs ++ l.flatMap (row7 n a b)
  | [], fs => by simp
  | lo :: l, fs => by rw [List.foldl_cons, fold7o n a b l]; simp
theorem plc_len (n : Nat) (a : List Int) : (plc n a).length = n := by unfold plc; rw [List.length_map, rgI_len]; omega
theorem e_unlike_pairs {n : Nat} (a b : List Int) (hn : n ≤ 1000) : r_unlike_pairs [(iD (plc n a), .sh), (iD (plc n b), .sh)] = some (.lst ((uL n a b).map pD), .dp, [(iD (plc n a), .sh), (iD (plc n b), .sh)]) := by
  obtain ⟨e', h1, y3, y4, h2⟩ := forL_len (en := D.int) (g := putS [false, false] 3) (b := b_unlike_pairs_2) (f := fun fs lo => fs ++ row7 n a b lo) (c := n) (B := 1000000) (P := fun z => 0 ≤ z ∧ z < (n : Int))
    (R := fun s e => ∃ x3 x4, e = en7 n a b s x3 x4)
    (fun s z hz => by
      rw [List.length_append]
      have := row7_len (n := n) a b hz.1
      omega)
    (fun s z e hz hs ⟨x3, x4, he⟩ => by
      subst he
      obtain ⟨y4, q⟩ := st_un_2 a b s z hz (by omega) hn x4
      exact ⟨en7 n a b s (some (.int z, .dp)) x4, _, by simp [putS, im_int, en7], q, _, _, rfl⟩)
    (rgI 0 n) [] (en7 n a b [] none none) (fun z hz => mem_rgI.mp hz) (by
      rw [rgI_len, show ((n : Int) - 0).toNat = n by omega]
      have := Nat.mul_le_mul hn hn
      simpa using this) ⟨_, _, rfl⟩
  rw [fold7o, List.nil_append] at h2
  subst h2
  have er := rgD_rgI 0 n
  have b2 : bd62 (n : Int) = true := bd_nat (by omega)
  have hu : uL n a b = (rgI 0 n).flatMap (row7 n a b) := rfl
  have hp := plc_len n a
  have i1 : iRg1E (eB (pCB gLen (aCons (pVar 0) aNil))) (en7 n a b [] none none) = some ((rgI 0 n).map D.int, en7 n a b [] none none) := by
    simp [-List.map_map, iRg1, iRg2, iLst, pLr, runG, outP, im, imm, immL, eB, eV, eS, eMv, eCp, frz, eNil, eCons, eLst, eTup, e2, e1, eCB, eIf, eMut, eMut0, eOn, isLst, eTmp, eCall, callR, takeA, convL, putA, rSl, rVl, caN, caC, eMake, mkR, rdL, sSeq, sIf, sRet, sRetN, sExpr, sSet, putS, sPar, sPar3, sAsg, goTup, goC, goN, unTup, sFor, iLstE, iRg1E, iRg2E, iS, iEnE, iEn, sNext, sNever, tV, tAndE, tOrE, tNotE, tTruE, tOfE, asBE, bAnd, bOr, bNot, bTru, tOf, asB, p2, p1, pC, pVar, pAnd, pOr, pNot, pIf, pChain, pCalG, pCallK, permL, pMake, pMakeK, pMeth, pMeth0, pFld, pIsi, pIsC, isiC, tyN, pCB, gLen, gListD, gList, gDictC, gSortedD, gInt, gAdd, gSub, gI, gC, gLt, gLe, gGt, gGe, gGeX, gIs, gIsNot, isB, aNil, aCons, vw, shv, tru, kb_int_int, kb_int_bool, kb_tup_tup, kb_lst_lst, kb_dk_lst, eAnd, gMod, gFdiv, gMul, gPow, gIx, gSetL, setAtD, inM, gMax, gMin, toInts, maxL, minL, gEq_int, gNe_int, im_int, pLst, pTup, lim, dm, allDp, at_0, at_1, at_2, en7, iD, b2, er, hp]
  rw [hu]
  unfold r_unlike_pairs runG b_unlike_pairs
  simp only [List.map_cons, List.map_nil, List.replicate, List.cons_append, List.nil_append]
  rw [sSeq_nx (sSet_nx (e2 := en7 n a b [] none none) (eB_dp (d := .lst []) rfl) rfl), sSeq_nx (sFor_of i1 h1)]
  simp [iRg1, iRg2, iLst, pLr, runG, outP, im, imm, immL, eB, eV, eS, eMv, eCp, frz, eNil, eCons, eLst, eTup, e2, e1, eCB, eIf, eMut, eMut0, eOn, isLst, eTmp, eCall, callR, takeA, convL, putA, rSl, rVl, caN, caC, eMake, mkR, rdL, sSeq, sIf, sRet, sRetN, sExpr, sSet, putS, sPar, sPar3, sAsg, goTup, goC, goN, unTup, sFor, iLstE, iRg1E, iRg2E, iS, iEnE, iEn, sNext, sNever, tV, tAndE, tOrE, tNotE, tTruE, tOfE, asBE, bAnd, bOr, bNot, bTru, tOf, asB, p2, p1, pC, pVar, pAnd, pOr, pNot, pIf, pChain, pCalG, pCallK, permL, pMake, pMakeK, pMeth, pMeth0, pFld, pIsi, pIsC, isiC, tyN, pCB, gLen, gListD, gList, gDictC, gSortedD, gInt, gAdd, gSub, gI, gC, gLt, gLe, gGt, gGe, gGeX, gIs, gIsNot, isB, aNil, aCons, vw, shv, tru, kb_int_int, kb_int_bool, kb_tup_tup, kb_lst_lst, kb_dk_lst, eAnd, gMod, gFdiv, gMul, gPow, gIx, gSetL, setAtD, inM, gMax, gMin, toInts, maxL, minL, gEq_int, gNe_int, im_int, pLst, pTup, lim, dm, allDp, at_0, at_1, at_2, en7, imm_iD]
end L90
set_option Elab.async false
set_option linter.all false
set_option maxRecDepth 100000
set_option maxHeartbeats 4000000
namespace L90
open PySem G Ord0
abbrev Qd := (Int × Int) × (Int × Int)
def qD (q : Qd) : D := .tup [.int q.1.1, .int q.1.2, .int q.2.1, .int q.2.2]
instance encQ : Enc Qd := ⟨qD, fun a b h => by
  unfold qD at h
  simp at h
  exact Prod.ext (Prod.ext h.1 h.2.1) (Prod.ext h.2.2.1 h.2.2.2), fun a => by simp [qD, pl, plL], 1, fun a => by simp [qD, dpt, dptL]⟩
theorem gEq_qs (a b : List Qd) : gEq (.lst (a.map qD)) (.lst (b.map qD)) = some (.bl (decide (a = b)), .dp) := gEq_en a b
theorem gNe_qs (a b : List Qd) : gNe (.lst (a.map qD)) (.lst (b.map qD)) = some (.bl (decide (a ≠ b)), .dp) := gNe_en a b
def qOf (a b : List Int) (p : Int × Int) : Qd := (p, (lst a b p.1 p.2, mst a b p.1 p.2))
def PC (n : Nat) (a b : List Int) : List Qd := (uL n a b).map (qOf a b)
theorem PC_comm (n : Nat) (a b : List Int) : PC n a b = PC n b a := by
  unfold PC
  rw [uL_comm]
  apply List.map_congr_left
  intro p _
  unfold qOf
  rw [lst_comm, mst_comm]
theorem PC_len (n : Nat) (a b : List Int) : (PC n a b).length ≤ n * n := by unfold PC; rw [List.length_map]; exact uL_len n a b
def cv8 (n : Nat) (a b : List Int) : VEnv := [some (iD a), some (iD b), some (iD (plc n a)), some (iD (plc n b)), none, none]
theorem c_co {n : Nat} (a b : List Int) (hn : n ≤ 1000) : c_counts_of_1 (cv8 n a b) = some (.lst ((PC n a b).map qD), .dp) := by
  have h1 : iLst (pCalG 2 r_unlike_pairs (aCons (pVar 2) (aCons (pVar 3) aNil))) (cv8 n a b) = some ((uL n a b).map pD) := by
    have := e_unlike_pairs a b hn
    have q : pCalG 2 r_unlike_pairs (aCons (pVar 2) (aCons (pVar 3) aNil)) (cv8 n a b) = some (.lst ((uL n a b).map pD), .dp) :=
      pCalG_of (ds := [(iD (plc n a), .sh), (iD (plc n b), .sh)]) rfl rfl (by simpa [rdL, im, imm_iD] using this)
    unfold iLst
    rw [q]
    rfl
  have e1 := pComp_eq (vs := [4, 5]) (g := gTupD 2 (gsC (gSet 4) (gsC (gSet 5) gsN))) (t := bYes) (e := p2 gAdd (pTup (aCons (pVar 4) (aCons (pVar 5) aNil))) (pCalG 4 r_counted (aCons (pVar 2) (aCons (pVar 3) (aCons (pVar 4) (aCons (pVar 5) aNil)))))) h1
    (by rw [List.length_map]; have := uL_len n a b; have := Nat.mul_le_mul hn hn; exact le_lim (by omega))
    (compL_all (out := fun p => (qD (qOf a b p), M.dp)) fun p hp => ⟨_, rfl, by
      have hm := mem_uL.mp hp
      have e := e_counted (n := n) a b p.1 p.2 ⟨hm.1, by omega⟩ ⟨by omega, hm.2.2.1⟩ hn
      have q : pCalG 4 r_counted (aCons (pVar 2) (aCons (pVar 3) (aCons (pVar 4) (aCons (pVar 5) aNil)))) [some (iD a), some (iD b), some (iD (plc n a)), some (iD (plc n b)), some (.int p.1), some (.int p.2)] = some (.tup [.int (lst a b p.1 p.2), .int (mst a b p.1 p.2)], .dp) :=
        pCalG_of (ds := [(iD (plc n a), .sh), (iD (plc n b), .sh), (.int p.1, .dp), (.int p.2, .dp)]) rfl rfl (by simpa [rdL, im, imm_iD, imm] using e)
      have q2 : pTup (aCons (pVar 4) (aCons (pVar 5) aNil)) [some (iD a), some (iD b), some (iD (plc n a)), some (iD (plc n b)), some (.int p.1), some (.int p.2)] = some (.tup [.int p.1, .int p.2], .dp) := rfl
      refine (p2_of (g := gAdd) q2 q).trans ?_
      simp [gAdd, lim, qD, qOf, im, imm, immL]⟩)
  unfold c_counts_of_1
  rw [e1]
  have e2 : dm (List.map (fun p => (qD (qOf a b p), M.dp)) (uL n a b)) = .dp := by
    unfold dm
    rw [if_pos (allDp_map fun _ _ => rfl)]
  rw [e2]
  simp [PC, List.map_map, Function.comp_def]
theorem e_counts_of {n : Nat} {a b : List Int} (pa : Per n a) (pb : Per n b) (hn : n ≤ 1000) : r_counts_of [(iD a, .sh), (iD b, .sh)] = some (.lst ((PC n a b).map qD), .dp, [(iD a, .sh), (iD b, .sh)]) := by
  have e1 := e_places_from pa hn
  have e2 := e_places_from pb hn
  have q1 : pCalG 1 r_places_from (aCons (pVar 0) aNil) [some (iD a), some (iD b), none, none, none, none] = some (iD (plc n a), .dp) :=
    pCalG_of (ds := [(iD a, .sh)]) rfl rfl (by simpa [rdL, im, imm_iD] using e1)
  have q2 : pCalG 1 r_places_from (aCons (pVar 1) aNil) [some (iD a), some (iD b), none, none, none, none] = some (iD (plc n b), .dp) :=
    pCalG_of (ds := [(iD b, .sh)]) rfl rfl (by simpa [rdL, im, imm_iD] using e2)
  have s1 : eB (pCalG 1 r_places_from (aCons (pVar 0) aNil)) [some (iD a, .sh), some (iD b, .sh), none, none, none, none] = some (iD (plc n a), .dp, [some (iD a, .sh), some (iD b, .sh), none, none, none, none]) := eB_dp q1
  have s2 : eB (pCalG 1 r_places_from (aCons (pVar 1) aNil)) [some (iD a, .sh), some (iD b, .sh), none, none, none, none] = some (iD (plc n b), .dp, [some (iD a, .sh), some (iD b, .sh), none, none, none, none]) := eB_dp q2
  have s3 : eTup (eCons (eB (pCalG 1 r_places_from (aCons (pVar 0) aNil))) (eCons (eB (pCalG 1 r_places_from (aCons (pVar 1) aNil))) eNil)) [some (iD a, .sh), some (iD b, .sh), none, none, none, none] = some (.tup [iD (plc n a), iD (plc n b)], .dp, [some (iD a, .sh), some (iD b, .sh), none, none, none, none]) := by
    unfold eTup eCons eNil
    simp [s1, s2, lim, allDp]
  have s4 : (goTup 2 (goC (putS [false, false] 2) (goC (putS [false, false] 3) goN))) (.tup [iD (plc n a), iD (plc n b)], .dp) [some (iD a, .sh), some (iD b, .sh), none, none, none, none] = some [some (iD a, .sh), some (iD b, .sh), some (iD (plc n a), .dp), some (iD (plc n b), .dp), none, none] := by
    simp [goTup, goC, goN, putS, unTup]
  have s5 : eB c_counts_of_1 [some (iD a, .sh), some (iD b, .sh), some (iD (plc n a), .dp), some (iD (plc n b), .dp), none, none] = some (.lst ((PC n a b).map qD), .dp, [some (iD a, .sh), some (iD b, .sh), some (iD (plc n a), .dp), some (iD (plc n b), .dp), none, none]) := eB_dp (c_co a b hn)
  unfold r_counts_of runG b_counts_of
  simp only [List.map_cons, List.map_nil, List.replicate, List.cons_append, List.nil_append]
  rw [sSeq_nx (sAsg_nx s3 s4), sRet_of s5]
  simp [outP, im, imm_iD]
/-! the checks -/
theorem isort_id {l : List Int} (h : l.Pairwise (· ≤ ·)) : isort l = l :=
  List.Perm.eq_of_pairwise (le := (· ≤ ·)) (fun x y _ _ h1 h2 => Int.le_antisymm h1 h2) (isort_sorted l) h (isort_perm l)
theorem isort_perm_eq {a b : List Int} (h : a.Perm b) : isort a = isort b := by
  refine List.Perm.eq_of_pairwise (le := (· ≤ ·)) (fun x y _ _ h1 h2 => Int.le_antisymm h1 h2) (isort_sorted a) (isort_sorted b) ?_
  exact (isort_perm a).trans (h.trans (isort_perm b).symm)
theorem isort_per {n : Nat} {a : List Int} (pa : Per n a) : isort a = rgI 0 n := by
  rw [isort_perm_eq pa]
  exact isort_id ((rgI_pw _ _).imp fun h => Int.le_of_lt h)
theorem c_iol {n : Nat} {a : List Int} (pa : Per n a) (hn : n ≤ 1000) (y1 : Option D) : c_is_order_list_1 [some (iD a), y1] = some (.lst [], .dp) := by
  have h1 : iLst (pVar 0) [some (iD a), y1] = some (a.map D.int) := rfl
  have e1 := pComp_eq (vs := [1]) (g := gSet 1) (t := (bNot (bTru (pCalG 3 r_is_between (aCons (pVar 1) (aCons (pC (.int 0)) (aCons (p2 gSub (pCB gLen (aCons (pVar 0) aNil)) (pC (.int 1))) aNil))))))) (e := pVar 1) h1
    (by rw [List.length_map, pa.len]; exact le_lim (by omega))
    (compL_go (p := fun _ => false) (out := fun x => (D.int x, M.dp)) fun x hx => ⟨_, rfl, by
      have hm := pa.mem.mp hx
      have e := e_is_between x 0 ((n : Int) - 1)
      rw [show (decide ((0 : Int) ≤ x) && decide (x ≤ (n : Int) - 1)) = true by simp; omega] at e
      have hl := pa.len
      have q : pCalG 3 r_is_between (aCons (pVar 1) (aCons (pC (.int 0)) (aCons (p2 gSub (pCB gLen (aCons (pVar 0) aNil)) (pC (.int 1))) aNil))) [some (iD a), some (.int x)] = some (.bl true, .dp) := by
        refine pCalG_of (ds := [(.int x, .dp), (.int 0, .dp), (.int ((n : Int) - 1), .dp)]) ?_ rfl (by simpa [rdL, im, imm] using e)
        simp [aCons, aNil, pVar, pC, p2, pCB, gLen, gSub, gI, iD, im, imm, hl]
      exact bNot_of (bTru_of q), by simp⟩)
  unfold c_is_order_list_1
  rw [e1]
  simp [dm, allDp]
theorem e_is_order_list {n : Nat} {a : List Int} (pa : Per n a) (hn : n ≤ 200) : r_is_order_list [(iD a, .sh)] = some (.bl true, .dp, [(iD a, .sh)]) := by
  have hl := pa.len
  have c1 := c_iol pa (by omega) none
  have e1 : gNe (.lst []) (.lst []) = some (.bl false, .dp) := gNe_ints [] []
  have e2 : gEq (.lst ((isort a).map .int)) (.lst ((rgI 0 n).map .int)) = some (.bl true, .dp) := by
    rw [gEq_ints, isort_per pa]
    simp
  have e3 := gSorted_ints a
  have er := rgD_rgI 0 n
  have b2 : bd62 (n : Int) = true := bd_nat (by omega)
  have h200 : ¬ (200 : Int) < (n : Int) := by omega
  have hr : (rgI 0 (n : Int)).length ≤ 16777216 := by rw [rgI_len]; omega
  unfold iD at c1
  simp [-List.map_map, iRg1, iRg2, iLst, pLr, runG, outP, im, imm, immL, eB, eV, eS, eMv, eCp, frz, eNil, eCons, eLst, eTup, e2, e1, eCB, eIf, eMut, eMut0, eOn, isLst, eTmp, eCall, callR, takeA, convL, putA, rSl, rVl, caN, caC, eMake, mkR, rdL, sSeq, sIf, sRet, sRetN, sExpr, sSet, putS, sPar, sPar3, sAsg, goTup, goC, goN, unTup, sFor, iLstE, iRg1E, iRg2E, iS, iEnE, iEn, sNext, sNever, tV, tAndE, tOrE, tNotE, tTruE, tOfE, asBE, bAnd, bOr, bNot, bTru, tOf, asB, p2, p1, pC, pVar, pAnd, pOr, pNot, pIf, pChain, pCalG, pCallK, permL, pMake, pMakeK, pMeth, pMeth0, pFld, pIsi, pIsC, isiC, tyN, pCB, gLen, gListD, gList, gDictC, gSortedD, gInt, gAdd, gSub, gI, gC, gLt, gLe, gGt, gGe, gGeX, gIs, gIsNot, isB, aNil, aCons, vw, shv, tru, kb_int_int, kb_int_bool, kb_tup_tup, kb_lst_lst, kb_dk_lst, eAnd, gMod, gFdiv, gMul, gPow, gIx, gSetL, setAtD, inM, gMax, gMin, toInts, maxL, minL, gEq_int, gNe_int, im_int, pLst, pTup, lim, dm, allDp, at_0, at_1, at_2, r_is_order_list, b_is_order_list, iD, c1, e1, e2, e3, hl, er, b2, h200, hr]
theorem e_check_order {n : Nat} {a : List Int} (pa : Per n a) (hn : n ≤ 200) : r_check_order [(iD a, .sh)] = some (.non, .dp, [(iD a, .sh)]) := by
  have e1 := e_is_order_list pa hn
  simp [iRg1, iRg2, iLst, pLr, runG, outP, im, imm, immL, eB, eV, eS, eMv, eCp, frz, eNil, eCons, eLst, eTup, e2, e1, eCB, eIf, eMut, eMut0, eOn, isLst, eTmp, eCall, callR, takeA, convL, putA, rSl, rVl, caN, caC, eMake, mkR, rdL, sSeq, sIf, sRet, sRetN, sExpr, sSet, putS, sPar, sPar3, sAsg, goTup, goC, goN, unTup, sFor, iLstE, iRg1E, iRg2E, iS, iEnE, iEn, sNext, sNever, tV, tAndE, tOrE, tNotE, tTruE, tOfE, asBE, bAnd, bOr, bNot, bTru, tOf, asB, p2, p1, pC, pVar, pAnd, pOr, pNot, pIf, pChain, pCalG, pCallK, permL, pMake, pMakeK, pMeth, pMeth0, pFld, pIsi, pIsC, isiC, tyN, pCB, gLen, gListD, gList, gDictC, gSortedD, gInt, gAdd, gSub, gI, gC, gLt, gLe, gGt, gGe, gGeX, gIs, gIsNot, isB, aNil, aCons, vw, shv, tru, kb_int_int, kb_int_bool, kb_tup_tup, kb_lst_lst, kb_dk_lst, eAnd, gMod, gFdiv, gMul, gPow, gIx, gSetL, setAtD, inM, gMax, gMin, toInts, maxL, minL, gEq_int, gNe_int, im_int, pLst, pTup, lim, dm, allDp, at_0, at_1, at_2, r_check_order, b_check_order, e1, imm_iD]
theorem e_check_two {n : Nat} {a b : List Int} (pa : Per n a) (pb : Per n b) (hn : n ≤ 200) : r_check_two_orders [(iD a, .sh), (iD b, .sh)] = some (.non, .dp, [(iD a, .sh), (iD b, .sh)]) := by
  have e1 := e_check_order pa hn
  have e2 := e_check_order pb hn
  have l1 := pa.len
  have l2 := pb.len
  unfold iD at e1 e2 ⊢
  simp [iRg1, iRg2, iLst, pLr, runG, outP, im, imm, immL, eB, eV, eS, eMv, eCp, frz, eNil, eCons, eLst, eTup, e2, e1, eCB, eIf, eMut, eMut0, eOn, isLst, eTmp, eCall, callR, takeA, convL, putA, rSl, rVl, caN, caC, eMake, mkR, rdL, sSeq, sIf, sRet, sRetN, sExpr, sSet, putS, sPar, sPar3, sAsg, goTup, goC, goN, unTup, sFor, iLstE, iRg1E, iRg2E, iS, iEnE, iEn, sNext, sNever, tV, tAndE, tOrE, tNotE, tTruE, tOfE, asBE, bAnd, bOr, bNot, bTru, tOf, asB, p2, p1, pC, pVar, pAnd, pOr, pNot, pIf, pChain, pCalG, pCallK, permL, pMake, pMakeK, pMeth, pMeth0, pFld, pIsi, pIsC, isiC, tyN, pCB, gLen, gListD, gList, gDictC, gSortedD, gInt, gAdd, gSub, gI, gC, gLt, gLe, gGt, gGe, gGeX, gIs, gIsNot, isB, aNil, aCons, vw, shv, tru, kb_int_int, kb_int_bool, kb_tup_tup, kb_lst_lst, kb_dk_lst, eAnd, gMod, gFdiv, gMul, gPow, gIx, gSetL, setAtD, inM, gMax, gMin, toInts, maxL, minL, gEq_int, gNe_int, im_int, pLst, pTup, lim, dm, allDp, at_0, at_1, at_2, r_check_two_orders, b_check_two_orders, e1, e2, l1, l2]
theorem e_pair_counts {n : Nat} {a b : List Int} (pa : Per n a) (pb : Per n b) (hn : n ≤ 200) : r_pair_counts [(iD a, .sh), (iD b, .sh)] = some (.lst ((PC n a b).map qD), .dp, [(iD a, .sh), (iD b, .sh)]) := by
  have e1 := e_check_two pa pb hn
  have e2 := e_counts_of pa pb (by omega)
  simp [iRg1, iRg2, iLst, pLr, runG, outP, im, imm, immL, eB, eV, eS, eMv, eCp, frz, eNil, eCons, eLst, eTup, e2, e1, eCB, eIf, eMut, eMut0, eOn, isLst, eTmp, eCall, callR, takeA, convL, putA, rSl, rVl, caN, caC, eMake, mkR, rdL, sSeq, sIf, sRet, sRetN, sExpr, sSet, putS, sPar, sPar3, sAsg, goTup, goC, goN, unTup, sFor, iLstE, iRg1E, iRg2E, iS, iEnE, iEn, sNext, sNever, tV, tAndE, tOrE, tNotE, tTruE, tOfE, asBE, bAnd, bOr, bNot, bTru, tOf, asB, p2, p1, pC, pVar, pAnd, pOr, pNot, pIf, pChain, pCalG, pCallK, permL, pMake, pMakeK, pMeth, pMeth0, pFld, pIsi, pIsC, isiC, tyN, pCB, gLen, gListD, gList, gDictC, gSortedD, gInt, gAdd, gSub, gI, gC, gLt, gLe, gGt, gGe, gGeX, gIs, gIsNot, isB, aNil, aCons, vw, shv, tru, kb_int_int, kb_int_bool, kb_tup_tup, kb_lst_lst, kb_dk_lst, eAnd, gMod, gFdiv, gMul, gPow, gIx, gSetL, setAtD, inM, gMax, gMin, toInts, maxL, minL, gEq_int, gNe_int, im_int, pLst, pTup, lim, dm, allDp, at_0, at_1, at_2, r_pair_counts, b_pair_counts, e1, e2, imm_iD]
end L90
set_option Elab.async false
set_option linter.all false
/-! U2: the law's list of unlike pairs is the same list, when sorted -/
namespace Ord0
open G
theorem bef_iff : ∀ {a : List Int}, a.Nodup → ∀ {x y : Int}, [x, y].Sublist a ↔ x ∈ a ∧ y ∈ a ∧ ps a x < ps a y
  | [], _, x, y => by simp
  | z :: t, nd, x, y => by
    obtain ⟨n1, n2⟩ := List.nodup_cons.mp nd
    have ih := bef_iff n2 (x := x) (y := y)
    have ez : ∀ v, ps (z :: t) v = if z = v then 0 else ps t v + 1 := fun v => by
      unfold ps
      rw [List.idxOf_cons]
      by_cases h : z = v
      · simp [h]
      · have hb : (z == v) = false := by simpa using h
        rw [hb]
        simp [h]
    rw [List.sublist_cons_iff, ih]
    have h1 := ps_nn t x
    have h2 := ps_nn t y
    constructor
    · rintro (⟨a1, a2, a3⟩ | ⟨r, e, hr⟩)
      · have q1 : z ≠ x := fun q => n1 (q ▸ a1)
        have q2 : z ≠ y := fun q => n1 (q ▸ a2)
        refine ⟨List.mem_cons_of_mem _ a1, List.mem_cons_of_mem _ a2, ?_⟩
        rw [ez, ez, if_neg q1, if_neg q2]
        omega
      · cases e
        have hy : y ∈ t := by simpa using hr
        have q2 : z ≠ y := fun q => n1 (q ▸ hy)
        refine ⟨List.mem_cons_self, List.mem_cons_of_mem _ hy, ?_⟩
        rw [ez, ez, if_pos rfl, if_neg q2]
        omega
    · rintro ⟨a1, a2, a3⟩
      rw [ez, ez] at a3
      by_cases qx : z = x
      · subst qx
        rw [if_pos rfl] at a3
        by_cases qy : z = y
        · rw [if_pos qy] at a3
          omega
        · right
          refine ⟨[y], rfl, ?_⟩
          rcases List.mem_cons.mp a2 with q | q
          · exact absurd q.symm qy
          · simpa using q
      · rw [if_neg qx] at a3
        by_cases qy : z = y
        · rw [if_pos qy] at a3
          omega
        · rw [if_neg qy] at a3
          left
          rcases List.mem_cons.mp a1 with q | q
          · exact absurd q.symm qx
          · rcases List.mem_cons.mp a2 with q' | q'
            · exact absurd q'.symm qy
            · exact ⟨q, q', by omega⟩
def mm (x y : Int) : Int × Int := (if y < x then y else x, if y > x then y else x)
def ulr (b : List Int) (x : Int) (t : List Int) : List (Int × Int) := (t.filter fun y => decide (ps b y < ps b x)).map (mm x)
def ulA (b : List Int) : List Int → List (Int × Int)
  | [] => []
  | x :: t => ulr b x t ++ ulA b t
theorem mem_ulA (b : List Int) : ∀ {s : List Int} {p : Int × Int}, p ∈ ulA b s ↔ ∃ x y, [x, y].Sublist s ∧ ps b y < ps b x ∧ p = mm x y
  | [], p => by simp [ulA]
  | z :: t, p => by
    unfold ulA
    rw [List.mem_append, mem_ulA b]
    unfold ulr
    simp only [List.mem_map, List.mem_filter, decide_eq_true_eq]
    constructor
    · rintro (⟨y, ⟨h1, h2⟩, rfl⟩ | ⟨x, y, h1, h2, rfl⟩)
      · exact ⟨z, y, by rw [List.cons_sublist_cons]; simpa using h1, h2, rfl⟩
      · exact ⟨x, y, h1.cons z, h2, rfl⟩
    · rintro ⟨x, y, h1, h2, rfl⟩
      rw [List.sublist_cons_iff] at h1
      rcases h1 with h1 | ⟨r, e, hr⟩
      · exact Or.inr ⟨x, y, h1, h2, rfl⟩
      · cases e
        exact Or.inl ⟨y, ⟨by simpa using hr, h2⟩, rfl⟩
theorem mm_inj {x y z w : Int} (h : mm x y = mm z w) : (x = z ∧ y = w) ∨ (x = w ∧ y = z) := by
  unfold mm at h
  simp only [Prod.mk.injEq] at h
  obtain ⟨h1, h2⟩ := h
  split at h1 <;> split at h1 <;> split at h2 <;> split at h2 <;> omega
theorem ulA_nodup (b : List Int) : ∀ {s : List Int}, s.Nodup → (ulA b s).Nodup
  | [], _ => by simp [ulA]
  | z :: t, nd => by
    obtain ⟨n1, n2⟩ := List.nodup_cons.mp nd
    unfold ulA
    rw [List.nodup_append]
    refine ⟨?_, ulA_nodup b n2, ?_⟩
    · unfold ulr
      have hp : (t.filter fun y => decide (ps b y < ps b z)).Nodup := n2.filter _
      rw [List.nodup_iff_pairwise_ne, List.pairwise_map]
      refine List.Pairwise.imp_of_mem ?_ hp
      intro u v hu hv huv e
      rcases mm_inj e with ⟨_, q⟩ | ⟨q1, q2⟩
      · exact huv q
      · exact huv (by rw [q2, ← q1])
    · intro p hp q hq e
      subst e
      unfold ulr at hp
      obtain ⟨y, hy, rfl⟩ := List.mem_map.mp hp
      obtain ⟨u, v, h1, _, e⟩ := (mem_ulA b).mp hq
      have hu : u ∈ t := h1.subset (by simp)
      have hv : v ∈ t := h1.subset (by simp)
      rcases mm_inj e with ⟨q, _⟩ | ⟨q, _⟩
      · exact n1 (q ▸ hu)
      · exact n1 (q ▸ hv)
theorem ulA_perm {n : Nat} {a b : List Int} (pa : Per n a) (pb : Per n b) : (ulA b a).Perm (uL n a b) := by
  rw [List.perm_ext_iff_of_nodup (ulA_nodup b pa.nd) (uL_nodup _ _ _)]
  intro p
  rw [mem_ulA, mem_uL]
  constructor
  · rintro ⟨x, y, h1, h2, rfl⟩
    obtain ⟨hx, hy, h3⟩ := (bef_iff pa.nd).mp h1
    have bx := pa.mem.mp hx
    have by' := pa.mem.mp hy
    unfold mm
    by_cases q : y < x
    · have q' : ¬ y > x := by omega
      simp only [if_pos q, if_neg q']
      refine ⟨by'.1, q, bx.2, ?_⟩
      unfold dis
      simp
      omega
    · have hne : x ≠ y := fun e => by
        subst e
        omega
      have q' : y > x := by omega
      simp only [if_neg q, if_pos q']
      refine ⟨bx.1, q', by'.2, ?_⟩
      unfold dis
      simp
      omega
  · rintro ⟨h1, h2, h3, h4⟩
    have m1 : p.1 ∈ a := pa.mem.mpr ⟨h1, by omega⟩
    have m2 : p.2 ∈ a := pa.mem.mpr ⟨by omega, h3⟩
    have k1 : p.1 ∈ b := pb.mem.mpr ⟨h1, by omega⟩
    have k2 : p.2 ∈ b := pb.mem.mpr ⟨by omega, h3⟩
    have ne1 : ps a p.1 ≠ ps a p.2 := fun e => by have := ps_inj (n := n) m1 m2 e; omega
    have ne2 : ps b p.1 ≠ ps b p.2 := fun e => by have := ps_inj (n := n) k1 k2 e; omega
    unfold dis at h4
    simp at h4
    by_cases q : ps a p.1 < ps a p.2
    · refine ⟨p.1, p.2, (bef_iff pa.nd).mpr ⟨m1, m2, q⟩, by omega, ?_⟩
      unfold mm
      rw [if_neg (by omega), if_pos (by omega)]
    · refine ⟨p.2, p.1, (bef_iff pa.nd).mpr ⟨m2, m1, by omega⟩, by omega, ?_⟩
      unfold mm
      rw [if_pos (by omega), if_neg (by omega)]
theorem psort_ulA {n : Nat} {a b : List Int} (pa : Per n a) (pb : Per n b) : psort (ulA b a) = uL n a b := by
  refine psort_uniq (psort_sorted _) ((uL_pw n a b).imp fun h => ?_) ((psort_perm _).trans (ulA_perm pa pb))
  unfold pLt at h
  unfold pLe
  omega
theorem ulA_zip (b c : List Int) : ∀ (t : List Int) (k : Nat), c.drop k = t → (t.zipIdx k).flatMap (fun p => ulr b p.1 (c.drop (p.2 + 1))) = ulA b t
  | [], k, _ => by simp [ulA]
  | x :: t, k, h => by
    have h2 : c.drop (k + 1) = t := by
      rw [← List.drop_drop, h]
      rfl
    rw [List.zipIdx_cons, List.flatMap_cons, ulA_zip b c t (k + 1) h2]
    dsimp only
    rw [h2, ulA]
end Ord0
set_option Elab.async false
set_option linter.all false
set_option maxRecDepth 100000
set_option maxHeartbeats 4000000
namespace L90
open PySem G Ord0
/-! the law's unlike pairs -/
theorem sIx_n (n d k : Nat) : HT.sIx n d (some (k : Int)) = min k n := by
  show (if (k : Int) < 0 then ((k : Int) + (n : Int)).toNat else min (k : Int).toNat n) = min k n
  rw [if_neg (by omega), Int.toNat_natCast]
theorem cut_from {α : Type} (xs : List α) (k : Nat) : cutL xs (some (k : Int)) none = xs.drop k := by
  unfold cutL
  rw [sIx_n, show HT.sIx xs.length xs.length none = xs.length from rfl]
  by_cases h : k ≤ xs.length
  · rw [Nat.min_eq_left h]
    exact List.take_of_length_le (by rw [List.length_drop]; exact Nat.le_refl _)
  · rw [Nat.min_eq_right (by omega), List.drop_eq_nil_of_le (Nat.le_refl _), List.drop_eq_nil_of_le (by omega)]
    simp
def en9 (a b : List Int) (fs : List (Int × Int)) (x4 x5 x6 : Option (D × M)) : Env' := [some (iD a, .sh), some (iD b, .sh), some (plD b, .dp), some (.lst (fs.map pD), .dp), x4, x5, x6, none]
def add9 (b : List Int) (x : Int) (fs : List (Int × Int)) (y : Int) : List (Int × Int) := fs ++ (if ps b y < ps b x then [mm x y] else [])
theorem st_lu_1 (a b : List Int) (fs : List (Int × Int)) (x4 : Option (D × M)) (x y : Int) (hx : x ∈ b) (hy : y ∈ b) (hl : fs.length < lim) :
    b_l_unlike_1 (en9 a b fs x4 (some (.int x, .dp)) (some (.int y, .dp))) = some (.nx, en9 a b (add9 b x fs y) x4 (some (.int x, .dp)) (some (.int y, .dp))) := by
  have a1 := look_pl hx
  have a2 := look_pl hy
  have hl' : fs.length < 16777216 := hl
  by_cases h : ps b y < ps b x
  · simp [iRg1, iRg2, iLst, pLr, runG, outP, im, imm, immL, eB, eV, eS, eMv, eCp, frz, eNil, eCons, eLst, eTup, e2, e1, eCB, eIf, eMut, eMut0, eOn, isLst, eTmp, eCall, callR, takeA, convL, putA, rSl, rVl, caN, caC, eMake, mkR, rdL, sSeq, sIf, sRet, sRetN, sExpr, sSet, putS, sPar, sPar3, sAsg, goTup, goC, goN, unTup, sFor, iLstE, iRg1E, iRg2E, iS, iEnE, iEn, sNext, sNever, tV, tAndE, tOrE, tNotE, tTruE, tOfE, asBE, bAnd, bOr, bNot, bTru, tOf, asB, p2, p1, pC, pVar, pAnd, pOr, pNot, pIf, pChain, pCalG, pCallK, permL, pMake, pMakeK, pMeth, pMeth0, pFld, pIsi, pIsC, isiC, tyN, pCB, gLen, gListD, gList, gDictC, gSortedD, gInt, gAdd, gSub, gI, gC, gLt, gLe, gGt, gGe, gGeX, gIs, gIsNot, isB, aNil, aCons, vw, shv, tru, kb_int_int, kb_int_bool, kb_tup_tup, kb_lst_lst, kb_dk_lst, eAnd, gMod, gFdiv, gMul, gPow, gIx, gSetL, setAtD, inM, gMax, gMin, toInts, maxL, minL, gEq_int, gNe_int, im_int, pLst, pTup, lim, dm, allDp, at_0, at_1, at_2, b_l_unlike_1, en9, plD, isKey, a1, a2, h, gAppend, hl', add9, mm, pD]
  · simp [iRg1, iRg2, iLst, pLr, runG, outP, im, imm, immL, eB, eV, eS, eMv, eCp, frz, eNil, eCons, eLst, eTup, e2, e1, eCB, eIf, eMut, eMut0, eOn, isLst, eTmp, eCall, callR, takeA, convL, putA, rSl, rVl, caN, caC, eMake, mkR, rdL, sSeq, sIf, sRet, sRetN, sExpr, sSet, putS, sPar, sPar3, sAsg, goTup, goC, goN, unTup, sFor, iLstE, iRg1E, iRg2E, iS, iEnE, iEn, sNext, sNever, tV, tAndE, tOrE, tNotE, tTruE, tOfE, asBE, bAnd, bOr, bNot, bTru, tOf, asB, p2, p1, pC, pVar, pAnd, pOr, pNot, pIf, pChain, pCalG, pCallK, permL, pMake, pMakeK, pMeth, pMeth0, pFld, pIsi, pIsC, isiC, tyN, pCB, gLen, gListD, gList, gDictC, gSortedD, gInt, gAdd, gSub, gI, gC, gLt, gLe, gGt, gGe, gGeX, gIs, gIsNot, isB, aNil, aCons, vw, shv, tru, kb_int_int, kb_int_bool, kb_tup_tup, kb_lst_lst, kb_dk_lst, eAnd, gMod, gFdiv, gMul, gPow, gIx, gSetL, setAtD, inM, gMax, gMin, toInts, maxL, minL, gEq_int, gNe_int, im_int, pLst, pTup, lim, dm, allDp, at_0, at_1, at_2, b_l_unlike_1, en9, plD, isKey, a1, a2, h, add9]
theorem fold9 (b : List Int) (x : Int) : ∀ (l : List Int) (fs : List (Int × Int)), l.foldl (add9 b x) fs = fs ++ ulr b x l
  | [], fs => by simp [ulr]
  | y :: l, fs => by
    rw [List.foldl_cons, fold9 b x l, add9]
    unfold ulr
    rw [List.filter_cons]
    by_cases h : ps b y < ps b x <;> simp [h]
theorem st_lu_2 {n : Nat} {a b : List Int} (pa : Per n a) (pb : Per n b) (fs : List (Int × Int)) (i : Nat) (x : Int) (hx : x ∈ b) (hl : fs.length + n < 2000000) (hn : n ≤ 1000) (x6 : Option (D × M)) :
    ∃ y6, b_l_unlike_2 (en9 a b fs (some (.int i, .dp)) (some (.int x, .dp)) x6) = some (.nx, en9 a b (fs ++ ulr b x (a.drop (i + 1))) (some (.int i, .dp)) (some (.int x, .dp)) y6) := by
  obtain ⟨e', h1, y6, h2⟩ := forL_len (en := D.int) (g := putS [false, false] 6) (b := b_l_unlike_1) (f := add9 b x) (c := 1) (B := 2000000) (P := fun z => z ∈ b)
    (R := fun s e => ∃ x6, e = en9 a b s (some (.int i, .dp)) (some (.int x, .dp)) x6)
    (fun s z _ => by unfold add9; split <;> simp)
    (fun s z e hz hs ⟨x6, he⟩ => by
      subst he
      have q := st_lu_1 a b s (some (.int i, .dp)) x z hx hz (by unfold lim; omega)
      exact ⟨en9 a b s (some (.int i, .dp)) (some (.int x, .dp)) (some (.int z, .dp)), _, by simp [putS, im_int, en9], q, _, rfl⟩)
    (a.drop (i + 1)) fs (en9 a b fs (some (.int i, .dp)) (some (.int x, .dp)) x6) (fun z hz => pb.mem.mpr (pa.mem.mp (List.mem_of_mem_drop hz)))
    (by rw [List.length_drop, pa.len]; omega) ⟨_, rfl⟩
  rw [fold9] at h2
  subst h2
  refine ⟨y6, ?_⟩
  unfold b_l_unlike_2
  refine sFor_of ?_ h1
  have hc : cutL (a.map D.int) (some ((i : Int) + 1)) none = (a.drop (i + 1)).map D.int := by
    rw [show (i : Int) + 1 = ((i + 1 : Nat) : Int) by omega, cut_from, List.map_drop]
  have hm := lm_ints (a.drop (i + 1))
  simp [-List.map_drop, -List.map_map, iRg1, iRg2, iLst, pLr, runG, outP, im, imm, immL, eB, eV, eS, eMv, eCp, frz, eNil, eCons, eLst, eTup, e2, e1, eCB, eIf, eMut, eMut0, eOn, isLst, eTmp, eCall, callR, takeA, convL, putA, rSl, rVl, caN, caC, eMake, mkR, rdL, sSeq, sIf, sRet, sRetN, sExpr, sSet, putS, sPar, sPar3, sAsg, goTup, goC, goN, unTup, sFor, iLstE, iRg1E, iRg2E, iS, iEnE, iEn, sNext, sNever, tV, tAndE, tOrE, tNotE, tTruE, tOfE, asBE, bAnd, bOr, bNot, bTru, tOf, asB, p2, p1, pC, pVar, pAnd, pOr, pNot, pIf, pChain, pCalG, pCallK, permL, pMake, pMakeK, pMeth, pMeth0, pFld, pIsi, pIsC, isiC, tyN, pCB, gLen, gListD, gList, gDictC, gSortedD, gInt, gAdd, gSub, gI, gC, gLt, gLe, gGt, gGe, gGeX, gIs, gIsNot, isB, aNil, aCons, vw, shv, tru, kb_int_int, kb_int_bool, kb_tup_tup, kb_lst_lst, kb_dk_lst, eAnd, gMod, gFdiv, gMul, gPow, gIx, gSetL, setAtD, inM, gMax, gMin, toInts, maxL, minL, gEq_int, gNe_int, im_int, pLst, pTup, lim, dm, allDp, at_0, at_1, at_2, en9, iD, pSl, oSome, oNone, gSl, hc, hm]
theorem e_lu_dict {b : List Int} (nd : b.Nodup) (hl : b.length ≤ 1000) (y0 y2 y3 y4 y5 y6 y7 : Option D) :
    pCB gDictC (aCons c_l_unlike_1 aNil) [y0, some (iD b), y2, y3, y4, y5, y6, y7] = some (plD b, .dp) := by
  refine e_places (m := .sh) nd hl ?_ fun p hp => ⟨_, rfl, ?_⟩
  · simp [pVar, im, iD, imm]
  · simp [iRg1, iRg2, iLst, pLr, runG, outP, im, imm, immL, eB, eV, eS, eMv, eCp, frz, eNil, eCons, eLst, eTup, e2, e1, eCB, eIf, eMut, eMut0, eOn, isLst, eTmp, eCall, callR, takeA, convL, putA, rSl, rVl, caN, caC, eMake, mkR, rdL, sSeq, sIf, sRet, sRetN, sExpr, sSet, putS, sPar, sPar3, sAsg, goTup, goC, goN, unTup, sFor, iLstE, iRg1E, iRg2E, iS, iEnE, iEn, sNext, sNever, tV, tAndE, tOrE, tNotE, tTruE, tOfE, asBE, bAnd, bOr, bNot, bTru, tOf, asB, p2, p1, pC, pVar, pAnd, pOr, pNot, pIf, pChain, pCalG, pCallK, permL, pMake, pMakeK, pMeth, pMeth0, pFld, pIsi, pIsC, isiC, tyN, pCB, gLen, gListD, gList, gDictC, gSortedD, gInt, gAdd, gSub, gI, gC, gLt, gLe, gGt, gGe, gGeX, gIs, gIsNot, isB, aNil, aCons, vw, shv, tru, kb_int_int, kb_int_bool, kb_tup_tup, kb_lst_lst, kb_dk_lst, eAnd, gMod, gFdiv, gMul, gPow, gIx, gSetL, setAtD, inM, gMax, gMin, toInts, maxL, minL, gEq_int, gNe_int, im_int, pLst, pTup, lim, dm, allDp, at_0, at_1, at_2, wipeV, gSet]
theorem ulr_len (b : List Int) (x : Int) (t : List Int) : (ulr b x t).length ≤ t.length := by
  unfold ulr
  rw [List.length_map]
  exact List.length_filter_le _ _
theorem e_l_unlike {n : Nat} {a b : List Int} (pa : Per n a) (pb : Per n b) (hn : n ≤ 1000) : r_l_unlike [(iD a, .sh), (iD b, .sh)] = some (.lst ((uL n a b).map pD), .dp, [(iD a, .sh), (iD b, .sh)]) := by
  obtain ⟨e', h1, y4, y5, y6, h2⟩ := forL_len (en := enT) (g := goTup 2 (goC (putS [false, false] 4) (goC (putS [false, false] 5) goN))) (b := b_l_unlike_2) (f := fun fs p => fs ++ ulr b p.1 (a.drop (p.2 + 1))) (c := n) (B := 1000000) (P := fun p => p ∈ a.zipIdx)
    (R := fun s e => ∃ x4 x5 x6, e = en9 a b s x4 x5 x6)
    (fun s p hp => by
      rw [List.length_append]
      have := ulr_len b p.1 (a.drop (p.2 + 1))
      rw [List.length_drop, pa.len] at this
      omega)
    (fun s p e hp hs ⟨x4, x5, x6, he⟩ => by
      subst he
      have hx : p.1 ∈ a := List.fst_mem_of_mem_zipIdx hp
      obtain ⟨y6, q⟩ := st_lu_2 pa pb s p.2 p.1 (pb.mem.mpr (pa.mem.mp hx)) (by omega) hn x6
      exact ⟨en9 a b s (some (.int p.2, .dp)) (some (.int p.1, .dp)) x6, _, by simp [goTup, goC, goN, putS, unTup, im, imm, immL, enT, en9], q, _, _, _, rfl⟩)
    a.zipIdx [] (en9 a b [] none none none) (fun p hp => hp) (by
      rw [List.length_zipIdx, pa.len]
      have := Nat.mul_le_mul hn hn
      simpa using this) ⟨_, _, _, rfl⟩
  have hf : a.zipIdx.foldl (fun fs p => fs ++ ulr b p.1 (a.drop (p.2 + 1))) [] = ulA b a := by
    rw [← ulA_zip b a a 0 rfl]
    have go : ∀ (l : List (Int × Nat)) (fs : List (Int × Int)), l.foldl (fun fs p => fs ++ ulr b p.1 (a.drop (p.2 + 1))) fs = fs ++ l.flatMap (fun p => ulr b p.1 (a.drop (p.2 + 1))) := by
      intro l
      induction l with
      | nil => intro fs; simp
      | cons p l ih => intro fs; rw [List.foldl_cons, ih]; simp
    rw [go]
    rfl
  rw [hf] at h2
  subst h2
  have d1 := e_lu_dict pb.nd (by rw [pb.len]; exact hn) (some (iD a)) none none none none none none
  have s1 : eB (pCB gDictC (aCons c_l_unlike_1 aNil)) [some (iD a, .sh), some (iD b, .sh), none, none, none, none, none, none] = some (plD b, .dp, [some (iD a, .sh), some (iD b, .sh), none, none, none, none, none, none]) := eB_dp d1
  have s2 : (sPar [false, false] 2 3 (eCons (eB (pCB gDictC (aCons c_l_unlike_1 aNil))) (eCons (eB (pLst aNil)) eNil))) [some (iD a, .sh), some (iD b, .sh), none, none, none, none, none, none] = some (.nx, en9 a b [] none none none) := by
    have z : eB (pLst aNil) [some (iD a, .sh), some (iD b, .sh), none, none, none, none, none, none] = some (.lst [], .dp, [some (iD a, .sh), some (iD b, .sh), none, none, none, none, none, none]) := rfl
    unfold sPar eCons eNil
    simp [s1, z, putS, en9]
  have i1 : iEnE (eCp 0) (en9 a b [] none none none) = some (a.zipIdx.map enT, en9 a b [] none none none) := by
    have := enD_ints a 0
    simp [iEnE, eCp, frz, iD, im, imm, en9, this]
  have e3 := gSorted_pairs (ulA b a)
  rw [psort_ulA pa pb] at e3
  unfold r_l_unlike runG b_l_unlike
  simp only [List.map_cons, List.map_nil, List.replicate, List.cons_append, List.nil_append]
  rw [sSeq_nx s2, sSeq_nx (sFor_of i1 h1)]
  simp [iRg1, iRg2, iLst, pLr, runG, outP, im, imm, immL, eB, eV, eS, eMv, eCp, frz, eNil, eCons, eLst, eTup, e2, e1, eCB, eIf, eMut, eMut0, eOn, isLst, eTmp, eCall, callR, takeA, convL, putA, rSl, rVl, caN, caC, eMake, mkR, rdL, sSeq, sIf, sRet, sRetN, sExpr, sSet, putS, sPar, sPar3, sAsg, goTup, goC, goN, unTup, sFor, iLstE, iRg1E, iRg2E, iS, iEnE, iEn, sNext, sNever, tV, tAndE, tOrE, tNotE, tTruE, tOfE, asBE, bAnd, bOr, bNot, bTru, tOf, asB, p2, p1, pC, pVar, pAnd, pOr, pNot, pIf, pChain, pCalG, pCallK, permL, pMake, pMakeK, pMeth, pMeth0, pFld, pIsi, pIsC, isiC, tyN, pCB, gLen, gListD, gList, gDictC, gSortedD, gInt, gAdd, gSub, gI, gC, gLt, gLe, gGt, gGe, gGeX, gIs, gIsNot, isB, aNil, aCons, vw, shv, tru, kb_int_int, kb_int_bool, kb_tup_tup, kb_lst_lst, kb_dk_lst, eAnd, gMod, gFdiv, gMul, gPow, gIx, gSetL, setAtD, inM, gMax, gMin, toInts, maxL, minL, gEq_int, gNe_int, im_int, pLst, pTup, lim, dm, allDp, at_0, at_1, at_2, en9, imm_iD, e3]
end L90
set_option Elab.async false
set_option linter.all false
set_option maxRecDepth 100000
set_option maxHeartbeats 4000000
namespace L90
open PySem G Ord0
/-! the counts that are needed -/
def add1 (K : List Int) (c : Int) : List Int := if c ∈ K then K else K ++ [c]
def addL (K : List Int) (L : List Int) : List Int := L.foldl add1 K
theorem add1_len (K : List Int) (c : Int) : (add1 K c).length ≤ K.length + 1 := by unfold add1; split <;> simp
theorem addL_len : ∀ (L K : List Int), (addL K L).length ≤ K.length + L.length
  | [], K => by simp [addL]
  | c :: L, K => by
    have h1 := addL_len L (add1 K c)
    have h2 := add1_len K c
    simp only [addL, List.foldl_cons, List.length_cons] at h1 ⊢
    omega
def kk (K : List Int) : List L2.Key := K.map .inl
def tt (K : List Int) : List D := K.map fun _ => .bl true
def kD (K : List Int) : D := .dk (kk K) (tt K)
theorem upd_tt : ∀ (K : List Int) (c : L2.Key), updV (kk K) (tt K) c (.bl true) = tt K
  | [], _ => rfl
  | k :: K, c => by
    simp only [kk, tt, List.map_cons, updV]
    rw [show updV (K.map .inl) (K.map fun _ => D.bl true) c (.bl true) = K.map fun _ => D.bl true from upd_tt K c]
    split <;> rfl
theorem has_kk (K : List Int) (c : Int) : hasK (kk K) (.inl c) ↔ c ∈ K := by simp [hasK, kk]
theorem put_kk (K : List Int) (c : Int) : putD (kk K) (tt K) (.inl c) (.bl true) = (kk (add1 K c), tt (add1 K c)) := by
  unfold putD add1
  by_cases h : c ∈ K
  · rw [if_pos ((has_kk K c).mpr h), if_pos h, upd_tt]
  · rw [if_neg fun q => h ((has_kk K c).mp q), if_neg h]
    simp [kk, tt]
theorem putAll_kk : ∀ (L K : List Int), putAll (kk K, tt K) (L.map fun c => ((.inl c : L2.Key), D.bl true)) = (kk (addL K L), tt (addL K L))
  | [], K => rfl
  | c :: L, K => by
    simp only [List.map_cons, putAll, put_kk]
    rw [putAll_kk L (add1 K c)]
    rfl
theorem immL_tt : ∀ K : List Int, immL (tt K) = true
  | [] => rfl
  | _ :: K => by
    have := immL_tt K
    simpa [tt, immL, imm] using this
theorem imm_kD (K : List Int) : imm (kD K) = false := rfl
/-! the module's way -/
theorem compD_kk (lo hi : Int) (ve : VEnv) (h : 6 < ve.length) : ∀ L : List Int, compD (gSet 6) bYes (pVar 6) (pC (.bl true)) ve (L.map D.int) = some (L.map fun c => ((.inl c : L2.Key), D.bl true))
  | [] => rfl
  | c :: L => by
    have e : pVar 6 (ve.set 6 (some (.int c))) = some (.int c, .dp) := pVar_of (List.getElem?_set_self h)
    simp [compD, gSet, bYes, e, pC, isKey, imm, im, compD_kk lo hi ve h L]
theorem addL_nodup {L : List Int} (h : L.Nodup) : addL [] L = L := by
  have go : ∀ (L K : List Int), (K ++ L).Nodup → addL K L = K ++ L := by
    intro L
    induction L with
    | nil => intro K _; simp [addL]
    | cons c L ih =>
      intro K nd
      have hc : c ∉ K := fun q => (List.nodup_append.mp nd).2.2 c q c (by simp) rfl
      have := ih (K ++ [c]) (by simpa using nd)
      unfold addL at this ⊢
      rw [List.foldl_cons, add1, if_neg hc, this]
      simp
  simpa using go L [] (by simpa using h)
def en10 (a b : List Int) (K : List Int) (x3 x4 x5 : Option (D × M)) : Env' := [some (iD a, .sh), some (iD b, .sh), some (kD K, .dp), x3, x4, x5, none]
theorem c_no (a b : List Int) (K : List Int) (x3 : Option D) (lo hi : Int) (h1 : bd62 lo = true) (h2 : bd62 (hi + 1) = true) (hl : (rgI lo (hi + 1)).length ≤ lim) :
    c_needs_of_1 [some (iD a), some (iD b), some (kD K), x3, some (.int lo), some (.int hi), none] = some (kD (rgI lo (hi + 1)), .dp) := by
  have i1 : iRg2 (pVar 4) (p2 gAdd (pVar 5) (pC (.int 1))) [some (iD a), some (iD b), some (kD K), x3, some (.int lo), some (.int hi), none] = some ((rgI lo (hi + 1)).map D.int) := by
    rw [← rgD_rgI]
    exact iRg2_of (m := .dp) (m' := .dp) rfl rfl h1 h2
  have e := compD_kk lo hi (wipeV [some (iD a), some (iD b), some (kD K), x3, some (.int lo), some (.int hi), none] [6]) (by simp [wipeV]) (rgI lo (hi + 1))
  unfold c_needs_of_1 pCompD
  rw [i1]
  simp only [Option.bind_some]
  rw [if_pos (by rw [List.length_map]; exact hl), e]
  simp only [Option.bind_some]
  have := putAll_kk (rgI lo (hi + 1)) []
  rw [addL_nodup (rgI_nodup _ _)] at this
  rw [show (([], []) : List L2.Key × List D) = (kk [], tt []) from rfl, this]
  rfl
theorem zip_kk (L : List Int) : (kk L).zip (tt L) = L.map fun c => ((.inl c : L2.Key), D.bl true) := by
  unfold kk tt
  rw [List.zip_map']
theorem st_no (a b : List Int) (K : List Int) (x3 : Option (D × M)) (lo hi : Int) (h1 : bd62 lo = true) (h2 : bd62 (hi + 1) = true) (hl : K.length + (rgI lo (hi + 1)).length ≤ lim) :
    b_needs_of_1 (en10 a b K x3 (some (.int lo, .dp)) (some (.int hi, .dp))) = some (.nx, en10 a b (addL K (rgI lo (hi + 1))) x3 (some (.int lo, .dp)) (some (.int hi, .dp))) := by
  have e1 := c_no a b K (x3.map (·.1)) lo hi h1 h2 (by omega)
  have e2 : eB c_needs_of_1 (en10 a b K x3 (some (.int lo, .dp)) (some (.int hi, .dp))) = some (kD (rgI lo (hi + 1)), .dp, en10 a b K x3 (some (.int lo, .dp)) (some (.int hi, .dp))) := eB_dp e1
  have e3 : gUpdate (kD K, .dp) [(kD (rgI lo (hi + 1)), .dp)] = some ((.non, .dp), (kD (addL K (rgI lo (hi + 1))), .dp)) := by
    unfold gUpdate kD
    dsimp only
    rw [if_pos ⟨immL_tt _, immL_tt _, by simpa [kk] using hl⟩, zip_kk, putAll_kk]
  unfold b_needs_of_1
  refine sExpr_nx (d := .non) (m := .dp) ?_
  unfold eMutD
  rw [if_pos (by rfl)]
  unfold eCons eNil
  simp only [e2, Option.bind_some]
  simp [eOn, en10, e3]
def wide (a b : List Int) (p : Int × Int) : List Int := rgI (lst a b p.1 p.2) (mst a b p.1 p.2 + 1)
theorem lst_nn (a b : List Int) (x y : Int) : 0 ≤ lst a b x y := by unfold lst; omega
theorem mst_le {n : Nat} (a b : List Int) {x y : Int} (h0 : 0 ≤ x) (h1 : y < (n : Int)) : mst a b x y ≤ (n : Int) := by
  unfold mst
  have := List.length_filter_le (fun z => !(bh a b x z || bh a b y z)) (rgI (x + 1) y)
  rw [rgI_len] at this
  omega
theorem lst_le {n : Nat} (a b : List Int) {x y : Int} (h0 : 0 ≤ x) (h1 : y < (n : Int)) : lst a b x y ≤ (n : Int) := by
  unfold lst
  have := List.length_filter_le (fun z => ah a b x z || ah a b y z) (rgI (x + 1) y)
  rw [rgI_len] at this
  omega
theorem wide_len {n : Nat} (a b : List Int) {p : Int × Int} (h0 : 0 ≤ p.1) (h1 : p.2 < (n : Int)) : (wide a b p).length ≤ n + 1 := by
  unfold wide
  rw [rgI_len]
  have := lst_nn a b p.1 p.2
  have := mst_le a b h0 h1
  omega
def NK (n : Nat) (a b : List Int) : List Int := (uL n a b).foldl (fun K p => addL K (wide a b p)) []
def ND (n : Nat) (a b : List Int) : List Int := isort (NK n a b)
theorem NK_comm (n : Nat) (a b : List Int) : NK n a b = NK n b a := by
  have : wide a b = wide b a := by
    funext p
    unfold wide
    rw [lst_comm, mst_comm]
  unfold NK
  rw [uL_comm, this]
theorem ND_comm (n : Nat) (a b : List Int) : ND n a b = ND n b a := by unfold ND; rw [NK_comm]
theorem e_needs_of {n : Nat} {a b : List Int} (pa : Per n a) (pb : Per n b) (hn : n ≤ 200) : r_needs_of [(iD a, .sh), (iD b, .sh)] = some (iD (ND n a b), .dp, [(iD a, .sh), (iD b, .sh)]) := by
  obtain ⟨e', h1, x3, x4, x5, h2⟩ := forL_len (en := fun p => qD (qOf a b p)) (g := goTup 4 (goC (putS [false, false] 3) (goC (putS [false, false] 3) (goC (putS [false, false] 4) (goC (putS [false, false] 5) goN))))) (b := b_needs_of_1) (f := fun K p => addL K (wide a b p)) (c := n + 1) (B := 10000000) (P := fun p => 0 ≤ p.1 ∧ p.2 < (n : Int))
    (R := fun s e => ∃ x3 x4 x5, e = en10 a b s x3 x4 x5)
    (fun s p hp => by
      have h1 := addL_len (wide a b p) s
      have h2 := wide_len a b hp.1 hp.2
      omega)
    (fun s p e hp hs ⟨x3, x4, x5, he⟩ => by
      subst he
      have l1 := lst_nn a b p.1 p.2
      have l2 := lst_le a b hp.1 hp.2
      have l3 := mst_le a b hp.1 hp.2
      have l4 : 0 ≤ mst a b p.1 p.2 := by unfold mst; omega
      have l5 := wide_len a b hp.1 hp.2
      have q := st_no a b s (some (.int p.2, .dp)) (lst a b p.1 p.2) (mst a b p.1 p.2) (bd62_of (by omega)) (bd62_of (by omega)) (by unfold wide at l5; unfold lim; omega)
      exact ⟨en10 a b s (some (.int p.2, .dp)) (some (.int (lst a b p.1 p.2), .dp)) (some (.int (mst a b p.1 p.2), .dp)), _, by simp [goTup, goC, goN, putS, unTup, im, imm, immL, qD, qOf, en10], q, _, _, _, rfl⟩)
    (uL n a b) [] (en10 a b [] none none none) (fun p hp => by have := mem_uL.mp hp; exact ⟨this.1, this.2.2.1⟩) (by
      have h1 := uL_len n a b
      have h2 : n * n ≤ 200 * 200 := Nat.mul_le_mul hn hn
      have h3 : (n + 1) * (uL n a b).length ≤ 201 * 40000 := Nat.mul_le_mul (by omega) (by omega)
      simpa using Nat.le_trans h3 (by omega)) ⟨_, _, _, rfl⟩
  have hN : (uL n a b).foldl (fun K p => addL K (wide a b p)) [] = NK n a b := rfl
  rw [hN] at h2
  subst h2
  have ec := e_counts_of pa pb (by omega)
  have q : pCalG 2 r_counts_of (aCons (pVar 0) (aCons (pVar 1) aNil)) [some (iD a), some (iD b), some (kD []), none, none, none, none] = some (.lst ((PC n a b).map qD), .dp) :=
    pCalG_of (ds := [(iD a, .sh), (iD b, .sh)]) rfl rfl (by simpa [rdL, im, imm_iD] using ec)
  have i1 : iLstE (eB (pCalG 2 r_counts_of (aCons (pVar 0) (aCons (pVar 1) aNil)))) (en10 a b [] none none none) = some ((uL n a b).map fun p => qD (qOf a b p), en10 a b [] none none none) := by
    have s : eB (pCalG 2 r_counts_of (aCons (pVar 0) (aCons (pVar 1) aNil))) (en10 a b [] none none none) = some (.lst ((PC n a b).map qD), .dp, en10 a b [] none none none) := eB_dp q
    unfold iLstE
    rw [s]
    simp [PC, List.map_map, Function.comp_def]
  have e3 := gSorted_ints (NK n a b)
  have e4 : ((kk (NK n a b)).map keyD) = (NK n a b).map .int := by unfold kk; rw [List.map_map]; rfl
  have e5 := lm_ints (NK n a b)
  have r1 : eB (pCB gSortedD (aCons (pCB gListD (aCons (pVar 2) aNil)) aNil)) (en10 a b (NK n a b) x3 x4 x5) = some (iD (ND n a b), .dp, en10 a b (NK n a b) x3 x4 x5) := by
    refine eB_dp ?_
    have e6 : pCB gListD (aCons (pVar 2) aNil) (vw (en10 a b (NK n a b) x3 x4 x5)) = some (.lst ((NK n a b).map .int), .dp) := by
      refine (pCB_of (ds := [(kD (NK n a b), .sh)]) rfl).trans ?_
      show gListD [.dk (kk (NK n a b)) (tt (NK n a b))] = _
      simp only [gListD, e4, e5]
    refine (pCB_of (aCons_of e6 rfl)).trans ?_
    exact e3
  unfold r_needs_of runG b_needs_of
  simp only [List.map_cons, List.map_nil, List.replicate, List.cons_append, List.nil_append]
  rw [sSeq_nx (sSet_nx (e2 := en10 a b [] none none none) (eB_dp (d := kD []) rfl) rfl), sSeq_nx (sFor_of i1 h1), sRet_of r1]
  simp [outP, en10, im, imm_iD]
theorem e_needed {n : Nat} {a b : List Int} (pa : Per n a) (pb : Per n b) (hn : n ≤ 200) : r_needed [(iD a, .sh), (iD b, .sh)] = some (iD (ND n a b), .dp, [(iD a, .sh), (iD b, .sh)]) := by
  have e1 := e_check_two pa pb hn
  have e2 := e_needs_of pa pb hn
  simp [iRg1, iRg2, iLst, pLr, runG, outP, im, imm, immL, eB, eV, eS, eMv, eCp, frz, eNil, eCons, eLst, eTup, e2, e1, eCB, eIf, eMut, eMut0, eOn, isLst, eTmp, eCall, callR, takeA, convL, putA, rSl, rVl, caN, caC, eMake, mkR, rdL, sSeq, sIf, sRet, sRetN, sExpr, sSet, putS, sPar, sPar3, sAsg, goTup, goC, goN, unTup, sFor, iLstE, iRg1E, iRg2E, iS, iEnE, iEn, sNext, sNever, tV, tAndE, tOrE, tNotE, tTruE, tOfE, asBE, bAnd, bOr, bNot, bTru, tOf, asB, p2, p1, pC, pVar, pAnd, pOr, pNot, pIf, pChain, pCalG, pCallK, permL, pMake, pMakeK, pMeth, pMeth0, pFld, pIsi, pIsC, isiC, tyN, pCB, gLen, gListD, gList, gDictC, gSortedD, gInt, gAdd, gSub, gI, gC, gLt, gLe, gGt, gGe, gGeX, gIs, gIsNot, isB, aNil, aCons, vw, shv, tru, kb_int_int, kb_int_bool, kb_tup_tup, kb_lst_lst, kb_dk_lst, eAnd, gMod, gFdiv, gMul, gPow, gIx, gSetL, setAtD, inM, gMax, gMin, toInts, maxL, minL, gEq_int, gNe_int, im_int, pLst, pTup, lim, dm, allDp, at_0, at_1, at_2, r_needed, b_needed, e1, e2, imm_iD]
end L90
set_option Elab.async false
set_option linter.all false
set_option maxRecDepth 100000
set_option maxHeartbeats 4000000
namespace L90
open PySem G Ord0
/-! the law's way to the counts -/
def en11 (a b : List Int) (K : List Int) (x3 x4 x5 x6 x7 : Option (D × M)) : Env' := [some (iD a, .sh), some (iD b, .sh), some (kD K, .dp), x3, x4, x5, x6, x7]
theorem st_ln_1 (a b : List Int) (K : List Int) (x3 x4 x5 x6 : Option (D × M)) (c : Int) (hl : K.length < lim) :
    b_l_needs_1 (en11 a b K x3 x4 x5 x6 (some (.int c, .dp))) = some (.nx, en11 a b (add1 K c) x3 x4 x5 x6 (some (.int c, .dp))) := by
  have e := put_kk K c
  have hk : (kk K).length < lim := by simpa [kk] using hl
  unfold b_l_needs_1
  refine sAsg_nx (eB_dp (d := .bl true) rfl) ?_
  unfold gSetD
  rw [show pVar 7 (vw (en11 a b K x3 x4 x5 x6 (some (.int c, .dp)))) = some (.int c, .dp) from rfl]
  simp only [Option.bind_some]
  show (putDM (kk K) (tt K) (isKey (.int c)) (.bl true, .dp) .dp).bind _ = _
  simp only [putDM, isKey, Option.bind_some, if_pos hk, e]
  simp [imm, en11, kD]
theorem st_ln_2 {n : Nat} {a b : List Int} (pa : Per n a) (pb : Per n b) (K : List Int) (p : Int × Int) (h : 0 ≤ p.1 ∧ p.1 < p.2 ∧ p.2 < (n : Int)) (x5 x6 x7 : Option (D × M)) (hl : K.length + (n + 1) ≤ 10000000) (hn : n ≤ 200) :
    ∃ y3 y4 y5 y6 y7, b_l_needs_2 (en11 a b K (some (.int p.1, .dp)) (some (.int p.2, .dp)) x5 x6 x7) = some (.nx, en11 a b (addL K (wide a b p)) y3 y4 y5 y6 y7) := by
  have hw := wide_len a b h.1 h.2.2
  have l1 := lst_nn a b p.1 p.2
  have l2 := lst_le a b h.1 h.2.2
  have l3 := mst_le a b h.1 h.2.2
  have l4 : 0 ≤ mst a b p.1 p.2 := by unfold mst; omega
  let y3 : Option (D × M) := some (.int p.1, .dp)
  let y4 : Option (D × M) := some (.int p.2, .dp)
  let y5 : Option (D × M) := some (.int (lst a b p.1 p.2), .dp)
  let y6 : Option (D × M) := some (.int (mst a b p.1 p.2), .dp)
  obtain ⟨e', h1, y7, h2⟩ := forL_len (en := D.int) (g := putS [false, false] 7) (b := b_l_needs_1) (f := add1) (c := 1) (B := 10000001) (P := fun _ => True)
    (R := fun s e => ∃ x7, e = en11 a b s y3 y4 y5 y6 x7)
    (fun s z _ => add1_len s z)
    (fun s z e _ hs ⟨x7, he⟩ => by
      subst he
      have q := st_ln_1 a b s y3 y4 y5 y6 z (by unfold lim; omega)
      exact ⟨en11 a b s y3 y4 y5 y6 (some (.int z, .dp)), _, by simp [putS, im_int, en11], q, _, rfl⟩)
    (wide a b p) K (en11 a b K y3 y4 y5 y6 x7) (fun _ _ => trivial) (by omega) ⟨_, rfl⟩
  subst h2
  refine ⟨y3, y4, y5, y6, y7, ?_⟩
  have e := e_low_high pa pb p.1 p.2 ⟨h.1, by omega⟩ ⟨by omega, h.2.2⟩ (by omega)
  have q : pCalG 4 r_l_low_high (aCons (pVar 0) (aCons (pVar 1) (aCons (pVar 3) (aCons (pVar 4) aNil)))) (vw (en11 a b K (some (.int p.1, .dp)) (some (.int p.2, .dp)) x5 x6 x7)) = some (.tup [.int p.1, .int p.2, .int (lst a b p.1 p.2), .int (mst a b p.1 p.2)], .dp) :=
    pCalG_of (ds := [(iD a, .sh), (iD b, .sh), (.int p.1, .dp), (.int p.2, .dp)]) rfl rfl (by simpa [rdL, im, imm_iD, imm] using e)
  have s1 := sAsg_nx (g := goTup 4 (goC (putS [false, false] 3) (goC (putS [false, false] 4) (goC (putS [false, false] 5) (goC (putS [false, false] 6) goN))))) (e2 := en11 a b K y3 y4 y5 y6 x7) (eB_dp q) (by simp [goTup, goC, goN, putS, unTup, en11, y3, y4, y5, y6])
  unfold b_l_needs_2
  rw [sSeq_nx s1]
  refine sFor_of ?_ h1
  have b1 : bd62 (lst a b p.1 p.2) = true := bd62_of (by omega)
  have b2 : bd62 (mst a b p.1 p.2 + 1) = true := bd62_of (by omega)
  have er := rgD_rgI (lst a b p.1 p.2) (mst a b p.1 p.2 + 1)
  simp [-List.map_map, iRg1, iRg2, iLst, pLr, runG, outP, im, imm, immL, eB, eV, eS, eMv, eCp, frz, eNil, eCons, eLst, eTup, e2, e1, eCB, eIf, eMut, eMut0, eOn, isLst, eTmp, eCall, callR, takeA, convL, putA, rSl, rVl, caN, caC, eMake, mkR, rdL, sSeq, sIf, sRet, sRetN, sExpr, sSet, putS, sPar, sPar3, sAsg, goTup, goC, goN, unTup, sFor, iLstE, iRg1E, iRg2E, iS, iEnE, iEn, sNext, sNever, tV, tAndE, tOrE, tNotE, tTruE, tOfE, asBE, bAnd, bOr, bNot, bTru, tOf, asB, p2, p1, pC, pVar, pAnd, pOr, pNot, pIf, pChain, pCalG, pCallK, permL, pMake, pMakeK, pMeth, pMeth0, pFld, pIsi, pIsC, isiC, tyN, pCB, gLen, gListD, gList, gDictC, gSortedD, gInt, gAdd, gSub, gI, gC, gLt, gLe, gGt, gGe, gGeX, gIs, gIsNot, isB, aNil, aCons, vw, shv, tru, kb_int_int, kb_int_bool, kb_tup_tup, kb_lst_lst, kb_dk_lst, eAnd, gMod, gFdiv, gMul, gPow, gIx, gSetL, setAtD, inM, gMax, gMin, toInts, maxL, minL, gEq_int, gNe_int, im_int, pLst, pTup, lim, dm, allDp, at_0, at_1, at_2, en11, y3, y4, y5, y6, b1, b2, er, wide]
theorem e_l_needs {n : Nat} {a b : List Int} (pa : Per n a) (pb : Per n b) (hn : n ≤ 200) : r_l_needs [(iD a, .sh), (iD b, .sh)] = some (iD (ND n a b), .dp, [(iD a, .sh), (iD b, .sh)]) := by
  obtain ⟨e', h1, x3, x4, x5, x6, x7, h2⟩ := forL_len (en := pD) (g := goTup 2 (goC (putS [false, false] 3) (goC (putS [false, false] 4) goN))) (b := b_l_needs_2) (f := fun K p => addL K (wide a b p)) (c := n + 1) (B := 10000000) (P := fun p => 0 ≤ p.1 ∧ p.1 < p.2 ∧ p.2 < (n : Int))
    (R := fun s e => ∃ x3 x4 x5 x6 x7, e = en11 a b s x3 x4 x5 x6 x7)
    (fun s p hp => by
      have h1 := addL_len (wide a b p) s
      have h2 := wide_len a b hp.1 hp.2.2
      omega)
    (fun s p e hp hs ⟨x3, x4, x5, x6, x7, he⟩ => by
      subst he
      obtain ⟨y3, y4, y5, y6, y7, q⟩ := st_ln_2 pa pb s p hp x5 x6 x7 hs hn
      exact ⟨en11 a b s (some (.int p.1, .dp)) (some (.int p.2, .dp)) x5 x6 x7, _, by simp [goTup, goC, goN, putS, unTup, im, imm, immL, pD, en11], q, _, _, _, _, _, rfl⟩)
    (uL n a b) [] (en11 a b [] none none none none none) (fun p hp => by have := mem_uL.mp hp; exact ⟨this.1, this.2.1, this.2.2.1⟩) (by
      have h1 := uL_len n a b
      have h2 : n * n ≤ 200 * 200 := Nat.mul_le_mul hn hn
      have h3 : (n + 1) * (uL n a b).length ≤ 201 * 40000 := Nat.mul_le_mul (by omega) (by omega)
      simpa using Nat.le_trans h3 (by omega)) ⟨_, _, _, _, _, rfl⟩
  have hN : (uL n a b).foldl (fun K p => addL K (wide a b p)) [] = NK n a b := rfl
  rw [hN] at h2
  subst h2
  have ec := e_l_unlike pa pb (by omega)
  have q : pCalG 2 r_l_unlike (aCons (pVar 0) (aCons (pVar 1) aNil)) (vw (en11 a b [] none none none none none)) = some (.lst ((uL n a b).map pD), .dp) :=
    pCalG_of (ds := [(iD a, .sh), (iD b, .sh)]) rfl rfl (by simpa [rdL, im, imm_iD] using ec)
  have i1 : iLstE (eB (pCalG 2 r_l_unlike (aCons (pVar 0) (aCons (pVar 1) aNil)))) (en11 a b [] none none none none none) = some ((uL n a b).map pD, en11 a b [] none none none none none) := by
    unfold iLstE
    rw [eB_dp q]
    rfl
  have e4 : intsK (kk (NK n a b)) = some (NK n a b) := by
    have : ∀ K : List Int, intsK (kk K) = some K := by
      intro K
      induction K with
      | nil => rfl
      | cons c K ih =>
        show (intsK (kk K)).bind (fun r => some (c :: r)) = _
        rw [ih]
        rfl
    exact this _
  have r1 : eB (pCB gSortedD (aCons (pVar 2) aNil)) (en11 a b (NK n a b) x3 x4 x5 x6 x7) = some (iD (ND n a b), .dp, en11 a b (NK n a b) x3 x4 x5 x6 x7) := by
    refine eB_dp ((pCB_of (ds := [(kD (NK n a b), .sh)]) rfl).trans ?_)
    show gSortedD [.dk (kk (NK n a b)) (tt (NK n a b))] = _
    simp only [gSortedD, e4, Option.bind_some]
    rfl
  unfold r_l_needs runG b_l_needs
  simp only [List.map_cons, List.map_nil, List.replicate, List.cons_append, List.nil_append]
  rw [sSeq_nx (sSet_nx (e2 := en11 a b [] none none none none none) (eB_dp (d := kD []) rfl) rfl), sSeq_nx (sFor_of i1 h1), sRet_of r1]
  simp [outP, en11, im, imm_iD]
end L90
set_option Elab.async false
set_option linter.all false
set_option maxRecDepth 100000
set_option maxHeartbeats 4000000
namespace L90
open PySem G Ord0
/-! the text of two orders -/
theorem shown_small : ∀ k : Fin 256, (PyData.shown (.int ((k : Nat) : Int))).length ≤ 4 ∧ PyData.showable (.int ((k : Nat) : Int)) = true := by decide +kernel
theorem shown_int {x : Int} (h : 0 ≤ x ∧ x < 256) : (PyData.shown (.int x)).length ≤ 4 ∧ PyData.showable (.int x) = true := by
  have := shown_small ⟨x.toNat, by omega⟩
  rw [show (((⟨x.toNat, by omega⟩ : Fin 256) : Nat) : Int) = x by show ((x.toNat : Nat) : Int) = x; omega] at this
  exact this
theorem shown_ints : ∀ (l : List Int), (∀ x ∈ l, 0 ≤ x ∧ x < 256) → ((PyData.shownAll (pyL (l.map .int))).map (·.length)).sum ≤ 4 * l.length ∧ (PyData.shownAll (pyL (l.map .int))).length = l.length ∧ PyData.showableAll (pyL (l.map .int)) = true
  | [], _ => by simp [pyL, PyData.shownAll, PyData.showableAll]
  | x :: l, h => by
    obtain ⟨h1, h2, h3⟩ := shown_ints l fun y hy => h y (List.mem_cons_of_mem _ hy)
    obtain ⟨k1, k2⟩ := shown_int (h x List.mem_cons_self)
    simp only [List.map_cons, pyL, py, PyData.shownAll, PyData.showableAll, List.sum_cons, List.length_cons, k2, h3, Bool.and_self]
    exact ⟨by omega, by omega, trivial⟩
theorem shown_iD {l : List Int} (h : ∀ x ∈ l, 0 ≤ x ∧ x < 256) : (PyData.shown (py (iD l))).length ≤ 6 * l.length + 3 ∧ PyData.showable (py (iD l)) = true := by
  obtain ⟨h1, h2, h3⟩ := shown_ints l h
  have h4 := listText_len_le (PyData.shownAll (pyL (l.map .int)))
  unfold iD
  simp only [py, PyData.shown, PyData.showable]
  exact ⟨by omega, h3⟩
theorem pl_iD (l : List Int) : pl (iD l) = true := plL_map (α := Int) l
theorem dpt_iD (l : List Int) : dpt (iD l) ≤ 1 := by
  have := dptL_map (α := Int) l
  unfold iD
  simp only [dpt]
  exact Nat.succ_le_succ this
theorem reprOk_two {a b : List Int} (ha : ∀ x ∈ a, 0 ≤ x ∧ x < 256) (hb : ∀ x ∈ b, 0 ≤ x ∧ x < 256) (la : a.length ≤ 1000) (lb : b.length ≤ 1000) : reprOk (.tup [iD a, iD b]) = true := by
  obtain ⟨a1, a2⟩ := shown_iD ha
  obtain ⟨b1, b2⟩ := shown_iD hb
  have d1 := dpt_iD a
  have d2 := dpt_iD b
  unfold reprOk
  rw [eqOk_pl (by simp [pl, plL, pl_iD]) (by simp only [dpt, dptL]; omega)]
  have e1 : (py (.tup [iD a, iD b])).showable = true := by
    simp only [py, pyL, PyData.showable, PyData.showableAll, a2, b2, Bool.and_self]
  have e2 : (py (.tup [iD a, iD b])).shown.length ≤ lim := by
    have h4 := tupleText_len_le [PyData.shown (py (iD a)), PyData.shown (py (iD b))]
    simp only [py, pyL, PyData.shown, PyData.shownAll] at h4 ⊢
    simp only [List.map_cons, List.map_nil, List.sum_cons, List.sum_nil, List.length_cons, List.length_nil] at h4
    unfold lim
    omega
  rw [e1]
  simpa using e2
/-! exchanging, changing a little -/
def xch (a : List Int) (i : Nat) : List Int := a.take i ++ [a.getD (i + 1) 0, a.getD i 0] ++ a.drop (i + 2)
theorem cut_to {α : Type} (xs : List α) (k : Nat) : cutL xs none (some (k : Int)) = xs.take k := by
  unfold cutL
  rw [sIx_n, show HT.sIx xs.length 0 none = 0 from rfl, List.drop_zero, Nat.sub_zero]
  by_cases h : k ≤ xs.length
  · rw [Nat.min_eq_left h]
  · rw [Nat.min_eq_right (by omega), List.take_of_length_le (Nat.le_refl _), List.take_of_length_le (by omega)]
theorem at_intN (a : List Int) (i : Nat) (h : i < a.length) (z : Int) (hz : z = (i : Int)) : L2.atI (a.map D.int) z = some (.int (a.getD i 0)) := by
  subst hz
  refine at_get _ _ _ _ (by omega) ?_
  rw [Int.toNat_natCast, List.getD_eq_getElem?_getD, List.getElem?_eq_getElem h]
  rfl
theorem xch_split {a : List Int} {i : Nat} (h : i + 1 < a.length) : a = a.take i ++ [a.getD i 0, a.getD (i + 1) 0] ++ a.drop (i + 2) := by
  have h1 : a.drop i = a.getD i 0 :: a.drop (i + 1) := by
    rw [List.drop_eq_getElem_cons (by omega), List.getD_eq_getElem?_getD, List.getElem?_eq_getElem (by omega)]
    rfl
  have h2 : a.drop (i + 1) = a.getD (i + 1) 0 :: a.drop (i + 2) := by
    rw [List.drop_eq_getElem_cons (by omega), List.getD_eq_getElem?_getD, List.getElem?_eq_getElem (by omega)]
    rfl
  have h3 : a = a.take i ++ a.drop i := (List.take_append_drop i a).symm
  rw [h1, h2] at h3
  simpa using h3
theorem xch_perm {a : List Int} {i : Nat} (h : i + 1 < a.length) : (xch a i).Perm a := by
  have e := xch_split h
  have p : (xch a i).Perm (a.take i ++ [a.getD i 0, a.getD (i + 1) 0] ++ a.drop (i + 2)) := by
    unfold xch
    exact (List.Perm.append_left _ (List.Perm.swap _ _ _)).append_right _
  exact p.trans (by rw [← e])
theorem e_exchanged (a : List Int) (i : Nat) (h : i + 1 < a.length) (hl : a.length ≤ 1000) : r_l_exchanged [(iD a, .sh), (.int (i : Int), .dp)] = some (iD (xch a i), .dp, [(iD a, .sh), (.int (i : Int), .dp)]) := by
  have a1 := at_intN a (i + 1) h ((i : Int) + 1) (by omega)
  have a2 := at_intN a i (by omega) (i : Int) rfl
  have c1 : cutL (a.map D.int) none (some (i : Int)) = (a.take i).map D.int := by rw [cut_to, List.map_take]
  have c2 : cutL (a.map D.int) (some ((i : Int) + 2)) none = (a.drop (i + 2)).map D.int := by
    rw [show (i : Int) + 2 = ((i + 2 : Nat) : Int) by omega, cut_from, List.map_drop]
  have m1 := lm_ints (a.take i)
  have m2 := lm_ints (a.drop (i + 2))
  have e1 : (a.take i).map D.int ++ [.int (a.getD (i + 1) 0), .int (a.getD i 0)] = (a.take i ++ [a.getD (i + 1) 0, a.getD i 0]).map D.int := by simp
  have m3 := lm_ints (a.take i ++ [a.getD (i + 1) 0, a.getD i 0])
  have e2 : (a.take i ++ [a.getD (i + 1) 0, a.getD i 0]).map D.int ++ (a.drop (i + 2)).map D.int = (xch a i).map D.int := by simp [xch]
  have m4 := lm_ints (xch a i)
  have l1 : ((a.take i).map D.int).length + 2 ≤ 16777216 := by rw [List.length_map, List.length_take]; omega
  have l2 : ((a.take i ++ [a.getD (i + 1) 0, a.getD i 0]).map D.int).length + ((a.drop (i + 2)).map D.int).length ≤ 16777216 := by
    simp only [List.length_map, List.length_append, List.length_take, List.length_drop, List.length_cons, List.length_nil]; omega
  have s1 : pSl (pVar 0) oNone (oSome (pVar 1)) [some (iD a), some (.int (i : Int))] = some (.lst ((a.take i).map D.int), .dp) := by
    show gSl (iD a) none (some (i : Int)) = _
    simp only [iD, gSl, c1, m1]
  have s2 : pSl (pVar 0) (oSome (p2 gAdd (pVar 1) (pC (.int 2)))) oNone [some (iD a), some (.int (i : Int))] = some (.lst ((a.drop (i + 2)).map D.int), .dp) := by
    show gSl (iD a) (some ((i : Int) + 2)) none = _
    simp only [iD, gSl, c2, m2]
  have s3 : pLst (aCons (p2 gIx (pVar 0) (p2 gAdd (pVar 1) (pC (.int 1)))) (aCons (p2 gIx (pVar 0) (pVar 1)) aNil)) [some (iD a), some (.int (i : Int))] = some (.lst [.int (a.getD (i + 1) 0), .int (a.getD i 0)], .dp) := by
    simp [-List.getD_eq_getElem?_getD, pLst, aCons, aNil, p2, pVar, pC, gAdd, gIx, iD, im, imm, a1, a2, lim, dm, allDp]
  have g1 : gAdd (.lst ((a.take i).map D.int)) (.lst [.int (a.getD (i + 1) 0), .int (a.getD i 0)]) = some (.lst ((a.take i ++ [a.getD (i + 1) 0, a.getD i 0]).map D.int), .dp) := by
    show (if _ ≤ lim then _ else _) = _
    rw [if_pos (show (List.map D.int (List.take i a)).length + [D.int (a.getD (i + 1) 0), D.int (a.getD i 0)].length ≤ lim from l1), e1, m3]
  have g2 : gAdd (.lst ((a.take i ++ [a.getD (i + 1) 0, a.getD i 0]).map D.int)) (.lst ((a.drop (i + 2)).map D.int)) = some (iD (xch a i), .dp) := by
    show (if _ ≤ lim then _ else _) = _
    rw [if_pos (show _ ≤ lim from l2), e2, m4]
    rfl
  have t := (p2_of (g := gAdd) ((p2_of (g := gAdd) s1 s3).trans g1) s2).trans g2
  unfold r_l_exchanged runG b_l_exchanged
  simp only [List.map_cons, List.map_nil, List.replicate, List.cons_append, List.nil_append, List.append_nil]
  rw [sRet_of (eB_dp t)]
  simp [outP, im, imm, imm_iD]
end L90
set_option Elab.async false
set_option linter.all false
set_option maxRecDepth 100000
set_option maxHeartbeats 4000000
namespace L90
open PySem G Ord0
def en13 (g : D × M) (a c : List Int) (st : Int) (x4 : Option (D × M)) : Env' := [some g, some (iD a, .dp), some (.int st, .dp), some (iD c, .dp), x4]
theorem st_near {n : Nat} (g : D × M) (k : Nat) (a c : List Int) (st : Int) (x4 : Option (D × M)) (hg : Gn g k) (hk : k ≤ 1000) (pa : Per n a) (pc : Per n c) (hn : n ≤ 200) (h1 : 1 < n) :
    ∃ g' c', b_l_near_1 (en13 g a c st x4) = some (.nx, en13 g' a c' st x4) ∧ Gn g' (k + 1) ∧ Per n c' := by
  obtain ⟨r, g', e, r1, r2, hg'⟩ := e_random g k ((n : Int) - 1) hg (by omega) (by omega) (by omega)
  have hr : r = ((r.toNat : Nat) : Int) := by omega
  have hlt : r.toNat + 1 < c.length := by rw [pc.len]; omega
  have ex := e_exchanged c r.toNat hlt (by rw [pc.len]; omega)
  rw [← hr] at ex
  refine ⟨g', xch c r.toNat, ?_, hg', (xch_perm hlt).trans pc⟩
  have hl := pa.len
  have l1 : gLen [iD a] = some (.int (n : Int), .dp) := by simp [gLen, iD, hl]
  have s1 : eB (p2 gSub (pCB gLen (aCons (pVar 1) aNil)) (pC (.int 1))) [some g, some (iD a, .dp), some (.int st, .dp), some (iD c, .sh), x4] = some (.int ((n : Int) - 1), .dp, [some g, some (iD a, .dp), some (.int st, .dp), some (iD c, .sh), x4]) := by
    refine eB_dp ((p2_of (d1 := .int (n : Int)) (m1 := .dp) (d2 := .int 1) (m2 := .dp) ((pCB_of (ds := [(iD a, .sh)]) rfl).trans l1) rfl).trans ?_)
    rfl
  unfold b_l_near_1
  refine sSet_nx (d := iD (xch c r.toNat)) (m := .dp) (e1 := [some g', some (iD a, .dp), some (.int st, .dp), some (iD c, .sh), x4]) ?_ (by simp [putS, en13])
  simp [eCall, caC, caN, rVl, rSl, eCp, frz, en13, imm_iD, im, s1, callR, takeA, convL, e, putA, imm, ex]
theorem e_near {n : Nat} (g : D × M) (k : Nat) (a : List Int) (s : Nat) (hg : Gn g k) (hk : k + s ≤ 1000) (pa : Per n a) (hn : n ≤ 200) :
    ∃ g' c, r_l_near [g, (iD a, .dp), (.int (s : Int), .dp)] = some (iD c, .dp, [g', (iD a, .dp), (.int (s : Int), .dp)]) ∧ Gn g' (k + s) ∧ Per n c := by
  have hl := pa.len
  have l1 : gLen [iD a] = some (.int (n : Int), .dp) := by simp [gLen, iD, hl]
  have l2 : pCB gLen (aCons (pVar 1) aNil) (vw (en13 g a a s none)) = some (.int (n : Int), .dp) := (pCB_of (ds := [(iD a, .sh)]) rfl).trans l1
  have s0 : eB (pCB gListD (aCons (pVar 1) aNil)) [some g, some (iD a, .dp), some (.int (s : Int), .dp), none, none] = some (iD a, .dp, [some g, some (iD a, .dp), some (.int (s : Int), .dp), none, none]) := by
    refine eB_dp ((pCB_of (ds := [(iD a, .sh)]) rfl).trans ?_)
    have := lm_ints a
    simp only [List.map_cons, List.map_nil, iD, gListD, gList, this]
  by_cases h1 : 1 < n
  · obtain ⟨e', q1, x4, g', c, q2, q3, q4⟩ := forL_inv (g := putS [true, true, false] 4) (b := b_l_near_1) (ds := rgD 0 s)
      (I := fun j e => ∃ x4 g' c, e = en13 g' a c s x4 ∧ Gn g' (k + j) ∧ Per n c)
      (fun j d e hd ⟨x4, g', c, he, hg', pc⟩ => by
        have hj : j < ((s : Int) - 0).toNat := by
          have := (List.getElem?_eq_some_iff.mp hd).1
          rwa [rgD_length] at this
        obtain ⟨g2, c2, q, hg2, pc2⟩ := st_near g' (k + j) a c s (some (d, im d)) hg' (by omega) pa pc hn h1
        subst he
        exact ⟨en13 g' a c s (some (d, im d)), _, by simp [putS, en13], q, _, g2, c2, rfl, by rw [← Nat.add_assoc]; exact hg2, pc2⟩)
      (en13 g a a s none) ⟨_, g, a, rfl, hg, pa⟩
    subst q2
    rw [rgD_length, show ((s : Int) - 0).toNat = s by omega] at q3
    refine ⟨g', c, ?_, q3, q4⟩
    have i1 : iRg1E (eB (p2 gMul (pVar 2) (pCB gInt (aCons (p2 gGt (pCB gLen (aCons (pVar 1) aNil)) (pC (.int 1))) aNil)))) (en13 g a a s none) = some (rgD 0 s, en13 g a a s none) := by
      have t1 : p2 gGt (pCB gLen (aCons (pVar 1) aNil)) (pC (.int 1)) (vw (en13 g a a s none)) = some (.bl true, .dp) := by
        refine (p2_of l2 rfl).trans ?_
        have : (1 : Int) < (n : Int) := by omega
        simp [gGt, gC, this]
      have t2 : pCB gInt (aCons (p2 gGt (pCB gLen (aCons (pVar 1) aNil)) (pC (.int 1))) aNil) (vw (en13 g a a s none)) = some (.int 1, .dp) := (pCB_of (aCons_of t1 rfl)).trans rfl
      have t3 : p2 gMul (pVar 2) (pCB gInt (aCons (p2 gGt (pCB gLen (aCons (pVar 1) aNil)) (pC (.int 1))) aNil)) (vw (en13 g a a s none)) = some (.int s, .dp) := by
        refine (p2_of (d1 := .int s) (m1 := .dp) rfl t2).trans ?_
        have hs : small64 (s : Int) = true := small64_b.mpr (by omega)
        simp [gMul, hs]
      unfold iRg1E
      rw [eB_dp t3]
      have hb : bd62 (s : Int) = true := bd62_of (by omega)
      simp [hb]
    unfold r_l_near runG b_l_near
    simp only [List.map_cons, List.map_nil, List.replicate, List.cons_append, List.nil_append]
    rw [sSeq_nx (sSet_nx (e2 := en13 g a a s none) s0 rfl), sSeq_nx (sFor_of i1 q1)]
    simp [sRet, eMv, en13, imm_iD, outP, im, imm]
  · refine ⟨g, a, ?_, hg.mono (by omega), pa⟩
    have i1 : iRg1E (eB (p2 gMul (pVar 2) (pCB gInt (aCons (p2 gGt (pCB gLen (aCons (pVar 1) aNil)) (pC (.int 1))) aNil)))) (en13 g a a s none) = some ([], en13 g a a s none) := by
      have t1 : p2 gGt (pCB gLen (aCons (pVar 1) aNil)) (pC (.int 1)) (vw (en13 g a a s none)) = some (.bl false, .dp) := by
        refine (p2_of l2 rfl).trans ?_
        have : ¬ (1 : Int) < (n : Int) := by omega
        simp [gGt, gC, this]
      have t2 : pCB gInt (aCons (p2 gGt (pCB gLen (aCons (pVar 1) aNil)) (pC (.int 1))) aNil) (vw (en13 g a a s none)) = some (.int 0, .dp) := (pCB_of (aCons_of t1 rfl)).trans rfl
      have t3 : p2 gMul (pVar 2) (pCB gInt (aCons (p2 gGt (pCB gLen (aCons (pVar 1) aNil)) (pC (.int 1))) aNil)) (vw (en13 g a a s none)) = some (.int 0, .dp) := by
        refine (p2_of (d1 := .int s) (m1 := .dp) rfl t2).trans ?_
        have hs : small64 (s : Int) = true := small64_b.mpr (by omega)
        simp [gMul, hs]
      unfold iRg1E
      rw [eB_dp t3]
      rfl
    unfold r_l_near runG b_l_near
    simp only [List.map_cons, List.map_nil, List.replicate, List.cons_append, List.nil_append]
    rw [sSeq_nx (sSet_nx (e2 := en13 g a a s none) s0 rfl), sSeq_nx (sFor_of i1 (r := some (.nx, en13 g a a s none)) rfl)]
    simp [sRet, eMv, en13, imm_iD, outP, im, imm]
end L90
set_option Elab.async false
set_option linter.all false
set_option maxRecDepth 100000
set_option maxHeartbeats 4000000
namespace L90
open PySem G Ord0
/-! texts that are laid -/
theorem ok_app {a b : Str} (ha : PyData.strOk a = true) (hb : PyData.strOk b = true) : PyData.strOk (a ++ b) = true := by
  unfold PyData.strOk at *
  show (a.cps ++ b.cps).all _ = true
  rw [Array.all_append, ha, hb]
  rfl
theorem ok_of (s : String) : PyData.strOk (Str.ofString s) = true := by
  unfold PyData.strOk
  rw [Str.ofString_eq_toList]
  rw [← Array.all_toList, List.all_eq_true]
  intro c hc
  simp only [List.mem_map] at hc
  obtain ⟨x, _, rfl⟩ := hc
  have hv := x.valid
  rw [decide_eq_true_eq]
  show x.val.toNat < 1114112
  rcases hv with hv | hv
  · have : x.val.toNat < 0xd800 := hv
    omega
  · exact hv.2
theorem ok_from : ∀ (ts : List Str) (k : Nat) (acc : Str), PyData.strOk acc = true → (∀ t ∈ ts, PyData.strOk t = true) → PyData.strOk (textFrom k acc ts) = true
  | [], _, acc, h, _ => h
  | t :: ts, k, acc, h, ht => by
    refine ok_from ts (k + 1) _ (ok_app (ok_app h ?_) (ht t List.mem_cons_self)) fun u hu => ht u (List.mem_cons_of_mem _ hu)
    exact ok_of _
theorem ok_list {ts : List Str} (h : ∀ t ∈ ts, PyData.strOk t = true) : PyData.strOk (listText ts) = true := ok_app (ok_from ts 0 _ (ok_of _) h) (ok_of _)
theorem ok_join : ∀ (ts : List Str), (∀ t ∈ ts, PyData.strOk t = true) → PyData.strOk (Str.join ", " ts) = true
  | [], _ => by
    show PyData.strOk Str.empty = true
    decide +kernel
  | [x], h => h x List.mem_cons_self
  | x :: y :: ts, h => ok_app (ok_app (h x List.mem_cons_self) (ok_of _)) (ok_join (y :: ts) fun t ht => h t (List.mem_cons_of_mem _ ht))
theorem ok_tup {ts : List Str} (h : ∀ t ∈ ts, PyData.strOk t = true) : PyData.strOk (tupleText ts) = true := ok_app (ok_app (ok_of _) (ok_join ts h)) (ok_of _)
theorem ok_ints : ∀ l : List Int, ∀ t ∈ PyData.shownAll (pyL (l.map .int)), PyData.strOk t = true
  | [], t, h => by simp [pyL, PyData.shownAll] at h
  | x :: l, t, h => by
    simp only [List.map_cons, pyL, py, PyData.shownAll, List.mem_cons] at h
    rcases h with rfl | h
    · exact ok_of _
    · exact ok_ints l t h
theorem ok_iD (l : List Int) : PyData.strOk (py (iD l)).shown = true := by
  unfold iD
  simp only [py, PyData.shown]
  exact ok_list (ok_ints l)
theorem ok_txt (a b : List Int) : PyData.strOk (py (.tup [iD a, iD b])).shown = true := by
  simp only [py, pyL, PyData.shown, PyData.shownAll]
  refine ok_tup fun t ht => ?_
  simp only [List.mem_cons, List.not_mem_nil, or_false] at ht
  rcases ht with rfl | rfl
  · exact ok_iD a
  · exact ok_iD b
theorem eq_str {x : Str} (h : PyData.strOk x = true) : gEq (.str x) (.str x) = some (.bl true, .dp) := by
  have h1 : eqOk (.str x) = true := by simp [eqOk, py, SeqAt.shaped, PyData.canLay0, PyData.depth, h]
  have h2 : PyData.eqv (py (.str x)) (py (.str x)) = true := by
    show (x == x) = true
    exact beq_self_eq_true x
  unfold gEq
  rw [h1, h2]
  rfl
end L90
set_option Elab.async false
set_option linter.all false
set_option maxRecDepth 100000
set_option maxHeartbeats 4000000
namespace L90
open PySem G Ord0
section
variable {n : Nat} {a b : List Int} (pa : Per n a) (pb : Per n b) (hn : n ≤ 200) (rest : VEnv)
theorem f_pc (pa : Per n a) (pb : Per n b) (hn : n ≤ 200) : pCalG 2 r_pair_counts (aCons (pVar 0) (aCons (pVar 1) aNil)) (some (iD a) :: some (iD b) :: rest) = some (.lst ((PC n a b).map qD), .dp) :=
  pCalG_of (ds := [(iD a, .sh), (iD b, .sh)]) rfl rfl (by simpa [rdL, im, imm_iD] using e_pair_counts pa pb hn)
theorem f_pcr (pa : Per n a) (pb : Per n b) (hn : n ≤ 200) : pCalG 2 r_pair_counts (aCons (pVar 1) (aCons (pVar 0) aNil)) (some (iD a) :: some (iD b) :: rest) = some (.lst ((PC n a b).map qD), .dp) := by
  rw [PC_comm]
  exact pCalG_of (ds := [(iD b, .sh), (iD a, .sh)]) rfl rfl (by simpa [rdL, im, imm_iD] using e_pair_counts pb pa hn)
theorem f_pck (pa : Per n a) (pb : Per n b) (hn : n ≤ 200) : pCallK 2 2 [1, 0] r_pair_counts (aCons (pVar 1) (aCons (pVar 0) aNil)) (some (iD a) :: some (iD b) :: rest) = some (.lst ((PC n a b).map qD), .dp) :=
  pCallK_of (ds := [(iD b, .sh), (iD a, .sh)]) rfl ⟨rfl, rfl⟩ (by simpa [rdL, permL, im, imm_iD] using e_pair_counts pa pb hn)
theorem f_nd (pa : Per n a) (pb : Per n b) (hn : n ≤ 200) : pCalG 2 r_needed (aCons (pVar 0) (aCons (pVar 1) aNil)) (some (iD a) :: some (iD b) :: rest) = some (iD (ND n a b), .dp) :=
  pCalG_of (ds := [(iD a, .sh), (iD b, .sh)]) rfl rfl (by simpa [rdL, im, imm_iD] using e_needed pa pb hn)
theorem f_ndk (pa : Per n a) (pb : Per n b) (hn : n ≤ 200) : pCallK 2 2 [1, 0] r_needed (aCons (pVar 0) (aCons (pVar 1) aNil)) (some (iD a) :: some (iD b) :: rest) = some (iD (ND n a b), .dp) := by
  rw [ND_comm]
  exact pCallK_of (ds := [(iD a, .sh), (iD b, .sh)]) rfl ⟨rfl, rfl⟩ (by simpa [rdL, permL, im, imm_iD] using e_needed pb pa hn)
theorem f_ln (pa : Per n a) (pb : Per n b) (hn : n ≤ 200) : pCalG 2 r_l_needs (aCons (pVar 0) (aCons (pVar 1) aNil)) (some (iD a) :: some (iD b) :: rest) = some (iD (ND n a b), .dp) :=
  pCalG_of (ds := [(iD a, .sh), (iD b, .sh)]) rfl rfl (by simpa [rdL, im, imm_iD] using e_l_needs pa pb hn)
theorem f_lu (pa : Per n a) (pb : Per n b) (hn : n ≤ 200) : pCalG 2 r_l_unlike (aCons (pVar 0) (aCons (pVar 1) aNil)) (some (iD a) :: some (iD b) :: rest) = some (.lst ((uL n a b).map pD), .dp) :=
  pCalG_of (ds := [(iD a, .sh), (iD b, .sh)]) rfl rfl (by simpa [rdL, im, imm_iD] using e_l_unlike pa pb (by omega))
end
def txt (a b : List Int) : D := .str (py (.tup [iD a, iD b])).shown
theorem f_repr {n : Nat} {a b : List Int} (pa : Per n a) (pb : Per n b) (hn : n ≤ 200) (rest : VEnv) : pCB gRepr (aCons (pTup (aCons (pVar 0) (aCons (pVar 1) aNil))) aNil) (some (iD a) :: some (iD b) :: rest) = some (txt a b, .dp) := by
  have ok := reprOk_two (a := a) (b := b) (fun x hx => by have := pa.mem.mp hx; omega) (fun x hx => by have := pb.mem.mp hx; omega) (by rw [pa.len]; omega) (by rw [pb.len]; omega)
  have t : pTup (aCons (pVar 0) (aCons (pVar 1) aNil)) (some (iD a) :: some (iD b) :: rest) = some (.tup [iD a, iD b], .sh) := rfl
  refine (pCB_of (aCons_of t rfl)).trans ?_
  show (if reprOk (.tup [iD a, iD b]) = true then _ else _) = _
  rw [if_pos ok]
  rfl
theorem c_tr {n : Nat} {a b : List Int} (pa : Per n a) (pb : Per n b) (hn : n ≤ 200) (y2 y3 y4 y5 : Option D) : c_l_two_right_1 [some (iD a), some (iD b), y2, y3, y4, y5, none, none] = some (.lst ((PC n a b).map qD), .dp) := by
  have h1 : iLst (pCalG 2 r_l_unlike (aCons (pVar 0) (aCons (pVar 1) aNil))) [some (iD a), some (iD b), y2, y3, y4, y5, none, none] = some ((uL n a b).map pD) := by
    unfold iLst
    rw [f_lu _ pa pb hn]
    rfl
  have e1 := pComp_eq (vs := [6, 7]) (g := gTupD 2 (gsC (gSet 6) (gsC (gSet 7) gsN))) (t := bYes) (e := pCalG 4 r_l_low_high (aCons (pVar 0) (aCons (pVar 1) (aCons (pVar 6) (aCons (pVar 7) aNil))))) h1
    (by rw [List.length_map]; have := uL_len n a b; have := Nat.mul_le_mul hn hn; exact le_lim (by omega))
    (compL_all (out := fun p => (qD (qOf a b p), M.dp)) fun p hp => ⟨_, rfl, by
      have hm := mem_uL.mp hp
      have e := e_low_high pa pb p.1 p.2 ⟨hm.1, by omega⟩ ⟨by omega, hm.2.2.1⟩ (by omega)
      exact pCalG_of (ds := [(iD a, .sh), (iD b, .sh), (.int p.1, .dp), (.int p.2, .dp)]) rfl rfl (by simpa [rdL, im, imm_iD, imm, qD, qOf] using e)⟩)
  unfold c_l_two_right_1
  rw [e1]
  have e2 : dm (List.map (fun p => (qD (qOf a b p), M.dp)) (uL n a b)) = .dp := by
    unfold dm
    rw [if_pos (allDp_map fun _ _ => rfl)]
  rw [e2]
  simp [PC, List.map_map, Function.comp_def]
def en14 (c b : List Int) (x2 x3 x4 x5 : Option (D × M)) : Env' := [some (iD c, .dp), some (iD b, .sh), x2, x3, x4, x5, none, none]
theorem ne_self (l : List Qd) : gNe (.lst (l.map qD)) (.lst (l.map qD)) = some (.bl false, .dp) := by rw [gNe_qs]; simp
theorem eq_self (l : List Qd) : gEq (.lst (l.map qD)) (.lst (l.map qD)) = some (.bl true, .dp) := by rw [gEq_qs]; simp
theorem ne_selfI (l : List Int) : gNe (iD l) (iD l) = some (.bl false, .dp) := by unfold iD; rw [gNe_ints]; simp
theorem eq_selfI (l : List Int) : gEq (iD l) (iD l) = some (.bl true, .dp) := by unfold iD; rw [gEq_ints]; simp
theorem e_two_right {n : Nat} {a b : List Int} (pa : Per n a) (pb : Per n b) (hn : n ≤ 200) : r_l_two_right [(iD a, .dp), (iD b, .sh)] = some (.bl true, .dp, [(iD a, .dp), (iD b, .sh)]) := by
  let K : Option (D × M) := some (txt a b, .dp)
  let P : Option (D × M) := some (.lst ((PC n a b).map qD), .dp)
  have s1 := sSet_nx (io := [true, false]) (i := 2) (e2 := en14 a b K none none none) (eB_dp (env := en14 a b none none none none) (f_repr pa pb hn [none, none, none, none, none, none])) rfl
  have s2 := sSet_nx (io := [true, false]) (i := 3) (e2 := en14 a b K P none none) (eB_dp (env := en14 a b K none none none) (c_tr pa pb hn (some (txt a b)) none none none)) rfl
  have v3 : vw (en14 a b K P none none) = [some (iD a), some (iD b), some (txt a b), some (.lst ((PC n a b).map qD)), none, none, none, none] := rfl
  have t3 : (tV (bOr (tOf (p2 gNe (pCalG 2 r_pair_counts (aCons (pVar 0) (aCons (pVar 1) aNil))) (pVar 3))) (bOr (tOf (p2 gNe (pCallK 2 2 [1, 0] r_pair_counts (aCons (pVar 1) (aCons (pVar 0) aNil))) (pVar 3))) (tOf (p2 gNe (pCalG 2 r_pair_counts (aCons (pVar 1) (aCons (pVar 0) aNil))) (pVar 3)))))) (en14 a b K P none none) = some (false, en14 a b K P none none) := by
    refine tV_of ?_
    rw [v3]
    have p3 : pVar 3 [some (iD a), some (iD b), some (txt a b), some (.lst ((PC n a b).map qD)), none, none, none, none] = some (.lst ((PC n a b).map qD), im (.lst ((PC n a b).map qD))) := rfl
    rw [bOr_f (tOf_of (m := .dp) ((p2_of (f_pc _ pa pb hn) p3).trans (ne_self _))), bOr_f (tOf_of (m := .dp) ((p2_of (f_pck _ pa pb hn) p3).trans (ne_self _)))]
    exact tOf_of (m := .dp) ((p2_of (f_pcr _ pa pb hn) p3).trans (ne_self _))
  have t4 : (tV (bOr (tOf (p2 gNe (pCalG 2 r_needed (aCons (pVar 0) (aCons (pVar 1) aNil))) (pCalG 2 r_l_needs (aCons (pVar 0) (aCons (pVar 1) aNil))))) (tOf (p2 gNe (pCallK 2 2 [1, 0] r_needed (aCons (pVar 0) (aCons (pVar 1) aNil))) (pCalG 2 r_l_needs (aCons (pVar 0) (aCons (pVar 1) aNil))))))) (en14 a b K P none none) = some (false, en14 a b K P none none) := by
    refine tV_of ?_
    rw [v3]
    rw [bOr_f (tOf_of (m := .dp) ((p2_of (f_nd _ pa pb hn) (f_ln _ pa pb hn)).trans (ne_selfI _)))]
    exact tOf_of (m := .dp) ((p2_of (f_ndk _ pa pb hn) (f_ln _ pa pb hn)).trans (ne_selfI _))
  let N : Option (D × M) := some (iD (ND n a b), .dp)
  have s5 : (sPar [true, false] 4 5 (eCons (eB (pCalG 2 r_pair_counts (aCons (pVar 0) (aCons (pVar 1) aNil)))) (eCons (eB (pCalG 2 r_needed (aCons (pVar 0) (aCons (pVar 1) aNil)))) eNil))) (en14 a b K P none none) = some (.nx, en14 a b K P P N) := by
    have q1 : eB (pCalG 2 r_pair_counts (aCons (pVar 0) (aCons (pVar 1) aNil))) (en14 a b K P none none) = some (.lst ((PC n a b).map qD), .dp, en14 a b K P none none) := eB_dp (f_pc _ pa pb hn)
    have q2 : eB (pCalG 2 r_needed (aCons (pVar 0) (aCons (pVar 1) aNil))) (en14 a b K P none none) = some (iD (ND n a b), .dp, en14 a b K P none none) := eB_dp (f_nd _ pa pb hn)
    unfold sPar eCons eNil
    simp only [q1, q2, Option.bind_some]
    rfl
  let P' : Option (D × M) := some (.lst ((PC n a b).map qD ++ [.non]), .dp)
  have s6 : (sExpr (eMut 4 gAppend (eCons (eB (pC .non)) eNil))) (en14 a b K P P N) = some (.nx, en14 a b K P P' N) := by
    have hl : (PC n a b).length < 16777216 := by have := PC_len n a b; have := Nat.mul_le_mul hn hn; omega
    simp [iRg1, iRg2, iLst, pLr, runG, outP, im, imm, immL, eB, eV, eS, eMv, eCp, frz, eNil, eCons, eLst, eTup, e2, e1, eCB, eIf, eMut, eMut0, eOn, isLst, eTmp, eCall, callR, takeA, convL, putA, rSl, rVl, caN, caC, eMake, mkR, rdL, sSeq, sIf, sRet, sRetN, sExpr, sSet, putS, sPar, sPar3, sAsg, goTup, goC, goN, unTup, sFor, iLstE, iRg1E, iRg2E, iS, iEnE, iEn, sNext, sNever, tV, tAndE, tOrE, tNotE, tTruE, tOfE, asBE, bAnd, bOr, bNot, bTru, tOf, asB, p2, p1, pC, pVar, pAnd, pOr, pNot, pIf, pChain, pCalG, pCallK, permL, pMake, pMakeK, pMeth, pMeth0, pFld, pIsi, pIsC, isiC, tyN, pCB, gLen, gListD, gList, gDictC, gSortedD, gInt, gAdd, gSub, gI, gC, gLt, gLe, gGt, gGe, gGeX, gIs, gIsNot, isB, aNil, aCons, vw, shv, tru, kb_int_int, kb_int_bool, kb_tup_tup, kb_lst_lst, kb_dk_lst, eAnd, gMod, gFdiv, gMul, gPow, gIx, gSetL, setAtD, inM, gMax, gMin, toInts, maxL, minL, gEq_int, gNe_int, im_int, pLst, pTup, lim, dm, allDp, at_0, at_1, at_2, en14, P, P', gAppend, hl]
  let N' : Option (D × M) := some (.lst ((ND n a b).map .int ++ [.non]), .dp)
  have lN : (ND n a b).length < 16777216 := by
    have go : ∀ (l : List (Int × Int)) (K : List Int), (∀ p ∈ l, 0 ≤ p.1 ∧ p.2 < (n : Int)) → (l.foldl (fun K p => addL K (wide a b p)) K).length ≤ K.length + (n + 1) * l.length := by
      intro l
      induction l with
      | nil => intro K _; simp
      | cons p l ih =>
        intro K hp
        have h1 := ih (addL K (wide a b p)) fun q hq => hp q (List.mem_cons_of_mem _ hq)
        have h2 := addL_len (wide a b p) K
        have h3 := wide_len a b (hp p List.mem_cons_self).1 (hp p List.mem_cons_self).2
        rw [List.foldl_cons, List.length_cons, Nat.mul_add, Nat.mul_one]
        omega
    have h1 := go (uL n a b) [] fun p hp => by have := mem_uL.mp hp; exact ⟨this.1, this.2.2.1⟩
    have h2 := uL_len n a b
    have h3 : n * n ≤ 200 * 200 := Nat.mul_le_mul hn hn
    have h4 : (n + 1) * (uL n a b).length ≤ 201 * 40000 := Nat.mul_le_mul (by omega) (by omega)
    have h5 : (ND n a b).length = (NK n a b).length := (isort_perm _).length_eq
    have h6 : NK n a b = (uL n a b).foldl (fun K p => addL K (wide a b p)) [] := rfl
    rw [h5, h6]
    simp only [List.length_nil] at h1
    omega
  have s7 : (sExpr (eMut 5 gAppend (eCons (eB (pC .non)) eNil))) (en14 a b K P P' N) = some (.nx, en14 a b K P P' N') := by
    simp [iRg1, iRg2, iLst, pLr, runG, outP, im, imm, immL, eB, eV, eS, eMv, eCp, frz, eNil, eCons, eLst, eTup, e2, e1, eCB, eIf, eMut, eMut0, eOn, isLst, eTmp, eCall, callR, takeA, convL, putA, rSl, rVl, caN, caC, eMake, mkR, rdL, sSeq, sIf, sRet, sRetN, sExpr, sSet, putS, sPar, sPar3, sAsg, goTup, goC, goN, unTup, sFor, iLstE, iRg1E, iRg2E, iS, iEnE, iEn, sNext, sNever, tV, tAndE, tOrE, tNotE, tTruE, tOfE, asBE, bAnd, bOr, bNot, bTru, tOf, asB, p2, p1, pC, pVar, pAnd, pOr, pNot, pIf, pChain, pCalG, pCallK, permL, pMake, pMakeK, pMeth, pMeth0, pFld, pIsi, pIsC, isiC, tyN, pCB, gLen, gListD, gList, gDictC, gSortedD, gInt, gAdd, gSub, gI, gC, gLt, gLe, gGt, gGe, gGeX, gIs, gIsNot, isB, aNil, aCons, vw, shv, tru, kb_int_int, kb_int_bool, kb_tup_tup, kb_lst_lst, kb_dk_lst, eAnd, gMod, gFdiv, gMul, gPow, gIx, gSetL, setAtD, inM, gMax, gMin, toInts, maxL, minL, gEq_int, gNe_int, im_int, pLst, pTup, lim, dm, allDp, at_0, at_1, at_2, en14, N, N', iD, gAppend, lN]
  have s8 : (sExpr (eMut0 0 gReverse)) (en14 a b K P P' N') = some (.nx, en14 a.reverse b K P P' N') := by
    simp [iRg1, iRg2, iLst, pLr, runG, outP, im, imm, immL, eB, eV, eS, eMv, eCp, frz, eNil, eCons, eLst, eTup, e2, e1, eCB, eIf, eMut, eMut0, eOn, isLst, eTmp, eCall, callR, takeA, convL, putA, rSl, rVl, caN, caC, eMake, mkR, rdL, sSeq, sIf, sRet, sRetN, sExpr, sSet, putS, sPar, sPar3, sAsg, goTup, goC, goN, unTup, sFor, iLstE, iRg1E, iRg2E, iS, iEnE, iEn, sNext, sNever, tV, tAndE, tOrE, tNotE, tTruE, tOfE, asBE, bAnd, bOr, bNot, bTru, tOf, asB, p2, p1, pC, pVar, pAnd, pOr, pNot, pIf, pChain, pCalG, pCallK, permL, pMake, pMakeK, pMeth, pMeth0, pFld, pIsi, pIsC, isiC, tyN, pCB, gLen, gListD, gList, gDictC, gSortedD, gInt, gAdd, gSub, gI, gC, gLt, gLe, gGt, gGe, gGeX, gIs, gIsNot, isB, aNil, aCons, vw, shv, tru, kb_int_int, kb_int_bool, kb_tup_tup, kb_lst_lst, kb_dk_lst, eAnd, gMod, gFdiv, gMul, gPow, gIx, gSetL, setAtD, inM, gMax, gMin, toInts, maxL, minL, gEq_int, gNe_int, im_int, pLst, pTup, lim, dm, allDp, at_0, at_1, at_2, en14, iD, gReverse, List.map_reverse]
  have pr := pa.rev
  have v9 : vw (en14 a.reverse b K P P' N') = some (iD a.reverse) :: some (iD b) :: [some (txt a b), some (.lst ((PC n a b).map qD)), some (.lst ((PC n a b).map qD ++ [.non])), some (.lst ((ND n a b).map .int ++ [.non])), none, none] := rfl
  have t9 : (tV (bOr (tOf (p2 gNe (pCalG 2 r_needed (aCons (pVar 0) (aCons (pVar 1) aNil))) (pCalG 2 r_l_needs (aCons (pVar 0) (aCons (pVar 1) aNil))))) (tOf (p2 gNe (pCB gLen (aCons (pCalG 2 r_pair_counts (aCons (pVar 0) (aCons (pVar 1) aNil))) aNil)) (pCB gLen (aCons (pCalG 2 r_l_unlike (aCons (pVar 0) (aCons (pVar 1) aNil))) aNil)))))) (en14 a.reverse b K P P' N') = some (false, en14 a.reverse b K P P' N') := by
    refine tV_of ?_
    rw [v9]
    rw [bOr_f (tOf_of (m := .dp) ((p2_of (f_nd _ pr pb hn) (f_ln _ pr pb hn)).trans (ne_selfI _)))]
    have q1 : pCB gLen (aCons (pCalG 2 r_pair_counts (aCons (pVar 0) (aCons (pVar 1) aNil))) aNil) (some (iD a.reverse) :: some (iD b) :: [some (txt a b), some (.lst ((PC n a b).map qD)), some (.lst ((PC n a b).map qD ++ [.non])), some (.lst ((ND n a b).map .int ++ [.non])), none, none]) = some (.int ((uL n a.reverse b).length : Int), .dp) := by
      refine (pCB_of (aCons_of (f_pc _ pr pb hn) rfl)).trans ?_
      simp [gLen, PC]
    have q2 : pCB gLen (aCons (pCalG 2 r_l_unlike (aCons (pVar 0) (aCons (pVar 1) aNil))) aNil) (some (iD a.reverse) :: some (iD b) :: [some (txt a b), some (.lst ((PC n a b).map qD)), some (.lst ((PC n a b).map qD ++ [.non])), some (.lst ((ND n a b).map .int ++ [.non])), none, none]) = some (.int ((uL n a.reverse b).length : Int), .dp) := by
      refine (pCB_of (aCons_of (f_lu _ pr pb hn) rfl)).trans ?_
      simp [gLen]
    refine tOf_of (m := .dp) ((p2_of q1 q2).trans ?_)
    rw [gNe_int]
    simp
  have s10 : (sExpr (eMut0 0 gReverse)) (en14 a.reverse b K P P' N') = some (.nx, en14 a b K P P' N') := by
    simp [iRg1, iRg2, iLst, pLr, runG, outP, im, imm, immL, eB, eV, eS, eMv, eCp, frz, eNil, eCons, eLst, eTup, e2, e1, eCB, eIf, eMut, eMut0, eOn, isLst, eTmp, eCall, callR, takeA, convL, putA, rSl, rVl, caN, caC, eMake, mkR, rdL, sSeq, sIf, sRet, sRetN, sExpr, sSet, putS, sPar, sPar3, sAsg, goTup, goC, goN, unTup, sFor, iLstE, iRg1E, iRg2E, iS, iEnE, iEn, sNext, sNever, tV, tAndE, tOrE, tNotE, tTruE, tOfE, asBE, bAnd, bOr, bNot, bTru, tOf, asB, p2, p1, pC, pVar, pAnd, pOr, pNot, pIf, pChain, pCalG, pCallK, permL, pMake, pMakeK, pMeth, pMeth0, pFld, pIsi, pIsC, isiC, tyN, pCB, gLen, gListD, gList, gDictC, gSortedD, gInt, gAdd, gSub, gI, gC, gLt, gLe, gGt, gGe, gGeX, gIs, gIsNot, isB, aNil, aCons, vw, shv, tru, kb_int_int, kb_int_bool, kb_tup_tup, kb_lst_lst, kb_dk_lst, eAnd, gMod, gFdiv, gMul, gPow, gIx, gSetL, setAtD, inM, gMax, gMin, toInts, maxL, minL, gEq_int, gNe_int, im_int, pLst, pTup, lim, dm, allDp, at_0, at_1, at_2, en14, iD, gReverse, List.map_reverse]
  have v11 : vw (en14 a b K P P' N') = some (iD a) :: some (iD b) :: [some (txt a b), some (.lst ((PC n a b).map qD)), some (.lst ((PC n a b).map qD ++ [.non])), some (.lst ((ND n a b).map .int ++ [.non])), none, none] := rfl
  have r11 := sRet_of (eB_dp (env := en14 a b K P P' N') (f := (pAnd (p2 gEq (pCalG 2 r_pair_counts (aCons (pVar 0) (aCons (pVar 1) aNil))) (pVar 3)) (pAnd (p2 gEq (pCalG 2 r_needed (aCons (pVar 0) (aCons (pVar 1) aNil))) (pCalG 2 r_l_needs (aCons (pVar 0) (aCons (pVar 1) aNil)))) (p2 gEq (pCB gRepr (aCons (pTup (aCons (pVar 0) (aCons (pVar 1) aNil))) aNil)) (pVar 2))))) (d := .bl true) (by
    rw [v11]
    rw [pAnd_t (m := .dp) ((p2_of (f_pc _ pa pb hn) (by rfl)).trans (eq_self _)), pAnd_t (m := .dp) ((p2_of (f_nd _ pa pb hn) (f_ln _ pa pb hn)).trans (eq_selfI _))]
    exact (p2_of (f_repr pa pb hn _) (by rfl)).trans (eq_str (ok_txt a b))))
  unfold r_l_two_right runG b_l_two_right
  simp only [List.map_cons, List.map_nil, List.replicate, List.cons_append, List.nil_append]
  rw [sSeq_nx (e := [some (iD a, M.dp), some (iD b, M.sh), none, none, none, none, none, none]) s1, sSeq_nx s2, sSeq_nx (sIf_f t3), sSeq_nx (sIf_f t4), sSeq_nx s5, sSeq_nx s6, sSeq_nx s7, sSeq_nx s8, sSeq_nx (sIf_f t9), sSeq_nx s10, r11]
  simp [outP, en14, im, imm_iD]
end L90
set_option Elab.async false
set_option linter.all false
/-! U3: what lies between two orders -/
namespace Ord0
/-- w keeps what a and b agree about -/
def Btw (n : Nat) (a w b : List Int) : Prop := ∀ x y : Int, 0 ≤ x → x < (n : Int) → 0 ≤ y → y < (n : Int) → ps a x < ps a y → ps b x < ps b y → ps w x < ps w y
theorem ps_ne {n : Nat} {a : List Int} (pa : Per n a) {x y : Int} (hx : 0 ≤ x ∧ x < (n : Int)) (hy : 0 ≤ y ∧ y < (n : Int)) (h : x ≠ y) : ps a x ≠ ps a y := fun e => h (ps_inj (n := n) (pa.mem.mpr hx) (pa.mem.mpr hy) e)
/-- two orders whose neighbours come in the same order are the same -/
theorem same_of {n : Nat} {a w : List Int} (pa : Per n a) (pw : Per n w) (h : ∀ (i : Nat) (x y : Int), a[i]? = some x → a[i + 1]? = some y → ps w x < ps w y) : a = w := by
  have lt : ∀ (k i : Nat) (x y : Int), a[i]? = some x → a[i + k + 1]? = some y → ps w x < ps w y := by
    intro k
    induction k with
    | zero => intro i x y h1 h2; exact h i x y h1 h2
    | succ k ih =>
      intro i x y h1 h2
      have hl := (List.getElem?_eq_some_iff.mp h2).1
      have hz : i + k + 1 < a.length := by omega
      have e1 : a[i + k + 1]? = some a[i + k + 1] := List.getElem?_eq_getElem hz
      have q1 := ih i x _ h1 e1
      have q2 := h (i + k + 1) _ y e1 (by rw [show i + k + 1 + 1 = i + (k + 1) + 1 by omega]; exact h2)
      omega
  refine List.Perm.eq_of_pairwise (le := fun x y => ps w x < ps w y) (fun x y _ _ h1 h2 => by omega) ?_ ?_ (pa.trans pw.symm)
  · rw [List.pairwise_iff_getElem]
    intro i j hi hj hij
    exact lt (j - i - 1) i _ _ (List.getElem?_eq_getElem hi) (by rw [show i + (j - i - 1) + 1 = j by omega]; exact List.getElem?_eq_getElem hj)
  · rw [List.pairwise_iff_getElem]
    intro i j hi hj hij
    rw [ps_get pw (List.getElem?_eq_getElem hi), ps_get pw (List.getElem?_eq_getElem hj)]
    omega
/-- neighbours exchanged -/
def xc (a : List Int) (i : Nat) : List Int := a.take i ++ [a.getD (i + 1) 0, a.getD i 0] ++ a.drop (i + 2)
theorem xc_get {a : List Int} {i : Nat} (h : i + 1 < a.length) (k : Nat) : (xc a i)[k]? = if k = i then a[i + 1]? else if k = i + 1 then a[i]? else a[k]? := by
  unfold xc
  have hl : (a.take i).length = i := by rw [List.length_take]; omega
  have g1 : a[i + 1]? = some (a.getD (i + 1) 0) := by rw [List.getD_eq_getElem?_getD, List.getElem?_eq_getElem h]; rfl
  have g0 : a[i]? = some (a.getD i 0) := by rw [List.getD_eq_getElem?_getD, List.getElem?_eq_getElem (by omega)]; rfl
  rw [List.append_assoc, List.getElem?_append, hl]
  by_cases h1 : k < i
  · rw [if_pos h1, if_neg (by omega), if_neg (by omega), List.getElem?_take, if_pos h1]
  · rw [if_neg h1]
    by_cases h2 : k = i
    · subst h2
      rw [if_pos rfl, g1, Nat.sub_self]
      rfl
    · rw [if_neg h2]
      by_cases h3 : k = i + 1
      · subst h3
        rw [if_pos rfl, g0, show i + 1 - i = 1 by omega]
        rfl
      · rw [if_neg h3, List.getElem?_append_right (by simp; omega), List.getElem?_drop]
        congr 1
        simp
        omega
theorem xc_perm {a : List Int} {i : Nat} (h : i + 1 < a.length) : (xc a i).Perm a := by
  have h1 : a.drop i = a.getD i 0 :: a.drop (i + 1) := by
    rw [List.drop_eq_getElem_cons (by omega), List.getD_eq_getElem?_getD, List.getElem?_eq_getElem (by omega)]
    rfl
  have h2 : a.drop (i + 1) = a.getD (i + 1) 0 :: a.drop (i + 2) := by
    rw [List.drop_eq_getElem_cons (by omega), List.getD_eq_getElem?_getD, List.getElem?_eq_getElem (by omega)]
    rfl
  have h3 : a = a.take i ++ a.drop i := (List.take_append_drop i a).symm
  rw [h1, h2] at h3
  have e : a = a.take i ++ [a.getD i 0, a.getD (i + 1) 0] ++ a.drop (i + 2) := by simpa using h3
  have p : (xc a i).Perm (a.take i ++ [a.getD i 0, a.getD (i + 1) 0] ++ a.drop (i + 2)) := by
    unfold xc
    exact (List.Perm.append_left _ (List.Perm.swap _ _ _)).append_right _
  exact p.trans (by rw [← e])
theorem ps_xc {n : Nat} {a : List Int} (pa : Per n a) {i : Nat} (h : i + 1 < a.length) {v : Int} (hv : v ∈ a) : ps (xc a i) v = if ps a v = (i : Int) then (i : Int) + 1 else if ps a v = (i : Int) + 1 then (i : Int) else ps a v := by
  have px : Per n (xc a i) := (xc_perm h).trans pa
  have g := get_ps (n := n) hv
  have hn := ps_nn a v
  by_cases h1 : ps a v = (i : Int)
  · rw [if_pos h1]
    have : (xc a i)[i + 1]? = some v := by
      rw [xc_get h, if_neg (by omega), if_pos rfl]
      rw [h1, Int.toNat_natCast] at g
      exact g
    rw [ps_get px this]
    omega
  · rw [if_neg h1]
    by_cases h2 : ps a v = (i : Int) + 1
    · rw [if_pos h2]
      have : (xc a i)[i]? = some v := by
        rw [xc_get h, if_pos rfl]
        rw [h2, show ((i : Int) + 1).toNat = i + 1 by omega] at g
        exact g
      rw [ps_get px this]
    · rw [if_neg h2]
      have : (xc a i)[(ps a v).toNat]? = some v := by
        rw [xc_get h, if_neg (by omega), if_neg (by omega)]
        exact g
      rw [ps_get px this]
      omega
/-- a step from a towards b that keeps w between -/
theorem step_btw {n : Nat} {a w b : List Int} (pa : Per n a) (pw : Per n w) (pb : Per n b) (hb : Btw n a w b) (hne : a ≠ w) : ∃ (i : Nat) (x y : Int), a[i]? = some x ∧ a[i + 1]? = some y ∧ ps b y < ps b x ∧ Btw n (xc a i) w b := by
  have : ∃ (i : Nat) (x y : Int), a[i]? = some x ∧ a[i + 1]? = some y ∧ ¬ ps w x < ps w y := Classical.byContradiction fun hc => hne (same_of pa pw fun i x y h1 h2 => Classical.byContradiction fun h3 => hc ⟨i, x, y, h1, h2, h3⟩)
  obtain ⟨i, x, y, h1, h2, h3⟩ := this
  have hi := (List.getElem?_eq_some_iff.mp h2).1
  have mx := List.mem_of_getElem? h1
  have my := List.mem_of_getElem? h2
  have bx := pa.mem.mp mx
  have by' := pa.mem.mp my
  have px := ps_get pa h1
  have py := ps_get pa h2
  have hxy : x ≠ y := fun e => by subst e; omega
  have hbyx : ps b y < ps b x := by
    have hn := ps_ne pb bx by' hxy
    rcases Int.lt_or_gt_of_ne hn with q | q
    · exact absurd (hb x y bx.1 bx.2 by'.1 by'.2 (by omega) q) h3
    · exact q
  refine ⟨i, x, y, h1, h2, hbyx, fun u v hu0 hu1 hv0 hv1 huv hbuv => ?_⟩
  have mu := pa.mem.mpr ⟨hu0, hu1⟩
  have mv := pa.mem.mpr ⟨hv0, hv1⟩
  rw [ps_xc pa hi mu, ps_xc pa hi mv] at huv
  by_cases hq : ps a u < ps a v
  · exact hb u v hu0 hu1 hv0 hv1 hq hbuv
  · have hd : ps a u ≠ ps a v := fun e => by
      have := ps_inj (n := n) mu mv e
      subst this
      omega
    have e12 : ps a v = (i : Int) ∧ ps a u = (i : Int) + 1 := by
      by_cases u1 : ps a u = (i : Int)
      · rw [if_pos u1] at huv
        by_cases v2 : ps a v = (i : Int) + 1
        · omega
        · rw [if_neg (by omega), if_neg v2] at huv
          omega
      · rw [if_neg u1] at huv
        by_cases u2 : ps a u = (i : Int) + 1
        · rw [if_pos u2] at huv
          by_cases v1 : ps a v = (i : Int)
          · exact ⟨v1, u2⟩
          · rw [if_neg v1, if_neg (by omega)] at huv
            omega
        · rw [if_neg u2] at huv
          by_cases v1 : ps a v = (i : Int)
          · rw [if_pos v1] at huv
            omega
          · rw [if_neg v1] at huv
            by_cases v2 : ps a v = (i : Int) + 1
            · rw [if_pos v2] at huv
              omega
            · rw [if_neg v2] at huv
              omega
    have v1 : v = x := ps_inj (n := n) mv mx (by omega)
    have v2 : u = y := ps_inj (n := n) mu my (by omega)
    subst v1 v2
    have := ps_ne pw bx by' hxy
    omega
end Ord0
set_option Elab.async false
set_option linter.all false
/-! U4: what the exchanges reach, and what they pass over -/
namespace Ord0
theorem xc_ord {n : Nat} {a : List Int} (pa : Per n a) {i : Nat} {x y : Int} (h1 : a[i]? = some x) (h2 : a[i + 1]? = some y) {u v : Int} (mu : u ∈ a) (mv : v ∈ a) (n1 : ¬ (u = y ∧ v = x)) (n2 : ¬ (u = x ∧ v = y)) : ps (xc a i) u < ps (xc a i) v ↔ ps a u < ps a v := by
  have hi := (List.getElem?_eq_some_iff.mp h2).1
  have mx := List.mem_of_getElem? h1
  have my := List.mem_of_getElem? h2
  have px := ps_get pa h1
  have py := ps_get pa h2
  have ux : ps a u = (i : Int) → u = x := fun e => ps_inj (n := n) mu mx (by omega)
  have uy : ps a u = (i : Int) + 1 → u = y := fun e => ps_inj (n := n) mu my (by omega)
  have vx : ps a v = (i : Int) → v = x := fun e => ps_inj (n := n) mv mx (by omega)
  have vy : ps a v = (i : Int) + 1 → v = y := fun e => ps_inj (n := n) mv my (by omega)
  rw [ps_xc pa hi mu, ps_xc pa hi mv]
  by_cases u1 : ps a u = (i : Int)
  · rw [if_pos u1]
    by_cases v1 : ps a v = (i : Int)
    · rw [if_pos v1]; omega
    · rw [if_neg v1]
      by_cases v2 : ps a v = (i : Int) + 1
      · exact absurd ⟨ux u1, vy v2⟩ n2
      · rw [if_neg v2]; omega
  · rw [if_neg u1]
    by_cases u2 : ps a u = (i : Int) + 1
    · rw [if_pos u2]
      by_cases v1 : ps a v = (i : Int)
      · exact absurd ⟨uy u2, vx v1⟩ n1
      · rw [if_neg v1]
        by_cases v2 : ps a v = (i : Int) + 1
        · rw [if_pos v2]; omega
        · rw [if_neg v2]; omega
    · rw [if_neg u2]
      by_cases v1 : ps a v = (i : Int)
      · rw [if_pos v1]; omega
      · rw [if_neg v1]
        by_cases v2 : ps a v = (i : Int) + 1
        · rw [if_pos v2]; omega
        · rw [if_neg v2]
/-- reached from a by exchanges of neighbours that b has the other way round -/
inductive Rch (a b : List Int) : List Int → Prop
  | refl : Rch a b a
  | step {w : List Int} {i : Nat} {x y : Int} : Rch a b w → w[i]? = some x → w[i + 1]? = some y → ps b y < ps b x → Rch a b (xc w i)
theorem Rch.trans {a b c w : List Int} (h1 : Rch a b c) (h2 : Rch c b w) : Rch a b w := by
  induction h2 with
  | refl => exact h1
  | step _ e1 e2 e3 ih => exact .step ih e1 e2 e3
theorem Rch.per {n : Nat} {a b w : List Int} (pa : Per n a) (h : Rch a b w) : Per n w := by
  induction h with
  | refl => exact pa
  | step _ e1 e2 _ ih => exact (xc_perm (List.getElem?_eq_some_iff.mp e2).1).trans ih
theorem Btw.self (n : Nat) (a b : List Int) : Btw n a a b := fun _ _ _ _ _ _ h _ => h
theorem Rch.btw {n : Nat} {a b w : List Int} (pa : Per n a) (h : Rch a b w) : Btw n a w b := by
  induction h with
  | refl => exact Btw.self n a b
  | @step w i x y h e1 e2 e3 ih =>
    intro u v hu0 hu1 hv0 hv1 q1 q2
    have pw := h.per pa
    have q := ih u v hu0 hu1 hv0 hv1 q1 q2
    have px := ps_get pw e1
    have py := ps_get pw e2
    exact (xc_ord pw e1 e2 (pw.mem.mpr ⟨hu0, hu1⟩) (pw.mem.mpr ⟨hv0, hv1⟩) (fun ⟨z1, z2⟩ => by subst z1 z2; omega) (fun ⟨z1, z2⟩ => by subst z1 z2; omega)).mpr q
theorem mem_mm {x y : Int} (h : x ≠ y) : (mm x y).1 < (mm x y).2 ∧ ((x = (mm x y).1 ∧ y = (mm x y).2) ∨ (x = (mm x y).2 ∧ y = (mm x y).1)) := by
  unfold mm
  by_cases q : y < x
  · simp only [if_pos q, if_neg (show ¬ y > x by omega)]
    exact ⟨q, Or.inr ⟨trivial, trivial⟩⟩
  · simp only [if_neg q, if_pos (show y > x by omega)]
    exact ⟨by omega, Or.inl ⟨trivial, trivial⟩⟩
theorem dis_iff {n : Nat} {a b : List Int} (pa : Per n a) (pb : Per n b) {x y : Int} (hx : 0 ≤ x ∧ x < (n : Int)) (hy : 0 ≤ y ∧ y < (n : Int)) (h : x ≠ y) : dis a b x y = true ↔ (ps a x < ps a y ∧ ps b y < ps b x) ∨ (ps a y < ps a x ∧ ps b x < ps b y) := by
  have h1 := ps_ne pa hx hy h
  have h2 := ps_ne pb hx hy h
  unfold dis
  by_cases q1 : ps a x < ps a y <;> by_cases q2 : ps b x < ps b y <;> simp [q1, q2] <;> omega
theorem mm_uL {n : Nat} {a b : List Int} (pa : Per n a) (pb : Per n b) {x y : Int} (hx : 0 ≤ x ∧ x < (n : Int)) (hy : 0 ≤ y ∧ y < (n : Int)) (q1 : ps a x < ps a y) (q2 : ps b y < ps b x) : mm x y ∈ uL n a b := by
  have hne : x ≠ y := fun e => by subst e; omega
  obtain ⟨h1, h2⟩ := mem_mm hne
  rw [mem_uL]
  rcases h2 with ⟨e1, e2⟩ | ⟨e1, e2⟩
  · rw [← e1, ← e2]
    exact ⟨hx.1, by omega, hy.2, (dis_iff pa pb hx hy hne).mpr (Or.inl ⟨q1, q2⟩)⟩
  · rw [← e1, ← e2]
    exact ⟨hy.1, by omega, hx.2, (dis_iff pa pb hy hx (Ne.symm hne)).mpr (Or.inr ⟨q1, q2⟩)⟩
/-- all between is reached -/
theorem rch_of {n : Nat} {b w : List Int} (pb : Per n b) (pw : Per n w) : ∀ (k : Nat) (a : List Int), Per n a → (uL n a b).length ≤ k → Btw n a w b → Rch a b w
  | k, a, pa, hk, hb => by
    by_cases hne : a = w
    · subst hne
      exact .refl
    · obtain ⟨i, x, y, h1, h2, h3, h4⟩ := step_btw pa pw pb hb hne
      have hi := (List.getElem?_eq_some_iff.mp h2).1
      have pc : Per n (xc a i) := (xc_perm hi).trans pa
      have px := ps_get pa h1
      have py := ps_get pa h2
      have bx := pa.mem.mp (List.mem_of_getElem? h1)
      have by' := pa.mem.mp (List.mem_of_getElem? h2)
      have hxy : x ≠ y := fun e => by subst e; omega
      have cx := ps_xc pa hi (List.mem_of_getElem? h1)
      have cy := ps_xc pa hi (List.mem_of_getElem? h2)
      rw [if_pos px] at cx
      rw [if_neg (by omega), if_pos (by omega)] at cy
      have hm := mm_uL pa pb bx by' (by omega) h3
      obtain ⟨m1, m2⟩ := mem_mm hxy
      have sub : ∀ p ∈ uL n (xc a i) b, p ∈ uL n a b ∧ p ≠ mm x y := by
        intro p hp
        obtain ⟨p1, p2, p3, p4⟩ := mem_uL.mp hp
        have d := (dis_iff pc pb ⟨p1, by omega⟩ ⟨by omega, p3⟩ (by omega)).mp p4
        have hpm : p ≠ mm x y := fun e => by
          rcases m2 with ⟨e1, e2⟩ | ⟨e1, e2⟩
          · rw [e, ← e1, ← e2] at d
            omega
          · rw [e, ← e1, ← e2] at d
            omega
        have n1 : ¬ (p.1 = y ∧ p.2 = x) := fun ⟨z1, z2⟩ => hpm (by
          rcases m2 with ⟨e1, e2⟩ | ⟨e1, e2⟩
          · omega
          · exact Prod.ext (by omega) (by omega))
        have n2 : ¬ (p.1 = x ∧ p.2 = y) := fun ⟨z1, z2⟩ => hpm (by
          rcases m2 with ⟨e1, e2⟩ | ⟨e1, e2⟩
          · exact Prod.ext (by omega) (by omega)
          · omega)
        have mp1 := pa.mem.mpr ⟨p1, show p.1 < (n : Int) by omega⟩
        have mp2 := pa.mem.mpr ⟨show 0 ≤ p.2 by omega, p3⟩
        have o1 := xc_ord pa h1 h2 mp1 mp2 n1 n2
        have o2 := xc_ord pa h1 h2 mp2 mp1 (fun ⟨z1, z2⟩ => n2 ⟨z2, z1⟩) (fun ⟨z1, z2⟩ => n1 ⟨z2, z1⟩)
        rw [o1, o2] at d
        exact ⟨mem_uL.mpr ⟨p1, p2, p3, (dis_iff pa pb ⟨p1, by omega⟩ ⟨by omega, p3⟩ (by omega)).mpr d⟩, hpm⟩
      have hlt : (uL n (xc a i) b).length + 1 ≤ (uL n a b).length := by
        have := List.Nodup.length_le_of_subset (l₁ := mm x y :: uL n (xc a i) b) (l₂ := uL n a b) (List.nodup_cons.mpr ⟨fun q => (sub _ q).2 rfl, uL_nodup _ _ _⟩) (fun p hp => by
          rcases List.mem_cons.mp hp with rfl | hp
          · exact hm
          · exact (sub p hp).1)
        simpa using this
      cases k with
      | zero => omega
      | succ k =>
        have ih := rch_of pb pw k (xc a i) pc (by omega) h4
        exact (Rch.step (.refl) h1 h2 h3).trans ih
/-- how many numbers between the two stand ahead -/
def cntW (w : List Int) (i : Nat) (p : Int × Int) : Int := (((w.take i).filter fun z => decide (p.1 < z) && decide (z < p.2)).length : Int)
theorem len_eq {l m : List Int} (h1 : l.Nodup) (h2 : m.Nodup) (h : ∀ x, x ∈ l ↔ x ∈ m) : l.length = m.length := ((List.perm_ext_iff_of_nodup h1 h2).mpr h).length_eq
theorem mem_take {n : Nat} {w : List Int} (pw : Per n w) {i : Nat} (hi : i ≤ n) {z : Int} : z ∈ w.take i ↔ (0 ≤ z ∧ z < (n : Int)) ∧ ps w z < (i : Int) := by
  constructor
  · intro h
    obtain ⟨k, hk⟩ := List.mem_iff_getElem?.mp h
    rw [List.getElem?_take] at hk
    split at hk
    · rename_i hki
      exact ⟨pw.mem.mp (List.mem_of_getElem? hk), by rw [ps_get pw hk]; omega⟩
    · cases hk
  · rintro ⟨h1, h2⟩
    have := get_ps (n := n) (pw.mem.mpr h1)
    have hn := ps_nn w z
    refine List.mem_iff_getElem?.mpr ⟨(ps w z).toNat, ?_⟩
    rw [List.getElem?_take, if_pos (by omega)]
    exact this
theorem cntW_eq {n : Nat} {w : List Int} (pw : Per n w) {i : Nat} (hi : i ≤ n) {p : Int × Int} (h0 : 0 ≤ p.1) (h1 : p.2 < (n : Int)) : cntW w i p = (((rgI (p.1 + 1) p.2).filter fun z => decide (ps w z < (i : Int))).length : Int) := by
  unfold cntW
  congr 1
  refine len_eq ((pw.nd.sublist (List.take_sublist _ _)).filter _) ((rgI_nodup _ _).filter _) fun z => ?_
  simp only [List.mem_filter, mem_take pw hi, mem_rgI, Bool.and_eq_true, decide_eq_true_eq]
  omega
theorem cnt_between {n : Nat} {a w b : List Int} (pa : Per n a) (pw : Per n w) (pb : Per n b) (hb : Btw n a w b) {i : Nat} {x y : Int} (h1 : w[i]? = some x) (h2 : w[i + 1]? = some y) (h3 : ps b y < ps b x) : mm x y ∈ uL n a b ∧ lst a b (mm x y).1 (mm x y).2 ≤ cntW w i (mm x y) ∧ cntW w i (mm x y) ≤ mst a b (mm x y).1 (mm x y).2 := by
  have bx := pw.mem.mp (List.mem_of_getElem? h1)
  have by' := pw.mem.mp (List.mem_of_getElem? h2)
  have px := ps_get pw h1
  have py := ps_get pw h2
  have hxy : x ≠ y := fun e => by subst e; omega
  have hax : ps a x < ps a y := by
    rcases Int.lt_or_gt_of_ne (ps_ne pa bx by' hxy) with q | q
    · exact q
    · have := hb y x by'.1 by'.2 bx.1 bx.2 q h3
      omega
  have hm := mm_uL pa pb bx by' hax h3
  obtain ⟨m1, m2⟩ := mem_mm hxy
  obtain ⟨u1, u2, u3, _⟩ := mem_uL.mp hm
  have hin : i ≤ n := by
    have := (List.getElem?_eq_some_iff.mp h1).1
    rw [pw.len] at this
    omega
  rw [cntW_eq pw hin u1 u3]
  have ends : ∀ e z : Int, (e = x ∨ e = y) → 0 ≤ z → z < (n : Int) → (ah a b e z = true → z ≠ x → ps w z < (i : Int)) ∧ (bh a b e z = true → (i : Int) ≤ ps w z) := by
    intro e z he hz0 hz1
    have be : 0 ≤ e ∧ e < (n : Int) := by
      rcases he with rfl | rfl
      · exact bx
      · exact by'
    have pe : ps w e = (i : Int) ∨ ps w e = (i : Int) + 1 := by
      rcases he with rfl | rfl
      · exact Or.inl px
      · exact Or.inr (by omega)
    constructor
    · intro q hzx
      unfold ah at q
      simp only [Bool.and_eq_true, decide_eq_true_eq] at q
      have := hb z e hz0 hz1 be.1 be.2 q.1 q.2
      have hn : ps w z ≠ ps w x := ps_ne pw ⟨hz0, hz1⟩ bx hzx
      omega
    · intro q
      unfold bh at q
      simp only [Bool.and_eq_true, decide_eq_true_eq] at q
      have := hb e z be.1 be.2 hz0 hz1 q.1 q.2
      omega
  have e1 : (mm x y).1 = x ∨ (mm x y).1 = y := by omega
  have e2 : (mm x y).2 = x ∨ (mm x y).2 = y := by omega
  refine ⟨hm, ?_, ?_⟩
  · unfold lst
    have := List.Nodup.length_le_of_subset (l₁ := (rgI ((mm x y).1 + 1) (mm x y).2).filter fun z => ah a b (mm x y).1 z || ah a b (mm x y).2 z) (l₂ := (rgI ((mm x y).1 + 1) (mm x y).2).filter fun z => decide (ps w z < (i : Int))) ((rgI_nodup _ _).filter _) (fun z hz => by
      obtain ⟨z1, z2⟩ := List.mem_filter.mp hz
      have z3 := mem_rgI.mp z1
      refine List.mem_filter.mpr ⟨z1, ?_⟩
      have hzx : z ≠ x := by omega
      rw [decide_eq_true_eq]
      rcases Bool.or_eq_true_iff.mp z2 with q | q
      · exact (ends _ z e1 (by omega) (by omega)).1 q hzx
      · exact (ends _ z e2 (by omega) (by omega)).1 q hzx)
    omega
  · unfold mst
    have := List.Nodup.length_le_of_subset (l₁ := (rgI ((mm x y).1 + 1) (mm x y).2).filter fun z => decide (ps w z < (i : Int))) (l₂ := (rgI ((mm x y).1 + 1) (mm x y).2).filter fun z => !(bh a b (mm x y).1 z || bh a b (mm x y).2 z)) ((rgI_nodup _ _).filter _) (fun z hz => by
      obtain ⟨z1, z2⟩ := List.mem_filter.mp hz
      have z3 := mem_rgI.mp z1
      rw [decide_eq_true_eq] at z2
      refine List.mem_filter.mpr ⟨z1, ?_⟩
      have k1 : bh a b (mm x y).1 z = false := by
        rw [Bool.eq_false_iff]
        intro q
        have := (ends _ z e1 (by omega) (by omega)).2 q
        omega
      have k2 : bh a b (mm x y).2 z = false := by
        rw [Bool.eq_false_iff]
        intro q
        have := (ends _ z e2 (by omega) (by omega)).2 q
        omega
      rw [k1, k2]
      rfl)
    omega
end Ord0
set_option Elab.async false
set_option linter.all false
/-! U5: each count between is met -/
namespace Ord0
section
variable (a b : List Int) (x y : Int) (t : Nat)
def dn (z : Int) : Bool := ah a b x z || ah a b y z
def un (z : Int) : Bool := bh a b x z || bh a b y z
def fr (z : Int) : Bool := decide (z ≠ x) && (decide (z ≠ y) && (dn a b x y z || (!un a b x y z && decide (ps a z < (t : Int)))))
def bk (z : Int) : Bool := decide (z ≠ x) && (decide (z ≠ y) && !fr a b x y t z)
def mid (z : Int) : Bool := decide (z = x) || decide (z = y)
def wOf : List Int := a.filter (fr a b x y t) ++ ([x, y] ++ a.filter (bk a b x y t))
end
variable {n : Nat} {a b : List Int} {x y : Int} {t : Nat}
theorem fr_iff {z : Int} : fr a b x y t z = true ↔ z ≠ x ∧ z ≠ y ∧ (dn a b x y z = true ∨ (un a b x y z = false ∧ ps a z < (t : Int))) := by
  unfold fr
  simp
theorem bk_iff {z : Int} : bk a b x y t z = true ↔ z ≠ x ∧ z ≠ y ∧ ¬ fr a b x y t z = true := by
  unfold bk
  simp
theorem dn_iff {z : Int} : dn a b x y z = true ↔ (ps a z < ps a x ∧ ps b z < ps b x) ∨ (ps a z < ps a y ∧ ps b z < ps b y) := by
  unfold dn ah
  simp
theorem un_iff {z : Int} : un a b x y z = true ↔ (ps a x < ps a z ∧ ps b x < ps b z) ∨ (ps a y < ps a z ∧ ps b y < ps b z) := by
  unfold un bh
  simp
theorem wOf_per (pa : Per n a) (hx : 0 ≤ x ∧ x < (n : Int)) (hy : 0 ≤ y ∧ y < (n : Int)) (hne : x ≠ y) : Per n (wOf a b x y t) := by
  unfold Per
  have nd : (wOf a b x y t).Nodup := by
    unfold wOf
    rw [List.nodup_append, List.nodup_append]
    refine ⟨pa.nd.filter _, ⟨by simp [hne], pa.nd.filter _, ?_⟩, ?_⟩
    · intro u hu v hv e
      subst e
      have := bk_iff.mp (List.mem_filter.mp hv).2
      simp at hu
      omega
    · intro u hu v hv e
      subst e
      have h1 := fr_iff.mp (List.mem_filter.mp hu).2
      rcases List.mem_append.mp hv with hv | hv
      · simp at hv
        omega
      · exact (bk_iff.mp (List.mem_filter.mp hv).2).2.2 (List.mem_filter.mp hu).2
  rw [List.perm_ext_iff_of_nodup nd (rgI_nodup _ _)]
  intro z
  unfold wOf
  rw [List.mem_append, List.mem_append, List.mem_filter, List.mem_filter, mem_rgI, pa.mem]
  constructor
  · rintro (h | h | h)
    · exact h.1
    · simp at h
      rcases h with rfl | rfl
      · exact hx
      · exact hy
    · exact h.1
  · intro h
    by_cases h1 : z = x
    · exact Or.inr (Or.inl (by simp [h1]))
    · by_cases h2 : z = y
      · exact Or.inr (Or.inl (by simp [h2]))
      · by_cases h3 : fr a b x y t z = true
        · exact Or.inl ⟨h, h3⟩
        · exact Or.inr (Or.inr ⟨h, bk_iff.mpr ⟨h1, h2, h3⟩⟩)
theorem sub_filter {f : Int → Bool} {u v : Int} (h : [u, v].Sublist a) (hu : f u = true) (hv : f v = true) : [u, v].Sublist (a.filter f) := by
  have := h.filter f
  simpa [hu, hv] using this
theorem sub_two {l m : List Int} {u v : Int} (hu : u ∈ l) (hv : v ∈ m) : [u, v].Sublist (l ++ m) := by
  have := List.Sublist.append (List.singleton_sublist.mpr hu) (List.singleton_sublist.mpr hv)
  exact this
theorem wOf_btw (pa : Per n a) (pb : Per n b) (hx : 0 ≤ x ∧ x < (n : Int)) (hy : 0 ≤ y ∧ y < (n : Int)) (q1 : ps a x < ps a y) (q2 : ps b y < ps b x) : Btw n a (wOf a b x y t) b := by
  have hne : x ≠ y := fun e => by subst e; omega
  have pw := wOf_per (b := b) (t := t) pa hx hy hne
  intro u v hu0 hu1 hv0 hv1 h1 h2
  have mu := pa.mem.mpr ⟨hu0, hu1⟩
  have mv := pa.mem.mpr ⟨hv0, hv1⟩
  have sb : [u, v].Sublist a := (bef_iff pa.nd).mpr ⟨mu, mv, h1⟩
  refine ((bef_iff pw.nd).mp ?_).2.2
  unfold wOf
  -- nothing of the middle or the back stands ahead of what is in front
  have um : (u = x ∨ u = y) → un a b x y v = true := by
    rintro (rfl | rfl)
    · exact un_iff.mpr (Or.inl ⟨h1, h2⟩)
    · exact un_iff.mpr (Or.inr ⟨h1, h2⟩)
  have vm : (v = x ∨ v = y) → dn a b x y u = true := by
    rintro (rfl | rfl)
    · exact dn_iff.mpr (Or.inl ⟨h1, h2⟩)
    · exact dn_iff.mpr (Or.inr ⟨h1, h2⟩)
  by_cases fu : fr a b x y t u = true
  · by_cases fv : fr a b x y t v = true
    · exact (sub_filter sb fu fv).trans (List.sublist_append_left _ _)
    · refine sub_two (List.mem_filter.mpr ⟨mu, fu⟩) ?_
      by_cases k1 : v = x
      · simp [k1]
      · by_cases k2 : v = y
        · simp [k2]
        · exact List.mem_append_right _ (List.mem_filter.mpr ⟨mv, bk_iff.mpr ⟨k1, k2, fv⟩⟩)
  · by_cases fv : fr a b x y t v = true
    · exfalso
      obtain ⟨v1, v2, v3⟩ := fr_iff.mp fv
      by_cases k : u = x ∨ u = y
      · have h3 := um k
        rcases v3 with v3 | v3
        · have h4 := dn_iff.mp v3
          rcases k with rfl | rfl <;> omega
        · rw [h3] at v3
          exact Bool.noConfusion v3.1
      · refine fu (fr_iff.mpr ⟨fun e => k (Or.inl e), fun e => k (Or.inr e), ?_⟩)
        rcases v3 with v3 | v3
        · left
          have h4 := dn_iff.mp v3
          rw [dn_iff]
          omega
        · right
          refine ⟨?_, by omega⟩
          rw [Bool.eq_false_iff]
          intro h5
          have h6 := un_iff.mp h5
          have : un a b x y v = true := un_iff.mpr (by omega)
          rw [this] at v3
          exact Bool.noConfusion v3.1
    · by_cases ku : u = x ∨ u = y
      · by_cases kv : v = x ∨ v = y
        · exfalso
          rcases ku with rfl | rfl <;> rcases kv with rfl | rfl <;> omega
        · refine List.Sublist.trans ?_ (List.sublist_append_right _ _)
          refine sub_two ?_ (List.mem_filter.mpr ⟨mv, bk_iff.mpr ⟨fun e => kv (Or.inl e), fun e => kv (Or.inr e), fv⟩⟩)
          rcases ku with rfl | rfl <;> simp
      · by_cases kv : v = x ∨ v = y
        · exfalso
          exact fu (fr_iff.mpr ⟨fun e => ku (Or.inl e), fun e => ku (Or.inr e), Or.inl (vm kv)⟩)
        · refine List.Sublist.trans ?_ (List.sublist_append_right _ _)
          refine List.Sublist.trans ?_ (List.sublist_append_right _ _)
          exact sub_filter sb (bk_iff.mpr ⟨fun e => ku (Or.inl e), fun e => ku (Or.inr e), fu⟩) (bk_iff.mpr ⟨fun e => kv (Or.inl e), fun e => kv (Or.inr e), fv⟩)
def Fc (a b : List Int) (x y : Int) (p : Int × Int) (t : Nat) : Nat := ((rgI (p.1 + 1) p.2).filter fun z => dn a b x y z || (!un a b x y z && decide (ps a z < (t : Int)))).length
theorem wOf_at : (wOf a b x y t)[(a.filter (fr a b x y t)).length]? = some x ∧ (wOf a b x y t)[(a.filter (fr a b x y t)).length + 1]? = some y := by
  unfold wOf
  constructor
  · rw [List.getElem?_append_right (Nat.le_refl _), Nat.sub_self]
    rfl
  · rw [List.getElem?_append_right (by omega), show (a.filter (fr a b x y t)).length + 1 - (a.filter (fr a b x y t)).length = 1 by omega]
    rfl
theorem wOf_cnt (pa : Per n a) (hx : 0 ≤ x ∧ x < (n : Int)) (hy : 0 ≤ y ∧ y < (n : Int)) (hne : x ≠ y) : cntW (wOf a b x y t) (a.filter (fr a b x y t)).length (mm x y) = (Fc a b x y (mm x y) t : Int) := by
  obtain ⟨m1, m2⟩ := mem_mm hne
  unfold cntW Fc
  congr 1
  have e : (wOf a b x y t).take (a.filter (fr a b x y t)).length = a.filter (fr a b x y t) := by
    unfold wOf
    exact List.take_left
  rw [e]
  refine len_eq ((pa.nd.filter _).filter _) ((rgI_nodup _ _).filter _) fun z => ?_
  simp only [List.mem_filter, mem_rgI, Bool.and_eq_true, decide_eq_true_eq, fr_iff, pa.mem, Bool.or_eq_true, Bool.not_eq_true']
  constructor
  · rintro ⟨⟨h1, h2, h3, h4⟩, h5, h6⟩
    exact ⟨by omega, h4⟩
  · rintro ⟨h1, h4⟩
    exact ⟨⟨by omega, by omega, by omega, h4⟩, by omega, by omega⟩
/-- between the first and the last value all are met -/
theorem ivt (f : Nat → Nat) (hs : ∀ t, f (t + 1) ≤ f t + 1) : ∀ (m c : Nat), f 0 ≤ c → c ≤ f m → ∃ t, f t = c
  | 0, c, h1, h2 => ⟨0, by omega⟩
  | m + 1, c, h1, h2 => by
    by_cases h : c ≤ f m
    · exact ivt f hs m c h1 h
    · exact ⟨m + 1, by have := hs m; omega⟩
theorem Fc_step (pa : Per n a) (p : Int × Int) (h0 : 0 ≤ p.1) (h1 : p.2 < (n : Int)) (t : Nat) : Fc a b x y p (t + 1) ≤ Fc a b x y p t + 1 := by
  unfold Fc
  by_cases hz : ∃ z, (p.1 + 1 ≤ z ∧ z < p.2) ∧ ps a z = (t : Int)
  · obtain ⟨z0, hz0, hz1⟩ := hz
    have := List.Nodup.length_le_of_subset (l₁ := (rgI (p.1 + 1) p.2).filter fun z => dn a b x y z || (!un a b x y z && decide (ps a z < ((t + 1 : Nat) : Int)))) (l₂ := z0 :: (rgI (p.1 + 1) p.2).filter fun z => dn a b x y z || (!un a b x y z && decide (ps a z < (t : Int)))) ((rgI_nodup _ _).filter _) (fun z h => by
      obtain ⟨k1, k2⟩ := List.mem_filter.mp h
      have k3 := mem_rgI.mp k1
      by_cases hq : z = z0
      · exact hq ▸ List.mem_cons_self
      · refine List.mem_cons_of_mem _ (List.mem_filter.mpr ⟨k1, ?_⟩)
        have hn := ps_ne pa (x := z) (y := z0) ⟨by omega, by omega⟩ ⟨by omega, by omega⟩ hq
        simp only [Bool.or_eq_true, Bool.and_eq_true, Bool.not_eq_true', decide_eq_true_eq] at k2 ⊢
        rcases k2 with k2 | k2
        · exact Or.inl k2
        · exact Or.inr ⟨k2.1, by omega⟩)
    simpa using this
  · have := List.Nodup.length_le_of_subset (l₁ := (rgI (p.1 + 1) p.2).filter fun z => dn a b x y z || (!un a b x y z && decide (ps a z < ((t + 1 : Nat) : Int)))) (l₂ := (rgI (p.1 + 1) p.2).filter fun z => dn a b x y z || (!un a b x y z && decide (ps a z < (t : Int)))) ((rgI_nodup _ _).filter _) (fun z h => by
      obtain ⟨k1, k2⟩ := List.mem_filter.mp h
      have k3 := mem_rgI.mp k1
      refine List.mem_filter.mpr ⟨k1, ?_⟩
      have hn : ps a z ≠ (t : Int) := fun e => hz ⟨z, k3, e⟩
      simp only [Bool.or_eq_true, Bool.and_eq_true, Bool.not_eq_true', decide_eq_true_eq] at k2 ⊢
      rcases k2 with k2 | k2
      · exact Or.inl k2
      · exact Or.inr ⟨k2.1, by omega⟩)
    omega
theorem dn_mm {z : Int} (hne : x ≠ y) : dn a b x y z = (ah a b (mm x y).1 z || ah a b (mm x y).2 z) := by
  obtain ⟨_, h⟩ := mem_mm hne
  unfold dn
  rcases h with ⟨e1, e2⟩ | ⟨e1, e2⟩
  · rw [← e1, ← e2]
  · rw [← e1, ← e2, Bool.or_comm]
theorem un_mm {z : Int} (hne : x ≠ y) : un a b x y z = (bh a b (mm x y).1 z || bh a b (mm x y).2 z) := by
  obtain ⟨_, h⟩ := mem_mm hne
  unfold un
  rcases h with ⟨e1, e2⟩ | ⟨e1, e2⟩
  · rw [← e1, ← e2]
  · rw [← e1, ← e2, Bool.or_comm]
theorem Fc_zero (hne : x ≠ y) : (Fc a b x y (mm x y) 0 : Int) = lst a b (mm x y).1 (mm x y).2 := by
  unfold Fc lst
  congr 2
  apply List.filter_congr
  intro z _
  have := ps_nn a z
  rw [dn_mm hne, show decide (ps a z < ((0 : Nat) : Int)) = false by simp; omega]
  simp
theorem Fc_end (pa : Per n a) (q1 : ps a x < ps a y) (q2 : ps b y < ps b x) (h0 : 0 ≤ (mm x y).1) (h1 : (mm x y).2 < (n : Int)) : (Fc a b x y (mm x y) n : Int) = mst a b (mm x y).1 (mm x y).2 := by
  have hne : x ≠ y := fun e => by subst e; omega
  unfold Fc mst
  congr 2
  apply List.filter_congr
  intro z hz
  have hm := mem_rgI.mp hz
  have hzm : z ∈ a := pa.mem.mpr ⟨by omega, by omega⟩
  have hlt := ps_lt hzm
  rw [pa.len] at hlt
  rw [← un_mm hne, decide_eq_true hlt, Bool.and_true]
  cases hd : dn a b x y z with
  | false => simp
  | true =>
    have h3 := dn_iff.mp hd
    have : un a b x y z = false := by
      rw [Bool.eq_false_iff]
      intro h
      have := un_iff.mp h
      omega
    rw [this]
    rfl
/-- each count is met by one that lies between -/
theorem met {n : Nat} {a b : List Int} (pa : Per n a) (pb : Per n b) {p : Int × Int} (hp : p ∈ uL n a b) {c : Int} (h1 : lst a b p.1 p.2 ≤ c) (h2 : c ≤ mst a b p.1 p.2) : ∃ (w : List Int) (i : Nat) (x y : Int), Per n w ∧ Btw n a w b ∧ w[i]? = some x ∧ w[i + 1]? = some y ∧ ps b y < ps b x ∧ mm x y = p ∧ cntW w i p = c := by
  obtain ⟨p1, p2, p3, p4⟩ := mem_uL.mp hp
  have : ∃ x y : Int, ps a x < ps a y ∧ ps b y < ps b x ∧ mm x y = p ∧ (0 ≤ x ∧ x < (n : Int)) ∧ (0 ≤ y ∧ y < (n : Int)) := by
    rcases (dis_iff pa pb ⟨p1, by omega⟩ ⟨by omega, p3⟩ (by omega)).mp p4 with ⟨q1, q2⟩ | ⟨q1, q2⟩
    · refine ⟨p.1, p.2, q1, q2, ?_, ⟨p1, by omega⟩, by omega, p3⟩
      unfold mm
      rw [if_neg (by omega), if_pos (by omega)]
    · refine ⟨p.2, p.1, q1, q2, ?_, ⟨by omega, p3⟩, p1, by omega⟩
      unfold mm
      rw [if_pos (by omega), if_neg (by omega)]
  obtain ⟨x, y, q1, q2, rfl, hx, hy⟩ := this
  have hne : x ≠ y := fun e => by subst e; omega
  have z0 := Fc_zero (a := a) (b := b) hne
  have z1 := Fc_end (b := b) pa q1 q2 p1 p3
  obtain ⟨t, ht⟩ := ivt (Fc a b x y (mm x y)) (fun t => Fc_step pa _ p1 p3 t) n c.toNat (by omega) (by omega)
  have hw := wOf_at (a := a) (b := b) (x := x) (y := y) (t := t)
  refine ⟨wOf a b x y t, _, x, y, wOf_per pa hx hy hne, wOf_btw pa pb hx hy q1 q2, hw.1, hw.2, q2, rfl, ?_⟩
  rw [wOf_cnt pa hx hy hne, ht]
  have : 0 ≤ lst a b (mm x y).1 (mm x y).2 := by unfold lst; omega
  omega
end Ord0
set_option Elab.async false
set_option linter.all false
set_option maxRecDepth 100000
set_option maxHeartbeats 4000000
namespace L90
open PySem G Ord0
/-! the steps, and what stands ahead -/
theorem xch_xc (a : List Int) (i : Nat) : xch a i = xc a i := rfl
def pr (w : List Int) (i : Nat) : Int × Int := mm (w.getD i 0) (w.getD (i + 1) 0)
theorem e_left (w : List Int) (i : Nat) (h : i + 1 < w.length) (hl : w.length ≤ 1000) : r_l_left [(iD w, .sh), (.int (i : Int), .dp)] = some (.int (cntW w i (pr w i)), .dp, [(iD w, .sh), (.int (i : Int), .dp)]) := by
  have a1 := at_intN w (i + 1) h ((i : Int) + 1) (by omega)
  have a2 := at_intN w i (by omega) (i : Int) rfl
  let x := w.getD i 0
  let y := w.getD (i + 1) 0
  have s1 : eTup (eCons (eB (pCB gMin (aCons (p2 gIx (pVar 0) (pVar 1)) (aCons (p2 gIx (pVar 0) (p2 gAdd (pVar 1) (pC (.int 1)))) aNil)))) (eCons (eB (pCB gMax (aCons (p2 gIx (pVar 0) (pVar 1)) (aCons (p2 gIx (pVar 0) (p2 gAdd (pVar 1) (pC (.int 1)))) aNil)))) eNil)) [some (iD w, .sh), some (.int (i : Int), .dp), none, none, none] = some (.tup [.int (pr w i).1, .int (pr w i).2], .dp, [some (iD w, .sh), some (.int (i : Int), .dp), none, none, none]) := by
    have g1 : p2 gIx (pVar 0) (pVar 1) (vw [some (iD w, .sh), some (.int (i : Int), .dp), none, none, none]) = some (.int (w.getD i 0), .dp) := by
      refine (p2_of (d1 := iD w) (m1 := .sh) (d2 := .int i) (m2 := .dp) rfl rfl).trans ?_
      show (L2.atI (w.map D.int) (i : Int)).bind _ = _
      rw [a2]
      rfl
    have g2 : p2 gIx (pVar 0) (p2 gAdd (pVar 1) (pC (.int 1))) (vw [some (iD w, .sh), some (.int (i : Int), .dp), none, none, none]) = some (.int (w.getD (i + 1) 0), .dp) := by
      refine (p2_of (d1 := iD w) (m1 := .sh) (d2 := .int ((i : Int) + 1)) (m2 := .dp) rfl rfl).trans ?_
      show (L2.atI (w.map D.int) ((i : Int) + 1)).bind _ = _
      rw [a1]
      rfl
    have ga := aCons_of g1 (aCons_of g2 (ka := aNil) (ds := []) rfl)
    have m1 := eB_dp ((pCB_of (g := gMin) ga).trans (show gMin [.int (w.getD i 0), .int (w.getD (i + 1) 0)] = some (.int (pr w i).1, .dp) from rfl))
    have m2 := eB_dp ((pCB_of (g := gMax) ga).trans (show gMax [.int (w.getD i 0), .int (w.getD (i + 1) 0)] = some (.int (pr w i).2, .dp) from rfl))
    unfold eTup eCons eNil
    simp only [m1, m2, Option.bind_some]
    rfl
  have s2 := sAsg_nx (g := goTup 2 (goC (putS [false, false] 2) (goC (putS [false, false] 3) goN))) (e2 := [some (iD w, .sh), some (.int (i : Int), .dp), some (.int (pr w i).1, .dp), some (.int (pr w i).2, .dp), none]) s1 (by simp [goTup, goC, goN, putS, unTup])
  have i1 : iLst (pSl (pVar 0) oNone (oSome (pVar 1))) [some (iD w), some (.int (i : Int)), some (.int (pr w i).1), some (.int (pr w i).2), none] = some ((w.take i).map D.int) := by
    have c1 : cutL (w.map D.int) none (some (i : Int)) = (w.take i).map D.int := by rw [cut_to, List.map_take]
    have e : pSl (pVar 0) oNone (oSome (pVar 1)) [some (iD w), some (.int (i : Int)), some (.int (pr w i).1), some (.int (pr w i).2), none] = some (.lst ((w.take i).map D.int), lm ((w.take i).map D.int)) := by
      show gSl (iD w) none (some (i : Int)) = _
      simp only [iD, gSl, c1]
    unfold iLst
    rw [e]
    rfl
  have e1 := pComp_eq (vs := [4]) (g := gSet 4) (t := (tOf (pChain gLt gLt (pVar 2) (pVar 4) (pVar 3)))) (e := pVar 4) i1
    (by rw [List.length_map, List.length_take]; exact le_lim (by omega))
    (compL_go (p := fun z => decide ((pr w i).1 < z) && decide (z < (pr w i).2)) (out := fun z => (D.int z, M.dp)) fun z hz => ⟨_, rfl, by
      by_cases k1 : (pr w i).1 < z <;> by_cases k2 : z < (pr w i).2 <;> simp [wipeV, tOf, pChain, pVar, gLt, gC, asB, tru, im, imm, k1, k2], fun _ => rfl⟩)
  have s3 : eB (pCB gLen (aCons c_l_left_1 aNil)) [some (iD w, .sh), some (.int (i : Int), .dp), some (.int (pr w i).1, .dp), some (.int (pr w i).2, .dp), none] = some (.int (cntW w i (pr w i)), .dp, [some (iD w, .sh), some (.int (i : Int), .dp), some (.int (pr w i).1, .dp), some (.int (pr w i).2, .dp), none]) := by
    refine eB_dp ((pCB_of (aCons_of e1 rfl)).trans ?_)
    simp [gLen, cntW]
  unfold r_l_left runG b_l_left
  simp only [List.map_cons, List.map_nil, List.replicate, List.cons_append, List.nil_append]
  rw [sSeq_nx s2, sRet_of s3]
  simp [outP, im, imm_iD, imm]
def stL (w b : List Int) : List Nat := (List.range (w.length - 1)).filter fun i => decide (ps b (w.getD (i + 1) 0) < ps b (w.getD i 0))
theorem e_st_dict {b : List Int} (nd : b.Nodup) (hl : b.length ≤ 1000) (y0 y2 y3 y4 : Option D) : pCB gDictC (aCons c_l_steps_1 aNil) [y0, some (iD b), y2, y3, y4] = some (plD b, .dp) := by
  refine e_places (m := .sh) nd hl ?_ fun p hp => ⟨_, rfl, ?_⟩
  · simp [pVar, im, iD, imm]
  · simp [iRg1, iRg2, iLst, pLr, runG, outP, im, imm, immL, eB, eV, eS, eMv, eCp, frz, eNil, eCons, eLst, eTup, e2, e1, eCB, eIf, eMut, eMut0, eOn, isLst, eTmp, eCall, callR, takeA, convL, putA, rSl, rVl, caN, caC, eMake, mkR, rdL, sSeq, sIf, sRet, sRetN, sExpr, sSet, putS, sPar, sPar3, sAsg, goTup, goC, goN, unTup, sFor, iLstE, iRg1E, iRg2E, iS, iEnE, iEn, sNext, sNever, tV, tAndE, tOrE, tNotE, tTruE, tOfE, asBE, bAnd, bOr, bNot, bTru, tOf, asB, p2, p1, pC, pVar, pAnd, pOr, pNot, pIf, pChain, pCalG, pCallK, permL, pMake, pMakeK, pMeth, pMeth0, pFld, pIsi, pIsC, isiC, tyN, pCB, gLen, gListD, gList, gDictC, gSortedD, gInt, gAdd, gSub, gI, gC, gLt, gLe, gGt, gGe, gGeX, gIs, gIsNot, isB, aNil, aCons, vw, shv, tru, kb_int_int, kb_int_bool, kb_tup_tup, kb_lst_lst, kb_dk_lst, eAnd, gMod, gFdiv, gMul, gPow, gIx, gSetL, setAtD, inM, gMax, gMin, toInts, maxL, minL, gEq_int, gNe_int, im_int, pLst, pTup, lim, dm, allDp, at_0, at_1, at_2, wipeV, gSet]
theorem c_steps {n : Nat} {w b : List Int} (pw : Per n w) (pb : Per n b) (hn : n ≤ 1000) : c_l_steps_2 [some (iD w), some (iD b), some (plD b), none, none] = some (.lst ((stL w b).map fun i : Nat => D.int (i : Int)), .dp) := by
  have hl := pw.len
  have i1 : iRg1 (p2 gSub (pCB gLen (aCons (pVar 0) aNil)) (pC (.int 1))) [some (iD w), some (iD b), some (plD b), none, none] = some ((List.range (w.length - 1)).map fun i : Nat => D.int (i : Int)) := by
    have l1 : gLen [iD w] = some (.int (n : Int), .dp) := by simp [gLen, iD, hl]
    have q : p2 gSub (pCB gLen (aCons (pVar 0) aNil)) (pC (.int 1)) [some (iD w), some (iD b), some (plD b), none, none] = some (.int ((n : Int) - 1), .dp) :=
      (p2_of (d1 := .int (n : Int)) (m1 := .dp) (d2 := .int 1) (m2 := .dp) ((pCB_of (ds := [(iD w, .sh)]) rfl).trans l1) rfl).trans rfl
    rw [iRg1_of q (bd62_of (by omega)), rgD_map, hl, show ((n : Int) - 1 - 0).toNat = n - 1 by omega]
    simp
  have e1 := pComp_eq (vs := [3]) (g := gSet 3) (t := (tOf (p2 gGt (p2 gIx (pVar 2) (p2 gIx (pVar 0) (pVar 3))) (p2 gIx (pVar 2) (p2 gIx (pVar 0) (p2 gAdd (pVar 3) (pC (.int 1)))))))) (e := pVar 3) i1
    (by rw [List.length_map, List.length_range]; exact le_lim (by omega))
    (compL_go (p := fun i => decide (ps b (w.getD (i + 1) 0) < ps b (w.getD i 0))) (out := fun i : Nat => (D.int (i : Int), M.dp)) fun i hi => ⟨_, rfl, by
      have hlt : i + 1 < w.length := by have := List.mem_range.mp hi; omega
      have a1 := at_intN w (i + 1) hlt ((i : Int) + 1) (by omega)
      have a2 := at_intN w i (by omega) (i : Int) rfl
      have mem : ∀ k, k < w.length → w.getD k 0 ∈ b := fun k hk => by
        rw [List.getD_eq_getElem?_getD, List.getElem?_eq_getElem hk]
        exact pb.mem.mpr (pw.mem.mp (List.getElem_mem hk))
      have k1 := look_pl (mem i (by omega))
      have k2 := look_pl (mem (i + 1) hlt)
      by_cases q : ps b (w.getD (i + 1) 0) < ps b (w.getD i 0) <;>
        simp [-List.getD_eq_getElem?_getD, wipeV, tOf, p2, pVar, pC, gIx, iD, plD, isKey, gAdd, gGt, gC, asB, im, imm, a1, a2, k1, k2, q], fun _ => rfl⟩)
  unfold c_l_steps_2
  rw [e1]
  have e2 : dm ((stL w b).map fun i : Nat => (D.int (i : Int), M.dp)) = .dp := by
    unfold dm
    rw [if_pos (allDp_map fun _ _ => rfl)]
  unfold stL at e2 ⊢
  rw [e2]
  simp [List.map_map, Function.comp_def]
theorem e_steps {n : Nat} {w b : List Int} (pw : Per n w) (pb : Per n b) (hn : n ≤ 1000) : r_l_steps [(iD w, .sh), (iD b, .sh)] = some (.lst ((stL w b).map fun i : Nat => D.int (i : Int)), .dp, [(iD w, .sh), (iD b, .sh)]) := by
  have s1 := sSet_nx (io := [false, false]) (i := 2) (e2 := [some (iD w, .sh), some (iD b, .sh), some (plD b, .dp), none, none]) (eB_dp (env := [some (iD w, .sh), some (iD b, .sh), none, none, none]) (e_st_dict pb.nd (by rw [pb.len]; exact hn) (some (iD w)) none none none)) rfl
  have s2 := sRet_of (eB_dp (env := [some (iD w, .sh), some (iD b, .sh), some (plD b, .dp), none, none]) (c_steps pw pb hn))
  unfold r_l_steps runG b_l_steps
  simp only [List.map_cons, List.map_nil, List.replicate, List.cons_append, List.nil_append]
  rw [sSeq_nx s1, s2]
  simp [outP, im, imm_iD]
end L90
set_option Elab.async false
set_option linter.all false
set_option maxRecDepth 100000
set_option maxHeartbeats 4000000
namespace L90
open PySem G Ord0
/-! one step of the walk through the rows -/
abbrev Fd := List ((Int × Int) × List Int)
def kp (p : Int × Int) : List L2.Key := [.inl p.1, .inl p.2]
def kw (w : List Int) : List L2.Key := w.map .inl
theorem kp_inj {p q : Int × Int} (h : kp p = kp q) : p = q := by
  unfold kp at h
  simp at h
  exact Prod.ext h.1 h.2
theorem kw_inj : ∀ {v w : List Int}, kw v = kw w → v = w
  | [], [], _ => rfl
  | [], _ :: _, h => by simp [kw] at h
  | _ :: _, [], h => by simp [kw] at h
  | x :: v, y :: w, h => by
    simp only [kw, List.map_cons, List.cons.injEq, Sum.inl.injEq] at h
    rw [h.1, kw_inj (v := v) (w := w) h.2]
def fD (F : Fd) : D := .dt (F.map fun e => kp e.1) (F.map fun e => iD e.2)
def rD (R : List (List Int)) : D := .lst (R.map iD)
def nD (R : List (List Int)) : D := .dt (R.map kw) (R.map fun _ => .bl true)
def lookF : Fd → (Int × Int) → Option (List Int)
  | [], _ => none
  | e :: F, p => if e.1 = p then some e.2 else lookF F p
def updF (F : Fd) (p : Int × Int) (cs : List Int) : Fd := if p ∈ F.map (·.1) then F.map (fun e => if e.1 = p then (e.1, cs) else e) else F ++ [(p, cs)]
theorem look_fD : ∀ (F : Fd) (p : Int × Int), look (F.map fun e => kp e.1) (F.map fun e => iD e.2) (kp p) = (lookF F p).map iD
  | [], p => rfl
  | e :: F, p => by
    simp only [List.map_cons, look, lookF]
    by_cases h : e.1 = p
    · rw [if_pos h, if_pos (by rw [h])]
      rfl
    · rw [if_neg h, if_neg fun q => h (kp_inj q)]
      exact look_fD F p
theorem has_fD (F : Fd) (p : Int × Int) : hasKT (F.map fun e => kp e.1) (kp p) ↔ p ∈ F.map (·.1) := by
  unfold hasKT
  simp only [List.mem_map]
  constructor
  · rintro ⟨e, h1, h2⟩
    exact ⟨e, h1, kp_inj h2⟩
  · rintro ⟨e, h1, h2⟩
    exact ⟨e, h1, by rw [h2]⟩
theorem upd_fD (p : Int × Int) (cs : List Int) : ∀ F : Fd, updVT (F.map fun e => kp e.1) (F.map fun e => iD e.2) (kp p) (iD cs) = (F.map (fun e => if e.1 = p then (e.1, cs) else e)).map fun e => iD e.2
  | [] => rfl
  | e :: F => by
    simp only [List.map_cons, updVT]
    rw [upd_fD p cs F]
    by_cases h : e.1 = p
    · rw [if_pos (by rw [h]), if_pos h]
    · rw [if_neg fun q => h (kp_inj q), if_neg h]
theorem put_fD (F : Fd) (p : Int × Int) (cs : List Int) : (.dt (putDT (F.map fun e => kp e.1) (F.map fun e => iD e.2) (kp p) (iD cs)).1 (putDT (F.map fun e => kp e.1) (F.map fun e => iD e.2) (kp p) (iD cs)).2 : D) = fD (updF F p cs) := by
  unfold putDT updF fD
  by_cases h : p ∈ F.map (·.1)
  · rw [if_pos ((has_fD F p).mpr h), if_pos h, upd_fD]
    have e1 : (F.map (fun e => if e.1 = p then (e.1, cs) else e)).map (fun e => kp e.1) = F.map fun e => kp e.1 := by
      rw [List.map_map]
      apply List.map_congr_left
      intro e _
      dsimp only [Function.comp]
      split <;> rfl
    rw [e1]
  · rw [if_neg fun q => h ((has_fD F p).mp q), if_neg h]
    simp
theorem keysOf_ints : ∀ w : List Int, keysOf (w.map .int) = some (kw w)
  | [] => rfl
  | x :: w => by
    simp only [List.map_cons, keysOf, isKey, keysOf_ints w, Option.bind_some]
    rfl
theorem has_nD (R : List (List Int)) (w : List Int) : hasKT (R.map kw) (kw w) ↔ w ∈ R := by
  unfold hasKT
  simp only [List.mem_map]
  constructor
  · rintro ⟨e, h1, h2⟩
    exact (kw_inj h2) ▸ h1
  · intro h
    exact ⟨w, h, rfl⟩
theorem look_nD : ∀ (R : List (List Int)) (w : List Int), (look (R.map kw) (R.map fun _ => D.bl true) (kw w)).isSome = decide (w ∈ R)
  | [], w => rfl
  | v :: R, w => by
    simp only [List.map_cons, look]
    by_cases h : v = w
    · rw [if_pos (by rw [h]), h]
      simp
    · rw [if_neg fun q => h (kw_inj q), look_nD R w]
      have : w ≠ v := fun q => h q.symm
      simp [this]
theorem nin_nD (R : List (List Int)) (w : List Int) : gNotIn (.tup (w.map .int)) (nD R) = some (.bl (!decide (w ∈ R)), .dp) := by
  unfold gNotIn
  have : inB (.tup (w.map .int)) (nD R) = some (decide (w ∈ R)) := by
    show (isKeyT (.tup (w.map .int))).bind _ = _
    rw [show isKeyT (.tup (w.map .int)) = some (kw w) from keysOf_ints w]
    simp only [Option.bind_some, look_nD]
  rw [this]
  rfl
theorem put_nD (R : List (List Int)) (w : List Int) (h : w ∉ R) : (.dt (putDT (R.map kw) (R.map fun _ => D.bl true) (kw w) (.bl true)).1 (putDT (R.map kw) (R.map fun _ => D.bl true) (kw w) (.bl true)).2 : D) = nD (R ++ [w]) := by
  unfold putDT nD
  rw [if_neg fun q => h ((has_nD R w).mp q)]
  simp
theorem imm_fD (F : Fd) : imm (fD F) = false := rfl
theorem imm_rD (R : List (List Int)) : imm (rD R) = false := rfl
theorem imm_nD (R : List (List Int)) : imm (nD R) = false := rfl
def en16 (a b : List Int) (F : Fd) (mF : M) (R : List (List Int)) (mR : M) (k : Nat) (x6 x7 x8 x9 x10 x11 : Option (D × M)) : Env' := [some (iD a, .sh), some (iD b, .sh), some (fD F, mF), some (rD R, mR), some (nD R, .dp), some (.int k, .dp), x6, x7, x8, x9, x10, x11]
theorem cut_two {w : List Int} {i : Nat} (h : i + 1 < w.length) : cutL (w.map D.int) (some (i : Int)) (some ((i : Int) + 2)) = [w.getD i 0, w.getD (i + 1) 0].map D.int := by
  unfold cutL
  rw [sIx_n, show (i : Int) + 2 = ((i + 2 : Nat) : Int) by omega, sIx_n, List.length_map, Nat.min_eq_left (by omega), Nat.min_eq_left (by omega), show i + 2 - i = 2 by omega, ← List.map_drop, ← List.map_take]
  have h1 : w.drop i = w.getD i 0 :: w.drop (i + 1) := by
    rw [List.drop_eq_getElem_cons (by omega), List.getD_eq_getElem?_getD, List.getElem?_eq_getElem (by omega)]
    rfl
  have h2 : w.drop (i + 1) = w.getD (i + 1) 0 :: w.drop (i + 2) := by
    rw [List.drop_eq_getElem_cons (by omega), List.getD_eq_getElem?_getD, List.getElem?_eq_getElem (by omega)]
    rfl
  rw [h1, h2]
  rfl
theorem sort_two (x y : Int) : isort [x, y] = [(mm x y).1, (mm x y).2] := by
  unfold mm
  simp only [isort, ins1]
  by_cases h : y < x
  · rw [if_neg (by omega), if_pos h, if_neg (by omega)]
  · rw [if_pos (by omega), if_neg h]
    by_cases h2 : y > x
    · rw [if_pos h2]
    · have : x = y := by omega
      subst this
      simp
def stF (w : List Int) (F : Fd) (i : Nat) : Fd := updF F (pr w i) (add1 ((lookF F (pr w i)).getD []) (cntW w i (pr w i)))
def stR (w : List Int) (R : List (List Int)) (i : Nat) : List (List Int) := if xc w i ∈ R then R else R ++ [xc w i]
theorem at_rD {R : List (List Int)} {k : Nat} {w : List Int} (h : R[k]? = some w) : L2.atI (R.map iD) (k : Int) = some (iD w) := at_get _ _ _ _ (by omega) (by rw [Int.toNat_natCast]; exact h)
theorem st_seen {n : Nat} {a b : List Int} (F : Fd) (mF : M) (R : List (List Int)) (mR : M) (k : Nat) (w : List Int) (i : Nat) (x7 x8 x9 x10 x11 : Option (D × M)) (hmF : mF = .dp ∨ mF = .o1) (hmR : mR = .dp ∨ mR = .o1) (hk : R[k]? = some w) (pw : Per n w) (hi : i + 1 < n) (hn : n ≤ 100)
    (hF : F.length < lim) (hR : R.length < lim) (hc : ((lookF F (pr w i)).getD []).length < 1000) : ∃ mR' y7 y8 y9 y10 y11, b_l_seen_1 (en16 a b F mF R mR k (some (.int i, .dp)) x7 x8 x9 x10 x11) = some (.nx, en16 a b (stF w F i) .o1 (stR w R i) mR' k (some (.int i, .dp)) y7 y8 y9 y10 y11) ∧ (mR' = .dp ∨ mR' = .o1) := by
  have hl : i + 1 < w.length := by rw [pw.len]; exact hi
  have hw1000 : w.length ≤ 1000 := by rw [pw.len]; omega
  let lo := (pr w i).1
  let hI := (pr w i).2
  let c := cntW w i (pr w i)
  let cs := (lookF F (pr w i)).getD []
  have ar := at_rD hk
  -- low, high
  have g1 : ∀ x7 x8 x9 x10 x11, p2 gIx (pVar 3) (pVar 5) (vw (en16 a b F mF R mR k (some (.int i, .dp)) x7 x8 x9 x10 x11)) = some (iD w, .sh) := by
    intro x7 x8 x9 x10 x11
    refine (p2_of (d1 := rD R) (m1 := .sh) (d2 := .int k) (m2 := .dp) rfl rfl).trans ?_
    show (L2.atI (R.map iD) (k : Int)).bind _ = _
    rw [ar]
    rfl
  have s1 : (sAsg (eB (pCB gSortedD (aCons (pSl (p2 gIx (pVar 3) (pVar 5)) (oSome (pVar 6)) (oSome (p2 gAdd (pVar 6) (pC (.int 2))))) aNil))) (goLst 2 (goC (putS [false, false] 7) (goC (putS [false, false] 8) goN)))) (en16 a b F mF R mR k (some (.int i, .dp)) x7 x8 x9 x10 x11) = some (.nx, en16 a b F mF R mR k (some (.int i, .dp)) (some (.int lo, .dp)) (some (.int hI, .dp)) x9 x10 x11) := by
    have e1 : pSl (p2 gIx (pVar 3) (pVar 5)) (oSome (pVar 6)) (oSome (p2 gAdd (pVar 6) (pC (.int 2)))) (vw (en16 a b F mF R mR k (some (.int i, .dp)) x7 x8 x9 x10 x11)) = some (.lst ([w.getD i 0, w.getD (i + 1) 0].map D.int), .dp) := by
      unfold pSl
      rw [g1]
      show gSl (iD w) (some (i : Int)) (some ((i : Int) + 2)) = _
      simp only [iD, gSl, cut_two hl, lm_ints]
    have e2 : pCB gSortedD (aCons (pSl (p2 gIx (pVar 3) (pVar 5)) (oSome (pVar 6)) (oSome (p2 gAdd (pVar 6) (pC (.int 2))))) aNil) (vw (en16 a b F mF R mR k (some (.int i, .dp)) x7 x8 x9 x10 x11)) = some (.lst [.int lo, .int hI], .dp) := by
      refine (pCB_of (aCons_of e1 rfl)).trans ?_
      show gSorted [.lst ([w.getD i 0, w.getD (i + 1) 0].map D.int)] = _
      rw [gSorted_ints, sort_two]
      rfl
    exact sAsg_nx (eB_dp e2) rfl
  -- what is known of the pair
  have s2 : ∃ mc, (sSet [false, false] 9 (eGetL 2 (pTup (aCons (pVar 7) (aCons (pVar 8) aNil))) (pLst aNil))) (en16 a b F mF R mR k (some (.int i, .dp)) (some (.int lo, .dp)) (some (.int hI, .dp)) x9 x10 x11) = some (.nx, en16 a b F .o1 R mR k (some (.int i, .dp)) (some (.int lo, .dp)) (some (.int hI, .dp)) (some (iD cs, mc)) x10 x11) ∧ (mc = .dp ∨ mc = .sh) := by
    have core : ∃ mc, eGet 2 (pTup (aCons (pVar 7) (aCons (pVar 8) aNil))) (pLst aNil) (en16 a b F .o1 R mR k (some (.int i, .dp)) (some (.int lo, .dp)) (some (.int hI, .dp)) x9 x10 x11) = some (iD cs, mc, en16 a b F .o1 R mR k (some (.int i, .dp)) (some (.int lo, .dp)) (some (.int hI, .dp)) x9 x10 x11) ∧ (mc = .dp ∨ mc = .sh) := by
      have hs7 : (shv (en16 a b F .o1 R mR k (some (.int i, .dp)) (some (.int lo, .dp)) (some (.int hI, .dp)) x9 x10 x11))[7]? = some (some (.int lo)) := rfl
      have hs8 : (shv (en16 a b F .o1 R mR k (some (.int i, .dp)) (some (.int lo, .dp)) (some (.int hI, .dp)) x9 x10 x11))[8]? = some (some (.int hI)) := rfl
      have ek : pTup (aCons (pVar 7) (aCons (pVar 8) aNil)) (shv (en16 a b F .o1 R mR k (some (.int i, .dp)) (some (.int lo, .dp)) (some (.int hI, .dp)) x9 x10 x11)) = some (.tup [.int lo, .int hI], .dp) := by
        unfold pTup
        rw [aCons_of (pVar_of hs7) (aCons_of (pVar_of hs8) rfl)]
        rfl
      have ep : pLst aNil (shv (en16 a b F .o1 R mR k (some (.int i, .dp)) (some (.int lo, .dp)) (some (.int hI, .dp)) x9 x10 x11)) = some (.lst [], .dp) := rfl
      have el : lookE (fD F) (.tup [.int lo, .int hI]) = some ((lookF F (pr w i)).map iD) := by
        show ((isKeyT (.tup [.int lo, .int hI])).bind fun kk => some (look (F.map fun e => kp e.1) (F.map fun e => iD e.2) kk)) = _
        rw [show isKeyT (.tup [.int lo, .int hI]) = some (kp (pr w i)) from rfl]
        simp only [Option.bind_some]
        rw [look_fD]
      cases hlk : lookF F (pr w i) with
      | none =>
        refine ⟨.dp, ?_, Or.inl rfl⟩
        have hcs : cs = [] := by show (lookF F (pr w i)).getD [] = []; rw [hlk]; rfl
        rw [hlk] at el
        unfold eGet
        show (pTup (aCons (pVar 7) (aCons (pVar 8) aNil)) (shv (en16 a b F .o1 R mR k (some (.int i, .dp)) (some (.int lo, .dp)) (some (.int hI, .dp)) x9 x10 x11))).bind _ = _
        rw [ek, hcs]
        simp only [Option.bind_some, ep, el]
        rfl
      | some l =>
        refine ⟨.sh, ?_, Or.inr rfl⟩
        have hcs : cs = l := by show (lookF F (pr w i)).getD [] = l; rw [hlk]; rfl
        rw [hlk] at el
        unfold eGet
        show (pTup (aCons (pVar 7) (aCons (pVar 8) aNil)) (shv (en16 a b F .o1 R mR k (some (.int i, .dp)) (some (.int lo, .dp)) (some (.int hI, .dp)) x9 x10 x11))).bind _ = _
        rw [ek, hcs]
        simp only [Option.bind_some, ep, el]
        rfl
    obtain ⟨mc, e, hmc⟩ := core
    refine ⟨mc, sSet_nx (e1 := en16 a b F .o1 R mR k (some (.int i, .dp)) (some (.int lo, .dp)) (some (.int hI, .dp)) x9 x10 x11) (d := iD cs) (m := mc) ?_ rfl, hmc⟩
    unfold eGetL
    rcases hmF with rfl | rfl
    · exact e
    · exact e
  obtain ⟨mc, s2, hmc⟩ := s2
  -- the count
  have s3 : (sSet [false, false] 10 (eB (pCalG 2 r_l_left (aCons (p2 gIx (pVar 3) (pVar 5)) (aCons (pVar 6) aNil))))) (en16 a b F .o1 R mR k (some (.int i, .dp)) (some (.int lo, .dp)) (some (.int hI, .dp)) (some (iD cs, mc)) x10 x11) = some (.nx, en16 a b F .o1 R mR k (some (.int i, .dp)) (some (.int lo, .dp)) (some (.int hI, .dp)) (some (iD cs, mc)) (some (.int c, .dp)) x11) := by
    have q : p2 gIx (pVar 3) (pVar 5) (vw (en16 a b F .o1 R mR k (some (.int i, .dp)) (some (.int lo, .dp)) (some (.int hI, .dp)) (some (iD cs, mc)) x10 x11)) = some (iD w, .sh) := by
      refine (p2_of (d1 := rD R) (m1 := .sh) (d2 := .int k) (m2 := .dp) rfl rfl).trans ?_
      show (L2.atI (R.map iD) (k : Int)).bind _ = _
      rw [ar]
      rfl
    have e := e_left w i hl hw1000
    exact sSet_nx (eB_dp (pCalG_of (ds := [(iD w, .sh), (.int i, .dp)]) (aCons_of q (aCons_of (pVar_of rfl) rfl)) rfl (by simpa [rdL, im, imm_iD, imm] using e))) rfl
  -- it is noted
  have s4 : ∃ m9, (sAsg (eIf (tV (tOf (p2 gIn (pVar 10) (pVar 9)))) (eCp 9) (eB (p2 gAdd (pVar 9) (pLst (aCons (pVar 10) aNil))))) (gSetD 2 (pTup (aCons (pVar 7) (aCons (pVar 8) aNil))))) (en16 a b F .o1 R mR k (some (.int i, .dp)) (some (.int lo, .dp)) (some (.int hI, .dp)) (some (iD cs, mc)) (some (.int c, .dp)) x11) = some (.nx, en16 a b (stF w F i) .o1 R mR k (some (.int i, .dp)) (some (.int lo, .dp)) (some (.int hI, .dp)) (some (iD cs, m9)) (some (.int c, .dp)) x11) := by
    have put : ∀ (m9 mv : M), gSetD 2 (pTup (aCons (pVar 7) (aCons (pVar 8) aNil))) (iD (add1 cs c), mv) (en16 a b F .o1 R mR k (some (.int i, .dp)) (some (.int lo, .dp)) (some (.int hI, .dp)) (some (iD cs, m9)) (some (.int c, .dp)) x11) = some (en16 a b (stF w F i) .o1 R mR k (some (.int i, .dp)) (some (.int lo, .dp)) (some (.int hI, .dp)) (some (iD cs, m9)) (some (.int c, .dp)) x11) := by
      intro m9 mv
      unfold gSetD
      rw [show pTup (aCons (pVar 7) (aCons (pVar 8) aNil)) (vw (en16 a b F .o1 R mR k (some (.int i, .dp)) (some (.int lo, .dp)) (some (.int hI, .dp)) (some (iD cs, m9)) (some (.int c, .dp)) x11)) = some (.tup [.int lo, .int hI], .dp) from rfl]
      show (putDMT (F.map fun e => kp e.1) (F.map fun e => iD e.2) (some (kp (pr w i))) (iD (add1 cs c), mv) .o1).bind _ = _
      have : putDMT (F.map fun e => kp e.1) (F.map fun e => iD e.2) (some (kp (pr w i))) (iD (add1 cs c), mv) .o1 = some (fD (stF w F i), .o1) := by
        unfold putDMT
        simp only [Option.bind_some]
        rw [if_pos (by rw [List.length_map]; exact hF), put_fD]
        rfl
      rw [this]
      rfl
    have hin := gIn_ints c cs
    have t : (tV (tOf (p2 gIn (pVar 10) (pVar 9)))) (en16 a b F .o1 R mR k (some (.int i, .dp)) (some (.int lo, .dp)) (some (.int hI, .dp)) (some (iD cs, mc)) (some (.int c, .dp)) x11) = some (decide (c ∈ cs), en16 a b F .o1 R mR k (some (.int i, .dp)) (some (.int lo, .dp)) (some (.int hI, .dp)) (some (iD cs, mc)) (some (.int c, .dp)) x11) :=
      tV_of (tOf_of (m := .dp) ((p2_of (d1 := .int c) (m1 := .dp) (d2 := iD cs) (m2 := .sh) rfl rfl).trans hin))
    by_cases hcc : c ∈ cs
    · refine ⟨.sh, sAsg_nx (d := iD (add1 cs c)) (m := .sh) (e1 := en16 a b F .o1 R mR k (some (.int i, .dp)) (some (.int lo, .dp)) (some (.int hI, .dp)) (some (iD cs, .sh)) (some (.int c, .dp)) x11) ?_ (put .sh .sh)⟩
      unfold eIf
      rw [t, decide_eq_true hcc]
      have : add1 cs c = cs := by unfold add1; rw [if_pos hcc]
      rw [this]
      rfl
    · refine ⟨mc, sAsg_nx (d := iD (add1 cs c)) (m := .dp) (e1 := en16 a b F .o1 R mR k (some (.int i, .dp)) (some (.int lo, .dp)) (some (.int hI, .dp)) (some (iD cs, mc)) (some (.int c, .dp)) x11) ?_ (put mc .dp)⟩
      unfold eIf
      rw [t, decide_eq_false hcc]
      show eB _ _ = _
      refine eB_dp ((p2_of (d1 := iD cs) (m1 := .sh) (d2 := .lst [.int c]) (m2 := .dp) rfl rfl).trans ?_)
      show (if (cs.map D.int).length + [D.int c].length ≤ lim then _ else _) = _
      have hz : cs.length < 1000 := hc
      rw [if_pos (by rw [List.length_map]; show cs.length + 1 ≤ 16777216; omega)]
      have e : cs.map D.int ++ [D.int c] = (add1 cs c).map D.int := by unfold add1; rw [if_neg hcc]; simp
      rw [e, lm_ints]
      rfl
  obtain ⟨m9, s4⟩ := s4
  -- the neighbour row
  have s5 : (sSet [false, false] 11 (eB (pCalG 2 r_l_exchanged (aCons (p2 gIx (pVar 3) (pVar 5)) (aCons (pVar 6) aNil))))) (en16 a b (stF w F i) .o1 R mR k (some (.int i, .dp)) (some (.int lo, .dp)) (some (.int hI, .dp)) (some (iD cs, m9)) (some (.int c, .dp)) x11) = some (.nx, en16 a b (stF w F i) .o1 R mR k (some (.int i, .dp)) (some (.int lo, .dp)) (some (.int hI, .dp)) (some (iD cs, m9)) (some (.int c, .dp)) (some (iD (xc w i), .dp))) := by
    have q : p2 gIx (pVar 3) (pVar 5) (vw (en16 a b (stF w F i) .o1 R mR k (some (.int i, .dp)) (some (.int lo, .dp)) (some (.int hI, .dp)) (some (iD cs, m9)) (some (.int c, .dp)) x11)) = some (iD w, .sh) := by
      refine (p2_of (d1 := rD R) (m1 := .sh) (d2 := .int k) (m2 := .dp) rfl rfl).trans ?_
      show (L2.atI (R.map iD) (k : Int)).bind _ = _
      rw [ar]
      rfl
    have e := e_exchanged w i hl hw1000
    rw [xch_xc] at e
    exact sSet_nx (eB_dp (pCalG_of (ds := [(iD w, .sh), (.int i, .dp)]) (aCons_of q (aCons_of (pVar_of rfl) rfl)) rfl (by simpa [rdL, im, imm_iD, imm] using e))) rfl
  have t6 : (tV (tOf (p2 gNotIn (pCB gTuple (aCons (pVar 11) aNil)) (pVar 4)))) (en16 a b (stF w F i) .o1 R mR k (some (.int i, .dp)) (some (.int lo, .dp)) (some (.int hI, .dp)) (some (iD cs, m9)) (some (.int c, .dp)) (some (iD (xc w i), .dp))) = some (!decide (xc w i ∈ R), en16 a b (stF w F i) .o1 R mR k (some (.int i, .dp)) (some (.int lo, .dp)) (some (.int hI, .dp)) (some (iD cs, m9)) (some (.int c, .dp)) (some (iD (xc w i), .dp))) :=
    tV_of (tOf_of (m := .dp) ((p2_of (d1 := .tup ((xc w i).map .int)) (m1 := im (.tup ((xc w i).map .int))) (d2 := nD R) (m2 := .sh) rfl rfl).trans (nin_nD R (xc w i))))
  unfold b_l_seen_1
  rw [sSeq_nx s1, sSeq_nx s2, sSeq_nx s3, sSeq_nx s4, sSeq_nx s5]
  by_cases hx : xc w i ∈ R
  · rw [decide_eq_true hx] at t6
    rw [sIf_f t6]
    refine ⟨mR, some (.int lo, .dp), some (.int hI, .dp), some (iD cs, m9), some (.int c, .dp), some (iD (xc w i), .dp), ?_, hmR⟩
    have : stR w R i = R := by unfold stR; rw [if_pos hx]
    rw [this]
    rfl
  · rw [decide_eq_false hx] at t6
    rw [sIf_t t6]
    have hstR : stR w R i = R ++ [xc w i] := by unfold stR; rw [if_neg hx]
    have s6 : (sAsg (eB (pC (.bl true))) (gSetD 4 (pCB gTuple (aCons (pVar 11) aNil)))) (en16 a b (stF w F i) .o1 R mR k (some (.int i, .dp)) (some (.int lo, .dp)) (some (.int hI, .dp)) (some (iD cs, m9)) (some (.int c, .dp)) (some (iD (xc w i), .dp))) = some (.nx, [some (iD a, .sh), some (iD b, .sh), some (fD (stF w F i), .o1), some (rD R, mR), some (nD (R ++ [xc w i]), .dp), some (.int k, .dp), some (.int i, .dp), some (.int lo, .dp), some (.int hI, .dp), some (iD cs, m9), some (.int c, .dp), some (iD (xc w i), .dp)]) := by
      refine sAsg_nx (eB_dp (d := .bl true) rfl) ?_
      unfold gSetD
      rw [show pCB gTuple (aCons (pVar 11) aNil) (vw (en16 a b (stF w F i) .o1 R mR k (some (.int i, .dp)) (some (.int lo, .dp)) (some (.int hI, .dp)) (some (iD cs, m9)) (some (.int c, .dp)) (some (iD (xc w i), .dp)))) = some (.tup ((xc w i).map .int), im (.tup ((xc w i).map .int))) from rfl]
      show (putDMT (R.map kw) (R.map fun _ => D.bl true) (isKeyT (.tup ((xc w i).map .int))) (.bl true, .dp) .dp).bind _ = _
      have : putDMT (R.map kw) (R.map fun _ => D.bl true) (isKeyT (.tup ((xc w i).map .int))) (.bl true, .dp) .dp = some (nD (R ++ [xc w i]), .dp) := by
        rw [show isKeyT (.tup ((xc w i).map .int)) = some (kw (xc w i)) from keysOf_ints _]
        unfold putDMT
        simp only [Option.bind_some]
        rw [if_pos (by rw [List.length_map]; exact hR), put_nD R _ hx]
        simp [imm]
      rw [this]
      rfl
    have s7 : (sExpr (eMut 3 gAppend (eCons (eCp 11) eNil))) [some (iD a, .sh), some (iD b, .sh), some (fD (stF w F i), .o1), some (rD R, mR), some (nD (R ++ [xc w i]), .dp), some (.int k, .dp), some (.int i, .dp), some (.int lo, .dp), some (.int hI, .dp), some (iD cs, m9), some (.int c, .dp), some (iD (xc w i), .dp)] = some (.nx, en16 a b (stF w F i) .o1 (R ++ [xc w i]) .o1 k (some (.int i, .dp)) (some (.int lo, .dp)) (some (.int hI, .dp)) (some (iD cs, m9)) (some (.int c, .dp)) (some (iD (xc w i), .sh))) := by
      have hR' : (R.map iD).length < lim := by rw [List.length_map]; exact hR
      have ga : gAppend (rD R, mR) [(iD (xc w i), .sh)] = some ((.non, .dp), (rD (R ++ [xc w i]), .o1)) := by
        have e : R.map iD ++ [iD (xc w i)] = (R ++ [xc w i]).map iD := by simp
        rcases hmR with rfl | rfl
        · show (if (R.map iD).length < lim then _ else _) = _
          rw [if_pos hR', e]
          rfl
        · show (if (R.map iD).length < lim then _ else _) = _
          rw [if_pos hR', e]
          rfl
      refine sExpr_nx (d := .non) (m := .dp) ?_
      unfold eMut
      rw [if_pos (by rfl)]
      show (eOn 3 gAppend ([(iD (xc w i), .sh)], [some (iD a, .sh), some (iD b, .sh), some (fD (stF w F i), .o1), some (rD R, mR), some (nD (R ++ [xc w i]), .dp), some (.int k, .dp), some (.int i, .dp), some (.int lo, .dp), some (.int hI, .dp), some (iD cs, m9), some (.int c, .dp), some (iD (xc w i), .sh)])) = _
      show (gAppend (rD R, mR) [(iD (xc w i), .sh)]).bind _ = _
      rw [ga]
      rfl
    rw [sSeq_nx s6, s7]
    exact ⟨.o1, some (.int lo, .dp), some (.int hI, .dp), some (iD cs, m9), some (.int c, .dp), some (iD (xc w i), .sh), by rw [hstR], Or.inr rfl⟩
end L90
set_option Elab.async false
set_option linter.all false
set_option maxRecDepth 100000
set_option maxHeartbeats 4000000
namespace L90
open PySem G Ord0
/-! what the walk through the rows keeps -/
theorem lookF_mem : ∀ {F : Fd} {p : Int × Int} {cs : List Int}, lookF F p = some cs → (p, cs) ∈ F
  | [], _, _, h => by cases h
  | e :: F, p, cs, h => by
    unfold lookF at h
    split at h
    · rename_i q
      cases h
      subst q
      exact List.mem_cons_self
    · exact List.mem_cons_of_mem _ (lookF_mem h)
theorem lookF_none : ∀ {F : Fd} {p : Int × Int}, lookF F p = none → p ∉ F.map (·.1)
  | [], _, _ => by simp
  | e :: F, p, h => by
    unfold lookF at h
    split at h
    · cases h
    · rename_i q
      rw [List.map_cons, List.mem_cons]
      rintro (z | z)
      · exact q z.symm
      · exact lookF_none h z
theorem mem_updF {F : Fd} {p : Int × Int} {cs : List Int} {e : (Int × Int) × List Int} : e ∈ updF F p cs ↔ e = (p, cs) ∨ (e ∈ F ∧ e.1 ≠ p) := by
  unfold updF
  by_cases h : p ∈ F.map (·.1)
  · rw [if_pos h, List.mem_map]
    obtain ⟨e0, h0, h1⟩ := List.mem_map.mp h
    constructor
    · rintro ⟨e1, h2, rfl⟩
      by_cases q : e1.1 = p
      · rw [if_pos q, q]
        exact Or.inl rfl
      · rw [if_neg q]
        exact Or.inr ⟨h2, q⟩
    · rintro (rfl | ⟨h2, h3⟩)
      · exact ⟨e0, h0, by rw [if_pos h1, h1]⟩
      · exact ⟨e, h2, by rw [if_neg h3]⟩
  · rw [if_neg h, List.mem_append, List.mem_singleton]
    constructor
    · rintro (h2 | rfl)
      · exact Or.inr ⟨h2, fun q => h (q ▸ List.mem_map_of_mem h2)⟩
      · exact Or.inl rfl
    · rintro (rfl | ⟨h2, _⟩)
      · exact Or.inr rfl
      · exact Or.inl h2
theorem keys_updF (F : Fd) (p : Int × Int) (cs : List Int) : (updF F p cs).map (·.1) = if p ∈ F.map (·.1) then F.map (·.1) else F.map (·.1) ++ [p] := by
  unfold updF
  by_cases h : p ∈ F.map (·.1)
  · rw [if_pos h, if_pos h, List.map_map]
    apply List.map_congr_left
    intro e _
    dsimp only [Function.comp]
    split <;> rfl
  · rw [if_neg h, if_neg h]
    simp
structure Inv (n : Nat) (a b : List Int) (F : Fd) (R : List (List Int)) : Prop where
  nd : R.Nodup
  rc : ∀ w ∈ R, Rch a b w
  st : a ∈ R
  kn : (F.map (·.1)).Nodup
  ok : ∀ e ∈ F, e.2.Nodup ∧ e.2 ≠ [] ∧ e.1 ∈ uL n a b ∧ ∀ c ∈ e.2, lst a b e.1.1 e.1.2 ≤ c ∧ c ≤ mst a b e.1.1 e.1.2
def Done (F : Fd) (R : List (List Int)) (w : List Int) (i : Nat) : Prop := xc w i ∈ R ∧ ∃ e ∈ F, e.1 = pr w i ∧ cntW w i (pr w i) ∈ e.2
theorem mem_add1 {K : List Int} {c d : Int} : d ∈ add1 K c ↔ d ∈ K ∨ d = c := by
  unfold add1
  split
  · rename_i h
    constructor
    · exact Or.inl
    · rintro (h2 | rfl)
      · exact h2
      · exact h
  · simp
theorem add1_nodup {K : List Int} {c : Int} (h : K.Nodup) : (add1 K c).Nodup := by
  unfold add1
  split
  · exact h
  · rename_i hc
    rw [List.nodup_append]
    exact ⟨h, by simp, fun x hx y hy e => by simp at hy; subst hy; subst e; exact hc hx⟩
theorem mem_stR {w v : List Int} {R : List (List Int)} {i : Nat} : v ∈ stR w R i ↔ v ∈ R ∨ v = xc w i := by
  unfold stR
  split
  · rename_i h
    constructor
    · exact Or.inl
    · rintro (h2 | rfl)
      · exact h2
      · exact h
  · simp
theorem stR_get {w v : List Int} {R : List (List Int)} {i j : Nat} (h : R[j]? = some v) : (stR w R i)[j]? = some v := by
  unfold stR
  split
  · exact h
  · rw [List.getElem?_append_left (List.getElem?_eq_some_iff.mp h).1]
    exact h
section
variable {n : Nat} {a b : List Int} (pa : Per n a) (pb : Per n b)
theorem at_stL {w : List Int} {i : Nat} (h : i ∈ stL w b) : i + 1 < w.length ∧ w[i]? = some (w.getD i 0) ∧ w[i + 1]? = some (w.getD (i + 1) 0) ∧ ps b (w.getD (i + 1) 0) < ps b (w.getD i 0) := by
  unfold stL at h
  obtain ⟨h1, h2⟩ := List.mem_filter.mp h
  have h3 := List.mem_range.mp h1
  rw [decide_eq_true_eq] at h2
  refine ⟨by omega, ?_, ?_, h2⟩
  · rw [List.getD_eq_getElem?_getD, List.getElem?_eq_getElem (by omega)]; rfl
  · rw [List.getD_eq_getElem?_getD, List.getElem?_eq_getElem (by omega)]; rfl
theorem in_stL {w : List Int} {i : Nat} {x y : Int} (h1 : w[i]? = some x) (h2 : w[i + 1]? = some y) (h3 : ps b y < ps b x) : i ∈ stL w b ∧ pr w i = mm x y := by
  have l := (List.getElem?_eq_some_iff.mp h2).1
  have e1 : w.getD i 0 = x := by rw [List.getD_eq_getElem?_getD, h1]; rfl
  have e2 : w.getD (i + 1) 0 = y := by rw [List.getD_eq_getElem?_getD, h2]; rfl
  refine ⟨?_, by unfold pr; rw [e1, e2]⟩
  unfold stL
  refine List.mem_filter.mpr ⟨List.mem_range.mpr (by omega), ?_⟩
  rw [e1, e2]
  exact decide_eq_true h3
theorem Inv.step (pa : Per n a) (pb : Per n b) {F : Fd} {R : List (List Int)} (I : Inv n a b F R) {w : List Int} (hw : w ∈ R) {i : Nat} (hi : i ∈ stL w b) : Inv n a b (stF w F i) (stR w R i) ∧ Done (stF w F i) (stR w R i) w i ∧ ∀ v j, Done F R v j → Done (stF w F i) (stR w R i) v j := by
  obtain ⟨l1, g1, g2, g3⟩ := at_stL hi
  have hr := I.rc w hw
  have pw := hr.per pa
  obtain ⟨c1, c2, c3⟩ := cnt_between pa pw pb (hr.btw pa) g1 g2 g3
  have hpr : mm (w.getD i 0) (w.getD (i + 1) 0) = pr w i := rfl
  rw [hpr] at c1 c2 c3
  -- what was known of the pair
  have old : ((lookF F (pr w i)).getD []).Nodup ∧ ∀ c ∈ (lookF F (pr w i)).getD [], lst a b (pr w i).1 (pr w i).2 ≤ c ∧ c ≤ mst a b (pr w i).1 (pr w i).2 := by
    cases e : lookF F (pr w i) with
    | none => simp
    | some cs =>
      have := I.ok _ (lookF_mem e)
      exact ⟨this.1, this.2.2.2⟩
  refine ⟨⟨?_, ?_, ?_, ?_, ?_⟩, ⟨mem_stR.mpr (Or.inr rfl), ⟨(pr w i, add1 ((lookF F (pr w i)).getD []) (cntW w i (pr w i))), mem_updF.mpr (Or.inl rfl), rfl, mem_add1.mpr (Or.inr rfl)⟩⟩, ?_⟩
  · unfold stR
    split
    · exact I.nd
    · rename_i hx
      rw [List.nodup_append]
      exact ⟨I.nd, by simp, fun x hx' y hy e => by simp at hy; subst hy; subst e; exact hx hx'⟩
  · intro v hv
    rcases mem_stR.mp hv with hv | rfl
    · exact I.rc v hv
    · exact .step hr g1 g2 g3
  · exact mem_stR.mpr (Or.inl I.st)
  · unfold stF
    rw [keys_updF]
    split
    · exact I.kn
    · rename_i hk
      rw [List.nodup_append]
      exact ⟨I.kn, by simp, fun x hx' y hy e => by simp at hy; subst hy; subst e; exact hk hx'⟩
  · intro e he
    rcases mem_updF.mp he with rfl | ⟨he, _⟩
    · refine ⟨add1_nodup old.1, ?_, c1, ?_⟩
      · intro z
        have : cntW w i (pr w i) ∈ add1 ((lookF F (pr w i)).getD []) (cntW w i (pr w i)) := mem_add1.mpr (Or.inr rfl)
        dsimp only at z
        rw [z] at this
        cases this
      · intro c hc
        rcases mem_add1.mp hc with hc | rfl
        · exact old.2 c hc
        · exact ⟨c2, c3⟩
    · exact I.ok e he
  · rintro v j ⟨d1, e, d2, d3, d4⟩
    refine ⟨mem_stR.mpr (Or.inl d1), ?_⟩
    by_cases q : e.1 = pr w i
    · refine ⟨(pr w i, add1 ((lookF F (pr w i)).getD []) (cntW w i (pr w i))), mem_updF.mpr (Or.inl rfl), by rw [← d3, q], mem_add1.mpr (Or.inl ?_)⟩
      cases el : lookF F (pr w i) with
      | none => exact absurd (List.mem_map_of_mem d2) (q ▸ lookF_none el)
      | some cs =>
        have h1 := lookF_mem el
        -- keys are single
        have : e = (pr w i, cs) := by
          have key : ∀ (F : Fd), (F.map (·.1)).Nodup → ∀ e1 ∈ F, ∀ e2 ∈ F, e1.1 = e2.1 → e1 = e2 := by
            intro F
            induction F with
            | nil => intro _ e1 h; cases h
            | cons f F ih =>
              intro nd e1 he1 e2 he2 hq
              rw [List.map_cons, List.nodup_cons] at nd
              rcases List.mem_cons.mp he1 with rfl | hf1
              · rcases List.mem_cons.mp he2 with rfl | he2
                · rfl
                · exact absurd (List.mem_map_of_mem he2) (hq ▸ nd.1)
              · rcases List.mem_cons.mp he2 with rfl | he2
                · exact absurd (show e2.1 ∈ F.map (·.1) from hq ▸ List.mem_map_of_mem hf1) nd.1
                · exact ih nd.2 e1 hf1 e2 he2 hq
          exact key F I.kn e d2 _ h1 q
        rw [this] at d4
        exact d4
    · exact ⟨e, mem_updF.mpr (Or.inr ⟨d2, q⟩), d3, d4⟩
def allL (n : Nat) : Nat → List (List Int)
  | 0 => [[]]
  | k + 1 => (rgI 0 n).flatMap fun x => (allL n k).map fun w => x :: w
theorem allL_len (n : Nat) : ∀ k, (allL n k).length ≤ n ^ k
  | 0 => by simp [allL]
  | k + 1 => by
    have := flat_len (f := fun x : Int => (allL n k).map fun w => x :: w) (m := n ^ k) (l := rgI 0 n) fun x _ => by rw [List.length_map]; exact allL_len n k
    rw [rgI_len, show ((n : Int) - 0).toNat = n by omega] at this
    show ((rgI 0 n).flatMap fun x => (allL n k).map fun w => x :: w).length ≤ n ^ (k + 1)
    rw [Nat.pow_succ, Nat.mul_comm]
    exact this
theorem mem_allL (n : Nat) : ∀ (w : List Int), (∀ x ∈ w, 0 ≤ x ∧ x < (n : Int)) → w ∈ allL n w.length
  | [], _ => by simp [allL]
  | x :: w, h => by
    show x :: w ∈ (rgI 0 n).flatMap fun x => (allL n w.length).map fun w => x :: w
    exact List.mem_flatMap.mpr ⟨x, mem_rgI.mpr (h x List.mem_cons_self), List.mem_map.mpr ⟨w, mem_allL n w fun y hy => h y (List.mem_cons_of_mem _ hy), rfl⟩⟩
theorem Inv.lenR (pa : Per n a) {F : Fd} {R : List (List Int)} (I : Inv n a b F R) : R.length ≤ n ^ n := by
  refine Nat.le_trans (List.Nodup.length_le_of_subset I.nd (l₂ := allL n n) fun w hw => ?_) (allL_len n n)
  have pw := (I.rc w hw).per pa
  have := mem_allL n w fun x hx => pw.mem.mp hx
  rwa [pw.len] at this
theorem Inv.lenF {F : Fd} {R : List (List Int)} (I : Inv n a b F R) : F.length ≤ n * n := by
  have := List.Nodup.length_le_of_subset I.kn (l₂ := uL n a b) fun p hp => by
    obtain ⟨e, he, rfl⟩ := List.mem_map.mp hp
    exact (I.ok e he).2.2.1
  rw [List.length_map] at this
  exact Nat.le_trans this (uL_len n a b)
theorem Inv.lenC {F : Fd} {R : List (List Int)} (I : Inv n a b F R) (p : Int × Int) : ((lookF F p).getD []).length ≤ n + 1 := by
  cases e : lookF F p with
  | none => simp
  | some cs =>
    have h := I.ok _ (lookF_mem e)
    have hu := mem_uL.mp (show p ∈ uL n a b from h.2.2.1)
    have := List.Nodup.length_le_of_subset h.1 (l₂ := rgI 0 ((n : Int) + 1)) fun c hc => by
      have k := h.2.2.2 c hc
      have k1 := lst_nn a b p.1 p.2
      have k2 := mst_le a b hu.1 hu.2.2.1
      dsimp only at k
      exact mem_rgI.mpr ⟨by omega, by omega⟩
    rw [rgI_len] at this
    show cs.length ≤ n + 1
    dsimp only at this
    omega
/-- all is closed -/
def Full (b : List Int) (F : Fd) (R : List (List Int)) : Prop := ∀ v ∈ R, ∀ i ∈ stL v b, Done F R v i
theorem Full.all {F : Fd} {R : List (List Int)} (I : Inv n a b F R) (fu : Full b F R) {w : List Int} (h : Rch a b w) : w ∈ R := by
  induction h with
  | refl => exact I.st
  | @step w i x y _ e1 e2 e3 ih => exact (fu w ih i (in_stL e1 e2 e3).1).1
theorem Full.counts (pa : Per n a) (pb : Per n b) {F : Fd} {R : List (List Int)} (I : Inv n a b F R) (fu : Full b F R) {p : Int × Int} (hp : p ∈ uL n a b) {c : Int} (h1 : lst a b p.1 p.2 ≤ c) (h2 : c ≤ mst a b p.1 p.2) : ∃ e ∈ F, e.1 = p ∧ c ∈ e.2 := by
  obtain ⟨w, i, x, y, pw, hb, e1, e2, e3, rfl, rfl⟩ := met pa pb hp h1 h2
  have hr := rch_of pb pw _ a pa (Nat.le_refl _) hb
  obtain ⟨s1, s2⟩ := in_stL e1 e2 e3
  obtain ⟨_, e, d2, d3, d4⟩ := fu w (fu.all I hr) i s1
  rw [s2] at d3 d4
  exact ⟨e, d2, d3, d4⟩
theorem lst_le_mst (pa : Per n a) (pb : Per n b) {p : Int × Int} (hp : p ∈ uL n a b) : lst a b p.1 p.2 ≤ mst a b p.1 p.2 := by
  obtain ⟨p1, p2, p3, p4⟩ := mem_uL.mp hp
  have hd := (dis_iff pa pb ⟨p1, by omega⟩ ⟨by omega, p3⟩ (by omega)).mp p4
  unfold lst mst
  have := List.Nodup.length_le_of_subset (l₁ := (rgI (p.1 + 1) p.2).filter fun z => ah a b p.1 z || ah a b p.2 z) (l₂ := (rgI (p.1 + 1) p.2).filter fun z => !(bh a b p.1 z || bh a b p.2 z)) ((rgI_nodup _ _).filter _) (fun z hz => by
    obtain ⟨z1, z2⟩ := List.mem_filter.mp hz
    refine List.mem_filter.mpr ⟨z1, ?_⟩
    unfold ah at z2
    simp only [Bool.or_eq_true, Bool.and_eq_true, decide_eq_true_eq] at z2
    unfold bh
    simp only [Bool.not_eq_true', Bool.or_eq_false_iff, Bool.and_eq_false_iff, decide_eq_false_iff_not]
    omega)
  omega
end
end L90
set_option Elab.async false
set_option linter.all false
set_option maxRecDepth 100000
set_option maxHeartbeats 4000000
namespace L90
open PySem G Ord0
/-! the walk through the rows -/
theorem eCons_of {f : Env' → Option (D × M × Env')} {k : Env' → Option (List (D × M) × Env')} {env e1 e2 : Env'} {d : D} {m : M} {r : List (D × M)} (h1 : f env = some (d, m, e1)) (h2 : k e1 = some (r, e2)) : eCons f k env = some ((d, m) :: r, e2) := by
  unfold eCons
  rw [h1]
  show (k e1).bind _ = _
  rw [h2]
  rfl
theorem pow_six {n : Nat} (h : n ≤ 6) : n ^ n ≤ 46656 := by
  have : n = 0 ∨ n = 1 ∨ n = 2 ∨ n = 3 ∨ n = 4 ∨ n = 5 ∨ n = 6 := by omega
  rcases this with rfl | rfl | rfl | rfl | rfl | rfl | rfl <;> decide
theorem lp_seen {n : Nat} {a b : List Int} (pa : Per n a) (pb : Per n b) (hn : n ≤ 6) (F : Fd) (mF : M) (R : List (List Int)) (mR : M) (k : Nat) (w : List Int) (x6 x7 x8 x9 x10 x11 : Option (D × M)) (hmF : mF = .dp ∨ mF = .o1) (hmR : mR = .dp ∨ mR = .o1) (hk : R[k]? = some w) (I : Inv n a b F R) :
    ∃ (F' : Fd) (mF' : M) (R' : List (List Int)) (mR' : M) (y6 y7 y8 y9 y10 y11 : Option (D × M)), forL (putS [false, false] 6) b_l_seen_1 ((stL w b).map fun i : Nat => D.int (i : Int)) (en16 a b F mF R mR k x6 x7 x8 x9 x10 x11) = some (.nx, en16 a b F' mF' R' mR' k y6 y7 y8 y9 y10 y11) ∧ (mF' = .dp ∨ mF' = .o1) ∧ (mR' = .dp ∨ mR' = .o1) ∧ Inv n a b F' R' ∧ (∀ (j : Nat) (v : List Int), R[j]? = some v → R'[j]? = some v) ∧ (∀ (v : List Int) (j : Nat), Done F R v j → Done F' R' v j) ∧ ∀ i ∈ stL w b, Done F' R' w i := by
  have hw : w ∈ R := List.mem_of_getElem? hk
  have pw := (I.rc w hw).per pa
  obtain ⟨e', q, F', mF', R', mR', y6, y7, y8, y9, y10, y11, rfl, h1, h2, h3, h4, h5, h6⟩ := forL_inv (g := putS [false, false] 6) (b := b_l_seen_1) (ds := (stL w b).map fun i : Nat => D.int (i : Int))
    (I := fun t e => ∃ (F' : Fd) (mF' : M) (R' : List (List Int)) (mR' : M) (y6 y7 y8 y9 y10 y11 : Option (D × M)), e = en16 a b F' mF' R' mR' k y6 y7 y8 y9 y10 y11 ∧ (mF' = .dp ∨ mF' = .o1) ∧ (mR' = .dp ∨ mR' = .o1) ∧ Inv n a b F' R' ∧ (∀ (j : Nat) (v : List Int), R[j]? = some v → R'[j]? = some v) ∧ (∀ (v : List Int) (j : Nat), Done F R v j → Done F' R' v j) ∧ ∀ (s i : Nat), s < t → (stL w b)[s]? = some i → Done F' R' w i)
    (fun t d e hd ⟨F', mF', R', mR', y6, y7, y8, y9, y10, y11, he, h1, h2, h3, h4, h5, h6⟩ => by
      rw [List.getElem?_map] at hd
      cases hi : (stL w b)[t]? with
      | none => rw [hi] at hd; cases hd
      | some i =>
        rw [hi] at hd
        cases hd
        have him := List.mem_of_getElem? hi
        have hk' := h4 k w hk
        obtain ⟨s1, s2, s3⟩ := h3.step pa pb (List.mem_of_getElem? hk') him
        have hl := (at_stL him).1
        rw [pw.len] at hl
        have l1 := h3.lenF
        have l2 := h3.lenR pa
        have l3 := h3.lenC (pr w i)
        have l4 := pow_six hn
        have l5 : n * n ≤ 6 * 6 := Nat.mul_le_mul hn hn
        obtain ⟨mR2, z7, z8, z9, z10, z11, q, hm⟩ := st_seen (a := a) (b := b) F' mF' R' mR' k w i y7 y8 y9 y10 y11 h1 h2 hk' pw hl (by omega) (by unfold lim; omega) (by unfold lim; omega) (by omega)
        subst he
        refine ⟨en16 a b F' mF' R' mR' k (some (.int i, .dp)) y7 y8 y9 y10 y11, _, by simp [putS, im_int, en16], q, _, _, _, _, _, _, _, _, _, _, rfl, Or.inr rfl, hm, s1, fun j v hj => stR_get (h4 j v hj), fun v j hd => s3 v j (h5 v j hd), fun s i' hs hi' => ?_⟩
        by_cases hst : s = t
        · subst hst
          rw [hi] at hi'
          cases hi'
          exact s2
        · exact s3 _ _ (h6 s i' (by omega) hi'))
    (en16 a b F mF R mR k x6 x7 x8 x9 x10 x11) ⟨F, mF, R, mR, x6, x7, x8, x9, x10, x11, rfl, hmF, hmR, I, fun _ _ h => h, fun _ _ h => h, fun s i hs _ => by omega⟩
  refine ⟨F', mF', R', mR', y6, y7, y8, y9, y10, y11, q, h1, h2, h3, h4, h5, fun i hi => ?_⟩
  obtain ⟨s, hs⟩ := List.mem_iff_getElem?.mp hi
  exact h6 s i (by rw [List.length_map]; exact (List.getElem?_eq_some_iff.mp hs).1) hs
theorem st_seen_2 {n : Nat} {a b : List Int} (pa : Per n a) (pb : Per n b) (hn : n ≤ 6) (F : Fd) (mF : M) (R : List (List Int)) (mR : M) (k : Nat) (w : List Int) (x6 x7 x8 x9 x10 x11 : Option (D × M)) (hmF : mF = .dp ∨ mF = .o1) (hmR : mR = .dp ∨ mR = .o1) (hk : R[k]? = some w) (I : Inv n a b F R) :
    ∃ (F' : Fd) (mF' : M) (R' : List (List Int)) (mR' : M) (y6 y7 y8 y9 y10 y11 : Option (D × M)), b_l_seen_2 (en16 a b F mF R mR k x6 x7 x8 x9 x10 x11) = some (.nx, en16 a b F' mF' R' mR' (k + 1) y6 y7 y8 y9 y10 y11) ∧ (mF' = .dp ∨ mF' = .o1) ∧ (mR' = .dp ∨ mR' = .o1) ∧ Inv n a b F' R' ∧ (∀ (j : Nat) (v : List Int), R[j]? = some v → R'[j]? = some v) ∧ (∀ (v : List Int) (j : Nat), Done F R v j → Done F' R' v j) ∧ ∀ i ∈ stL w b, Done F' R' w i := by
  obtain ⟨F', mF', R', mR', y6, y7, y8, y9, y10, y11, q, h⟩ := lp_seen pa pb hn F mF R mR k w x6 x7 x8 x9 x10 x11 hmF hmR hk I
  refine ⟨F', mF', R', mR', y6, y7, y8, y9, y10, y11, ?_, h⟩
  have hw : w ∈ R := List.mem_of_getElem? hk
  have pw := (I.rc w hw).per pa
  have ar := at_rD hk
  have g1 : p2 gIx (pVar 3) (pVar 5) (vw (en16 a b F mF R mR k x6 x7 x8 x9 x10 x11)) = some (iD w, .sh) := by
    refine (p2_of (d1 := rD R) (m1 := .sh) (d2 := .int k) (m2 := .dp) rfl rfl).trans ?_
    show (L2.atI (R.map iD) (k : Int)).bind _ = _
    rw [ar]
    rfl
  have es := e_steps pw pb (by omega)
  have g2 : pCalG 2 r_l_steps (aCons (p2 gIx (pVar 3) (pVar 5)) (aCons (pVar 1) aNil)) (vw (en16 a b F mF R mR k x6 x7 x8 x9 x10 x11)) = some (.lst ((stL w b).map fun i : Nat => D.int (i : Int)), .dp) :=
    pCalG_of (ds := [(iD w, .sh), (iD b, .sh)]) (aCons_of g1 (aCons_of (pVar_of rfl) rfl)) rfl (by simpa [rdL, im, imm_iD] using es)
  have i1 : iLstE (eB (pCalG 2 r_l_steps (aCons (p2 gIx (pVar 3) (pVar 5)) (aCons (pVar 1) aNil)))) (en16 a b F mF R mR k x6 x7 x8 x9 x10 x11) = some ((stL w b).map fun i : Nat => D.int (i : Int), en16 a b F mF R mR k x6 x7 x8 x9 x10 x11) := by
    unfold iLstE
    rw [eB_dp g2]
    rfl
  unfold b_l_seen_2
  rw [sSeq_nx (sFor_of i1 q)]
  refine sSet_nx (d := .int ((k : Int) + 1)) (m := .dp) (e1 := en16 a b F' mF' R' mR' k y6 y7 y8 y9 y10 y11) (eB_dp ?_) ?_
  · exact (p2_of (d1 := .int k) (m1 := .dp) (d2 := .int 1) (m2 := .dp) rfl rfl).trans rfl
  · rw [show (k : Int) + 1 = ((k + 1 : Nat) : Int) by omega]
    rfl
theorem e_seen {n : Nat} {a b : List Int} (pa : Per n a) (pb : Per n b) (hn : n ≤ 6) : ∃ F m R, r_l_seen [(iD a, .sh), (iD b, .sh)] = some (fD F, m, [(iD a, .sh), (iD b, .sh)]) ∧ (m = .dp ∨ m = .o1) ∧ Inv n a b F R ∧ Full b F R := by
  have I0 : Inv n a b [] [a] := ⟨by simp, fun w hw => by simp at hw; subst hw; exact .refl, by simp, by simp, fun e he => by cases he⟩
  obtain ⟨fl, e', h1, rfl, F, mF, R, mR, k, y6, y7, y8, y9, y10, y11, he, h2, h3, h4, h5⟩ := sWhile_inv (t := t_l_seen_1) (b := b_l_seen_2)
    (I := fun mm e => ∃ (F : Fd) (mF : M) (R : List (List Int)) (mR : M) (k : Nat) (x6 x7 x8 x9 x10 x11 : Option (D × M)), e = en16 a b F mF R mR k x6 x7 x8 x9 x10 x11 ∧ (mF = .dp ∨ mF = .o1) ∧ (mR = .dp ∨ mR = .o1) ∧ Inv n a b F R ∧ (∀ (j : Nat) (v : List Int), j < k → R[j]? = some v → ∀ i ∈ stL v b, Done F R v i) ∧ mm + k = n ^ n ∧ k ≤ R.length)
    (F := fun fl e => fl = .nx ∧ ∃ (F : Fd) (mF : M) (R : List (List Int)) (mR : M) (k : Nat) (x6 x7 x8 x9 x10 x11 : Option (D × M)), e = en16 a b F mF R mR k x6 x7 x8 x9 x10 x11 ∧ (mF = .dp ∨ mF = .o1) ∧ Inv n a b F R ∧ (∀ (j : Nat) (v : List Int), j < k → R[j]? = some v → ∀ i ∈ stL v b, Done F R v i) ∧ R.length ≤ k)
    (fun mm e ⟨F, mF, R, mR, k, x6, x7, x8, x9, x10, x11, he, h1, h2, h3, h4, h5, h6⟩ => by
      have hl : gLen [rD R] = some (.int (R.length : Int), .dp) := by simp [gLen, rD]
      have t : t_l_seen_1 e = some (decide ((k : Int) < (R.length : Int)), e) := by
        subst he
        refine tV_of (tOf_of (m := .dp) ((p2_of (d1 := .int k) (m1 := .dp) (d2 := .int (R.length : Int)) (m2 := .dp) rfl ((pCB_of (ds := [(rD R, .sh)]) rfl).trans hl)).trans ?_))
        rfl
      refine ⟨_, e, t, fun hz => ?_, fun hz => ?_⟩
      · have : ¬ (k : Int) < (R.length : Int) := by simpa using hz
        exact ⟨rfl, F, mF, R, mR, k, x6, x7, x8, x9, x10, x11, he, h1, h3, h4, by omega⟩
      · have hlt : (k : Int) < (R.length : Int) := by simpa using hz
        have hk : R[k]? = some R[k] := List.getElem?_eq_getElem (by omega)
        obtain ⟨F', mF', R', mR', y6, y7, y8, y9, y10, y11, q, k1, k2, k3, k4, k5, k6⟩ := st_seen_2 pa pb hn F mF R mR k _ x6 x7 x8 x9 x10 x11 h1 h2 hk h3
        have hb := h3.lenR pa
        subst he
        refine ⟨.nx, _, q, mm - 1, by omega, F', mF', R', mR', k + 1, y6, y7, y8, y9, y10, y11, rfl, k1, k2, k3, fun j v hj hv i hi => ?_, by omega, ?_⟩
        · by_cases hjk : j = k
          · subst hjk
            rw [k4 _ _ hk] at hv
            cases hv
            exact k6 i hi
          · have hjl : j < R.length := by omega
            have e0 : R[j]? = some R[j] := List.getElem?_eq_getElem hjl
            rw [k4 _ _ e0] at hv
            cases hv
            exact k5 _ _ (h4 j _ (by omega) e0 i hi)
        · have := (List.getElem?_eq_some_iff.mp (k4 _ _ hk)).1
          omega)
    (n ^ n) (en16 a b [] .dp [a] .dp 0 none none none none none none) (by have := pow_six hn; unfold fuel; omega) ⟨[], .dp, [a], .dp, 0, none, none, none, none, none, none, rfl, Or.inl rfl, Or.inl rfl, I0, fun j v hj => by omega, by omega, by simp⟩
  subst he
  refine ⟨F, mF, R, ?_, h2, h3, fun v hv i hi => ?_⟩
  · have la : gListD [iD a] = some (iD a, .dp) := by
      have := lm_ints a
      simp only [iD, gListD, gList, this]
    have s1 : eB (pCB gListD (aCons (pVar 0) aNil)) [some (iD a, .sh), some (iD b, .sh), none, none, none, none, none, none, none, none, none, none] = some (iD a, .dp, [some (iD a, .sh), some (iD b, .sh), none, none, none, none, none, none, none, none, none, none]) := eB_dp ((pCB_of (ds := [(iD a, .sh)]) rfl).trans la)
    have s2 : eB (pDictT1 (pCB gTuple (aCons (pVar 0) aNil)) (pC (.bl true))) [some (iD a, .sh), some (iD b, .sh), none, none, none, none, none, none, none, none, none, none] = some (nD [a], .dp, [some (iD a, .sh), some (iD b, .sh), none, none, none, none, none, none, none, none, none, none]) := by
      refine eB_dp ?_
      unfold pDictT1
      rw [show pCB gTuple (aCons (pVar 0) aNil) (vw [some (iD a, .sh), some (iD b, .sh), none, none, none, none, none, none, none, none, none, none]) = some (.tup (a.map .int), im (.tup (a.map .int))) from rfl]
      show (isKeyT (.tup (a.map .int))).bind _ = _
      rw [show isKeyT (.tup (a.map .int)) = some (kw a) from keysOf_ints _]
      rfl
    have s3 : eTup (eCons (eB pDictT0) (eCons (eLst (eCons (eB (pCB gListD (aCons (pVar 0) aNil))) eNil)) (eCons (eB (pDictT1 (pCB gTuple (aCons (pVar 0) aNil)) (pC (.bl true)))) (eCons (eB (pC (.int 0))) eNil)))) [some (iD a, .sh), some (iD b, .sh), none, none, none, none, none, none, none, none, none, none] = some (.tup [fD [], rD [a], nD [a], .int 0], .dp, [some (iD a, .sh), some (iD b, .sh), none, none, none, none, none, none, none, none, none, none]) := by
      have z1 : eB pDictT0 [some (iD a, .sh), some (iD b, .sh), none, none, none, none, none, none, none, none, none, none] = some (fD [], .dp, [some (iD a, .sh), some (iD b, .sh), none, none, none, none, none, none, none, none, none, none]) := rfl
      have z2 : eLst (eCons (eB (pCB gListD (aCons (pVar 0) aNil))) eNil) [some (iD a, .sh), some (iD b, .sh), none, none, none, none, none, none, none, none, none, none] = some (rD [a], .dp, [some (iD a, .sh), some (iD b, .sh), none, none, none, none, none, none, none, none, none, none]) := by
        unfold eLst eCons eNil
        rw [s1]
        rfl
      have z3 : eB (pC (.int 0)) [some (iD a, .sh), some (iD b, .sh), none, none, none, none, none, none, none, none, none, none] = some (.int 0, .dp, [some (iD a, .sh), some (iD b, .sh), none, none, none, none, none, none, none, none, none, none]) := rfl
      unfold eTup
      rw [eCons_of z1 (eCons_of z2 (eCons_of s2 (eCons_of z3 (k := eNil) rfl)))]
      rfl
    have s4 := sAsg_nx (g := goTup 4 (goC (putS [false, false] 2) (goC (putS [false, false] 3) (goC (putS [false, false] 4) (goC (putS [false, false] 5) goN))))) (e2 := en16 a b [] .dp [a] .dp 0 none none none none none none) s3 rfl
    unfold r_l_seen runG b_l_seen
    simp only [List.map_cons, List.map_nil, List.replicate, List.cons_append, List.nil_append]
    rw [sSeq_nx s4, sSeq_nx h1]
    rcases h2 with rfl | rfl <;> simp [sRet, eMv, en16, imm_fD, outP, im, imm_iD]
  · obtain ⟨j, hj⟩ := List.mem_iff_getElem?.mp hv
    exact h4 j v (by have := (List.getElem?_eq_some_iff.mp hj).1; omega) hj i hi
end L90
set_option Elab.async false
set_option linter.all false
set_option maxRecDepth 100000
set_option maxHeartbeats 4000000
namespace L90
open PySem G Ord0
/-! what was found -/
theorem keyF {F : Fd} (nd : (F.map (·.1)).Nodup) {e1 e2 : (Int × Int) × List Int} (h1 : e1 ∈ F) (h2 : e2 ∈ F) (hq : e1.1 = e2.1) : e1 = e2 := by
  induction F with
  | nil => cases h1
  | cons f F ih =>
    rw [List.map_cons, List.nodup_cons] at nd
    rcases List.mem_cons.mp h1 with q1 | q1
    · rcases List.mem_cons.mp h2 with q2 | q2
      · rw [q1, q2]
      · exact absurd (show f.1 ∈ F.map (·.1) from (by rw [← q1, hq]; exact List.mem_map_of_mem q2)) nd.1
    · rcases List.mem_cons.mp h2 with q2 | q2
      · exact absurd (show f.1 ∈ F.map (·.1) from (by rw [← q2, ← hq]; exact List.mem_map_of_mem q1)) nd.1
      · exact ih nd.2 q1 q2
theorem lookF_of {F : Fd} (nd : (F.map (·.1)).Nodup) {e : (Int × Int) × List Int} (h : e ∈ F) : lookF F e.1 = some e.2 := by
  cases q : lookF F e.1 with
  | none => exact absurd (List.mem_map_of_mem h) (lookF_none q)
  | some cs =>
    have := keyF nd h (lookF_mem q) rfl
    rw [this]
theorem isort_rgI (l m : Int) : isort (rgI l m) = rgI l m := isort_id ((rgI_pw _ _).imp fun h => Int.le_of_lt h)
section
variable {n : Nat} {a b : List Int} {F : Fd} {R : List (List Int)}
theorem keys_perm (pa : Per n a) (pb : Per n b) (I : Inv n a b F R) (fu : Full b F R) : (F.map (·.1)).Perm (uL n a b) := by
  rw [List.perm_ext_iff_of_nodup I.kn (uL_nodup _ _ _)]
  intro p
  constructor
  · intro h
    obtain ⟨e, he, rfl⟩ := List.mem_map.mp h
    exact (I.ok e he).2.2.1
  · intro h
    obtain ⟨e, he, q, _⟩ := fu.counts pa pb I h (Int.le_refl _) (lst_le_mst pa pb h)
    exact List.mem_map.mpr ⟨e, he, q⟩
theorem counts_perm (pa : Per n a) (pb : Per n b) (I : Inv n a b F R) (fu : Full b F R) {e : (Int × Int) × List Int} (he : e ∈ F) : e.2.Perm (wide a b e.1) := by
  have h := I.ok e he
  unfold wide
  rw [List.perm_ext_iff_of_nodup h.1 (rgI_nodup _ _)]
  intro c
  rw [mem_rgI]
  constructor
  · intro hc
    have := h.2.2.2 c hc
    omega
  · intro hc
    obtain ⟨e', he', q, hc'⟩ := fu.counts pa pb I h.2.2.1 hc.1 (by omega)
    rw [keyF I.kn he he' q.symm]
    exact hc'
end
section
variable {n : Nat} {a b : List Int} {F : Fd} {R : List (List Int)}
theorem min_of (pa : Per n a) (pb : Per n b) (I : Inv n a b F R) (fu : Full b F R) {e : (Int × Int) × List Int} (he : e ∈ F) : minL e.2 = lst a b e.1.1 e.1.2 ∧ maxL e.2 = mst a b e.1.1 e.1.2 := by
  have h := I.ok e he
  have p := counts_perm pa pb I fu he
  have hle := lst_le_mst pa pb h.2.2.1
  obtain ⟨m1, m2⟩ := minL_spec e.2 h.2.1
  obtain ⟨k1, k2⟩ := maxL_spec e.2 h.2.1
  have q : ∀ c, c ∈ e.2 ↔ lst a b e.1.1 e.1.2 ≤ c ∧ c < mst a b e.1.1 e.1.2 + 1 := fun c => by
    rw [p.mem_iff]
    unfold wide
    rw [mem_rgI]
  have z1 := (q _).mp m1
  have z2 := m2 _ ((q (lst a b e.1.1 e.1.2)).mpr ⟨by omega, by omega⟩)
  have z3 := (q _).mp k1
  have z4 := k2 _ ((q (mst a b e.1.1 e.1.2)).mpr ⟨by omega, by omega⟩)
  omega
theorem pTup_of {ka : VEnv → Option (List (D × M))} {ve : VEnv} {r : List (D × M)} (h : ka ve = some r) (hl : r.length ≤ lim) (hd : allDp r = true) : pTup ka ve = some (.tup (r.map (·.1)), .dp) := by
  unfold pTup
  rw [h]
  show (if r.length ≤ lim then _ else _) = _
  rw [if_pos hl, if_pos hd]
theorem gMin_iD {cs : List Int} (h : cs ≠ []) : gMin [iD cs] = some (.int (minL cs), .dp) := by
  unfold iD gMin
  simp only [toInts_map, Option.bind_some]
  rw [if_neg (by simpa using h)]
theorem gMax_iD {cs : List Int} (h : cs ≠ []) : gMax [iD cs] = some (.int (maxL cs), .dp) := by
  unfold iD gMax
  simp only [toInts_map, Option.bind_some]
  rw [if_neg (by simpa using h)]
theorem ix_fD (I : Inv n a b F R) {e : (Int × Int) × List Int} (he : e ∈ F) : gIx (fD F) (.tup [.int e.1.1, .int e.1.2]) = some (iD e.2, .sh) := by
  show ((isKeyT (.tup [.int e.1.1, .int e.1.2])).bind fun k => (look (F.map fun e => kp e.1) (F.map fun e => iD e.2) k).bind fun d => some (d, im d)) = _
  rw [show isKeyT (.tup [.int e.1.1, .int e.1.2]) = some (kp e.1) from rfl]
  simp only [Option.bind_some]
  rw [look_fD, lookF_of I.kn he]
  rfl
theorem sorted_fD (pa : Per n a) (pb : Per n b) (I : Inv n a b F R) (fu : Full b F R) : gSortedD [fD F] = some (.lst ((uL n a b).map pD), .dp) := by
  have e1 : ∀ F : Fd, pairsK (F.map fun e => kp e.1) = some (F.map (·.1)) := by
    intro F
    induction F with
    | nil => rfl
    | cons e F ih =>
      show (pairsK (F.map fun e => kp e.1)).bind _ = _
      rw [ih]
      rfl
  show (pairsK (F.map fun e => kp e.1)).bind _ = _
  rw [e1]
  simp only [Option.bind_some]
  have : psort (F.map (·.1)) = uL n a b := psort_uniq (psort_sorted _) ((uL_pw n a b).imp fun h => by
    unfold pLt at h
    unfold pLe
    omega) ((psort_perm _).trans (keys_perm pa pb I fu))
  rw [this]
def cv19 (y0 y1 y2 y3 : Option D) (F : Fd) (y5 y6 : Option D) : VEnv := [y0, y1, y2, y3, some (fD F), y5, y6, none, none, none]
theorem c_right_1 (pa : Per n a) (pb : Per n b) (hn : n ≤ 200) (I : Inv n a b F R) (fu : Full b F R) (y0 y1 y2 y3 y5 y6 : Option D) : c_l_right_1 (cv19 y0 y1 y2 y3 F y5 y6) = some (.lst ((PC n a b).map qD), .dp) := by
  have h1 : iLst (pCB gSortedD (aCons (pVar 4) aNil)) (cv19 y0 y1 y2 y3 F y5 y6) = some ((uL n a b).map pD) := by
    unfold iLst
    rw [(pCB_of (ds := [(fD F, .sh)]) rfl).trans (sorted_fD pa pb I fu)]
    rfl
  have e1 := pComp_eq (vs := [7, 8]) (g := gTupD 2 (gsC (gSet 7) (gsC (gSet 8) gsN))) (t := bYes) (e := pTup (aCons (pVar 7) (aCons (pVar 8) (aCons (pCB gMin (aCons (p2 gIx (pVar 4) (pTup (aCons (pVar 7) (aCons (pVar 8) aNil)))) aNil)) (aCons (pCB gMax (aCons (p2 gIx (pVar 4) (pTup (aCons (pVar 7) (aCons (pVar 8) aNil)))) aNil)) aNil))))) h1
    (by rw [List.length_map]; have := uL_len n a b; have := Nat.mul_le_mul hn hn; exact le_lim (by omega))
    (compL_all (out := fun p => (qD (qOf a b p), M.dp)) fun p hp => ⟨[y0, y1, y2, y3, some (fD F), y5, y6, some (.int p.1), some (.int p.2), none], rfl, by
      obtain ⟨e, he, rfl⟩ := List.mem_map.mp ((keys_perm pa pb I fu).mem_iff.mpr hp)
      have hne := (I.ok e he).2.1
      have q : p2 gIx (pVar 4) (pTup (aCons (pVar 7) (aCons (pVar 8) aNil))) [y0, y1, y2, y3, some (fD F), y5, y6, some (.int e.1.1), some (.int e.1.2), none] = some (iD e.2, .sh) :=
        (p2_of (d1 := fD F) (m1 := .sh) (d2 := .tup [.int e.1.1, .int e.1.2]) (m2 := .dp) rfl rfl).trans (ix_fD I he)
      obtain ⟨k1, k2⟩ := min_of pa pb I fu he
      have g1 := (pCB_of (g := gMin) (aCons_of q (ka := aNil) (ds := []) rfl)).trans (gMin_iD hne)
      have g2 := (pCB_of (g := gMax) (aCons_of q (ka := aNil) (ds := []) rfl)).trans (gMax_iD hne)
      rw [k1] at g1
      rw [k2] at g2
      have v7 : pVar 7 [y0, y1, y2, y3, some (fD F), y5, y6, some (.int e.1.1), some (.int e.1.2), none] = some (.int e.1.1, .dp) := rfl
      have v8 : pVar 8 [y0, y1, y2, y3, some (fD F), y5, y6, some (.int e.1.1), some (.int e.1.2), none] = some (.int e.1.2, .dp) := rfl
      exact pTup_of (aCons_of v7 (aCons_of v8 (aCons_of g1 (aCons_of g2 (ka := aNil) rfl)))) (show 4 ≤ 16777216 by decide) rfl⟩)
  unfold c_l_right_1
  rw [e1]
  have e2 : dm (List.map (fun p => (qD (qOf a b p), M.dp)) (uL n a b)) = .dp := by
    unfold dm
    rw [if_pos (allDp_map fun _ _ => rfl)]
  rw [e2]
  simp [PC, List.map_map, Function.comp_def]
theorem c_right_2 (pa : Per n a) (pb : Per n b) (hn : n ≤ 200) (I : Inv n a b F R) (fu : Full b F R) (y0 y1 y2 y3 y5 y6 : Option D) : c_l_right_2 (cv19 y0 y1 y2 y3 F y5 y6) = some (.lst [], .dp) := by
  have h1 : iKeysV 4 (cv19 y0 y1 y2 y3 F y5 y6) = some (F.map fun e => D.tup [.int e.1.1, .int e.1.2]) := by
    show some ((F.map fun e => kp e.1).map keyTD) = _
    rw [List.map_map]
    rfl
  have e1 := pComp_eq (vs := [9]) (g := gSet 9) (t := (tOf (p2 gNe (pCB gSortedD (aCons (p2 gIx (pVar 4) (pVar 9)) aNil)) (pLr (iRg2 (pCB gMin (aCons (p2 gIx (pVar 4) (pVar 9)) aNil)) (p2 gAdd (pCB gMax (aCons (p2 gIx (pVar 4) (pVar 9)) aNil)) (pC (.int 1)))))))) (e := pVar 9) h1
    (by rw [List.length_map]; have := I.lenF; have := Nat.mul_le_mul hn hn; exact le_lim (by omega))
    (compL_go (p := fun _ => false) (out := fun e => (D.tup [.int e.1.1, .int e.1.2], M.dp)) fun e he => ⟨[y0, y1, y2, y3, some (fD F), y5, y6, none, none, some (.tup [.int e.1.1, .int e.1.2])], rfl, by
      have h := I.ok e he
      have hu := mem_uL.mp h.2.2.1
      have l1 := lst_nn a b e.1.1 e.1.2
      have l2 := mst_le a b hu.1 hu.2.2.1
      have hle := lst_le_mst pa pb h.2.2.1
      obtain ⟨k1, k2⟩ := min_of pa pb I fu he
      have q : p2 gIx (pVar 4) (pVar 9) [y0, y1, y2, y3, some (fD F), y5, y6, none, none, some (.tup [.int e.1.1, .int e.1.2])] = some (iD e.2, .sh) :=
        (p2_of (d1 := fD F) (m1 := .sh) (d2 := .tup [.int e.1.1, .int e.1.2]) (m2 := .dp) rfl rfl).trans (ix_fD I he)
      have g0 := (pCB_of (g := gSortedD) (aCons_of q (ka := aNil) (ds := []) rfl)).trans (show gSortedD [iD e.2] = some (iD (wide a b e.1), .dp) by
        show gSorted [.lst (e.2.map .int)] = _
        rw [gSorted_ints, isort_perm_eq (counts_perm pa pb I fu he)]
        unfold wide
        rw [isort_rgI]
        rfl)
      have g1 := (pCB_of (g := gMin) (aCons_of q (ka := aNil) (ds := []) rfl)).trans (gMin_iD h.2.1)
      have g2 := (pCB_of (g := gMax) (aCons_of q (ka := aNil) (ds := []) rfl)).trans (gMax_iD h.2.1)
      rw [k1] at g1
      rw [k2] at g2
      have g3 := (p2_of (g := gAdd) g2 (k := pC (.int 1)) (d2 := .int 1) (m2 := .dp) rfl).trans (show gAdd (.int (mst a b e.1.1 e.1.2)) (.int 1) = some (.int (mst a b e.1.1 e.1.2 + 1), .dp) from rfl)
      have r1 := iRg2_of g1 g3 (bd62_of (by omega)) (bd62_of (by omega))
      have r2 : pLr (iRg2 (pCB gMin (aCons (p2 gIx (pVar 4) (pVar 9)) aNil)) (p2 gAdd (pCB gMax (aCons (p2 gIx (pVar 4) (pVar 9)) aNil)) (pC (.int 1)))) [y0, y1, y2, y3, some (fD F), y5, y6, none, none, some (.tup [.int e.1.1, .int e.1.2])] = some (iD (wide a b e.1), .dp) := by
        unfold pLr
        rw [r1]
        simp only [Option.bind_some]
        rw [if_pos (by rw [rgD_length]; unfold lim; omega), rgD_rgI]
        rfl
      exact tOf_of (m := .dp) ((p2_of g0 r2).trans (ne_selfI _)), fun z => by cases z⟩)
  unfold c_l_right_2
  rw [e1]
  simp [dm, allDp]
end
end L90
set_option Elab.async false
set_option linter.all false
set_option maxRecDepth 100000
set_option maxHeartbeats 4000000
namespace L90
open PySem G Ord0
/-! one trial -/
def en20 (g x1 x2 x3 x4 x5 x6 : Option (D × M)) : Env' := [g, x1, x2, x3, x4, x5, x6, none, none, none]
theorem e_right (g : D × M) (hg : Gn g 0) : ∃ g', r_l_right [g] = some (.bl true, .dp, [g']) := by
  obtain ⟨r1, g1, w1, n1, n2, hg1⟩ := e_random g 0 7 hg (by omega) (by omega) (by omega)
  obtain ⟨n, rfl⟩ : ∃ n : Nat, r1 = (n : Int) := ⟨r1.toNat, by omega⟩
  obtain ⟨g2, a, w2, pa, hg2⟩ := e_order g1 1 n hg1 (by omega) (by omega)
  obtain ⟨r3, g3, w3, _, _, hg3⟩ := e_random g2 (1 + n) 2 hg2 (by omega) (by omega) (by omega)
  have s1 : (sSet [true] 1 (eCall [true, false] 2 r_l_random (caC (rSl 0) (caC (rVl (eB (pC (.int 7)))) caN)))) (en20 (some g) none none none none none none) = some (.nx, en20 (some g1) (some (.int n, .dp)) none none none none none) := by
    simp [iRg1, iRg2, iLst, pLr, runG, outP, im, imm, immL, eB, eV, eS, eMv, eCp, frz, eNil, eCons, eLst, eTup, e2, e1, eCB, eIf, eMut, eMut0, eOn, isLst, eTmp, eCall, callR, takeA, convL, putA, rSl, rVl, caN, caC, eMake, mkR, rdL, sSeq, sIf, sRet, sRetN, sExpr, sSet, putS, sPar, sPar3, sAsg, goTup, goC, goN, unTup, sFor, iLstE, iRg1E, iRg2E, iS, iEnE, iEn, sNext, sNever, tV, tAndE, tOrE, tNotE, tTruE, tOfE, asBE, bAnd, bOr, bNot, bTru, tOf, asB, p2, p1, pC, pVar, pAnd, pOr, pNot, pIf, pChain, pCalG, pCallK, permL, pMake, pMakeK, pMeth, pMeth0, pFld, pIsi, pIsC, isiC, tyN, pCB, gLen, gListD, gList, gDictC, gSortedD, gInt, gAdd, gSub, gI, gC, gLt, gLe, gGt, gGe, gGeX, gIs, gIsNot, isB, aNil, aCons, vw, shv, tru, kb_int_int, kb_int_bool, kb_tup_tup, kb_lst_lst, kb_dk_lst, eAnd, gMod, gFdiv, gMul, gPow, gIx, gSetL, setAtD, inM, gMax, gMin, toInts, maxL, minL, gEq_int, gNe_int, im_int, pLst, pTup, lim, dm, allDp, at_0, at_1, at_2, bd62, en20, w1]
  have s2 : (sSet [true] 2 (eCall [true, false] 2 r_l_order (caC (rSl 0) (caC (rVl (eCp 1)) caN)))) (en20 (some g1) (some (.int n, .dp)) none none none none none) = some (.nx, en20 (some g2) (some (.int n, .dp)) (some (iD a, .dp)) none none none none) := by
    have w2' : r_l_order [g1, (.int (n : Int), .dp)] = some (iD a, .dp, [g2, (.int (n : Int), .dp)]) := w2
    simp [iRg1, iRg2, iLst, pLr, runG, outP, im, imm, immL, eB, eV, eS, eMv, eCp, frz, eNil, eCons, eLst, eTup, e2, e1, eCB, eIf, eMut, eMut0, eOn, isLst, eTmp, eCall, callR, takeA, convL, putA, rSl, rVl, caN, caC, eMake, mkR, rdL, sSeq, sIf, sRet, sRetN, sExpr, sSet, putS, sPar, sPar3, sAsg, goTup, goC, goN, unTup, sFor, iLstE, iRg1E, iRg2E, iS, iEnE, iEn, sNext, sNever, tV, tAndE, tOrE, tNotE, tTruE, tOfE, asBE, bAnd, bOr, bNot, bTru, tOf, asB, p2, p1, pC, pVar, pAnd, pOr, pNot, pIf, pChain, pCalG, pCallK, permL, pMake, pMakeK, pMeth, pMeth0, pFld, pIsi, pIsC, isiC, tyN, pCB, gLen, gListD, gList, gDictC, gSortedD, gInt, gAdd, gSub, gI, gC, gLt, gLe, gGt, gGe, gGeX, gIs, gIsNot, isB, aNil, aCons, vw, shv, tru, kb_int_int, kb_int_bool, kb_tup_tup, kb_lst_lst, kb_dk_lst, eAnd, gMod, gFdiv, gMul, gPow, gIx, gSetL, setAtD, inM, gMax, gMin, toInts, maxL, minL, gEq_int, gNe_int, im_int, pLst, pTup, lim, dm, allDp, at_0, at_1, at_2, bd62, en20, w2']
  have s3 : ∃ g4 b, (sSet [true] 3 (eIf (tOfE (e2 gEq (eCall [true, false] 2 r_l_random (caC (rSl 0) (caC (rVl (eB (pC (.int 2)))) caN))) (eB (pC (.int 0))))) (eCall [true, false] 2 r_l_order (caC (rSl 0) (caC (rVl (eMv 1)) caN))) (eCall [true, true, false] 3 r_l_near (caC (rSl 0) (caC (rSl 2) (caC (rVl (eB (pC (.int 6)))) caN)))))) (en20 (some g2) (some (.int n, .dp)) (some (iD a, .dp)) none none none none) = some (.nx, en20 (some g4) (some (.int n, .dp)) (some (iD a, .dp)) (some (iD b, .dp)) none none none) ∧ Per n b ∧ Gn g4 20 := by
    by_cases hr : r3 = 0
    · obtain ⟨g4, b, w4, pb, hg4⟩ := e_order g3 (1 + n + 1) n hg3 (by omega) (by omega)
      have w4' : r_l_order [g3, (.int (n : Int), .dp)] = some (iD b, .dp, [g4, (.int (n : Int), .dp)]) := w4
      refine ⟨g4, b, ?_, pb, hg4.mono (by omega)⟩
      simp [iRg1, iRg2, iLst, pLr, runG, outP, im, imm, immL, eB, eV, eS, eMv, eCp, frz, eNil, eCons, eLst, eTup, e2, e1, eCB, eIf, eMut, eMut0, eOn, isLst, eTmp, eCall, callR, takeA, convL, putA, rSl, rVl, caN, caC, eMake, mkR, rdL, sSeq, sIf, sRet, sRetN, sExpr, sSet, putS, sPar, sPar3, sAsg, goTup, goC, goN, unTup, sFor, iLstE, iRg1E, iRg2E, iS, iEnE, iEn, sNext, sNever, tV, tAndE, tOrE, tNotE, tTruE, tOfE, asBE, bAnd, bOr, bNot, bTru, tOf, asB, p2, p1, pC, pVar, pAnd, pOr, pNot, pIf, pChain, pCalG, pCallK, permL, pMake, pMakeK, pMeth, pMeth0, pFld, pIsi, pIsC, isiC, tyN, pCB, gLen, gListD, gList, gDictC, gSortedD, gInt, gAdd, gSub, gI, gC, gLt, gLe, gGt, gGe, gGeX, gIs, gIsNot, isB, aNil, aCons, vw, shv, tru, kb_int_int, kb_int_bool, kb_tup_tup, kb_lst_lst, kb_dk_lst, eAnd, gMod, gFdiv, gMul, gPow, gIx, gSetL, setAtD, inM, gMax, gMin, toInts, maxL, minL, gEq_int, gNe_int, im_int, pLst, pTup, lim, dm, allDp, at_0, at_1, at_2, bd62, en20, w3, w4', hr]
    · obtain ⟨g4, b, w4, hg4, pb⟩ := e_near g3 (1 + n + 1) a 6 hg3 (by omega) pa (by omega)
      have w4' : r_l_near [g3, (iD a, .dp), (.int 6, .dp)] = some (iD b, .dp, [g4, (iD a, .dp), (.int 6, .dp)]) := w4
      refine ⟨g4, b, ?_, pb, hg4.mono (by omega)⟩
      simp [iRg1, iRg2, iLst, pLr, runG, outP, im, imm, immL, eB, eV, eS, eMv, eCp, frz, eNil, eCons, eLst, eTup, e2, e1, eCB, eIf, eMut, eMut0, eOn, isLst, eTmp, eCall, callR, takeA, convL, putA, rSl, rVl, caN, caC, eMake, mkR, rdL, sSeq, sIf, sRet, sRetN, sExpr, sSet, putS, sPar, sPar3, sAsg, goTup, goC, goN, unTup, sFor, iLstE, iRg1E, iRg2E, iS, iEnE, iEn, sNext, sNever, tV, tAndE, tOrE, tNotE, tTruE, tOfE, asBE, bAnd, bOr, bNot, bTru, tOf, asB, p2, p1, pC, pVar, pAnd, pOr, pNot, pIf, pChain, pCalG, pCallK, permL, pMake, pMakeK, pMeth, pMeth0, pFld, pIsi, pIsC, isiC, tyN, pCB, gLen, gListD, gList, gDictC, gSortedD, gInt, gAdd, gSub, gI, gC, gLt, gLe, gGt, gGe, gGeX, gIs, gIsNot, isB, aNil, aCons, vw, shv, tru, kb_int_int, kb_int_bool, kb_tup_tup, kb_lst_lst, kb_dk_lst, eAnd, gMod, gFdiv, gMul, gPow, gIx, gSetL, setAtD, inM, gMax, gMin, toInts, maxL, minL, gEq_int, gNe_int, im_int, pLst, pTup, lim, dm, allDp, at_0, at_1, at_2, bd62, en20, w3, w4', hr]
  obtain ⟨g4, b, s3, pb, hg4⟩ := s3
  have w5 := e_two_right pa pb (by omega)
  have t4 : (tNotE (tTruE (eCall [true, false] 2 r_l_two_right (caC (rSl 2) (caC (rVl (eCp 3)) caN))))) (en20 (some g4) (some (.int n, .dp)) (some (iD a, .dp)) (some (iD b, .dp)) none none none) = some (false, en20 (some g4) (some (.int n, .dp)) (some (iD a, .dp)) (some (iD b, .sh)) none none none) := by
    simp [iRg1, iRg2, iLst, pLr, runG, outP, im, imm, immL, eB, eV, eS, eMv, eCp, frz, eNil, eCons, eLst, eTup, e2, e1, eCB, eIf, eMut, eMut0, eOn, isLst, eTmp, eCall, callR, takeA, convL, putA, rSl, rVl, caN, caC, eMake, mkR, rdL, sSeq, sIf, sRet, sRetN, sExpr, sSet, putS, sPar, sPar3, sAsg, goTup, goC, goN, unTup, sFor, iLstE, iRg1E, iRg2E, iS, iEnE, iEn, sNext, sNever, tV, tAndE, tOrE, tNotE, tTruE, tOfE, asBE, bAnd, bOr, bNot, bTru, tOf, asB, p2, p1, pC, pVar, pAnd, pOr, pNot, pIf, pChain, pCalG, pCallK, permL, pMake, pMakeK, pMeth, pMeth0, pFld, pIsi, pIsC, isiC, tyN, pCB, gLen, gListD, gList, gDictC, gSortedD, gInt, gAdd, gSub, gI, gC, gLt, gLe, gGt, gGe, gGeX, gIs, gIsNot, isB, aNil, aCons, vw, shv, tru, kb_int_int, kb_int_bool, kb_tup_tup, kb_lst_lst, kb_dk_lst, eAnd, gMod, gFdiv, gMul, gPow, gIx, gSetL, setAtD, inM, gMax, gMin, toInts, maxL, minL, gEq_int, gNe_int, im_int, pLst, pTup, lim, dm, allDp, at_0, at_1, at_2, bd62, en20, w5, imm_iD]
  obtain ⟨F, m, R, w6, hm, I, fu⟩ := e_seen pa pb (by omega)
  have s5 : (sSet [true] 4 (eCall [false, false] 2 r_l_seen (caC (rVl (eCp 2)) (caC (rVl (eCp 3)) caN)))) (en20 (some g4) (some (.int n, .dp)) (some (iD a, .dp)) (some (iD b, .sh)) none none none) = some (.nx, en20 (some g4) (some (.int n, .dp)) (some (iD a, .sh)) (some (iD b, .sh)) (some (fD F, m)) none none) := by
    simp [iRg1, iRg2, iLst, pLr, runG, outP, im, imm, immL, eB, eV, eS, eMv, eCp, frz, eNil, eCons, eLst, eTup, e2, e1, eCB, eIf, eMut, eMut0, eOn, isLst, eTmp, eCall, callR, takeA, convL, putA, rSl, rVl, caN, caC, eMake, mkR, rdL, sSeq, sIf, sRet, sRetN, sExpr, sSet, putS, sPar, sPar3, sAsg, goTup, goC, goN, unTup, sFor, iLstE, iRg1E, iRg2E, iS, iEnE, iEn, sNext, sNever, tV, tAndE, tOrE, tNotE, tTruE, tOfE, asBE, bAnd, bOr, bNot, bTru, tOf, asB, p2, p1, pC, pVar, pAnd, pOr, pNot, pIf, pChain, pCalG, pCallK, permL, pMake, pMakeK, pMeth, pMeth0, pFld, pIsi, pIsC, isiC, tyN, pCB, gLen, gListD, gList, gDictC, gSortedD, gInt, gAdd, gSub, gI, gC, gLt, gLe, gGt, gGe, gGeX, gIs, gIsNot, isB, aNil, aCons, vw, shv, tru, kb_int_int, kb_int_bool, kb_tup_tup, kb_lst_lst, kb_dk_lst, eAnd, gMod, gFdiv, gMul, gPow, gIx, gSetL, setAtD, inM, gMax, gMin, toInts, maxL, minL, gEq_int, gNe_int, im_int, pLst, pTup, lim, dm, allDp, at_0, at_1, at_2, bd62, en20, w6, imm_iD, imm_fD]
  have v6 : vw (en20 (some g4) (some (.int n, .dp)) (some (iD a, .sh)) (some (iD b, .sh)) (some (fD F, m)) none none) = cv19 (some g4.1) (some (.int n)) (some (iD a)) (some (iD b)) F none none := rfl
  have t6 : (tV (tOf (p2 gNe c_l_right_1 (pCalG 2 r_pair_counts (aCons (pVar 2) (aCons (pVar 3) aNil)))))) (en20 (some g4) (some (.int n, .dp)) (some (iD a, .sh)) (some (iD b, .sh)) (some (fD F, m)) none none) = some (false, en20 (some g4) (some (.int n, .dp)) (some (iD a, .sh)) (some (iD b, .sh)) (some (fD F, m)) none none) := by
    refine tV_of ?_
    rw [v6]
    have q : pCalG 2 r_pair_counts (aCons (pVar 2) (aCons (pVar 3) aNil)) (cv19 (some g4.1) (some (.int n)) (some (iD a)) (some (iD b)) F none none) = some (.lst ((PC n a b).map qD), .dp) :=
      pCalG_of (ds := [(iD a, .sh), (iD b, .sh)]) rfl rfl (by simpa [rdL, im, imm_iD] using e_pair_counts pa pb (by omega))
    exact tOf_of (m := .dp) ((p2_of (c_right_1 pa pb (by omega) I fu _ _ _ _ _ _) q).trans (ne_self _))
  have t7 : (tV (tOf (p2 gNe c_l_right_2 (pLst aNil)))) (en20 (some g4) (some (.int n, .dp)) (some (iD a, .sh)) (some (iD b, .sh)) (some (fD F, m)) none none) = some (false, en20 (some g4) (some (.int n, .dp)) (some (iD a, .sh)) (some (iD b, .sh)) (some (fD F, m)) none none) := by
    refine tV_of ?_
    rw [v6]
    refine tOf_of (m := .dp) ((p2_of (c_right_2 pa pb (by omega) I fu _ _ _ _ _ _) (k := pLst aNil) (d2 := .lst []) (m2 := .dp) rfl).trans ?_)
    exact gNe_ints [] []
  obtain ⟨r8, g8, w8, k1, k2, hg8⟩ := e_random g4 20 14 hg4 (by omega) (by omega) (by omega)
  obtain ⟨N, hN⟩ : ∃ N : Nat, 7 + r8 = (N : Int) := ⟨(7 + r8).toNat, by omega⟩
  obtain ⟨g9, c, w9, pc, hg9⟩ := e_order g8 21 N hg8 (by omega) (by omega)
  have w9' : r_l_order [g8, (.int (N : Int), .dp)] = some (iD c, .dp, [g9, (.int (N : Int), .dp)]) := w9
  have s8 : (sSet [true] 5 (e2 gAdd (eB (pC (.int 7))) (eCall [true, false] 2 r_l_random (caC (rSl 0) (caC (rVl (eB (pC (.int 14)))) caN))))) (en20 (some g4) (some (.int n, .dp)) (some (iD a, .sh)) (some (iD b, .sh)) (some (fD F, m)) none none) = some (.nx, en20 (some g8) (some (.int n, .dp)) (some (iD a, .sh)) (some (iD b, .sh)) (some (fD F, m)) (some (.int N, .dp)) none) := by
    simp [iRg1, iRg2, iLst, pLr, runG, outP, im, imm, immL, eB, eV, eS, eMv, eCp, frz, eNil, eCons, eLst, eTup, e2, e1, eCB, eIf, eMut, eMut0, eOn, isLst, eTmp, eCall, callR, takeA, convL, putA, rSl, rVl, caN, caC, eMake, mkR, rdL, sSeq, sIf, sRet, sRetN, sExpr, sSet, putS, sPar, sPar3, sAsg, goTup, goC, goN, unTup, sFor, iLstE, iRg1E, iRg2E, iS, iEnE, iEn, sNext, sNever, tV, tAndE, tOrE, tNotE, tTruE, tOfE, asBE, bAnd, bOr, bNot, bTru, tOf, asB, p2, p1, pC, pVar, pAnd, pOr, pNot, pIf, pChain, pCalG, pCallK, permL, pMake, pMakeK, pMeth, pMeth0, pFld, pIsi, pIsC, isiC, tyN, pCB, gLen, gListD, gList, gDictC, gSortedD, gInt, gAdd, gSub, gI, gC, gLt, gLe, gGt, gGe, gGeX, gIs, gIsNot, isB, aNil, aCons, vw, shv, tru, kb_int_int, kb_int_bool, kb_tup_tup, kb_lst_lst, kb_dk_lst, eAnd, gMod, gFdiv, gMul, gPow, gIx, gSetL, setAtD, inM, gMax, gMin, toInts, maxL, minL, gEq_int, gNe_int, im_int, pLst, pTup, lim, dm, allDp, at_0, at_1, at_2, bd62, en20, w8, hN]
  have s9 : (sSet [true] 6 (eCall [true, false] 2 r_l_order (caC (rSl 0) (caC (rVl (eCp 5)) caN)))) (en20 (some g8) (some (.int n, .dp)) (some (iD a, .sh)) (some (iD b, .sh)) (some (fD F, m)) (some (.int N, .dp)) none) = some (.nx, en20 (some g9) (some (.int n, .dp)) (some (iD a, .sh)) (some (iD b, .sh)) (some (fD F, m)) (some (.int N, .dp)) (some (iD c, .dp))) := by
    simp [iRg1, iRg2, iLst, pLr, runG, outP, im, imm, immL, eB, eV, eS, eMv, eCp, frz, eNil, eCons, eLst, eTup, e2, e1, eCB, eIf, eMut, eMut0, eOn, isLst, eTmp, eCall, callR, takeA, convL, putA, rSl, rVl, caN, caC, eMake, mkR, rdL, sSeq, sIf, sRet, sRetN, sExpr, sSet, putS, sPar, sPar3, sAsg, goTup, goC, goN, unTup, sFor, iLstE, iRg1E, iRg2E, iS, iEnE, iEn, sNext, sNever, tV, tAndE, tOrE, tNotE, tTruE, tOfE, asBE, bAnd, bOr, bNot, bTru, tOf, asB, p2, p1, pC, pVar, pAnd, pOr, pNot, pIf, pChain, pCalG, pCallK, permL, pMake, pMakeK, pMeth, pMeth0, pFld, pIsi, pIsC, isiC, tyN, pCB, gLen, gListD, gList, gDictC, gSortedD, gInt, gAdd, gSub, gI, gC, gLt, gLe, gGt, gGe, gGeX, gIs, gIsNot, isB, aNil, aCons, vw, shv, tru, kb_int_int, kb_int_bool, kb_tup_tup, kb_lst_lst, kb_dk_lst, eAnd, gMod, gFdiv, gMul, gPow, gIx, gSetL, setAtD, inM, gMax, gMin, toInts, maxL, minL, gEq_int, gNe_int, im_int, pLst, pTup, lim, dm, allDp, at_0, at_1, at_2, bd62, en20, w9']
  obtain ⟨g10, d, w10, hg10, pd⟩ := e_near g9 (21 + N) c 200 hg9 (by omega) pc (by omega)
  have w10' : r_l_near [g9, (iD c, .dp), (.int 200, .dp)] = some (iD d, .dp, [g10, (iD c, .dp), (.int 200, .dp)]) := w10
  obtain ⟨g11, e, w11, pe, hg11⟩ := e_order g10 (21 + N + 200) N hg10 (by omega) (by omega)
  have w11' : r_l_order [g10, (.int (N : Int), .dp)] = some (iD e, .dp, [g11, (.int (N : Int), .dp)]) := w11
  have w12 := e_two_right pc pd (by omega)
  have w13 := e_two_right pc pe (by omega)
  have r10 : (eAnd (eCall [true, false] 2 r_l_two_right (caC (rSl 6) (caC (rVl (eCall [true, true, false] 3 r_l_near (caC (rSl 0) (caC (rSl 6) (caC (rVl (eB (pC (.int 200)))) caN))))) caN))) (eCall [true, false] 2 r_l_two_right (caC (rSl 6) (caC (rVl (eCall [true, false] 2 r_l_order (caC (rSl 0) (caC (rVl (eMv 5)) caN)))) caN)))) (en20 (some g9) (some (.int n, .dp)) (some (iD a, .sh)) (some (iD b, .sh)) (some (fD F, m)) (some (.int N, .dp)) (some (iD c, .dp))) = some (.bl true, .dp, en20 (some g11) (some (.int n, .dp)) (some (iD a, .sh)) (some (iD b, .sh)) (some (fD F, m)) (some (.int N, .dp)) (some (iD c, .dp))) := by
    have b1 : (eCall [true, false] 2 r_l_two_right (caC (rSl 6) (caC (rVl (eCall [true, true, false] 3 r_l_near (caC (rSl 0) (caC (rSl 6) (caC (rVl (eB (pC (.int 200)))) caN))))) caN))) (en20 (some g9) (some (.int n, .dp)) (some (iD a, .sh)) (some (iD b, .sh)) (some (fD F, m)) (some (.int N, .dp)) (some (iD c, .dp))) = some (.bl true, .dp, en20 (some g10) (some (.int n, .dp)) (some (iD a, .sh)) (some (iD b, .sh)) (some (fD F, m)) (some (.int N, .dp)) (some (iD c, .dp))) := by
      simp [iRg1, iRg2, iLst, pLr, runG, outP, im, imm, immL, eB, eV, eS, eMv, eCp, frz, eNil, eCons, eLst, eTup, e2, e1, eCB, eIf, eMut, eMut0, eOn, isLst, eTmp, eCall, callR, takeA, convL, putA, rSl, rVl, caN, caC, eMake, mkR, rdL, sSeq, sIf, sRet, sRetN, sExpr, sSet, putS, sPar, sPar3, sAsg, goTup, goC, goN, unTup, sFor, iLstE, iRg1E, iRg2E, iS, iEnE, iEn, sNext, sNever, tV, tAndE, tOrE, tNotE, tTruE, tOfE, asBE, bAnd, bOr, bNot, bTru, tOf, asB, p2, p1, pC, pVar, pAnd, pOr, pNot, pIf, pChain, pCalG, pCallK, permL, pMake, pMakeK, pMeth, pMeth0, pFld, pIsi, pIsC, isiC, tyN, pCB, gLen, gListD, gList, gDictC, gSortedD, gInt, gAdd, gSub, gI, gC, gLt, gLe, gGt, gGe, gGeX, gIs, gIsNot, isB, aNil, aCons, vw, shv, tru, kb_int_int, kb_int_bool, kb_tup_tup, kb_lst_lst, kb_dk_lst, eAnd, gMod, gFdiv, gMul, gPow, gIx, gSetL, setAtD, inM, gMax, gMin, toInts, maxL, minL, gEq_int, gNe_int, im_int, pLst, pTup, lim, dm, allDp, at_0, at_1, at_2, bd62, en20, w10', w12, imm_iD]
    have b2 : (eCall [true, false] 2 r_l_two_right (caC (rSl 6) (caC (rVl (eCall [true, false] 2 r_l_order (caC (rSl 0) (caC (rVl (eMv 5)) caN)))) caN))) (en20 (some g10) (some (.int n, .dp)) (some (iD a, .sh)) (some (iD b, .sh)) (some (fD F, m)) (some (.int N, .dp)) (some (iD c, .dp))) = some (.bl true, .dp, en20 (some g11) (some (.int n, .dp)) (some (iD a, .sh)) (some (iD b, .sh)) (some (fD F, m)) (some (.int N, .dp)) (some (iD c, .dp))) := by
      simp [iRg1, iRg2, iLst, pLr, runG, outP, im, imm, immL, eB, eV, eS, eMv, eCp, frz, eNil, eCons, eLst, eTup, e2, e1, eCB, eIf, eMut, eMut0, eOn, isLst, eTmp, eCall, callR, takeA, convL, putA, rSl, rVl, caN, caC, eMake, mkR, rdL, sSeq, sIf, sRet, sRetN, sExpr, sSet, putS, sPar, sPar3, sAsg, goTup, goC, goN, unTup, sFor, iLstE, iRg1E, iRg2E, iS, iEnE, iEn, sNext, sNever, tV, tAndE, tOrE, tNotE, tTruE, tOfE, asBE, bAnd, bOr, bNot, bTru, tOf, asB, p2, p1, pC, pVar, pAnd, pOr, pNot, pIf, pChain, pCalG, pCallK, permL, pMake, pMakeK, pMeth, pMeth0, pFld, pIsi, pIsC, isiC, tyN, pCB, gLen, gListD, gList, gDictC, gSortedD, gInt, gAdd, gSub, gI, gC, gLt, gLe, gGt, gGe, gGeX, gIs, gIsNot, isB, aNil, aCons, vw, shv, tru, kb_int_int, kb_int_bool, kb_tup_tup, kb_lst_lst, kb_dk_lst, eAnd, gMod, gFdiv, gMul, gPow, gIx, gSetL, setAtD, inM, gMax, gMin, toInts, maxL, minL, gEq_int, gNe_int, im_int, pLst, pTup, lim, dm, allDp, at_0, at_1, at_2, bd62, en20, w11', w13, imm_iD]
    unfold eAnd
    rw [b1]
    simp only [Option.bind_some, tru]
    exact b2
  refine ⟨g11, ?_⟩
  unfold r_l_right runG b_l_right
  simp only [List.map_cons, List.map_nil, List.replicate, List.cons_append, List.nil_append]
  rw [sSeq_nx (e := [some g, none, none, none, none, none, none, none, none, none]) s1, sSeq_nx s2, sSeq_nx s3, sSeq_nx (sIf_f t4), sSeq_nx s5, sSeq_nx (sIf_f t6), sSeq_nx (sIf_f t7), sSeq_nx s8, sSeq_nx s9, sRet_of r10]
  rfl
end L90
set_option Elab.async false
set_option linter.all false
set_option maxRecDepth 100000
set_option maxHeartbeats 4000000
namespace L90
open PySem G Ord0
/-! the fixed cases -/
theorem uL_self (n : Int) (a : List Int) : uL n a a = [] := by
  rw [List.eq_nil_iff_forall_not_mem]
  intro p hp
  have := (mem_uL.mp hp).2.2.2
  unfold dis at this
  simp at this
theorem ND_self (n : Nat) (a : List Int) : ND n a a = [] := by
  unfold ND NK
  rw [uL_self]
  rfl
theorem PC_1 : PC 5 [3, 4, 0, 1, 2] [3, 0, 1, 2, 4] = [((0, 4), (1, 1)), ((1, 4), (1, 1)), ((2, 4), (1, 1))] := by decide +kernel
theorem ND_3 : ND 4 [0, 1, 2, 3] [3, 2, 1, 0] = [0, 1, 2] := by decide +kernel
def high : List Int := rgI 1 61 ++ [0, 61]
def high2 : List Int := rgI 1 61 ++ [61, 0]
theorem per_high : Per 62 high := by unfold Per; decide +kernel
theorem per_high2 : Per 62 high2 := by unfold Per; decide +kernel
theorem ND_2 : ND 62 high high2 = [60] := by decide +kernel
theorem PC_wide : (PC 40 (rgI 0 40) (rgI 0 40).reverse).length = 780 := by decide +kernel
theorem per_1 : Per 5 [3, 4, 0, 1, 2] ∧ Per 5 [3, 0, 1, 2, 4] ∧ Per 4 [0, 1, 2, 3] ∧ Per 4 [3, 2, 1, 0] ∧ Per 0 [] ∧ Per 1 [0] := by unfold Per; decide +kernel
end L90
set_option Elab.async false
set_option linter.all false
set_option maxRecDepth 100000
set_option maxHeartbeats 4000000
namespace L90
open PySem G Ord0
theorem st_law_1 (ns : List Int) (i : Int) (h0 : 0 ≤ i) (h1 : i ≤ 100) : b_law_1 [some (.scr ns, .sh), some (.int i, .dp), none, none, none] = some (.nx, [some (.scr ns, .sh), some (.int i, .dp), none, none, none]) := by
  obtain ⟨g, e, hg⟩ := e_generator ns i h0 h1
  obtain ⟨g', e2⟩ := e_right (g, .dp) hg
  have q : pCalG 2 r_l_generator (aCons (pVar 0) (aCons (pVar 1) aNil)) [some (.scr ns), some (.int i), none, none, none] = some (g, .dp) :=
    pCalG_of (ds := [(.scr ns, .sh), (.int i, .dp)]) rfl rfl (by simpa [rdL, im, imm] using e)
  have q2 : eB (pCalG 2 r_l_generator (aCons (pVar 0) (aCons (pVar 1) aNil))) [some (.scr ns, .sh), some (.int i, .dp), none, none, none] = some (g, .dp, [some (.scr ns, .sh), some (.int i, .dp), none, none, none]) := eB_dp q
  have t : (tNotE (tTruE (eCall [true] 1 r_l_right (caC (rVl (eB (pCalG 2 r_l_generator (aCons (pVar 0) (aCons (pVar 1) aNil))))) caN)))) [some (.scr ns, .sh), some (.int i, .dp), none, none, none] = some (false, [some (.scr ns, .sh), some (.int i, .dp), none, none, none]) := by
    simp [tNotE, tTruE, eCall, caC, caN, rVl, q2, callR, takeA, convL, e2, putA, tru]
  unfold b_law_1
  rw [sIf_f t]
  rfl
theorem gAdd_ints (xs ys : List Int) (h : xs.length + ys.length ≤ lim) : gAdd (.lst (xs.map .int)) (.lst (ys.map .int)) = some (iD (xs ++ ys), .dp) := by
  show (if (xs.map D.int).length + (ys.map D.int).length ≤ lim then some (D.lst (xs.map D.int ++ ys.map D.int), lm (xs.map D.int ++ ys.map D.int)) else none) = _
  rw [if_pos (by rw [List.length_map, List.length_map]; exact h), ← List.map_append, lm_ints]
  rfl
theorem lit_1 (ve : VEnv) : pCalG 2 r_pair_counts (aCons (pLst (aCons (pC (.int 3)) (aCons (pC (.int 4)) (aCons (pC (.int 0)) (aCons (pC (.int 1)) (aCons (pC (.int 2)) aNil)))))) (aCons (pLst (aCons (pC (.int 3)) (aCons (pC (.int 0)) (aCons (pC (.int 1)) (aCons (pC (.int 2)) (aCons (pC (.int 4)) aNil)))))) aNil)) ve = some (.lst ((PC 5 [3, 4, 0, 1, 2] [3, 0, 1, 2, 4]).map qD), .dp) :=
  pCalG_of (ds := [(iD [3, 4, 0, 1, 2], .dp), (iD [3, 0, 1, 2, 4], .dp)]) rfl rfl (by simpa [rdL, im, imm_iD] using e_pair_counts per_1.1 per_1.2.1 (by decide))
theorem lit_2 (ve : VEnv) : pCalG 2 r_needed (aCons (pLst aNil) (aCons (pLst aNil) aNil)) ve = some (iD [], .dp) :=
  pCalG_of (ds := [(iD [], .dp), (iD [], .dp)]) rfl rfl (by simpa [rdL, im, imm_iD, ND_self] using e_needed per_1.2.2.2.2.1 per_1.2.2.2.2.1 (by decide))
theorem lit_3 (ve : VEnv) : pCalG 2 r_needed (aCons (pLst (aCons (pC (.int 0)) (aCons (pC (.int 1)) (aCons (pC (.int 2)) (aCons (pC (.int 3)) aNil))))) (aCons (pLst (aCons (pC (.int 3)) (aCons (pC (.int 2)) (aCons (pC (.int 1)) (aCons (pC (.int 0)) aNil))))) aNil)) ve = some (iD [0, 1, 2], .dp) :=
  pCalG_of (ds := [(iD [0, 1, 2, 3], .dp), (iD [3, 2, 1, 0], .dp)]) rfl rfl (by simpa [rdL, im, imm_iD, ND_3] using e_needed per_1.2.2.1 per_1.2.2.2.1 (by decide))
theorem lit_4 (ve : VEnv) : pCalG 2 r_needed (aCons (pLst (aCons (pC (.int 0)) aNil)) (aCons (pLst (aCons (pC (.int 0)) aNil)) aNil)) ve = some (iD [], .dp) :=
  pCalG_of (ds := [(iD [0], .dp), (iD [0], .dp)]) rfl rfl (by simpa [rdL, im, imm_iD, ND_self] using e_needed per_1.2.2.2.2.2 per_1.2.2.2.2.2 (by decide))
theorem ne_nil : gNe (iD []) (.lst []) = some (.bl false, .dp) := ne_selfI []
theorem law_true (ns : List Int) (hl : ns.length ≤ 63) : ∃ m ps, r_law [(.scr ns, .sh)] = some (.bl true, m, ps) := by
  obtain ⟨e1, q1, y1, rfl⟩ := forL_inv (g := putS [false] 1) (b := b_law_1) (ds := rgD 0 3)
    (I := fun j e => ∃ y1, e = [some (.scr ns, .sh), y1, none, none, none])
    (fun j d e hd ⟨y1, he⟩ => by
      have hj : j < ((3 : Int) - 0).toNat := by
        have := (List.getElem?_eq_some_iff.mp hd).1
        rwa [rgD_length] at this
      rw [rgD_get hj] at hd
      cases hd
      have q := st_law_1 ns (0 + (j : Int)) (by omega) (by omega)
      subst he
      exact ⟨_, _, by simp [putS, im_int], q, _, rfl⟩)
    [some (.scr ns, .sh), none, none, none, none] ⟨_, rfl⟩
  have s1 : (sFor (iRg1E (eB (pC (.int 3)))) (putS [false] 1) b_law_1) [some (.scr ns, .sh), none, none, none, none] = some (.nx, [some (.scr ns, .sh), y1, none, none, none]) := by
    refine sFor_of ?_ q1
    simp [iRg1, iRg2, iLst, pLr, runG, outP, im, imm, immL, eB, eV, eS, eMv, eCp, frz, eNil, eCons, eLst, eTup, e2, e1, eCB, eIf, eMut, eMut0, eOn, isLst, eTmp, eCall, callR, takeA, convL, putA, rSl, rVl, caN, caC, eMake, mkR, rdL, sSeq, sIf, sRet, sRetN, sExpr, sSet, putS, sPar, sPar3, sAsg, goTup, goC, goN, unTup, sFor, iLstE, iRg1E, iRg2E, iS, iEnE, iEn, sNext, sNever, tV, tAndE, tOrE, tNotE, tTruE, tOfE, asBE, bAnd, bOr, bNot, bTru, tOf, asB, p2, p1, pC, pVar, pAnd, pOr, pNot, pIf, pChain, pCalG, pCallK, permL, pMake, pMakeK, pMeth, pMeth0, pFld, pIsi, pIsC, isiC, tyN, pCB, gLen, gListD, gList, gDictC, gSortedD, gInt, gAdd, gSub, gI, gC, gLt, gLe, gGt, gGe, gGeX, gIs, gIsNot, isB, aNil, aCons, vw, shv, tru, kb_int_int, kb_int_bool, kb_tup_tup, kb_lst_lst, kb_dk_lst, eAnd, gMod, gFdiv, gMul, gPow, gIx, gSetL, setAtD, inM, gMax, gMin, toInts, maxL, minL, gEq_int, gNe_int, im_int, pLst, pTup, lim, dm, allDp, at_0, at_1, at_2, bd62]
  let E2 : Env' := [some (.scr ns, .sh), y1, none, none, none]
  have t2 : (tV (bOr (tOf (p2 gNe (pCalG 2 r_pair_counts (aCons (pLst (aCons (pC (.int 3)) (aCons (pC (.int 4)) (aCons (pC (.int 0)) (aCons (pC (.int 1)) (aCons (pC (.int 2)) aNil)))))) (aCons (pLst (aCons (pC (.int 3)) (aCons (pC (.int 0)) (aCons (pC (.int 1)) (aCons (pC (.int 2)) (aCons (pC (.int 4)) aNil)))))) aNil))) (pLst (aCons (pTup (aCons (pC (.int 0)) (aCons (pC (.int 4)) (aCons (pC (.int 1)) (aCons (pC (.int 1)) aNil))))) (aCons (pTup (aCons (pC (.int 1)) (aCons (pC (.int 4)) (aCons (pC (.int 1)) (aCons (pC (.int 1)) aNil))))) (aCons (pTup (aCons (pC (.int 2)) (aCons (pC (.int 4)) (aCons (pC (.int 1)) (aCons (pC (.int 1)) aNil))))) aNil)))))) (tOf (p2 gNe (pCalG 2 r_needed (aCons (pLst aNil) (aCons (pLst aNil) aNil))) (pLst aNil))))) E2 = some (false, E2) := by
    refine tV_of ?_
    have z : (pLst (aCons (pTup (aCons (pC (.int 0)) (aCons (pC (.int 4)) (aCons (pC (.int 1)) (aCons (pC (.int 1)) aNil))))) (aCons (pTup (aCons (pC (.int 1)) (aCons (pC (.int 4)) (aCons (pC (.int 1)) (aCons (pC (.int 1)) aNil))))) (aCons (pTup (aCons (pC (.int 2)) (aCons (pC (.int 4)) (aCons (pC (.int 1)) (aCons (pC (.int 1)) aNil))))) aNil)))) (vw E2) = some (.lst ((PC 5 [3, 4, 0, 1, 2] [3, 0, 1, 2, 4]).map qD), .dp) := by
      rw [PC_1]
      rfl
    rw [bOr_f (tOf_of (m := .dp) ((p2_of (lit_1 _) z).trans (ne_self _)))]
    exact tOf_of (m := .dp) ((p2_of (lit_2 _) (k := pLst aNil) (d2 := .lst []) (m2 := .dp) rfl).trans ne_nil)
  let E3 : Env' := [some (.scr ns, .sh), y1, some (iD high, .dp), none, none]
  have s3 : (sSet [false] 2 (eB (p2 gAdd (pLr (iRg2 (pC (.int 1)) (pC (.int 61)))) (pLst (aCons (pC (.int 0)) (aCons (pC (.int 61)) aNil)))))) E2 = some (.nx, E3) := by
    have r : pLr (iRg2 (pC (.int 1)) (pC (.int 61))) (vw E2) = some (.lst ((rgI 1 61).map .int), .dp) := by
      unfold pLr
      rw [iRg2_of (i := 1) (j := 61) (m := .dp) (m' := .dp) rfl rfl (by decide) (by decide), rgD_rgI]
      rfl
    have e : gAdd (.lst ((rgI 1 61).map .int)) (.lst [.int 0, .int 61]) = some (iD high, .dp) := by
      exact gAdd_ints (rgI 1 61) [0, 61] (by rw [rgI_len]; decide)
    exact sSet_nx (eB_dp ((p2_of r (k := (pLst (aCons (pC (.int 0)) (aCons (pC (.int 61)) aNil)))) (d2 := .lst [.int 0, .int 61]) (m2 := .dp) rfl).trans e)) rfl
  have t4 : (tV (bOr (tOf (p2 gNe (pCalG 2 r_needed (aCons (pVar 2) (aCons (p2 gAdd (pSl (pVar 2) oNone (oSome (pC (.int 60)))) (pLst (aCons (pC (.int 61)) (aCons (pC (.int 0)) aNil)))) aNil))) (pLst (aCons (pC (.int 60)) aNil)))) (tOf (p2 gNe (pCalG 2 r_needed (aCons (pLst (aCons (pC (.int 0)) (aCons (pC (.int 1)) (aCons (pC (.int 2)) (aCons (pC (.int 3)) aNil))))) (aCons (pLst (aCons (pC (.int 3)) (aCons (pC (.int 2)) (aCons (pC (.int 1)) (aCons (pC (.int 0)) aNil))))) aNil))) (pLst (aCons (pC (.int 0)) (aCons (pC (.int 1)) (aCons (pC (.int 2)) aNil)))))))) E3 = some (false, E3) := by
    refine tV_of ?_
    have sl : pSl (pVar 2) oNone (oSome (pC (.int 60))) (vw E3) = some (.lst ((rgI 1 61).map .int), .dp) := by
      show gSl (iD high) none (some ((60 : Nat) : Int)) = _
      have h : high.take 60 = rgI 1 61 := by unfold high; rw [List.take_append_of_le_length (by rw [rgI_len]; decide)]; exact List.take_of_length_le (by rw [rgI_len]; decide)
      simp only [iD, gSl]
      rw [cut_to, ← List.map_take, h, lm_ints]
    have e : gAdd (.lst ((rgI 1 61).map .int)) (.lst [.int 61, .int 0]) = some (iD high2, .dp) := by
      exact gAdd_ints (rgI 1 61) [61, 0] (by rw [rgI_len]; decide)
    have o := (p2_of sl (k := (pLst (aCons (pC (.int 61)) (aCons (pC (.int 0)) aNil)))) (d2 := .lst [.int 61, .int 0]) (m2 := .dp) rfl).trans e
    have v2 : pVar 2 (vw E3) = some (iD high, .sh) := rfl
    have en := e_needed per_high per_high2 (by decide)
    rw [ND_2] at en
    have q : pCalG 2 r_needed (aCons (pVar 2) (aCons (p2 gAdd (pSl (pVar 2) oNone (oSome (pC (.int 60)))) (pLst (aCons (pC (.int 61)) (aCons (pC (.int 0)) aNil)))) aNil)) (vw E3) = some (iD [60], .dp) :=
      pCalG_of (ds := [(iD high, .sh), (iD high2, .dp)]) (aCons_of v2 (aCons_of o rfl)) rfl (by simpa [rdL, im, imm_iD] using en)
    rw [bOr_f (tOf_of (m := .dp) ((p2_of q (k := (pLst (aCons (pC (.int 60)) aNil))) (d2 := iD [60]) (m2 := .dp) rfl).trans (ne_selfI _)))]
    exact tOf_of (m := .dp) ((p2_of (lit_3 _) (k := (pLst (aCons (pC (.int 0)) (aCons (pC (.int 1)) (aCons (pC (.int 2)) aNil))))) (d2 := iD [0, 1, 2]) (m2 := .dp) rfl).trans (ne_selfI _))
  let E5 : Env' := [some (.scr ns, .sh), y1, some (iD high, .dp), some (iD (rgI 0 200), .dp), some (iD (rgI 0 40), .dp)]
  have s5 : (sPar [false] 3 4 (eCons (eB (pLr (iRg1 (pC (.int 200))))) (eCons (eB (pLr (iRg1 (pC (.int 40))))) eNil))) E3 = some (.nx, E5) := by
    have r1 : eB (pLr (iRg1 (pC (.int 200)))) E3 = some (iD (rgI 0 200), .dp, E3) := by
      refine eB_dp ?_
      unfold pLr
      rw [iRg1_of (j := 200) (m := .dp) rfl (by decide), rgD_rgI]
      rfl
    have r2 : eB (pLr (iRg1 (pC (.int 40)))) E3 = some (iD (rgI 0 40), .dp, E3) := by
      refine eB_dp ?_
      unfold pLr
      rw [iRg1_of (j := 40) (m := .dp) rfl (by decide), rgD_rgI]
      rfl
    unfold sPar
    rw [eCons_of r1 (eCons_of r2 (k := eNil) rfl)]
    rfl
  have p200 : Per 200 (rgI 0 200) := List.Perm.refl _
  have p40 : Per 40 (rgI 0 40) := List.Perm.refl _
  have r6 := sRet_of (eB_dp (env := E5) (f := (pAnd (p2 gEq (pCalG 2 r_needed (aCons (pVar 3) (aCons (pVar 3) aNil))) (pLst aNil)) (pAnd (p2 gEq (pCB gLen (aCons (pCalG 2 r_pair_counts (aCons (pVar 4) (aCons (p1 gRev (pVar 4)) aNil))) aNil)) (pC (.int 780))) (p2 gEq (pCalG 2 r_needed (aCons (pLst (aCons (pC (.int 0)) aNil)) (aCons (pLst (aCons (pC (.int 0)) aNil)) aNil))) (pLst aNil))))) (d := .bl true) (by
    have v3 : pVar 3 (vw E5) = some (iD (rgI 0 200), .sh) := rfl
    have v4 : pVar 4 (vw E5) = some (iD (rgI 0 40), .sh) := rfl
    have q1 : pCalG 2 r_needed (aCons (pVar 3) (aCons (pVar 3) aNil)) (vw E5) = some (iD [], .dp) := by
      have en := e_needed p200 p200 (by decide)
      rw [ND_self] at en
      exact pCalG_of (ds := [(iD (rgI 0 200), .sh), (iD (rgI 0 200), .sh)]) (aCons_of v3 (aCons_of v3 rfl)) rfl (by simpa [rdL, im, imm_iD] using en)
    have rv : p1 gRev (pVar 4) (vw E5) = some (iD (rgI 0 40).reverse, .dp) := by
      refine (p1_of v4).trans ?_
      simp only [iD, gRev]
      rw [← List.map_reverse, lm_ints]
    have q2 : pCB gLen (aCons (pCalG 2 r_pair_counts (aCons (pVar 4) (aCons (p1 gRev (pVar 4)) aNil))) aNil) (vw E5) = some (.int 780, .dp) := by
      have en := e_pair_counts p40 p40.rev (by decide)
      have q : pCalG 2 r_pair_counts (aCons (pVar 4) (aCons (p1 gRev (pVar 4)) aNil)) (vw E5) = some (.lst ((PC 40 (rgI 0 40) (rgI 0 40).reverse).map qD), .dp) :=
        pCalG_of (ds := [(iD (rgI 0 40), .sh), (iD (rgI 0 40).reverse, .dp)]) (aCons_of v4 (aCons_of rv rfl)) rfl (by simpa [rdL, im, imm_iD] using en)
      refine (pCB_of (aCons_of q rfl)).trans ?_
      show some (D.int (((PC 40 (rgI 0 40) (rgI 0 40).reverse).map qD).length : Int), M.dp) = _
      rw [List.length_map, PC_wide]
      rfl
    rw [pAnd_t (m := .dp) ((p2_of q1 (k := pLst aNil) (d2 := iD []) (m2 := .dp) rfl).trans (eq_selfI _)), pAnd_t (m := .dp) ((p2_of q2 (k := pC (.int 780)) (d2 := .int 780) (m2 := .dp) rfl).trans (by rw [gEq_int]; simp))]
    exact (p2_of (lit_4 _) (k := pLst aNil) (d2 := iD []) (m2 := .dp) rfl).trans (eq_selfI _)))
  refine ⟨.dp, [(.scr ns, .sh)], ?_⟩
  unfold r_law runG b_law
  simp only [List.map_cons, List.map_nil, List.replicate, List.cons_append, List.nil_append]
  rw [sSeq_nx s1, sSeq_nx (e := [some (.scr ns, .sh), y1, none, none, none]) (sIf_f t2), sSeq_nx s3, sSeq_nx (sIf_f t4), sSeq_nx s5, r6]
  simp [outP, E5, im, imm]
end L90
set_option Elab.async false
set_option linter.all false
set_option maxRecDepth 100000
set_option maxHeartbeats 4000000

/-! L90: the defs run so -/
namespace L90
open PySem L2 G

def top (i : Nat) : Stmt := PySem.Challenge.pw_gapswaps_k90_whole_counts_that_pairs_nee.main.body.getD i (.Pass ⟨0, 0, 0, 0⟩)
/-- the tables -/
def tx (tabs : List (Addr × Str)) (cl : Nat → Addr) : Tx := ⟨tabs, cl, fun c => match c with
  | _ => []⟩
/-- what the text gives -/
structure Facts (K : PySem.W.Frag) (mg : Str → Option Value) (tabs : List (Addr × Str)) (cl : Nat → Addr) : Prop where
  g_bool : mg "bool" = none
  g_dict : mg "dict" = none
  g_enumerate : mg "enumerate" = none
  g_int : mg "int" = none
  g_isinstance : mg "isinstance" = none
  g_len : mg "len" = none
  g_list : mg "list" = none
  g_max : mg "max" = none
  g_min : mg "min" = none
  g_range : mg "range" = none
  g_repr : mg "repr" = none
  g_sorted : mg "sorted" = none
  g_sum : mg "sum" = none
  g_tuple : mg "tuple" = none
  c_MOST_LENGTH : ∃ t, mg "MOST_LENGTH" = some (.int 200 t)
section
variable {P : Program} {w : World} {K : PySem.W.Frag} {mg : Str → Option Value} {base : Heap} {tabs : List (Addr × Str)} {cl : Nat → Addr}
abbrev N_is_whole : List Str := ["value"]
theorem sc_is_whole : FnScope N_is_whole ["value"] (defScope (top 6)) := ⟨rfl, rfl, rfl, by decide +kernel, rfl, by decide +kernel, by decide +kernel⟩
theorem ok_is_whole {f : Addr} {fd : FuncData} (F : Fun K "is_whole" "is_whole" (top 6) f fd) (S : Facts K mg tabs cl)  : FnG P w K mg base CX0 1 f fd ["value"] (spG K (tx tabs cl) 1 r_is_whole) := by
  exact fn_ok F sc_is_whole rfl rfl fun cdv A outer s H E hr =>
(jss_one (js_ret (je_b (jp_and (jp_isi (t := "int") rfl S.g_isinstance rfl S.g_int (by decide +kernel) (jp_var 0)) (jp_one (jp_not (jp_isi (t := "bool") rfl S.g_isinstance rfl S.g_bool (by decide +kernel) (jp_var 0))))))))
abbrev N_is_between : List Str := ["value", "low", "high"]
theorem sc_is_between : FnScope N_is_between ["value", "low", "high"] (defScope (top 7)) := ⟨rfl, rfl, rfl, by decide +kernel, rfl, by decide +kernel, by decide +kernel⟩
theorem ok_is_between {f : Addr} {fd : FuncData} (F : Fun K "is_between" "is_between" (top 7) f fd) (S : Facts K mg tabs cl) (C_is_whole : CalG P w K mg base (tx tabs cl) 1 "is_whole" 1 r_is_whole) : FnG P w K mg base CX0 2 f fd ["value", "low", "high"] (spG K (tx tabs cl) 3 r_is_between) := by
  exact fn_ok F sc_is_between rfl rfl fun cdv A outer s H E hr =>
(jss_cons (js_if (jte_v (jt_not (jt_val (jp_callG C_is_whole hr (by decide) rfl (ja_cons (jp_var 0) ja_nil)))))
(jss_one (js_ret (je_b jp_bl)))
jss_nil)
(jss_one (js_ret (je_b (jp_and (jp_or (jp_cmp o2_is (jp_var 1) jp_non (nomark _)) (jp_one (jp_cmp (o2_geX (hu0 hr)) (jp_var 0) (jp_var 1) (nomark _)))) (jp_one (jp_or (jp_cmp o2_is (jp_var 2) jp_non (nomark _)) (jp_one (jp_cmp o2_le (jp_var 0) (jp_var 2) (nomark _))))))))))
abbrev N_is_order_list : List Str := ["value", "item"]
theorem sc_is_order_list : FnScope N_is_order_list ["value"] (defScope (top 8)) := ⟨rfl, rfl, rfl, by decide +kernel, rfl, by decide +kernel, by decide +kernel⟩
theorem ok_is_order_list {f : Addr} {fd : FuncData} (F : Fun K "is_order_list" "is_order_list" (top 8) f fd) (S : Facts K mg tabs cl) (C_is_between : CalG P w K mg base (tx tabs cl) 2 "is_between" 3 r_is_between) : FnG P w K mg base CX0 3 f fd ["value"] (spG K (tx tabs cl) 1 r_is_order_list) := by
  obtain ⟨_, c_MOST_LENGTH⟩ := S.c_MOST_LENGTH
  exact fn_ok F sc_is_order_list rfl rfl fun cdv A outer s H E hr =>
(jss_cons (js_if (jte_v (jt_w (jw_or (jt_not (jt_val (jp_isi (t := "list") rfl S.g_isinstance rfl S.g_list (by decide +kernel) (jp_var 0)))) (jw_or1 (jt_cmp o2_gt (jp_callB oc_len rfl S.g_len (by decide +kernel) (ja_cons (jp_var 0) ja_nil)) (jp_gint rfl c_MOST_LENGTH) (nomark _))))))
(jss_one (js_ret (je_b jp_bl)))
jss_nil)
(jss_cons (js_if (jte_v (jt_cmp (o2_ne (hu64 hr)) (jp_comp (own := [("item", 1)]) rfl sc_is_order_list.nd (ji_list (jp_var 0)) (blkOk_by (N := N_is_order_list) (sc := defScope (top 8)) (by decide +kernel)) (fun _ _ _ _ _ => (jg_name sc_is_order_list.nd rfl (by first | exact Or.inl rfl | exact Or.inr rfl))) (fun _ _ _ _ _ => (jts_one (jt_not (jt_val (jp_callG C_is_between hr (by decide) rfl (ja_cons (jp_var 1) (ja_cons jp_int (ja_cons (jp_bin o2_sub (jp_callB oc_len rfl S.g_len (by decide +kernel) (ja_cons (jp_var 0) ja_nil)) jp_int) ja_nil)))))))) (fun _ _ _ _ _ => (jp_var 1))) (jp_lst ja_nil) (nomark _)))
(jss_one (js_ret (je_b jp_bl)))
jss_nil)
(jss_one (js_ret (je_b (jp_cmp (o2_eq (hu64 hr)) (jp_callB (oc_sortedD rfl) rfl S.g_sorted (by decide +kernel) (ja_cons (jp_var 0) ja_nil)) (jp_listRg1 rfl rfl S.g_list rfl S.g_range (jp_callB oc_len rfl S.g_len (by decide +kernel) (ja_cons (jp_var 0) ja_nil))) (nomark _)))))))
abbrev N_check_order : List Str := ["order"]
theorem sc_check_order : FnScope N_check_order ["order"] (defScope (top 9)) := ⟨rfl, rfl, rfl, by decide +kernel, rfl, by decide +kernel, by decide +kernel⟩
theorem ok_check_order {f : Addr} {fd : FuncData} (F : Fun K "check_order" "check_order" (top 9) f fd) (S : Facts K mg tabs cl) (C_is_order_list : CalG P w K mg base (tx tabs cl) 3 "is_order_list" 1 r_is_order_list) : FnG P w K mg base CX0 4 f fd ["order"] (spG K (tx tabs cl) 1 r_check_order) := by
  exact fn_ok F sc_check_order rfl rfl fun cdv A outer s H E hr =>
(jss_one (js_if (jte_v (jt_not (jt_val (jp_callG C_is_order_list hr (by decide) rfl (ja_cons (jp_var 0) ja_nil)))))
jss_never
jss_nil))
abbrev N_places_from : List Str := ["order", "found", "at", "item"]
theorem sc_places_from : FnScope N_places_from ["order"] (defScope (top 10)) := ⟨rfl, rfl, rfl, by decide +kernel, rfl, by decide +kernel, by decide +kernel⟩
theorem ok_places_from {f : Addr} {fd : FuncData} (F : Fun K "places_from" "places_from" (top 10) f fd) (S : Facts K mg tabs cl)  : FnG P w K mg base CX0 1 f fd ["order"] (spG K (tx tabs cl) 1 r_places_from) := by
  exact fn_ok F sc_places_from rfl rfl fun cdv A outer s H E hr =>
(jss_cons (js_set sc_places_from.nd rfl (by first | exact Or.inl rfl | exact Or.inr rfl) (je_b (jp_bin o2_mul (jp_lst (ja_cons jp_int ja_nil)) (jp_callB oc_len rfl S.g_len (by decide +kernel) (ja_cons (jp_var 0) ja_nil)))))
(jss_cons (js_for PassesOwn.never rfl (jie_enum rfl S.g_enumerate (je_mv (j := 0))) (jgo_tup rfl (jgos_cons (jgo_name sc_places_from.nd rfl (by first | exact Or.inl rfl | exact Or.inr rfl)) (jgos_cons (jgo_name sc_places_from.nd rfl (by first | exact Or.inl rfl | exact Or.inr rfl)) jgos_nil)))
(jss_one (js_asg (je_cp (j := 2)) (jgo_setL (j := 1) rfl (jp_var 3)))))
(jss_one (js_ret (je_mv (j := 1))))))
abbrev N_check_two_orders : List Str := ["one", "other"]
theorem sc_check_two_orders : FnScope N_check_two_orders ["one", "other"] (defScope (top 12)) := ⟨rfl, rfl, rfl, by decide +kernel, rfl, by decide +kernel, by decide +kernel⟩
theorem ok_check_two_orders {f : Addr} {fd : FuncData} (F : Fun K "check_two_orders" "check_two_orders" (top 12) f fd) (S : Facts K mg tabs cl) (C_check_order : CalG P w K mg base (tx tabs cl) 4 "check_order" 1 r_check_order) : FnG P w K mg base CX0 5 f fd ["one", "other"] (spG K (tx tabs cl) 2 r_check_two_orders) := by
  exact fn_ok F sc_check_two_orders rfl rfl fun cdv A outer s H E hr =>
(jss_cons (js_expr (je_b (jp_callG C_check_order hr (by decide) rfl (ja_cons (jp_var 0) ja_nil))))
(jss_cons (js_expr (je_b (jp_callG C_check_order hr (by decide) rfl (ja_cons (jp_var 1) ja_nil))))
(jss_one (js_if (jte_v (jt_cmp (o2_ne (hu64 hr)) (jp_callB oc_len rfl S.g_len (by decide +kernel) (ja_cons (jp_var 0) ja_nil)) (jp_callB oc_len rfl S.g_len (by decide +kernel) (ja_cons (jp_var 1) ja_nil)) (nomark _)))
jss_never
jss_nil))))
abbrev N_unlike_pairs : List Str := ["here", "there", "found", "low", "high"]
theorem sc_unlike_pairs : FnScope N_unlike_pairs ["here", "there"] (defScope (top 13)) := ⟨rfl, rfl, rfl, by decide +kernel, rfl, by decide +kernel, by decide +kernel⟩
theorem ok_unlike_pairs {f : Addr} {fd : FuncData} (F : Fun K "unlike_pairs" "unlike_pairs" (top 13) f fd) (S : Facts K mg tabs cl)  : FnG P w K mg base CX0 1 f fd ["here", "there"] (spG K (tx tabs cl) 2 r_unlike_pairs) := by
  exact fn_ok F sc_unlike_pairs rfl rfl fun cdv A outer s H E hr =>
(jss_cons (js_set sc_unlike_pairs.nd rfl (by first | exact Or.inl rfl | exact Or.inr rfl) (je_b (jp_lst ja_nil)))
(jss_cons (js_for PassesOwn.never rfl (jie_range1 rfl S.g_range (je_b (jp_callB oc_len rfl S.g_len (by decide +kernel) (ja_cons (jp_var 0) ja_nil)))) (jgo_name sc_unlike_pairs.nd rfl (by first | exact Or.inl rfl | exact Or.inr rfl))
(jss_one (js_for PassesOwn.never rfl (jie_range2 rfl S.g_range (je_b (jp_bin o2_add (jp_var 3) jp_int)) (je_b (jp_callB oc_len rfl S.g_len (by decide +kernel) (ja_cons (jp_var 0) ja_nil)))) (jgo_name sc_unlike_pairs.nd rfl (by first | exact Or.inl rfl | exact Or.inr rfl))
(jss_one (js_if (jte_v (jt_cmp (o2_ne (hu64 hr)) (jp_cmp o2_lt (jp_ix (ox_ix (hu1 hr)) (jp_var 0) (jp_var 3)) (jp_ix (ox_ix (hu1 hr)) (jp_var 0) (jp_var 4)) (nomark _)) (jp_cmp o2_lt (jp_ix (ox_ix (hu1 hr)) (jp_var 1) (jp_var 3)) (jp_ix (ox_ix (hu1 hr)) (jp_var 1) (jp_var 4)) (nomark _)) (nomark _)))
(jss_one (js_expr (je_mut PySem.F.slot_list_append PySem.F.type_list_append om_append (j := 2) rfl (jae_cons (je_tup (jae_cons (je_cp (j := 3)) (jae_cons (je_cp (j := 4)) jae_nil))) jae_nil))))
jss_nil)))))
(jss_one (js_ret (je_mv (j := 2))))))
abbrev N_counted : List Str := ["here", "there", "low", "high", "least", "most", "number", "ahead", "behind", "one"]
theorem sc_counted : FnScope N_counted ["here", "there", "low", "high"] (defScope (top 14)) := ⟨rfl, rfl, rfl, by decide +kernel, rfl, by decide +kernel, by decide +kernel⟩
theorem ok_counted {f : Addr} {fd : FuncData} (F : Fun K "counted" "counted" (top 14) f fd) (S : Facts K mg tabs cl)  : FnG P w K mg base CX0 1 f fd ["here", "there", "low", "high"] (spG K (tx tabs cl) 4 r_counted) := by
  exact fn_ok F sc_counted rfl rfl fun cdv A outer s H E hr =>
(jss_cons (js_asg (je_tup (jae_cons (je_b jp_int) (jae_cons (je_b jp_int) jae_nil))) (jgo_tup rfl (jgos_cons (jgo_name sc_counted.nd rfl (by first | exact Or.inl rfl | exact Or.inr rfl)) (jgos_cons (jgo_name sc_counted.nd rfl (by first | exact Or.inl rfl | exact Or.inr rfl)) jgos_nil))))
(jss_cons (js_for PassesOwn.never rfl (jie_range2 rfl S.g_range (je_b (jp_bin o2_add (jp_var 2) jp_int)) (je_cp (j := 3))) (jgo_name sc_counted.nd rfl (by first | exact Or.inl rfl | exact Or.inr rfl))
(jss_cons (js_lc (own := [("one", 9)]) rfl sc_counted.nd rfl rfl (by first | rfl | exact sw_true rfl rfl rfl rfl) (ji_list (jp_lst (ja_cons (jp_var 2) (ja_cons (jp_var 3) ja_nil)))) (blkOk_by (N := N_counted) (sc := defScope (top 14)) (by decide +kernel)) (fun _ _ _ _ _ => (jg_name sc_counted.nd rfl (by first | exact Or.inl rfl | exact Or.inr rfl))) (fun _ _ _ _ _ => (jts_one (jt_w (jw_and (jt_cmp o2_lt (jp_ix (ox_ix (hu1 hr)) (jp_var 0) (jp_var 6)) (jp_ix (ox_ix (hu1 hr)) (jp_var 0) (jp_var 9)) (nomark _)) (jw_and1 (jt_cmp o2_lt (jp_ix (ox_ix (hu1 hr)) (jp_var 1) (jp_var 6)) (jp_ix (ox_ix (hu1 hr)) (jp_var 1) (jp_var 9)) (nomark _))))))) (fun _ _ _ _ _ => (jp_var 9)))
(jss_cons (js_lc (own := [("one", 9)]) rfl sc_counted.nd rfl rfl (by first | rfl | exact sw_true rfl rfl rfl rfl) (ji_list (jp_lst (ja_cons (jp_var 2) (ja_cons (jp_var 3) ja_nil)))) (blkOk_by (N := N_counted) (sc := defScope (top 14)) (by decide +kernel)) (fun _ _ _ _ _ => (jg_name sc_counted.nd rfl (by first | exact Or.inl rfl | exact Or.inr rfl))) (fun _ _ _ _ _ => (jts_one (jt_w (jw_and (jt_cmp o2_gt (jp_ix (ox_ix (hu1 hr)) (jp_var 0) (jp_var 6)) (jp_ix (ox_ix (hu1 hr)) (jp_var 0) (jp_var 9)) (nomark _)) (jw_and1 (jt_cmp o2_gt (jp_ix (ox_ix (hu1 hr)) (jp_var 1) (jp_var 6)) (jp_ix (ox_ix (hu1 hr)) (jp_var 1) (jp_var 9)) (nomark _))))))) (fun _ _ _ _ _ => (jp_var 9)))
(jss_one (js_par rfl sc_counted.nd rfl rfl (by decide) rfl rfl (jae_cons (je_b (jp_bin o2_add (jp_var 4) (jp_callTy oc_int rfl S.g_int (by decide +kernel) (ja_cons (jp_cmp (o2_ne (hu64 hr)) (jp_var 7) (jp_lst ja_nil) (nomark _)) ja_nil)))) (jae_cons (je_b (jp_bin o2_add (jp_var 5) (jp_callTy oc_int rfl S.g_int (by decide +kernel) (ja_cons (jp_cmp (o2_eq (hu64 hr)) (jp_var 8) (jp_lst ja_nil) (nomark _)) ja_nil)))) jae_nil)))))))
(jss_one (js_ret (je_tup (jae_cons (je_mv (j := 4)) (jae_cons (je_mv (j := 5)) jae_nil)))))))
abbrev N_counts_of : List Str := ["one", "other", "here", "there", "low", "high"]
theorem sc_counts_of : FnScope N_counts_of ["one", "other"] (defScope (top 15)) := ⟨rfl, rfl, rfl, by decide +kernel, rfl, by decide +kernel, by decide +kernel⟩
theorem ok_counts_of {f : Addr} {fd : FuncData} (F : Fun K "counts_of" "counts_of" (top 15) f fd) (S : Facts K mg tabs cl) (C_places_from : CalG P w K mg base (tx tabs cl) 1 "places_from" 1 r_places_from) (C_unlike_pairs : CalG P w K mg base (tx tabs cl) 1 "unlike_pairs" 2 r_unlike_pairs) (C_counted : CalG P w K mg base (tx tabs cl) 1 "counted" 4 r_counted) : FnG P w K mg base CX0 2 f fd ["one", "other"] (spG K (tx tabs cl) 2 r_counts_of) := by
  exact fn_ok F sc_counts_of rfl rfl fun cdv A outer s H E hr =>
(jss_cons (js_asg (je_tup (jae_cons (je_b (jp_callG C_places_from hr (by decide) rfl (ja_cons (jp_var 0) ja_nil))) (jae_cons (je_b (jp_callG C_places_from hr (by decide) rfl (ja_cons (jp_var 1) ja_nil))) jae_nil))) (jgo_tup rfl (jgos_cons (jgo_name sc_counts_of.nd rfl (by first | exact Or.inl rfl | exact Or.inr rfl)) (jgos_cons (jgo_name sc_counts_of.nd rfl (by first | exact Or.inl rfl | exact Or.inr rfl)) jgos_nil))))
(jss_one (js_ret (je_b (jp_comp (own := [("low", 4), ("high", 5)]) rfl sc_counts_of.nd (ji_list (jp_callG C_unlike_pairs hr (by decide) rfl (ja_cons (jp_var 2) (ja_cons (jp_var 3) ja_nil)))) (blkOk_by (N := N_counts_of) (sc := defScope (top 15)) (by decide +kernel)) (fun _ _ _ _ _ => (jg_tup rfl (jgs_cons (jg_name sc_counts_of.nd rfl (by first | exact Or.inl rfl | exact Or.inr rfl)) (jgs_cons (jg_name sc_counts_of.nd rfl (by first | exact Or.inl rfl | exact Or.inr rfl)) jgs_nil)))) (fun _ _ _ _ _ => jts_nil) (fun _ _ _ _ _ => (jp_bin o2_add (jp_tup (ja_cons (jp_var 4) (ja_cons (jp_var 5) ja_nil))) (jp_callG C_counted hr (by decide) rfl (ja_cons (jp_var 2) (ja_cons (jp_var 3) (ja_cons (jp_var 4) (ja_cons (jp_var 5) ja_nil))))))))))))
abbrev N_needs_of : List Str := ["one", "other", "found", "_", "low", "high", "count"]
theorem sc_needs_of : FnScope N_needs_of ["one", "other"] (defScope (top 16)) := ⟨rfl, rfl, rfl, by decide +kernel, rfl, by decide +kernel, by decide +kernel⟩
theorem ok_needs_of {f : Addr} {fd : FuncData} (F : Fun K "needs_of" "needs_of" (top 16) f fd) (S : Facts K mg tabs cl) (C_counts_of : CalG P w K mg base (tx tabs cl) 2 "counts_of" 2 r_counts_of) : FnG P w K mg base CX0 3 f fd ["one", "other"] (spG K (tx tabs cl) 2 r_needs_of) := by
  exact fn_ok F sc_needs_of rfl rfl fun cdv A outer s H E hr =>
(jss_cons (js_set sc_needs_of.nd rfl (by first | exact Or.inl rfl | exact Or.inr rfl) (je_b jp_dict0))
(jss_cons (js_for PassesOwn.never rfl (jie_list (je_b (jp_callG C_counts_of hr (by decide) rfl (ja_cons (jp_var 0) (ja_cons (jp_var 1) ja_nil))))) (jgo_tup rfl (jgos_cons (jgo_name sc_needs_of.nd rfl (by first | exact Or.inl rfl | exact Or.inr rfl)) (jgos_cons (jgo_name sc_needs_of.nd rfl (by first | exact Or.inl rfl | exact Or.inr rfl)) (jgos_cons (jgo_name sc_needs_of.nd rfl (by first | exact Or.inl rfl | exact Or.inr rfl)) (jgos_cons (jgo_name sc_needs_of.nd rfl (by first | exact Or.inl rfl | exact Or.inr rfl)) jgos_nil)))))
(jss_one (js_expr (je_mutD (j := 2) PySem.F.slot_dict_update PySem.F.type_dict_update om_update rfl (jae_cons (je_b (jp_compD (own := [("count", 6)]) rfl sc_needs_of.nd (ji_range2 rfl S.g_range (jp_var 4) (jp_bin o2_add (jp_var 5) jp_int)) (blkOk_by (N := N_needs_of) (sc := defScope (top 16)) (by decide +kernel)) (fun _ _ _ _ _ => (jg_name sc_needs_of.nd rfl (by first | exact Or.inl rfl | exact Or.inr rfl))) (fun _ _ _ _ _ => jts_nil) (fun _ _ _ _ _ => (jp_var 6)) (fun _ _ _ _ _ => jp_bl))) jae_nil)))))
(jss_one (js_ret (je_b (jp_callB (oc_sortedD rfl) rfl S.g_sorted (by decide +kernel) (ja_cons (jp_callTy (oc_listD rfl) rfl S.g_list (by decide +kernel) (ja_cons (jp_var 2) ja_nil)) ja_nil)))))))
abbrev N_pair_counts : List Str := ["one", "other"]
theorem sc_pair_counts : FnScope N_pair_counts ["one", "other"] (defScope (top 17)) := ⟨rfl, rfl, rfl, by decide +kernel, rfl, by decide +kernel, by decide +kernel⟩
theorem ok_pair_counts {f : Addr} {fd : FuncData} (F : Fun K "pair_counts" "pair_counts" (top 17) f fd) (S : Facts K mg tabs cl) (C_check_two_orders : CalG P w K mg base (tx tabs cl) 5 "check_two_orders" 2 r_check_two_orders) (C_counts_of : CalG P w K mg base (tx tabs cl) 2 "counts_of" 2 r_counts_of) : FnG P w K mg base CX0 6 f fd ["one", "other"] (spG K (tx tabs cl) 2 r_pair_counts) := by
  exact fn_ok F sc_pair_counts rfl rfl fun cdv A outer s H E hr =>
(jss_cons (js_expr (je_b (jp_callG C_check_two_orders hr (by decide) rfl (ja_cons (jp_var 0) (ja_cons (jp_var 1) ja_nil)))))
(jss_one (js_ret (je_b (jp_callG C_counts_of hr (by decide) rfl (ja_cons (jp_var 0) (ja_cons (jp_var 1) ja_nil)))))))
abbrev N_needed : List Str := ["one", "other"]
theorem sc_needed : FnScope N_needed ["one", "other"] (defScope (top 18)) := ⟨rfl, rfl, rfl, by decide +kernel, rfl, by decide +kernel, by decide +kernel⟩
theorem ok_needed {f : Addr} {fd : FuncData} (F : Fun K "needed" "needed" (top 18) f fd) (S : Facts K mg tabs cl) (C_check_two_orders : CalG P w K mg base (tx tabs cl) 5 "check_two_orders" 2 r_check_two_orders) (C_needs_of : CalG P w K mg base (tx tabs cl) 3 "needs_of" 2 r_needs_of) : FnG P w K mg base CX0 6 f fd ["one", "other"] (spG K (tx tabs cl) 2 r_needed) := by
  exact fn_ok F sc_needed rfl rfl fun cdv A outer s H E hr =>
(jss_cons (js_expr (je_b (jp_callG C_check_two_orders hr (by decide) rfl (ja_cons (jp_var 0) (ja_cons (jp_var 1) ja_nil)))))
(jss_one (js_ret (je_b (jp_callG C_needs_of hr (by decide) rfl (ja_cons (jp_var 0) (ja_cons (jp_var 1) ja_nil)))))))
abbrev N_l_hash : List Str := ["_law_seed", "_law_index", "_law_mixed"]
theorem sc_l_hash : FnScope N_l_hash ["_law_seed", "_law_index"] (defScope (top 20)) := ⟨rfl, rfl, rfl, by decide +kernel, rfl, by decide +kernel, by decide +kernel⟩
theorem ok_l_hash {f : Addr} {fd : FuncData} (F : Fun K "_law_hash" "_law_hash" (top 20) f fd) (S : Facts K mg tabs cl)  : FnG P w K mg base CX0 1 f fd ["_law_seed", "_law_index"] (spG K (tx tabs cl) 2 r_l_hash) := by
  exact fn_ok F sc_l_hash rfl rfl fun cdv A outer s H E hr =>
(jss_cons (js_set sc_l_hash.nd rfl (by first | exact Or.inl rfl | exact Or.inr rfl) (je_b (jp_bin o2_mod (jp_callTy oc_int rfl S.g_int (by decide +kernel) (ja_cons (jp_bin o2_add (jp_bin o2_add (jp_bin o2_add (jp_bin o2_mul (jp_var 0) jp_int) (jp_bin o2_mul (jp_bin o2_mul jp_int (jp_var 1)) (jp_var 1))) (jp_bin o2_mul jp_int (jp_var 1))) jp_int) ja_nil)) jp_int)))
(jss_cons (js_set sc_l_hash.nd rfl (by first | exact Or.inl rfl | exact Or.inr rfl) (je_b (jp_bin o2_mod (jp_callTy oc_int rfl S.g_int (by decide +kernel) (ja_cons (jp_bin o2_add (jp_bin o2_add (jp_bin o2_mul (jp_var 2) (jp_var 2)) (jp_bin o2_mul jp_int (jp_var 1))) jp_int) ja_nil)) jp_int)))
(jss_one (js_ret (je_b (jp_bin o2_mod (jp_callTy oc_int rfl S.g_int (by decide +kernel) (ja_cons (jp_bin o2_mul (jp_var 2) jp_int) ja_nil)) jp_int))))))
abbrev N_l_random : List Str := ["_law_generator_here", "_law_bound", "_law_drawn", "_law_turn"]
theorem sc_l_random : FnScope N_l_random ["_law_generator_here", "_law_bound"] (defScope (top 21)) := ⟨rfl, rfl, rfl, by decide +kernel, rfl, by decide +kernel, by decide +kernel⟩
theorem ok_l_random {f : Addr} {fd : FuncData} (F : Fun K "_law_random" "_law_random" (top 21) f fd) (S : Facts K mg tabs cl) (C_l_hash : CalG P w K mg base (tx tabs cl) 1 "_law_hash" 2 r_l_hash) : FnG P w K mg base CX0 2 f fd ["_law_generator_here", "_law_bound"] (spG K (tx tabs cl) 2 r_l_random) := by
  exact fn_ok F sc_l_random rfl rfl fun cdv A outer s H E hr =>
(jss_cons (js_if (jte_v (jt_cmp o2_gt (jp_ix (ox_ix (hu1 hr)) (jp_var 0) jp_int) jp_int (nomark _)))
(jss_cons (js_set sc_l_random.nd rfl (by first | exact Or.inl rfl | exact Or.inr rfl) (je_b (jp_bin o2_mod (jp_callTy oc_int rfl S.g_int (by decide +kernel) (ja_cons (jp_ix (ox_ix (hu1 hr)) (jp_var 0) jp_int) ja_nil)) (jp_var 1))))
(jss_cons (js_asg (je_b (jp_bin o2_fdiv (jp_ix (ox_ix (hu1 hr)) (jp_var 0) jp_int) (jp_var 1))) (jgo_setL (j := 0) rfl jp_int))
(jss_one (js_ret (je_mv (j := 2))))))
jss_nil)
(jss_cons (js_set sc_l_random.nd rfl (by first | exact Or.inl rfl | exact Or.inr rfl) (je_b jp_int))
(jss_cons (js_for PassesOwn.never rfl (jie_range1 rfl S.g_range (je_b (jp_bin o2_add jp_int (jp_bin o2_fdiv (jp_bits (jp_var 1)) jp_int)))) (jgo_name sc_l_random.nd rfl (by first | exact Or.inl rfl | exact Or.inr rfl))
(jss_cons (js_asg (je_b (jp_bin o2_add (jp_ix (ox_ix (hu1 hr)) (jp_var 0) jp_int) jp_int)) (jgo_setL (j := 0) rfl jp_int))
(jss_one (js_set sc_l_random.nd rfl (by first | exact Or.inl rfl | exact Or.inr rfl) (je_b (jp_bin o2_add (jp_bin o2_mul (jp_var 2) jp_int) (jp_callG C_l_hash hr (by decide) rfl (ja_cons (jp_ix (ox_ix (hu1 hr)) (jp_var 0) jp_int) (ja_cons (jp_ix (ox_ix (hu1 hr)) (jp_var 0) jp_int) ja_nil)))))))))
(jss_one (js_ret (je_b (jp_bin o2_mod (jp_callTy oc_int rfl S.g_int (by decide +kernel) (ja_cons (jp_var 2) ja_nil)) (jp_var 1))))))))
abbrev N_l_cell : List Str := ["_law_script", "_law_index"]
theorem sc_l_cell : FnScope N_l_cell ["_law_script", "_law_index"] (defScope (top 22)) := ⟨rfl, rfl, rfl, by decide +kernel, rfl, by decide +kernel, by decide +kernel⟩
theorem ok_l_cell {f : Addr} {fd : FuncData} (F : Fun K "_law_cell" "_law_cell" (top 22) f fd) (S : Facts K mg tabs cl)  : FnG P w K mg base CX0 1 f fd ["_law_script", "_law_index"] (spG K (tx tabs cl) 2 r_l_cell) := by
  exact fn_ok F sc_l_cell rfl rfl fun cdv A outer s H E hr =>
(jss_cons (js_if (jte_v (jt_cmp o2_lt (jp_var 1) (jp_callB oc_len rfl S.g_len (by decide +kernel) (ja_cons (jp_var 0) ja_nil)) (nomark _)))
(jss_one (js_ret (je_b (jp_ix (ox_ix (hu1 hr)) (jp_var 0) (jp_var 1)))))
jss_nil)
(jss_one (js_ret (je_b (jp_bin o2_mod (jp_callB (oc_sum rfl) rfl S.g_sum (by decide +kernel) (ja_cons (jp_slice (jp_var 0) jo_none (jo_some jp_int)) ja_nil)) jp_int)))))
abbrev N_l_generator : List Str := ["_law_script", "_law_index", "_law_seed"]
theorem sc_l_generator : FnScope N_l_generator ["_law_script", "_law_index"] (defScope (top 23)) := ⟨rfl, rfl, rfl, by decide +kernel, rfl, by decide +kernel, by decide +kernel⟩
theorem ok_l_generator {f : Addr} {fd : FuncData} (F : Fun K "_law_generator" "_law_generator" (top 23) f fd) (S : Facts K mg tabs cl) (C_l_cell : CalG P w K mg base (tx tabs cl) 1 "_law_cell" 2 r_l_cell) : FnG P w K mg base CX0 2 f fd ["_law_script", "_law_index"] (spG K (tx tabs cl) 2 r_l_generator) := by
  exact fn_ok F sc_l_generator rfl rfl fun cdv A outer s H E hr =>
(jss_cons (js_set sc_l_generator.nd rfl (by first | exact Or.inl rfl | exact Or.inr rfl) (je_b (jp_callG C_l_cell hr (by decide) rfl (ja_cons (jp_var 0) (ja_cons (jp_var 1) ja_nil)))))
(jss_one (js_ret (je_lst (jae_cons (je_b (jp_bin o2_mod (jp_callTy oc_int rfl S.g_int (by decide +kernel) (ja_cons (jp_callB (oc_max rfl) rfl S.g_max (by decide +kernel) (ja_cons (jp_bin o2_sub (jp_var 2) (jp_bin o2_pow jp_int jp_int)) (ja_cons jp_int ja_nil))) ja_nil)) (jp_bin o2_pow (jp_bin o2_pow jp_int jp_int) jp_int))) (jae_cons (je_b (jp_bin o2_mod (jp_callTy oc_int rfl S.g_int (by decide +kernel) (ja_cons (jp_var 2) ja_nil)) jp_int)) (jae_cons (je_b (jp_bin o2_mul jp_int (jp_var 1))) jae_nil)))))))
abbrev N_l_order : List Str := ["_law_generator_here", "_law_size", "_law_left_here", "_law_found"]
theorem sc_l_order : FnScope N_l_order ["_law_generator_here", "_law_size"] (defScope (top 24)) := ⟨rfl, rfl, rfl, by decide +kernel, rfl, by decide +kernel, by decide +kernel⟩
theorem ok_l_order {f : Addr} {fd : FuncData} (F : Fun K "_law_order" "_law_order" (top 24) f fd) (S : Facts K mg tabs cl) (C_l_random : CalG P w K mg base (tx tabs cl) 2 "_law_random" 2 r_l_random) : FnG P w K mg base CX0 3 f fd ["_law_generator_here", "_law_size"] (spG K (tx tabs cl) 2 r_l_order) := by
  exact fn_ok F sc_l_order rfl rfl fun cdv A outer s H E hr =>
(jss_cons (js_par rfl sc_l_order.nd rfl rfl (by decide) rfl rfl (jae_cons (je_b (jp_listRg1 rfl rfl S.g_list rfl S.g_range (jp_var 1))) (jae_cons (je_b (jp_lst ja_nil)) jae_nil)))
(jss_cons (js_while PassesOwn.never (jte_v (jt_cmp (o2_ne (hu64 hr)) (jp_var 2) (jp_lst ja_nil) (nomark _)))
(jss_one (js_expr (je_mut PySem.F.slot_list_append PySem.F.type_list_append om_append (j := 3) rfl (jae_cons (je_mut PySem.F.slot_list_pop PySem.F.type_list_pop om_popAt (j := 2) rfl (jae_cons (je_call C_l_random [true, false] hr (by decide) rfl (jca_cons (jrv_sl (j := 0) rfl) (jca_cons (jrv_vl (je_b (jp_callB oc_len rfl S.g_len (by decide +kernel) (ja_cons (jp_var 2) ja_nil)))) jca_nil))) jae_nil)) jae_nil)))))
(jss_one (js_ret (je_mv (j := 3))))))
abbrev N_l_exchanged : List Str := ["_law_order_here", "_law_at"]
theorem sc_l_exchanged : FnScope N_l_exchanged ["_law_order_here", "_law_at"] (defScope (top 25)) := ⟨rfl, rfl, rfl, by decide +kernel, rfl, by decide +kernel, by decide +kernel⟩
theorem ok_l_exchanged {f : Addr} {fd : FuncData} (F : Fun K "_law_exchanged" "_law_exchanged" (top 25) f fd) (S : Facts K mg tabs cl)  : FnG P w K mg base CX0 1 f fd ["_law_order_here", "_law_at"] (spG K (tx tabs cl) 2 r_l_exchanged) := by
  exact fn_ok F sc_l_exchanged rfl rfl fun cdv A outer s H E hr =>
(jss_one (js_ret (je_b (jp_bin o2_add (jp_bin o2_add (jp_slice (jp_var 0) jo_none (jo_some (jp_var 1))) (jp_lst (ja_cons (jp_ix (ox_ix (hu1 hr)) (jp_var 0) (jp_bin o2_add (jp_var 1) jp_int)) (ja_cons (jp_ix (ox_ix (hu1 hr)) (jp_var 0) (jp_var 1)) ja_nil)))) (jp_slice (jp_var 0) (jo_some (jp_bin o2_add (jp_var 1) jp_int)) jo_none)))))
abbrev N_l_left : List Str := ["_law_order_here", "_law_at", "_law_low", "_law_high", "_law_number"]
theorem sc_l_left : FnScope N_l_left ["_law_order_here", "_law_at"] (defScope (top 26)) := ⟨rfl, rfl, rfl, by decide +kernel, rfl, by decide +kernel, by decide +kernel⟩
theorem ok_l_left {f : Addr} {fd : FuncData} (F : Fun K "_law_left" "_law_left" (top 26) f fd) (S : Facts K mg tabs cl)  : FnG P w K mg base CX0 1 f fd ["_law_order_here", "_law_at"] (spG K (tx tabs cl) 2 r_l_left) := by
  exact fn_ok F sc_l_left rfl rfl fun cdv A outer s H E hr =>
(jss_cons (js_asg (je_tup (jae_cons (je_b (jp_callB (oc_min rfl) rfl S.g_min (by decide +kernel) (ja_cons (jp_ix (ox_ix (hu1 hr)) (jp_var 0) (jp_var 1)) (ja_cons (jp_ix (ox_ix (hu1 hr)) (jp_var 0) (jp_bin o2_add (jp_var 1) jp_int)) ja_nil)))) (jae_cons (je_b (jp_callB (oc_max rfl) rfl S.g_max (by decide +kernel) (ja_cons (jp_ix (ox_ix (hu1 hr)) (jp_var 0) (jp_var 1)) (ja_cons (jp_ix (ox_ix (hu1 hr)) (jp_var 0) (jp_bin o2_add (jp_var 1) jp_int)) ja_nil)))) jae_nil))) (jgo_tup rfl (jgos_cons (jgo_name sc_l_left.nd rfl (by first | exact Or.inl rfl | exact Or.inr rfl)) (jgos_cons (jgo_name sc_l_left.nd rfl (by first | exact Or.inl rfl | exact Or.inr rfl)) jgos_nil))))
(jss_one (js_ret (je_b (jp_callB oc_len rfl S.g_len (by decide +kernel) (ja_cons (jp_comp (own := [("_law_number", 4)]) rfl sc_l_left.nd (ji_list (jp_slice (jp_var 0) jo_none (jo_some (jp_var 1)))) (blkOk_by (N := N_l_left) (sc := defScope (top 26)) (by decide +kernel)) (fun _ _ _ _ _ => (jg_name sc_l_left.nd rfl (by first | exact Or.inl rfl | exact Or.inr rfl))) (fun _ _ _ _ _ => (jts_one (jt_chain o2_lt o2_lt (jp_var 2) (jp_var 4) (jp_var 3)))) (fun _ _ _ _ _ => (jp_var 4))) ja_nil))))))
abbrev N_l_unlike : List Str := ["_law_one", "_law_other", "_law_places", "_law_found", "_law_at", "_law_low", "_law_high", "_law_number"]
theorem sc_l_unlike : FnScope N_l_unlike ["_law_one", "_law_other"] (defScope (top 27)) := ⟨rfl, rfl, rfl, by decide +kernel, rfl, by decide +kernel, by decide +kernel⟩
theorem ok_l_unlike {f : Addr} {fd : FuncData} (F : Fun K "_law_unlike" "_law_unlike" (top 27) f fd) (S : Facts K mg tabs cl)  : FnG P w K mg base CX0 1 f fd ["_law_one", "_law_other"] (spG K (tx tabs cl) 2 r_l_unlike) := by
  exact fn_ok F sc_l_unlike rfl rfl fun cdv A outer s H E hr =>
(jss_cons (js_par rfl sc_l_unlike.nd rfl rfl (by decide) rfl rfl (jae_cons (je_b (jp_callTy (oc_dict rfl) rfl S.g_dict (by decide +kernel) (ja_cons (jp_comp (own := [("_law_at", 4), ("_law_number", 7)]) rfl sc_l_unlike.nd (ji_enum rfl S.g_enumerate (jp_var 1)) (blkOk_by (N := N_l_unlike) (sc := defScope (top 27)) (by decide +kernel)) (fun _ _ _ _ _ => (jg_tup rfl (jgs_cons (jg_name sc_l_unlike.nd rfl (by first | exact Or.inl rfl | exact Or.inr rfl)) (jgs_cons (jg_name sc_l_unlike.nd rfl (by first | exact Or.inl rfl | exact Or.inr rfl)) jgs_nil)))) (fun _ _ _ _ _ => jts_nil) (fun _ _ _ _ _ => (jp_tup (ja_cons (jp_var 7) (ja_cons (jp_var 4) ja_nil))))) ja_nil))) (jae_cons (je_b (jp_lst ja_nil)) jae_nil)))
(jss_cons (js_for PassesOwn.never rfl (jie_enum rfl S.g_enumerate (je_cp (j := 0))) (jgo_tup rfl (jgos_cons (jgo_name sc_l_unlike.nd rfl (by first | exact Or.inl rfl | exact Or.inr rfl)) (jgos_cons (jgo_name sc_l_unlike.nd rfl (by first | exact Or.inl rfl | exact Or.inr rfl)) jgos_nil)))
(jss_one (js_for PassesOwn.never rfl (jie_list (je_b (jp_slice (jp_var 0) (jo_some (jp_bin o2_add (jp_var 4) jp_int)) jo_none))) (jgo_name sc_l_unlike.nd rfl (by first | exact Or.inl rfl | exact Or.inr rfl))
(jss_one (js_if (jte_v (jt_cmp o2_gt (jp_ix (ox_ix (hu1 hr)) (jp_var 2) (jp_var 5)) (jp_ix (ox_ix (hu1 hr)) (jp_var 2) (jp_var 6)) (nomark _)))
(jss_one (js_expr (je_mut PySem.F.slot_list_append PySem.F.type_list_append om_append (j := 3) rfl (jae_cons (je_tup (jae_cons (je_b (jp_callB (oc_min rfl) rfl S.g_min (by decide +kernel) (ja_cons (jp_var 5) (ja_cons (jp_var 6) ja_nil)))) (jae_cons (je_b (jp_callB (oc_max rfl) rfl S.g_max (by decide +kernel) (ja_cons (jp_var 5) (ja_cons (jp_var 6) ja_nil)))) jae_nil))) jae_nil))))
jss_nil)))))
(jss_one (js_ret (je_b (jp_callB (oc_sortedD rfl) rfl S.g_sorted (by decide +kernel) (ja_cons (jp_var 3) ja_nil)))))))
abbrev N_l_low_high : List Str := ["_law_one", "_law_other", "_law_low", "_law_high", "_law_here", "_law_there", "_law_least", "_law_most", "_law_number", "_law_ahead", "_law_behind", "_law_at", "_law_end"]
theorem sc_l_low_high : FnScope N_l_low_high ["_law_one", "_law_other", "_law_low", "_law_high"] (defScope (top 28)) := ⟨rfl, rfl, rfl, by decide +kernel, rfl, by decide +kernel, by decide +kernel⟩
theorem ok_l_low_high {f : Addr} {fd : FuncData} (F : Fun K "_law_low_high" "_law_low_high" (top 28) f fd) (S : Facts K mg tabs cl)  : FnG P w K mg base CX0 1 f fd ["_law_one", "_law_other", "_law_low", "_law_high"] (spG K (tx tabs cl) 4 r_l_low_high) := by
  exact fn_ok F sc_l_low_high rfl rfl fun cdv A outer s H E hr =>
(jss_cons (js_set sc_l_low_high.nd rfl (by first | exact Or.inl rfl | exact Or.inr rfl) (je_b (jp_callTy (oc_dict rfl) rfl S.g_dict (by decide +kernel) (ja_cons (jp_comp (own := [("_law_at", 11), ("_law_number", 8)]) rfl sc_l_low_high.nd (ji_enum rfl S.g_enumerate (jp_var 0)) (blkOk_by (N := N_l_low_high) (sc := defScope (top 28)) (by decide +kernel)) (fun _ _ _ _ _ => (jg_tup rfl (jgs_cons (jg_name sc_l_low_high.nd rfl (by first | exact Or.inl rfl | exact Or.inr rfl)) (jgs_cons (jg_name sc_l_low_high.nd rfl (by first | exact Or.inl rfl | exact Or.inr rfl)) jgs_nil)))) (fun _ _ _ _ _ => jts_nil) (fun _ _ _ _ _ => (jp_tup (ja_cons (jp_var 8) (ja_cons (jp_var 11) ja_nil))))) ja_nil))))
(jss_cons (js_set sc_l_low_high.nd rfl (by first | exact Or.inl rfl | exact Or.inr rfl) (je_b (jp_callTy (oc_dict rfl) rfl S.g_dict (by decide +kernel) (ja_cons (jp_comp (own := [("_law_at", 11), ("_law_number", 8)]) rfl sc_l_low_high.nd (ji_enum rfl S.g_enumerate (jp_var 1)) (blkOk_by (N := N_l_low_high) (sc := defScope (top 28)) (by decide +kernel)) (fun _ _ _ _ _ => (jg_tup rfl (jgs_cons (jg_name sc_l_low_high.nd rfl (by first | exact Or.inl rfl | exact Or.inr rfl)) (jgs_cons (jg_name sc_l_low_high.nd rfl (by first | exact Or.inl rfl | exact Or.inr rfl)) jgs_nil)))) (fun _ _ _ _ _ => jts_nil) (fun _ _ _ _ _ => (jp_tup (ja_cons (jp_var 8) (ja_cons (jp_var 11) ja_nil))))) ja_nil))))
(jss_cons (js_asg (je_tup (jae_cons (je_b jp_int) (jae_cons (je_b jp_int) jae_nil))) (jgo_tup rfl (jgos_cons (jgo_name sc_l_low_high.nd rfl (by first | exact Or.inl rfl | exact Or.inr rfl)) (jgos_cons (jgo_name sc_l_low_high.nd rfl (by first | exact Or.inl rfl | exact Or.inr rfl)) jgos_nil))))
(jss_cons (js_for PassesOwn.never rfl (jie_range2 rfl S.g_range (je_b (jp_bin o2_add (jp_var 2) jp_int)) (je_cp (j := 3))) (jgo_name sc_l_low_high.nd rfl (by first | exact Or.inl rfl | exact Or.inr rfl))
(jss_cons (js_lc (own := [("_law_end", 12)]) rfl sc_l_low_high.nd rfl rfl (by first | rfl | exact sw_true rfl rfl rfl rfl) (ji_list (jp_lst (ja_cons (jp_var 2) (ja_cons (jp_var 3) ja_nil)))) (blkOk_by (N := N_l_low_high) (sc := defScope (top 28)) (by decide +kernel)) (fun _ _ _ _ _ => (jg_name sc_l_low_high.nd rfl (by first | exact Or.inl rfl | exact Or.inr rfl))) (fun _ _ _ _ _ => (jts_one (jt_w (jw_and (jt_cmp o2_lt (jp_ix (ox_ix (hu1 hr)) (jp_var 4) (jp_var 8)) (jp_ix (ox_ix (hu1 hr)) (jp_var 4) (jp_var 12)) (nomark _)) (jw_and1 (jt_cmp o2_lt (jp_ix (ox_ix (hu1 hr)) (jp_var 5) (jp_var 8)) (jp_ix (ox_ix (hu1 hr)) (jp_var 5) (jp_var 12)) (nomark _))))))) (fun _ _ _ _ _ => (jp_var 12)))
(jss_cons (js_lc (own := [("_law_end", 12)]) rfl sc_l_low_high.nd rfl rfl (by first | rfl | exact sw_true rfl rfl rfl rfl) (ji_list (jp_lst (ja_cons (jp_var 2) (ja_cons (jp_var 3) ja_nil)))) (blkOk_by (N := N_l_low_high) (sc := defScope (top 28)) (by decide +kernel)) (fun _ _ _ _ _ => (jg_name sc_l_low_high.nd rfl (by first | exact Or.inl rfl | exact Or.inr rfl))) (fun _ _ _ _ _ => (jts_one (jt_w (jw_and (jt_cmp o2_gt (jp_ix (ox_ix (hu1 hr)) (jp_var 4) (jp_var 8)) (jp_ix (ox_ix (hu1 hr)) (jp_var 4) (jp_var 12)) (nomark _)) (jw_and1 (jt_cmp o2_gt (jp_ix (ox_ix (hu1 hr)) (jp_var 5) (jp_var 8)) (jp_ix (ox_ix (hu1 hr)) (jp_var 5) (jp_var 12)) (nomark _))))))) (fun _ _ _ _ _ => (jp_var 12)))
(jss_one (js_par rfl sc_l_low_high.nd rfl rfl (by decide) rfl rfl (jae_cons (je_b (jp_bin o2_add (jp_var 6) (jp_callTy oc_int rfl S.g_int (by decide +kernel) (ja_cons (jp_cmp (o2_ne (hu64 hr)) (jp_var 9) (jp_lst ja_nil) (nomark _)) ja_nil)))) (jae_cons (je_b (jp_bin o2_add (jp_var 7) (jp_callTy oc_int rfl S.g_int (by decide +kernel) (ja_cons (jp_cmp (o2_eq (hu64 hr)) (jp_var 10) (jp_lst ja_nil) (nomark _)) ja_nil)))) jae_nil)))))))
(jss_one (js_ret (je_tup (jae_cons (je_mv (j := 2)) (jae_cons (je_mv (j := 3)) (jae_cons (je_mv (j := 6)) (jae_cons (je_mv (j := 7)) jae_nil)))))))))))
abbrev N_l_needs : List Str := ["_law_one", "_law_other", "_law_found", "_law_low", "_law_high", "_law_least", "_law_most", "_law_count"]
theorem sc_l_needs : FnScope N_l_needs ["_law_one", "_law_other"] (defScope (top 29)) := ⟨rfl, rfl, rfl, by decide +kernel, rfl, by decide +kernel, by decide +kernel⟩
theorem ok_l_needs {f : Addr} {fd : FuncData} (F : Fun K "_law_needs" "_law_needs" (top 29) f fd) (S : Facts K mg tabs cl) (C_l_unlike : CalG P w K mg base (tx tabs cl) 1 "_law_unlike" 2 r_l_unlike) (C_l_low_high : CalG P w K mg base (tx tabs cl) 1 "_law_low_high" 4 r_l_low_high) : FnG P w K mg base CX0 2 f fd ["_law_one", "_law_other"] (spG K (tx tabs cl) 2 r_l_needs) := by
  exact fn_ok F sc_l_needs rfl rfl fun cdv A outer s H E hr =>
(jss_cons (js_set sc_l_needs.nd rfl (by first | exact Or.inl rfl | exact Or.inr rfl) (je_b jp_dict0))
(jss_cons (js_for PassesOwn.never rfl (jie_list (je_b (jp_callG C_l_unlike hr (by decide) rfl (ja_cons (jp_var 0) (ja_cons (jp_var 1) ja_nil))))) (jgo_tup rfl (jgos_cons (jgo_name sc_l_needs.nd rfl (by first | exact Or.inl rfl | exact Or.inr rfl)) (jgos_cons (jgo_name sc_l_needs.nd rfl (by first | exact Or.inl rfl | exact Or.inr rfl)) jgos_nil)))
(jss_cons (js_asg (je_b (jp_callG C_l_low_high hr (by decide) rfl (ja_cons (jp_var 0) (ja_cons (jp_var 1) (ja_cons (jp_var 3) (ja_cons (jp_var 4) ja_nil)))))) (jgo_tup rfl (jgos_cons (jgo_name sc_l_needs.nd rfl (by first | exact Or.inl rfl | exact Or.inr rfl)) (jgos_cons (jgo_name sc_l_needs.nd rfl (by first | exact Or.inl rfl | exact Or.inr rfl)) (jgos_cons (jgo_name sc_l_needs.nd rfl (by first | exact Or.inl rfl | exact Or.inr rfl)) (jgos_cons (jgo_name sc_l_needs.nd rfl (by first | exact Or.inl rfl | exact Or.inr rfl)) jgos_nil))))))
(jss_one (js_for PassesOwn.never rfl (jie_range2 rfl S.g_range (je_cp (j := 5)) (je_b (jp_bin o2_add (jp_var 6) jp_int))) (jgo_name sc_l_needs.nd rfl (by first | exact Or.inl rfl | exact Or.inr rfl))
(jss_one (js_asg (je_b jp_bl) (jgo_setD (j := 2) (hu1 hr) rfl (jp_var 7))))))))
(jss_one (js_ret (je_b (jp_callB (oc_sortedD rfl) rfl S.g_sorted (by decide +kernel) (ja_cons (jp_var 2) ja_nil)))))))
abbrev N_l_steps : List Str := ["_law_order_here", "_law_goal", "_law_places", "_law_at", "_law_number"]
theorem sc_l_steps : FnScope N_l_steps ["_law_order_here", "_law_goal"] (defScope (top 30)) := ⟨rfl, rfl, rfl, by decide +kernel, rfl, by decide +kernel, by decide +kernel⟩
theorem ok_l_steps {f : Addr} {fd : FuncData} (F : Fun K "_law_steps" "_law_steps" (top 30) f fd) (S : Facts K mg tabs cl)  : FnG P w K mg base CX0 1 f fd ["_law_order_here", "_law_goal"] (spG K (tx tabs cl) 2 r_l_steps) := by
  exact fn_ok F sc_l_steps rfl rfl fun cdv A outer s H E hr =>
(jss_cons (js_set sc_l_steps.nd rfl (by first | exact Or.inl rfl | exact Or.inr rfl) (je_b (jp_callTy (oc_dict rfl) rfl S.g_dict (by decide +kernel) (ja_cons (jp_comp (own := [("_law_at", 3), ("_law_number", 4)]) rfl sc_l_steps.nd (ji_enum rfl S.g_enumerate (jp_var 1)) (blkOk_by (N := N_l_steps) (sc := defScope (top 30)) (by decide +kernel)) (fun _ _ _ _ _ => (jg_tup rfl (jgs_cons (jg_name sc_l_steps.nd rfl (by first | exact Or.inl rfl | exact Or.inr rfl)) (jgs_cons (jg_name sc_l_steps.nd rfl (by first | exact Or.inl rfl | exact Or.inr rfl)) jgs_nil)))) (fun _ _ _ _ _ => jts_nil) (fun _ _ _ _ _ => (jp_tup (ja_cons (jp_var 4) (ja_cons (jp_var 3) ja_nil))))) ja_nil))))
(jss_one (js_ret (je_b (jp_comp (own := [("_law_at", 3)]) rfl sc_l_steps.nd (ji_range1 rfl S.g_range (jp_bin o2_sub (jp_callB oc_len rfl S.g_len (by decide +kernel) (ja_cons (jp_var 0) ja_nil)) jp_int)) (blkOk_by (N := N_l_steps) (sc := defScope (top 30)) (by decide +kernel)) (fun _ _ _ _ _ => (jg_name sc_l_steps.nd rfl (by first | exact Or.inl rfl | exact Or.inr rfl))) (fun _ _ _ _ _ => (jts_one (jt_cmp o2_gt (jp_ix (ox_ix (hu1 hr)) (jp_var 2) (jp_ix (ox_ix (hu1 hr)) (jp_var 0) (jp_var 3))) (jp_ix (ox_ix (hu1 hr)) (jp_var 2) (jp_ix (ox_ix (hu1 hr)) (jp_var 0) (jp_bin o2_add (jp_var 3) jp_int))) (nomark _)))) (fun _ _ _ _ _ => (jp_var 3)))))))
abbrev N_l_seen : List Str := ["_law_one", "_law_other", "_law_found", "_law_rows", "_law_known", "_law_at", "_law_place", "_law_low", "_law_high", "_law_counts", "_law_count", "_law_fresh"]
theorem sc_l_seen : FnScope N_l_seen ["_law_one", "_law_other"] (defScope (top 31)) := ⟨rfl, rfl, rfl, by decide +kernel, rfl, by decide +kernel, by decide +kernel⟩
theorem ok_l_seen {f : Addr} {fd : FuncData} (F : Fun K "_law_seen" "_law_seen" (top 31) f fd) (S : Facts K mg tabs cl) (C_l_steps : CalG P w K mg base (tx tabs cl) 1 "_law_steps" 2 r_l_steps) (C_l_left : CalG P w K mg base (tx tabs cl) 1 "_law_left" 2 r_l_left) (C_l_exchanged : CalG P w K mg base (tx tabs cl) 1 "_law_exchanged" 2 r_l_exchanged) : FnG P w K mg base CX0 2 f fd ["_law_one", "_law_other"] (spG K (tx tabs cl) 2 r_l_seen) := by
  exact fn_ok F sc_l_seen rfl rfl fun cdv A outer s H E hr =>
(jss_cons (js_asg (je_tup (jae_cons (je_b jp_dictT0) (jae_cons (je_lst (jae_cons (je_b (jp_callTy (oc_listD rfl) rfl S.g_list (by decide +kernel) (ja_cons (jp_var 0) ja_nil))) jae_nil)) (jae_cons (je_b (jp_dictT1 (hu1 hr) (jp_callTy oc_tuple rfl S.g_tuple (by decide +kernel) (ja_cons (jp_var 0) ja_nil)) jp_bl)) (jae_cons (je_b jp_int) jae_nil))))) (jgo_tup rfl (jgos_cons (jgo_name sc_l_seen.nd rfl (by first | exact Or.inl rfl | exact Or.inr rfl)) (jgos_cons (jgo_name sc_l_seen.nd rfl (by first | exact Or.inl rfl | exact Or.inr rfl)) (jgos_cons (jgo_name sc_l_seen.nd rfl (by first | exact Or.inl rfl | exact Or.inr rfl)) (jgos_cons (jgo_name sc_l_seen.nd rfl (by first | exact Or.inl rfl | exact Or.inr rfl)) jgos_nil))))))
(jss_cons (js_while PassesOwn.never (jte_v (jt_cmp o2_lt (jp_var 5) (jp_callB oc_len rfl S.g_len (by decide +kernel) (ja_cons (jp_var 3) ja_nil)) (nomark _)))
(jss_cons (js_for PassesOwn.never rfl (jie_list (je_b (jp_callG C_l_steps hr (by decide) rfl (ja_cons (jp_ix (ox_ix (hu1 hr)) (jp_var 3) (jp_var 5)) (ja_cons (jp_var 1) ja_nil))))) (jgo_name sc_l_seen.nd rfl (by first | exact Or.inl rfl | exact Or.inr rfl))
(jss_cons (js_asg (je_b (jp_callB (oc_sortedD rfl) rfl S.g_sorted (by decide +kernel) (ja_cons (jp_slice (jp_ix (ox_ix (hu1 hr)) (jp_var 3) (jp_var 5)) (jo_some (jp_var 6)) (jo_some (jp_bin o2_add (jp_var 6) jp_int))) ja_nil))) (jgo_lst rfl (jgos_cons (jgo_name sc_l_seen.nd rfl (by first | exact Or.inl rfl | exact Or.inr rfl)) (jgos_cons (jgo_name sc_l_seen.nd rfl (by first | exact Or.inl rfl | exact Or.inr rfl)) jgos_nil))))
(jss_cons (js_set sc_l_seen.nd rfl (by first | exact Or.inl rfl | exact Or.inr rfl) (je_getL (j := 2) (hu1 hr) rfl (jp_tup (ja_cons (jp_var 7) (ja_cons (jp_var 8) ja_nil))) (jp_lst ja_nil) ⟨rfl, rfl, rfl, rfl⟩))
(jss_cons (js_set sc_l_seen.nd rfl (by first | exact Or.inl rfl | exact Or.inr rfl) (je_b (jp_callG C_l_left hr (by decide) rfl (ja_cons (jp_ix (ox_ix (hu1 hr)) (jp_var 3) (jp_var 5)) (ja_cons (jp_var 6) ja_nil)))))
(jss_cons (js_asg (je_if (jte_v (jt_cmp (o2_in (hu65 hr)) (jp_var 10) (jp_var 9) (by with_unfolding_all rfl))) (je_cp (j := 9)) (je_b (jp_bin o2_add (jp_var 9) (jp_lst (ja_cons (jp_var 10) ja_nil))))) (jgo_setD (j := 2) (hu1 hr) rfl (jp_tup (ja_cons (jp_var 7) (ja_cons (jp_var 8) ja_nil)))))
(jss_cons (js_set sc_l_seen.nd rfl (by first | exact Or.inl rfl | exact Or.inr rfl) (je_b (jp_callG C_l_exchanged hr (by decide) rfl (ja_cons (jp_ix (ox_ix (hu1 hr)) (jp_var 3) (jp_var 5)) (ja_cons (jp_var 6) ja_nil)))))
(jss_one (js_if (jte_v (jt_cmp (o2_notIn (hu65 hr)) (jp_callTy oc_tuple rfl S.g_tuple (by decide +kernel) (ja_cons (jp_var 11) ja_nil)) (jp_var 4) (by with_unfolding_all rfl)))
(jss_cons (js_asg (je_b jp_bl) (jgo_setD (j := 4) (hu1 hr) rfl (jp_callTy oc_tuple rfl S.g_tuple (by decide +kernel) (ja_cons (jp_var 11) ja_nil))))
(jss_one (js_expr (je_mut PySem.F.slot_list_append PySem.F.type_list_append om_append (j := 3) rfl (jae_cons (je_cp (j := 11)) jae_nil)))))
jss_nil))))))))
(jss_one (js_set sc_l_seen.nd rfl (by first | exact Or.inl rfl | exact Or.inr rfl) (je_b (jp_bin o2_add (jp_var 5) jp_int))))))
(jss_one (js_ret (je_mv (j := 2))))))
abbrev N_l_near : List Str := ["_law_generator_here", "_law_order_here", "_law_steps_here", "_law_found", "_law_turn"]
theorem sc_l_near : FnScope N_l_near ["_law_generator_here", "_law_order_here", "_law_steps_here"] (defScope (top 32)) := ⟨rfl, rfl, rfl, by decide +kernel, rfl, by decide +kernel, by decide +kernel⟩
theorem ok_l_near {f : Addr} {fd : FuncData} (F : Fun K "_law_near" "_law_near" (top 32) f fd) (S : Facts K mg tabs cl) (C_l_exchanged : CalG P w K mg base (tx tabs cl) 1 "_law_exchanged" 2 r_l_exchanged) (C_l_random : CalG P w K mg base (tx tabs cl) 2 "_law_random" 2 r_l_random) : FnG P w K mg base CX0 3 f fd ["_law_generator_here", "_law_order_here", "_law_steps_here"] (spG K (tx tabs cl) 3 r_l_near) := by
  exact fn_ok F sc_l_near rfl rfl fun cdv A outer s H E hr =>
(jss_cons (js_set sc_l_near.nd rfl (by first | exact Or.inl rfl | exact Or.inr rfl) (je_b (jp_callTy (oc_listD rfl) rfl S.g_list (by decide +kernel) (ja_cons (jp_var 1) ja_nil))))
(jss_cons (js_for PassesOwn.never rfl (jie_range1 rfl S.g_range (je_b (jp_bin o2_mul (jp_var 2) (jp_callTy oc_int rfl S.g_int (by decide +kernel) (ja_cons (jp_cmp o2_gt (jp_callB oc_len rfl S.g_len (by decide +kernel) (ja_cons (jp_var 1) ja_nil)) jp_int (nomark _)) ja_nil))))) (jgo_name sc_l_near.nd rfl (by first | exact Or.inl rfl | exact Or.inr rfl))
(jss_one (js_set sc_l_near.nd rfl (by first | exact Or.inl rfl | exact Or.inr rfl) (je_call C_l_exchanged [false, false] hr (by decide) rfl (jca_cons (jrv_vl (je_cp (j := 3))) (jca_cons (jrv_vl (je_call C_l_random [true, false] hr (by decide) rfl (jca_cons (jrv_sl (j := 0) rfl) (jca_cons (jrv_vl (je_b (jp_bin o2_sub (jp_callB oc_len rfl S.g_len (by decide +kernel) (ja_cons (jp_var 1) ja_nil)) jp_int))) jca_nil)))) jca_nil))))))
(jss_one (js_ret (je_mv (j := 3))))))
abbrev N_l_two_right : List Str := ["_law_one", "_law_other", "_law_kept", "_law_due", "_law_told", "_law_counts", "_law_low", "_law_high"]
theorem sc_l_two_right : FnScope N_l_two_right ["_law_one", "_law_other"] (defScope (top 33)) := ⟨rfl, rfl, rfl, by decide +kernel, rfl, by decide +kernel, by decide +kernel⟩
theorem ok_l_two_right {f : Addr} {fd : FuncData} (F : Fun K "_law_two_right" "_law_two_right" (top 33) f fd) (S : Facts K mg tabs cl) (C_l_unlike : CalG P w K mg base (tx tabs cl) 1 "_law_unlike" 2 r_l_unlike) (C_l_low_high : CalG P w K mg base (tx tabs cl) 1 "_law_low_high" 4 r_l_low_high) (C_pair_counts : CalG P w K mg base (tx tabs cl) 6 "pair_counts" 2 r_pair_counts) (K_pair_counts_1_0 : CalK P w K mg base (tx tabs cl) 6 "pair_counts" 2 ["other", "one"] [1, 0] r_pair_counts) (C_needed : CalG P w K mg base (tx tabs cl) 6 "needed" 2 r_needed) (C_l_needs : CalG P w K mg base (tx tabs cl) 2 "_law_needs" 2 r_l_needs) (K_needed_1_0 : CalK P w K mg base (tx tabs cl) 6 "needed" 2 ["other", "one"] [1, 0] r_needed) : FnG P w K mg base CX0 7 f fd ["_law_one", "_law_other"] (spG K (tx tabs cl) 2 r_l_two_right) := by
  exact fn_ok F sc_l_two_right rfl rfl fun cdv A outer s H E hr =>
(jss_cons (js_set sc_l_two_right.nd rfl (by first | exact Or.inl rfl | exact Or.inr rfl) (je_b (jp_callB (oc_repr hr) rfl S.g_repr (by decide +kernel) (ja_cons (jp_tup (ja_cons (jp_var 0) (ja_cons (jp_var 1) ja_nil))) ja_nil))))
(jss_cons (js_lc (own := [("_law_low", 6), ("_law_high", 7)]) rfl sc_l_two_right.nd rfl rfl (by first | rfl | exact sw_true rfl rfl rfl rfl) (ji_list (jp_callG C_l_unlike hr (by decide) rfl (ja_cons (jp_var 0) (ja_cons (jp_var 1) ja_nil)))) (blkOk_by (N := N_l_two_right) (sc := defScope (top 33)) (by decide +kernel)) (fun _ _ _ _ _ => (jg_tup rfl (jgs_cons (jg_name sc_l_two_right.nd rfl (by first | exact Or.inl rfl | exact Or.inr rfl)) (jgs_cons (jg_name sc_l_two_right.nd rfl (by first | exact Or.inl rfl | exact Or.inr rfl)) jgs_nil)))) (fun _ _ _ _ _ => jts_nil) (fun _ _ _ _ _ => (jp_callG C_l_low_high hr (by decide) rfl (ja_cons (jp_var 0) (ja_cons (jp_var 1) (ja_cons (jp_var 6) (ja_cons (jp_var 7) ja_nil)))))))
(jss_cons (js_if (jte_v (jt_w (jw_or (jt_cmp (o2_ne (hu64 hr)) (jp_callG C_pair_counts hr (by decide) rfl (ja_cons (jp_var 0) (ja_cons (jp_var 1) ja_nil))) (jp_var 3) (nomark _)) (jw_or (jt_cmp (o2_ne (hu64 hr)) (jp_callK K_pair_counts_1_0 hr (by decide) rfl (jk_cons (jp_var 1) (jk_cons (jp_var 0) jk_nil))) (jp_var 3) (nomark _)) (jw_or1 (jt_cmp (o2_ne (hu64 hr)) (jp_callG C_pair_counts hr (by decide) rfl (ja_cons (jp_var 1) (ja_cons (jp_var 0) ja_nil))) (jp_var 3) (nomark _)))))))
(jss_one (js_ret (je_b jp_bl)))
jss_nil)
(jss_cons (js_if (jte_v (jt_w (jw_or (jt_cmp (o2_ne (hu64 hr)) (jp_callG C_needed hr (by decide) rfl (ja_cons (jp_var 0) (ja_cons (jp_var 1) ja_nil))) (jp_callG C_l_needs hr (by decide) rfl (ja_cons (jp_var 0) (ja_cons (jp_var 1) ja_nil))) (nomark _)) (jw_or1 (jt_cmp (o2_ne (hu64 hr)) (jp_callK K_needed_1_0 hr (by decide) rfl (jk_cons (jp_var 0) (jk_cons (jp_var 1) jk_nil))) (jp_callG C_l_needs hr (by decide) rfl (ja_cons (jp_var 0) (ja_cons (jp_var 1) ja_nil))) (nomark _))))))
(jss_one (js_ret (je_b jp_bl)))
jss_nil)
(jss_cons (js_par rfl sc_l_two_right.nd rfl rfl (by decide) rfl rfl (jae_cons (je_b (jp_callG C_pair_counts hr (by decide) rfl (ja_cons (jp_var 0) (ja_cons (jp_var 1) ja_nil)))) (jae_cons (je_b (jp_callG C_needed hr (by decide) rfl (ja_cons (jp_var 0) (ja_cons (jp_var 1) ja_nil)))) jae_nil)))
(jss_cons (js_expr (je_mut PySem.F.slot_list_append PySem.F.type_list_append om_append (j := 4) rfl (jae_cons (je_b jp_non) jae_nil)))
(jss_cons (js_expr (je_mut PySem.F.slot_list_append PySem.F.type_list_append om_append (j := 5) rfl (jae_cons (je_b jp_non) jae_nil)))
(jss_cons (js_expr (je_mut0 PySem.F.slot_list_reverse PySem.F.type_list_reverse om_reverse (j := 0) rfl))
(jss_cons (js_if (jte_v (jt_w (jw_or (jt_cmp (o2_ne (hu64 hr)) (jp_callG C_needed hr (by decide) rfl (ja_cons (jp_var 0) (ja_cons (jp_var 1) ja_nil))) (jp_callG C_l_needs hr (by decide) rfl (ja_cons (jp_var 0) (ja_cons (jp_var 1) ja_nil))) (nomark _)) (jw_or1 (jt_cmp (o2_ne (hu64 hr)) (jp_callB oc_len rfl S.g_len (by decide +kernel) (ja_cons (jp_callG C_pair_counts hr (by decide) rfl (ja_cons (jp_var 0) (ja_cons (jp_var 1) ja_nil))) ja_nil)) (jp_callB oc_len rfl S.g_len (by decide +kernel) (ja_cons (jp_callG C_l_unlike hr (by decide) rfl (ja_cons (jp_var 0) (ja_cons (jp_var 1) ja_nil))) ja_nil)) (nomark _))))))
(jss_one (js_ret (je_b jp_bl)))
jss_nil)
(jss_cons (js_expr (je_mut0 PySem.F.slot_list_reverse PySem.F.type_list_reverse om_reverse (j := 0) rfl))
(jss_one (js_ret (je_b (jp_and (jp_cmp (o2_eq (hu64 hr)) (jp_callG C_pair_counts hr (by decide) rfl (ja_cons (jp_var 0) (ja_cons (jp_var 1) ja_nil))) (jp_var 3) (nomark _)) (jp_and (jp_cmp (o2_eq (hu64 hr)) (jp_callG C_needed hr (by decide) rfl (ja_cons (jp_var 0) (ja_cons (jp_var 1) ja_nil))) (jp_callG C_l_needs hr (by decide) rfl (ja_cons (jp_var 0) (ja_cons (jp_var 1) ja_nil))) (nomark _)) (jp_one (jp_cmp (o2_eq (hu64 hr)) (jp_callB (oc_repr hr) rfl S.g_repr (by decide +kernel) (ja_cons (jp_tup (ja_cons (jp_var 0) (ja_cons (jp_var 1) ja_nil))) ja_nil)) (jp_var 2) (nomark _))))))))))))))))))
abbrev N_l_right : List Str := ["_law_generator_here", "_law_size", "_law_one", "_law_other", "_law_seen_here", "_law_many", "_law_long", "_law_low", "_law_high", "_law_pair"]
theorem sc_l_right : FnScope N_l_right ["_law_generator_here"] (defScope (top 34)) := ⟨rfl, rfl, rfl, by decide +kernel, rfl, by decide +kernel, by decide +kernel⟩
theorem ok_l_right {f : Addr} {fd : FuncData} (F : Fun K "_law_right" "_law_right" (top 34) f fd) (S : Facts K mg tabs cl) (C_l_random : CalG P w K mg base (tx tabs cl) 2 "_law_random" 2 r_l_random) (C_l_order : CalG P w K mg base (tx tabs cl) 3 "_law_order" 2 r_l_order) (C_l_near : CalG P w K mg base (tx tabs cl) 3 "_law_near" 3 r_l_near) (C_l_two_right : CalG P w K mg base (tx tabs cl) 7 "_law_two_right" 2 r_l_two_right) (C_l_seen : CalG P w K mg base (tx tabs cl) 2 "_law_seen" 2 r_l_seen) (C_pair_counts : CalG P w K mg base (tx tabs cl) 6 "pair_counts" 2 r_pair_counts) : FnG P w K mg base CX0 8 f fd ["_law_generator_here"] (spG K (tx tabs cl) 1 r_l_right) := by
  exact fn_ok F sc_l_right rfl rfl fun cdv A outer s H E hr =>
(jss_cons (js_set sc_l_right.nd rfl (by first | exact Or.inl rfl | exact Or.inr rfl) (je_call C_l_random [true, false] hr (by decide) rfl (jca_cons (jrv_sl (j := 0) rfl) (jca_cons (jrv_vl (je_b jp_int)) jca_nil))))
(jss_cons (js_set sc_l_right.nd rfl (by first | exact Or.inl rfl | exact Or.inr rfl) (je_call C_l_order [true, false] hr (by decide) rfl (jca_cons (jrv_sl (j := 0) rfl) (jca_cons (jrv_vl (je_cp (j := 1))) jca_nil))))
(jss_cons (js_set sc_l_right.nd rfl (by first | exact Or.inl rfl | exact Or.inr rfl) (je_if (jte_cmp (o2_eq (hu64 hr)) (je_call C_l_random [true, false] hr (by decide) rfl (jca_cons (jrv_sl (j := 0) rfl) (jca_cons (jrv_vl (je_b jp_int)) jca_nil))) (je_b jp_int) (nomark _)) (je_call C_l_order [true, false] hr (by decide) rfl (jca_cons (jrv_sl (j := 0) rfl) (jca_cons (jrv_vl (je_mv (j := 1))) jca_nil))) (je_call C_l_near [true, true, false] hr (by decide) rfl (jca_cons (jrv_sl (j := 0) rfl) (jca_cons (jrv_sl (j := 2) rfl) (jca_cons (jrv_vl (je_b jp_int)) jca_nil))))))
(jss_cons (js_if (jte_not (jte_val (je_call C_l_two_right [true, false] hr (by decide) rfl (jca_cons (jrv_sl (j := 2) rfl) (jca_cons (jrv_vl (je_cp (j := 3))) jca_nil)))))
(jss_one (js_ret (je_b jp_bl)))
jss_nil)
(jss_cons (js_set sc_l_right.nd rfl (by first | exact Or.inl rfl | exact Or.inr rfl) (je_call C_l_seen [false, false] hr (by decide) rfl (jca_cons (jrv_vl (je_cp (j := 2))) (jca_cons (jrv_vl (je_cp (j := 3))) jca_nil))))
(jss_cons (js_if (jte_v (jt_cmp (o2_ne (hu64 hr)) (jp_comp (own := [("_law_low", 7), ("_law_high", 8)]) rfl sc_l_right.nd (ji_list (jp_callB (oc_sortedD rfl) rfl S.g_sorted (by decide +kernel) (ja_cons (jp_var 4) ja_nil))) (blkOk_by (N := N_l_right) (sc := defScope (top 34)) (by decide +kernel)) (fun _ _ _ _ _ => (jg_tup rfl (jgs_cons (jg_name sc_l_right.nd rfl (by first | exact Or.inl rfl | exact Or.inr rfl)) (jgs_cons (jg_name sc_l_right.nd rfl (by first | exact Or.inl rfl | exact Or.inr rfl)) jgs_nil)))) (fun _ _ _ _ _ => jts_nil) (fun _ _ _ _ _ => (jp_tup (ja_cons (jp_var 7) (ja_cons (jp_var 8) (ja_cons (jp_callB (oc_min rfl) rfl S.g_min (by decide +kernel) (ja_cons (jp_ix (ox_ix (hu1 hr)) (jp_var 4) (jp_tup (ja_cons (jp_var 7) (ja_cons (jp_var 8) ja_nil)))) ja_nil)) (ja_cons (jp_callB (oc_max rfl) rfl S.g_max (by decide +kernel) (ja_cons (jp_ix (ox_ix (hu1 hr)) (jp_var 4) (jp_tup (ja_cons (jp_var 7) (ja_cons (jp_var 8) ja_nil)))) ja_nil)) ja_nil))))))) (jp_callG C_pair_counts hr (by decide) rfl (ja_cons (jp_var 2) (ja_cons (jp_var 3) ja_nil))) (nomark _)))
(jss_one (js_ret (je_b jp_bl)))
jss_nil)
(jss_cons (js_if (jte_v (jt_cmp (o2_ne (hu64 hr)) (jp_compK (own := [("_law_pair", 9)]) (j := 4) rfl sc_l_right.nd rfl (blkOk_by (N := N_l_right) (sc := defScope (top 34)) (by decide +kernel)) (fun _ _ _ _ _ => (jg_name sc_l_right.nd rfl (by first | exact Or.inl rfl | exact Or.inr rfl))) (fun _ _ _ _ _ => (jts_one (jt_cmp (o2_ne (hu64 hr)) (jp_callB (oc_sortedD rfl) rfl S.g_sorted (by decide +kernel) (ja_cons (jp_ix (ox_ix (hu1 hr)) (jp_var 4) (jp_var 9)) ja_nil)) (jp_listRg2 rfl rfl S.g_list rfl S.g_range (jp_callB (oc_min rfl) rfl S.g_min (by decide +kernel) (ja_cons (jp_ix (ox_ix (hu1 hr)) (jp_var 4) (jp_var 9)) ja_nil)) (jp_bin o2_add (jp_callB (oc_max rfl) rfl S.g_max (by decide +kernel) (ja_cons (jp_ix (ox_ix (hu1 hr)) (jp_var 4) (jp_var 9)) ja_nil)) jp_int)) (nomark _)))) (fun _ _ _ _ _ => (jp_var 9))) (jp_lst ja_nil) (nomark _)))
(jss_one (js_ret (je_b jp_bl)))
jss_nil)
(jss_cons (js_set sc_l_right.nd rfl (by first | exact Or.inl rfl | exact Or.inr rfl) (je_bin o2_add (je_b jp_int) (je_call C_l_random [true, false] hr (by decide) rfl (jca_cons (jrv_sl (j := 0) rfl) (jca_cons (jrv_vl (je_b jp_int)) jca_nil)))))
(jss_cons (js_set sc_l_right.nd rfl (by first | exact Or.inl rfl | exact Or.inr rfl) (je_call C_l_order [true, false] hr (by decide) rfl (jca_cons (jrv_sl (j := 0) rfl) (jca_cons (jrv_vl (je_cp (j := 5))) jca_nil))))
(jss_one (js_ret (je_and (je_call C_l_two_right [true, false] hr (by decide) rfl (jca_cons (jrv_sl (j := 6) rfl) (jca_cons (jrv_vl (je_call C_l_near [true, true, false] hr (by decide) rfl (jca_cons (jrv_sl (j := 0) rfl) (jca_cons (jrv_sl (j := 6) rfl) (jca_cons (jrv_vl (je_b jp_int)) jca_nil))))) jca_nil))) (je_one (je_call C_l_two_right [true, false] hr (by decide) rfl (jca_cons (jrv_sl (j := 6) rfl) (jca_cons (jrv_vl (je_call C_l_order [true, false] hr (by decide) rfl (jca_cons (jrv_sl (j := 0) rfl) (jca_cons (jrv_vl (je_mv (j := 5))) jca_nil)))) jca_nil))))))))))))))))
abbrev N_law : List Str := ["_law_script", "_law_index", "_law_high", "_law_great", "_law_wide"]
theorem sc_law : FnScope N_law ["_law_script"] (defScope (top 35)) := ⟨rfl, rfl, rfl, by decide +kernel, rfl, by decide +kernel, by decide +kernel⟩
theorem ok_law {f : Addr} {fd : FuncData} (F : Fun K "law" "law" (top 35) f fd) (S : Facts K mg tabs cl) (C_l_right : CalG P w K mg base (tx tabs cl) 8 "_law_right" 1 r_l_right) (C_l_generator : CalG P w K mg base (tx tabs cl) 2 "_law_generator" 2 r_l_generator) (C_pair_counts : CalG P w K mg base (tx tabs cl) 6 "pair_counts" 2 r_pair_counts) (C_needed : CalG P w K mg base (tx tabs cl) 6 "needed" 2 r_needed) : FnG P w K mg base CX0 9 f fd ["_law_script"] (spG K (tx tabs cl) 1 r_law) := by
  exact fn_ok F sc_law rfl rfl fun cdv A outer s H E hr =>
(jss_cons (js_for PassesOwn.never rfl (jie_range1 rfl S.g_range (je_b jp_int)) (jgo_name sc_law.nd rfl (by first | exact Or.inl rfl | exact Or.inr rfl))
(jss_one (js_if (jte_not (jte_val (je_call C_l_right [true] hr (by decide) rfl (jca_cons (jrv_vl (je_b (jp_callG C_l_generator hr (by decide) rfl (ja_cons (jp_var 0) (ja_cons (jp_var 1) ja_nil))))) jca_nil))))
(jss_one (js_ret (je_b jp_bl)))
jss_nil)))
(jss_cons (js_if (jte_v (jt_w (jw_or (jt_cmp (o2_ne (hu64 hr)) (jp_callG C_pair_counts hr (by decide) rfl (ja_cons (jp_lst (ja_cons jp_int (ja_cons jp_int (ja_cons jp_int (ja_cons jp_int (ja_cons jp_int ja_nil)))))) (ja_cons (jp_lst (ja_cons jp_int (ja_cons jp_int (ja_cons jp_int (ja_cons jp_int (ja_cons jp_int ja_nil)))))) ja_nil))) (jp_lst (ja_cons (jp_tup (ja_cons jp_int (ja_cons jp_int (ja_cons jp_int (ja_cons jp_int ja_nil))))) (ja_cons (jp_tup (ja_cons jp_int (ja_cons jp_int (ja_cons jp_int (ja_cons jp_int ja_nil))))) (ja_cons (jp_tup (ja_cons jp_int (ja_cons jp_int (ja_cons jp_int (ja_cons jp_int ja_nil))))) ja_nil)))) (nomark _)) (jw_or1 (jt_cmp (o2_ne (hu64 hr)) (jp_callG C_needed hr (by decide) rfl (ja_cons (jp_lst ja_nil) (ja_cons (jp_lst ja_nil) ja_nil))) (jp_lst ja_nil) (nomark _))))))
(jss_one (js_ret (je_b jp_bl)))
jss_nil)
(jss_cons (js_set sc_law.nd rfl (by first | exact Or.inl rfl | exact Or.inr rfl) (je_b (jp_bin o2_add (jp_listRg2 rfl rfl S.g_list rfl S.g_range jp_int jp_int) (jp_lst (ja_cons jp_int (ja_cons jp_int ja_nil))))))
(jss_cons (js_if (jte_v (jt_w (jw_or (jt_cmp (o2_ne (hu64 hr)) (jp_callG C_needed hr (by decide) rfl (ja_cons (jp_var 2) (ja_cons (jp_bin o2_add (jp_slice (jp_var 2) jo_none (jo_some jp_int)) (jp_lst (ja_cons jp_int (ja_cons jp_int ja_nil)))) ja_nil))) (jp_lst (ja_cons jp_int ja_nil)) (nomark _)) (jw_or1 (jt_cmp (o2_ne (hu64 hr)) (jp_callG C_needed hr (by decide) rfl (ja_cons (jp_lst (ja_cons jp_int (ja_cons jp_int (ja_cons jp_int (ja_cons jp_int ja_nil))))) (ja_cons (jp_lst (ja_cons jp_int (ja_cons jp_int (ja_cons jp_int (ja_cons jp_int ja_nil))))) ja_nil))) (jp_lst (ja_cons jp_int (ja_cons jp_int (ja_cons jp_int ja_nil)))) (nomark _))))))
(jss_one (js_ret (je_b jp_bl)))
jss_nil)
(jss_cons (js_par rfl sc_law.nd rfl rfl (by decide) rfl rfl (jae_cons (je_b (jp_listRg1 rfl rfl S.g_list rfl S.g_range jp_int)) (jae_cons (je_b (jp_listRg1 rfl rfl S.g_list rfl S.g_range jp_int)) jae_nil)))
(jss_one (js_ret (je_b (jp_and (jp_cmp (o2_eq (hu64 hr)) (jp_callG C_needed hr (by decide) rfl (ja_cons (jp_var 3) (ja_cons (jp_var 3) ja_nil))) (jp_lst ja_nil) (nomark _)) (jp_and (jp_cmp (o2_eq (hu64 hr)) (jp_callB oc_len rfl S.g_len (by decide +kernel) (ja_cons (jp_callG C_pair_counts hr (by decide) rfl (ja_cons (jp_var 4) (ja_cons (jp_rev (jp_var 4)) ja_nil))) ja_nil)) jp_int (nomark _)) (jp_one (jp_cmp (o2_eq (hu64 hr)) (jp_callG C_needed hr (by decide) rfl (ja_cons (jp_lst (ja_cons jp_int ja_nil)) (ja_cons (jp_lst (ja_cons jp_int ja_nil)) ja_nil))) (jp_lst ja_nil) (nomark _)))))))))))))
end
end L90
set_option Elab.async false
set_option linter.all false
set_option maxRecDepth 100000
set_option maxHeartbeats 4000000

/-! L90: all together -/
namespace L90
open PySem L2 G

section
variable {P : Program} {w : World} {K : PySem.W.Frag} {mg : Str → Option Value} {tabs : List (Addr × Str)} {cl : Nat → Addr}
theorem all_ok (S : Facts K mg tabs cl) (D_is_whole : TopDef K mg "is_whole" (top 6)) (D_is_between : TopDef K mg "is_between" (top 7)) (D_is_order_list : TopDef K mg "is_order_list" (top 8)) (D_check_order : TopDef K mg "check_order" (top 9)) (D_places_from : TopDef K mg "places_from" (top 10)) (D_check_two_orders : TopDef K mg "check_two_orders" (top 12)) (D_unlike_pairs : TopDef K mg "unlike_pairs" (top 13)) (D_counted : TopDef K mg "counted" (top 14)) (D_counts_of : TopDef K mg "counts_of" (top 15)) (D_needs_of : TopDef K mg "needs_of" (top 16)) (D_pair_counts : TopDef K mg "pair_counts" (top 17)) (D_needed : TopDef K mg "needed" (top 18)) (D_l_hash : TopDef K mg "_law_hash" (top 20)) (D_l_random : TopDef K mg "_law_random" (top 21)) (D_l_cell : TopDef K mg "_law_cell" (top 22)) (D_l_generator : TopDef K mg "_law_generator" (top 23)) (D_l_order : TopDef K mg "_law_order" (top 24)) (D_l_exchanged : TopDef K mg "_law_exchanged" (top 25)) (D_l_left : TopDef K mg "_law_left" (top 26)) (D_l_unlike : TopDef K mg "_law_unlike" (top 27)) (D_l_low_high : TopDef K mg "_law_low_high" (top 28)) (D_l_needs : TopDef K mg "_law_needs" (top 29)) (D_l_steps : TopDef K mg "_law_steps" (top 30)) (D_l_seen : TopDef K mg "_law_seen" (top 31)) (D_l_near : TopDef K mg "_law_near" (top 32)) (D_l_two_right : TopDef K mg "_law_two_right" (top 33)) (D_l_right : TopDef K mg "_law_right" (top 34)) (D_law : TopDef K mg "law" (top 35)) {fa : Addr} (hfa : mg "law" = some (.ref fa)) : ∃ fd : FuncData, (∀ (s : Shared) (v : Value), BindsTo s fd ⟨[v], []⟩ [("_law_script", v)]) ∧ ∀ base : Heap, FnG P w K mg base CX0 9 fa fd ["_law_script"] (spG K (tx tabs cl) 1 r_law) := by
  obtain ⟨f_is_whole, fd_is_whole, F_is_whole, m_is_whole⟩ := D_is_whole.ex
  obtain ⟨f_is_between, fd_is_between, F_is_between, m_is_between⟩ := D_is_between.ex
  obtain ⟨f_is_order_list, fd_is_order_list, F_is_order_list, m_is_order_list⟩ := D_is_order_list.ex
  obtain ⟨f_check_order, fd_check_order, F_check_order, m_check_order⟩ := D_check_order.ex
  obtain ⟨f_places_from, fd_places_from, F_places_from, m_places_from⟩ := D_places_from.ex
  obtain ⟨f_check_two_orders, fd_check_two_orders, F_check_two_orders, m_check_two_orders⟩ := D_check_two_orders.ex
  obtain ⟨f_unlike_pairs, fd_unlike_pairs, F_unlike_pairs, m_unlike_pairs⟩ := D_unlike_pairs.ex
  obtain ⟨f_counted, fd_counted, F_counted, m_counted⟩ := D_counted.ex
  obtain ⟨f_counts_of, fd_counts_of, F_counts_of, m_counts_of⟩ := D_counts_of.ex
  obtain ⟨f_needs_of, fd_needs_of, F_needs_of, m_needs_of⟩ := D_needs_of.ex
  obtain ⟨f_pair_counts, fd_pair_counts, F_pair_counts, m_pair_counts⟩ := D_pair_counts.ex
  obtain ⟨f_needed, fd_needed, F_needed, m_needed⟩ := D_needed.ex
  obtain ⟨f_l_hash, fd_l_hash, F_l_hash, m_l_hash⟩ := D_l_hash.ex
  obtain ⟨f_l_random, fd_l_random, F_l_random, m_l_random⟩ := D_l_random.ex
  obtain ⟨f_l_cell, fd_l_cell, F_l_cell, m_l_cell⟩ := D_l_cell.ex
  obtain ⟨f_l_generator, fd_l_generator, F_l_generator, m_l_generator⟩ := D_l_generator.ex
  obtain ⟨f_l_order, fd_l_order, F_l_order, m_l_order⟩ := D_l_order.ex
  obtain ⟨f_l_exchanged, fd_l_exchanged, F_l_exchanged, m_l_exchanged⟩ := D_l_exchanged.ex
  obtain ⟨f_l_left, fd_l_left, F_l_left, m_l_left⟩ := D_l_left.ex
  obtain ⟨f_l_unlike, fd_l_unlike, F_l_unlike, m_l_unlike⟩ := D_l_unlike.ex
  obtain ⟨f_l_low_high, fd_l_low_high, F_l_low_high, m_l_low_high⟩ := D_l_low_high.ex
  obtain ⟨f_l_needs, fd_l_needs, F_l_needs, m_l_needs⟩ := D_l_needs.ex
  obtain ⟨f_l_steps, fd_l_steps, F_l_steps, m_l_steps⟩ := D_l_steps.ex
  obtain ⟨f_l_seen, fd_l_seen, F_l_seen, m_l_seen⟩ := D_l_seen.ex
  obtain ⟨f_l_near, fd_l_near, F_l_near, m_l_near⟩ := D_l_near.ex
  obtain ⟨f_l_two_right, fd_l_two_right, F_l_two_right, m_l_two_right⟩ := D_l_two_right.ex
  obtain ⟨f_l_right, fd_l_right, F_l_right, m_l_right⟩ := D_l_right.ex
  obtain ⟨f_law, fd_law, F_law, m_law⟩ := D_law.ex
  have efa : fa = f_law := by
    rw [m_law] at hfa
    cases hfa
    rfl
  subst efa
  refine ⟨fd_law, fun s v => F_law.bind1 (fun _ _ _ _ _ _ _ => rfl) s v, fun base => ?_⟩
  have o_is_whole := ok_is_whole (P := P) (w := w) (base := base) F_is_whole S 
  have b_is_whole := F_is_whole.binds (ps := ["value"]) fun _ _ _ _ _ _ us hl => match us, hl with | [_], _ => rfl
  have C_is_whole : CalG P w K mg base (tx tabs cl) 1 "is_whole" 1 r_is_whole := ⟨_, _, _, o_is_whole, m_is_whole, F_is_whole.kp, b_is_whole⟩
  have o_is_between := ok_is_between (P := P) (w := w) (base := base) F_is_between S C_is_whole
  have b_is_between := F_is_between.binds (ps := ["value", "low", "high"]) fun _ _ _ _ _ _ us hl => match us, hl with | [_, _, _], _ => rfl
  have C_is_between : CalG P w K mg base (tx tabs cl) 2 "is_between" 3 r_is_between := ⟨_, _, _, o_is_between, m_is_between, F_is_between.kp, b_is_between⟩
  have o_is_order_list := ok_is_order_list (P := P) (w := w) (base := base) F_is_order_list S C_is_between
  have b_is_order_list := F_is_order_list.binds (ps := ["value"]) fun _ _ _ _ _ _ us hl => match us, hl with | [_], _ => rfl
  have C_is_order_list : CalG P w K mg base (tx tabs cl) 3 "is_order_list" 1 r_is_order_list := ⟨_, _, _, o_is_order_list, m_is_order_list, F_is_order_list.kp, b_is_order_list⟩
  have o_check_order := ok_check_order (P := P) (w := w) (base := base) F_check_order S C_is_order_list
  have b_check_order := F_check_order.binds (ps := ["order"]) fun _ _ _ _ _ _ us hl => match us, hl with | [_], _ => rfl
  have C_check_order : CalG P w K mg base (tx tabs cl) 4 "check_order" 1 r_check_order := ⟨_, _, _, o_check_order, m_check_order, F_check_order.kp, b_check_order⟩
  have o_places_from := ok_places_from (P := P) (w := w) (base := base) F_places_from S 
  have b_places_from := F_places_from.binds (ps := ["order"]) fun _ _ _ _ _ _ us hl => match us, hl with | [_], _ => rfl
  have C_places_from : CalG P w K mg base (tx tabs cl) 1 "places_from" 1 r_places_from := ⟨_, _, _, o_places_from, m_places_from, F_places_from.kp, b_places_from⟩
  have o_check_two_orders := ok_check_two_orders (P := P) (w := w) (base := base) F_check_two_orders S C_check_order
  have b_check_two_orders := F_check_two_orders.binds (ps := ["one", "other"]) fun _ _ _ _ _ _ us hl => match us, hl with | [_, _], _ => rfl
  have C_check_two_orders : CalG P w K mg base (tx tabs cl) 5 "check_two_orders" 2 r_check_two_orders := ⟨_, _, _, o_check_two_orders, m_check_two_orders, F_check_two_orders.kp, b_check_two_orders⟩
  have o_unlike_pairs := ok_unlike_pairs (P := P) (w := w) (base := base) F_unlike_pairs S 
  have b_unlike_pairs := F_unlike_pairs.binds (ps := ["here", "there"]) fun _ _ _ _ _ _ us hl => match us, hl with | [_, _], _ => rfl
  have C_unlike_pairs : CalG P w K mg base (tx tabs cl) 1 "unlike_pairs" 2 r_unlike_pairs := ⟨_, _, _, o_unlike_pairs, m_unlike_pairs, F_unlike_pairs.kp, b_unlike_pairs⟩
  have o_counted := ok_counted (P := P) (w := w) (base := base) F_counted S 
  have b_counted := F_counted.binds (ps := ["here", "there", "low", "high"]) fun _ _ _ _ _ _ us hl => match us, hl with | [_, _, _, _], _ => rfl
  have C_counted : CalG P w K mg base (tx tabs cl) 1 "counted" 4 r_counted := ⟨_, _, _, o_counted, m_counted, F_counted.kp, b_counted⟩
  have o_counts_of := ok_counts_of (P := P) (w := w) (base := base) F_counts_of S C_places_from C_unlike_pairs C_counted
  have b_counts_of := F_counts_of.binds (ps := ["one", "other"]) fun _ _ _ _ _ _ us hl => match us, hl with | [_, _], _ => rfl
  have C_counts_of : CalG P w K mg base (tx tabs cl) 2 "counts_of" 2 r_counts_of := ⟨_, _, _, o_counts_of, m_counts_of, F_counts_of.kp, b_counts_of⟩
  have o_needs_of := ok_needs_of (P := P) (w := w) (base := base) F_needs_of S C_counts_of
  have b_needs_of := F_needs_of.binds (ps := ["one", "other"]) fun _ _ _ _ _ _ us hl => match us, hl with | [_, _], _ => rfl
  have C_needs_of : CalG P w K mg base (tx tabs cl) 3 "needs_of" 2 r_needs_of := ⟨_, _, _, o_needs_of, m_needs_of, F_needs_of.kp, b_needs_of⟩
  have o_pair_counts := ok_pair_counts (P := P) (w := w) (base := base) F_pair_counts S C_check_two_orders C_counts_of
  have b_pair_counts := F_pair_counts.binds (ps := ["one", "other"]) fun _ _ _ _ _ _ us hl => match us, hl with | [_, _], _ => rfl
  have C_pair_counts : CalG P w K mg base (tx tabs cl) 6 "pair_counts" 2 r_pair_counts := ⟨_, _, _, o_pair_counts, m_pair_counts, F_pair_counts.kp, b_pair_counts⟩
  have K_pair_counts_1_0 : CalK P w K mg base (tx tabs cl) 6 "pair_counts" 2 ["other", "one"] [1, 0] r_pair_counts := ⟨_, _, _, o_pair_counts, m_pair_counts, F_pair_counts.kp, F_pair_counts.kb fun _ _ _ _ _ _ us hl => match us, hl with | [_, _], _ => rfl⟩
  have o_needed := ok_needed (P := P) (w := w) (base := base) F_needed S C_check_two_orders C_needs_of
  have b_needed := F_needed.binds (ps := ["one", "other"]) fun _ _ _ _ _ _ us hl => match us, hl with | [_, _], _ => rfl
  have C_needed : CalG P w K mg base (tx tabs cl) 6 "needed" 2 r_needed := ⟨_, _, _, o_needed, m_needed, F_needed.kp, b_needed⟩
  have K_needed_1_0 : CalK P w K mg base (tx tabs cl) 6 "needed" 2 ["other", "one"] [1, 0] r_needed := ⟨_, _, _, o_needed, m_needed, F_needed.kp, F_needed.kb fun _ _ _ _ _ _ us hl => match us, hl with | [_, _], _ => rfl⟩
  have o_l_hash := ok_l_hash (P := P) (w := w) (base := base) F_l_hash S 
  have b_l_hash := F_l_hash.binds (ps := ["_law_seed", "_law_index"]) fun _ _ _ _ _ _ us hl => match us, hl with | [_, _], _ => rfl
  have C_l_hash : CalG P w K mg base (tx tabs cl) 1 "_law_hash" 2 r_l_hash := ⟨_, _, _, o_l_hash, m_l_hash, F_l_hash.kp, b_l_hash⟩
  have o_l_random := ok_l_random (P := P) (w := w) (base := base) F_l_random S C_l_hash
  have b_l_random := F_l_random.binds (ps := ["_law_generator_here", "_law_bound"]) fun _ _ _ _ _ _ us hl => match us, hl with | [_, _], _ => rfl
  have C_l_random : CalG P w K mg base (tx tabs cl) 2 "_law_random" 2 r_l_random := ⟨_, _, _, o_l_random, m_l_random, F_l_random.kp, b_l_random⟩
  have o_l_cell := ok_l_cell (P := P) (w := w) (base := base) F_l_cell S 
  have b_l_cell := F_l_cell.binds (ps := ["_law_script", "_law_index"]) fun _ _ _ _ _ _ us hl => match us, hl with | [_, _], _ => rfl
  have C_l_cell : CalG P w K mg base (tx tabs cl) 1 "_law_cell" 2 r_l_cell := ⟨_, _, _, o_l_cell, m_l_cell, F_l_cell.kp, b_l_cell⟩
  have o_l_generator := ok_l_generator (P := P) (w := w) (base := base) F_l_generator S C_l_cell
  have b_l_generator := F_l_generator.binds (ps := ["_law_script", "_law_index"]) fun _ _ _ _ _ _ us hl => match us, hl with | [_, _], _ => rfl
  have C_l_generator : CalG P w K mg base (tx tabs cl) 2 "_law_generator" 2 r_l_generator := ⟨_, _, _, o_l_generator, m_l_generator, F_l_generator.kp, b_l_generator⟩
  have o_l_order := ok_l_order (P := P) (w := w) (base := base) F_l_order S C_l_random
  have b_l_order := F_l_order.binds (ps := ["_law_generator_here", "_law_size"]) fun _ _ _ _ _ _ us hl => match us, hl with | [_, _], _ => rfl
  have C_l_order : CalG P w K mg base (tx tabs cl) 3 "_law_order" 2 r_l_order := ⟨_, _, _, o_l_order, m_l_order, F_l_order.kp, b_l_order⟩
  have o_l_exchanged := ok_l_exchanged (P := P) (w := w) (base := base) F_l_exchanged S 
  have b_l_exchanged := F_l_exchanged.binds (ps := ["_law_order_here", "_law_at"]) fun _ _ _ _ _ _ us hl => match us, hl with | [_, _], _ => rfl
  have C_l_exchanged : CalG P w K mg base (tx tabs cl) 1 "_law_exchanged" 2 r_l_exchanged := ⟨_, _, _, o_l_exchanged, m_l_exchanged, F_l_exchanged.kp, b_l_exchanged⟩
  have o_l_left := ok_l_left (P := P) (w := w) (base := base) F_l_left S 
  have b_l_left := F_l_left.binds (ps := ["_law_order_here", "_law_at"]) fun _ _ _ _ _ _ us hl => match us, hl with | [_, _], _ => rfl
  have C_l_left : CalG P w K mg base (tx tabs cl) 1 "_law_left" 2 r_l_left := ⟨_, _, _, o_l_left, m_l_left, F_l_left.kp, b_l_left⟩
  have o_l_unlike := ok_l_unlike (P := P) (w := w) (base := base) F_l_unlike S 
  have b_l_unlike := F_l_unlike.binds (ps := ["_law_one", "_law_other"]) fun _ _ _ _ _ _ us hl => match us, hl with | [_, _], _ => rfl
  have C_l_unlike : CalG P w K mg base (tx tabs cl) 1 "_law_unlike" 2 r_l_unlike := ⟨_, _, _, o_l_unlike, m_l_unlike, F_l_unlike.kp, b_l_unlike⟩
  have o_l_low_high := ok_l_low_high (P := P) (w := w) (base := base) F_l_low_high S 
  have b_l_low_high := F_l_low_high.binds (ps := ["_law_one", "_law_other", "_law_low", "_law_high"]) fun _ _ _ _ _ _ us hl => match us, hl with | [_, _, _, _], _ => rfl
  have C_l_low_high : CalG P w K mg base (tx tabs cl) 1 "_law_low_high" 4 r_l_low_high := ⟨_, _, _, o_l_low_high, m_l_low_high, F_l_low_high.kp, b_l_low_high⟩
  have o_l_needs := ok_l_needs (P := P) (w := w) (base := base) F_l_needs S C_l_unlike C_l_low_high
  have b_l_needs := F_l_needs.binds (ps := ["_law_one", "_law_other"]) fun _ _ _ _ _ _ us hl => match us, hl with | [_, _], _ => rfl
  have C_l_needs : CalG P w K mg base (tx tabs cl) 2 "_law_needs" 2 r_l_needs := ⟨_, _, _, o_l_needs, m_l_needs, F_l_needs.kp, b_l_needs⟩
  have o_l_steps := ok_l_steps (P := P) (w := w) (base := base) F_l_steps S 
  have b_l_steps := F_l_steps.binds (ps := ["_law_order_here", "_law_goal"]) fun _ _ _ _ _ _ us hl => match us, hl with | [_, _], _ => rfl
  have C_l_steps : CalG P w K mg base (tx tabs cl) 1 "_law_steps" 2 r_l_steps := ⟨_, _, _, o_l_steps, m_l_steps, F_l_steps.kp, b_l_steps⟩
  have o_l_seen := ok_l_seen (P := P) (w := w) (base := base) F_l_seen S C_l_steps C_l_left C_l_exchanged
  have b_l_seen := F_l_seen.binds (ps := ["_law_one", "_law_other"]) fun _ _ _ _ _ _ us hl => match us, hl with | [_, _], _ => rfl
  have C_l_seen : CalG P w K mg base (tx tabs cl) 2 "_law_seen" 2 r_l_seen := ⟨_, _, _, o_l_seen, m_l_seen, F_l_seen.kp, b_l_seen⟩
  have o_l_near := ok_l_near (P := P) (w := w) (base := base) F_l_near S C_l_exchanged C_l_random
  have b_l_near := F_l_near.binds (ps := ["_law_generator_here", "_law_order_here", "_law_steps_here"]) fun _ _ _ _ _ _ us hl => match us, hl with | [_, _, _], _ => rfl
  have C_l_near : CalG P w K mg base (tx tabs cl) 3 "_law_near" 3 r_l_near := ⟨_, _, _, o_l_near, m_l_near, F_l_near.kp, b_l_near⟩
  have o_l_two_right := ok_l_two_right (P := P) (w := w) (base := base) F_l_two_right S C_l_unlike C_l_low_high C_pair_counts K_pair_counts_1_0 C_needed C_l_needs K_needed_1_0
  have b_l_two_right := F_l_two_right.binds (ps := ["_law_one", "_law_other"]) fun _ _ _ _ _ _ us hl => match us, hl with | [_, _], _ => rfl
  have C_l_two_right : CalG P w K mg base (tx tabs cl) 7 "_law_two_right" 2 r_l_two_right := ⟨_, _, _, o_l_two_right, m_l_two_right, F_l_two_right.kp, b_l_two_right⟩
  have o_l_right := ok_l_right (P := P) (w := w) (base := base) F_l_right S C_l_random C_l_order C_l_near C_l_two_right C_l_seen C_pair_counts
  have b_l_right := F_l_right.binds (ps := ["_law_generator_here"]) fun _ _ _ _ _ _ us hl => match us, hl with | [_], _ => rfl
  have C_l_right : CalG P w K mg base (tx tabs cl) 8 "_law_right" 1 r_l_right := ⟨_, _, _, o_l_right, m_l_right, F_l_right.kp, b_l_right⟩
  exact ok_law (P := P) (w := w) (base := base) F_law S C_l_right C_l_generator C_pair_counts C_needed
end
def clf : Nat → Addr := fun c => match c with
  | _ => 0
theorem facts_mk {K : PySem.W.Frag} {mg : Str → Option Value} {h : Heap}  (KX : K.In h)  (g_bool : mg "bool" = none) (g_dict : mg "dict" = none) (g_enumerate : mg "enumerate" = none) (g_int : mg "int" = none) (g_isinstance : mg "isinstance" = none) (g_len : mg "len" = none) (g_list : mg "list" = none) (g_max : mg "max" = none) (g_min : mg "min" = none) (g_range : mg "range" = none) (g_repr : mg "repr" = none) (g_sorted : mg "sorted" = none) (g_sum : mg "sum" = none) (g_tuple : mg "tuple" = none) (c_MOST_LENGTH : ∃ t, mg "MOST_LENGTH" = some (.int 200 t)) : Facts K mg [] (clf ) := {
    g_bool := g_bool
    g_dict := g_dict
    g_enumerate := g_enumerate
    g_int := g_int
    g_isinstance := g_isinstance
    g_len := g_len
    g_list := g_list
    g_max := g_max
    g_min := g_min
    g_range := g_range
    g_repr := g_repr
    g_sorted := g_sorted
    g_sum := g_sum
    g_tuple := g_tuple
    c_MOST_LENGTH := c_MOST_LENGTH }
def spLaw (K : PySem.W.Frag) : Sp := fun vs H Q _ => ∃ (a : Addr) (ns : List Int), vs = [.ref a] ∧ SqL K H a (ns.map V.int) ∧ ns.length ≤ 63 ∧ ∀ H', Q (.bl true) H'
theorem law_sp {K : PySem.W.Frag} {cl : Nat → Addr} : ∀ vs H Q E, spLaw K vs H Q E → spG K (tx [] cl) 1 r_law vs H Q E := by
  rintro vs H Q E ⟨a, ns, rfl, hS, hl, k⟩
  obtain ⟨m, ps, e⟩ := law_true ns hl
  exact law_in rfl hS e k
end L90
open PySem PySem.W PyProof.Rows in
set_option maxRecDepth 100000 in
set_option maxHeartbeats 0 in
theorem PySem.Challenge.cw_gapswaps_k90_whole_counts_that_pairs_nee_holds : PySem.Challenge.rw_gapswaps_k90_whole_counts_that_pairs_nee.Holds := by
  w_on; o_law; k_head; (case hw => w_witness2)
  k_fill
  refine G.walkG_of (l := PySem.Challenge.rw_gapswaps_k90_whole_counts_that_pairs_nee) (n := 63) (k := 9) (x := "_law_script") (sp := fun w => L90.spLaw _) rfl (by decide) rfl ⟨rfl, by decide, by decide⟩ (fun w h Y => PySem.W.kIn_of Y) ?F (fun _ _ a ns hl _ hS => ⟨a, ns, rfl, hS, hl, fun _ => rfl⟩)
  case F =>
    intro w mg fa h KX GG hmg
    have D_is_whole := G.topDef_mk (x := "is_whole") (st := (L90.top 6)) KX GG (by k_is) (by k_is) (by k_is) (by k_is)
    have D_is_between := G.topDef_mk (x := "is_between") (st := (L90.top 7)) KX GG (by k_is) (by k_is) (by k_is) (by k_is)
    have D_is_order_list := G.topDef_mk (x := "is_order_list") (st := (L90.top 8)) KX GG (by k_is) (by k_is) (by k_is) (by k_is)
    have D_check_order := G.topDef_mk (x := "check_order") (st := (L90.top 9)) KX GG (by k_is) (by k_is) (by k_is) (by k_is)
    have D_places_from := G.topDef_mk (x := "places_from") (st := (L90.top 10)) KX GG (by k_is) (by k_is) (by k_is) (by k_is)
    have D_check_two_orders := G.topDef_mk (x := "check_two_orders") (st := (L90.top 12)) KX GG (by k_is) (by k_is) (by k_is) (by k_is)
    have D_unlike_pairs := G.topDef_mk (x := "unlike_pairs") (st := (L90.top 13)) KX GG (by k_is) (by k_is) (by k_is) (by k_is)
    have D_counted := G.topDef_mk (x := "counted") (st := (L90.top 14)) KX GG (by k_is) (by k_is) (by k_is) (by k_is)
    have D_counts_of := G.topDef_mk (x := "counts_of") (st := (L90.top 15)) KX GG (by k_is) (by k_is) (by k_is) (by k_is)
    have D_needs_of := G.topDef_mk (x := "needs_of") (st := (L90.top 16)) KX GG (by k_is) (by k_is) (by k_is) (by k_is)
    have D_pair_counts := G.topDef_mk (x := "pair_counts") (st := (L90.top 17)) KX GG (by k_is) (by k_is) (by k_is) (by k_is)
    have D_needed := G.topDef_mk (x := "needed") (st := (L90.top 18)) KX GG (by k_is) (by k_is) (by k_is) (by k_is)
    have D_l_hash := G.topDef_mk (x := "_law_hash") (st := (L90.top 20)) KX GG (by k_is) (by k_is) (by k_is) (by k_is)
    have D_l_random := G.topDef_mk (x := "_law_random") (st := (L90.top 21)) KX GG (by k_is) (by k_is) (by k_is) (by k_is)
    have D_l_cell := G.topDef_mk (x := "_law_cell") (st := (L90.top 22)) KX GG (by k_is) (by k_is) (by k_is) (by k_is)
    have D_l_generator := G.topDef_mk (x := "_law_generator") (st := (L90.top 23)) KX GG (by k_is) (by k_is) (by k_is) (by k_is)
    have D_l_order := G.topDef_mk (x := "_law_order") (st := (L90.top 24)) KX GG (by k_is) (by k_is) (by k_is) (by k_is)
    have D_l_exchanged := G.topDef_mk (x := "_law_exchanged") (st := (L90.top 25)) KX GG (by k_is) (by k_is) (by k_is) (by k_is)
    have D_l_left := G.topDef_mk (x := "_law_left") (st := (L90.top 26)) KX GG (by k_is) (by k_is) (by k_is) (by k_is)
    have D_l_unlike := G.topDef_mk (x := "_law_unlike") (st := (L90.top 27)) KX GG (by k_is) (by k_is) (by k_is) (by k_is)
    have D_l_low_high := G.topDef_mk (x := "_law_low_high") (st := (L90.top 28)) KX GG (by k_is) (by k_is) (by k_is) (by k_is)
    have D_l_needs := G.topDef_mk (x := "_law_needs") (st := (L90.top 29)) KX GG (by k_is) (by k_is) (by k_is) (by k_is)
    have D_l_steps := G.topDef_mk (x := "_law_steps") (st := (L90.top 30)) KX GG (by k_is) (by k_is) (by k_is) (by k_is)
    have D_l_seen := G.topDef_mk (x := "_law_seen") (st := (L90.top 31)) KX GG (by k_is) (by k_is) (by k_is) (by k_is)
    have D_l_near := G.topDef_mk (x := "_law_near") (st := (L90.top 32)) KX GG (by k_is) (by k_is) (by k_is) (by k_is)
    have D_l_two_right := G.topDef_mk (x := "_law_two_right") (st := (L90.top 33)) KX GG (by k_is) (by k_is) (by k_is) (by k_is)
    have D_l_right := G.topDef_mk (x := "_law_right") (st := (L90.top 34)) KX GG (by k_is) (by k_is) (by k_is) (by k_is)
    have D_law := G.topDef_mk (x := "law") (st := (L90.top 35)) KX GG (by k_is) (by k_is) (by k_is) (by k_is)
    have S := L90.facts_mk KX  (PySem.W.mg_none_of KX GG (by k_is)) (PySem.W.mg_none_of KX GG (by k_is)) (PySem.W.mg_none_of KX GG (by k_is)) (PySem.W.mg_none_of KX GG (by k_is)) (PySem.W.mg_none_of KX GG (by k_is)) (PySem.W.mg_none_of KX GG (by k_is)) (PySem.W.mg_none_of KX GG (by k_is)) (PySem.W.mg_none_of KX GG (by k_is)) (PySem.W.mg_none_of KX GG (by k_is)) (PySem.W.mg_none_of KX GG (by k_is)) (PySem.W.mg_none_of KX GG (by k_is)) (PySem.W.mg_none_of KX GG (by k_is)) (PySem.W.mg_none_of KX GG (by k_is)) (PySem.W.mg_none_of KX GG (by k_is)) ⟨_, PySem.W.mg_of KX GG (by k_is)⟩
    obtain ⟨fd, hb, hF⟩ := L90.all_ok (P := PySem.Challenge.pw_gapswaps_k90_whole_counts_that_pairs_nee) (w := w) S D_is_whole D_is_between D_is_order_list D_check_order D_places_from D_check_two_orders D_unlike_pairs D_counted D_counts_of D_needs_of D_pair_counts D_needed D_l_hash D_l_random D_l_cell D_l_generator D_l_order D_l_exchanged D_l_left D_l_unlike D_l_low_high D_l_needs D_l_steps D_l_seen D_l_near D_l_two_right D_l_right D_law hmg
    exact ⟨fd, hb, fun base _ _ => (hF base).imp L90.law_sp⟩
