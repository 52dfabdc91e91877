import PyProof.Rows.All
import Wide.All
import OpenK.AllK
import Wide.FinOn
import HandS.ForMost
import HandS.Lambda
import HandS.Conv
import HandS.Deep
import HandS.TupAny
import HandS.Style
import HandS.WideBits
import HandS.SortInts
import HandS.SortRule
import HandS.Flow
import HandS.Codes
import HandS.Defaults
import HandS.Small
import HandS.IsInst
import HandS.MakeKwOnly
import HandS.TupLe
import PySem.Challenge.RW_gapswaps_k81_trees_and_what_is_between
set_option Elab.async false
set_option linter.all false
set_option maxRecDepth 100000
set_option maxHeartbeats 4000000
/-! G1: data without a heap (D), how a heap holds it (Sees, Deep, Rep), what a step of a heap keeps -/
namespace G
open PySem PySem.Spec PyProof.Rows L2

/-- data -/
inductive D where
  | non
  | bl (b : Bool)
  | int (i : Int)
  | str (x : Str)
  | lst (xs : List D)
  | tup (xs : List D)
  | dk (ks : List Key) (vs : List D)
  | ins (c : Nat) (vs : List D)
  | scr (ns : List Int)   -- the script

/-- how a value is held: by others too; its top by us alone; all of it by us alone -/
inductive M where
  | sh | o1 | dp
  deriving DecidableEq

mutual
/-- no list, dict or instance in it -/
def imm : D → Bool
  | .non => true
  | .bl _ => true
  | .int _ => true
  | .str _ => true
  | .lst _ => false
  | .tup xs => immL xs
  | .dk _ _ => false
  | .ins _ _ => false
  | .scr _ => false
def immL : List D → Bool
  | [] => true
  | d :: ds => imm d && immL ds
end
/-- how what is read is held -/
def im (d : D) : M := if imm d then .dp else .sh

/-- the program's tables: code tables, the classes' addresses and fields -/
structure Tx where
  tabs : List (Addr × Str)
  cl : Nat → Addr
  fl : Nat → List Str

/-- a tuple stands at p -/
def TupAt (_ : PySem.W.Frag) (H : Hp) (p : Addr) (vs : List V) : Prop := H p = some (.tup vs)
theorem TupAt.sq {K : PySem.W.Frag} {H : Hp} {p : Addr} {vs : List V} (r : TupAt K H p vs) : SqT K H p vs := SqT.of r
theorem TupAt.keep {K : PySem.W.Frag} {H H' : Hp} {p : Addr} {vs : List V} (k : ∀ a xs, H a = some (.tup xs) → H' a = some (.tup xs)) (r : TupAt K H p vs) : TupAt K H' p vs := k _ _ r
/-- all of s but its code tables stands in h -/
structure Sub (s h : Hp) : Prop where
  at_ : ∀ b o, s b = some o → (∀ ps, o ≠ .tbl ps) → h b = some o
  no : ∀ b, h b = none → s b = none
theorem Sub.rfl' {s : Hp} : Sub s s := ⟨fun _ _ h _ => h, fun _ h => h⟩
theorem Sub.trans {s h j : Hp} (a : Sub s h) (b : Sub h j) : Sub s j := ⟨fun c o q n => b.at_ c o (a.at_ c o q n) n, fun c q => a.no c (b.no c q)⟩

section
variable (K : PySem.W.Frag) (T : Tx)
mutual
def Sees (H : Hp) : V → D → Prop
  | v, .non => v = .non
  | v, .bl b => v = .bl b
  | v, .int i => v = .int i
  | v, .str x => v = .str x
  | v, .lst ds => ∃ p vs, v = .ref p ∧ H p = some (.lst vs) ∧ SeesL H vs ds
  | v, .tup ds => ∃ p vs, v = .ref p ∧ TupAt K H p vs ∧ SeesL H vs ds
  | v, .dk ks ds => ∃ p vs, v = .ref p ∧ Rd H p (.dK (ks.zip vs)) ∧ ks.length = vs.length ∧ SeesL H vs ds
  | v, .ins c ds => ∃ p dx vs, v = .ref p ∧ H p = some (.ins (T.cl c) dx ((T.fl c).zip vs)) ∧ vs.length ≤ (T.fl c).length ∧ SeesL H vs ds
  | v, .scr ns => ∃ p, v = .ref p ∧ SqL K H p (ns.map V.int)
def SeesL (H : Hp) : List V → List D → Prop
  | vs, [] => vs = []
  | vs, d :: ds => ∃ v r, vs = v :: r ∧ Sees H v d ∧ SeesL H r ds
end
mutual
def Deep (H : Hp) : V → D → List Addr → Prop
  | v, .non, B => v = .non ∧ B = []
  | v, .bl b, B => v = .bl b ∧ B = []
  | v, .int i, B => v = .int i ∧ B = []
  | v, .str x, B => v = .str x ∧ B = []
  | v, .lst ds, B => ∃ p vs C, v = .ref p ∧ H p = some (.lst vs) ∧ B = p :: C ∧ DeepL H vs ds C
  | v, .tup ds, B => ∃ p vs, v = .ref p ∧ TupAt K H p vs ∧ DeepL H vs ds B
  | v, .dk ks ds, B => ∃ p vs C, v = .ref p ∧ H p = some (.dK (ks.zip vs)) ∧ ks.length = vs.length ∧ B = p :: C ∧ DeepL H vs ds C
  | v, .ins c ds, B => ∃ p dx vs C, v = .ref p ∧ H p = some (.ins (T.cl c) dx ((T.fl c).zip vs)) ∧ vs.length ≤ (T.fl c).length ∧ B = p :: C ∧ DeepL H vs ds C
  | _, .scr _, _ => False
def DeepL (H : Hp) : List V → List D → List Addr → Prop
  | vs, [], B => vs = [] ∧ B = []
  | vs, d :: ds, B => ∃ v r B1 B2, vs = v :: r ∧ B = B1 ++ B2 ∧ Deep H v d B1 ∧ DeepL H r ds B2
end
/-- the top stands at p in h, what it holds is seen in s -/
def Top (s h : Hp) (p : Addr) : D → Prop
  | .lst ds => ∃ vs, h p = some (.lst vs) ∧ SeesL K T s vs ds
  | .dk ks ds => ∃ vs, h p = some (.dK (ks.zip vs)) ∧ ks.length = vs.length ∧ SeesL K T s vs ds
  | .ins c ds => ∃ dx vs, h p = some (.ins (T.cl c) dx ((T.fl c).zip vs)) ∧ vs.length ≤ (T.fl c).length ∧ SeesL K T s vs ds
  | _ => False
def Rep (s h : Hp) (v : V) (d : D) (m : M) (B : List Addr) : Prop := match m with
  | .sh => B = [] ∧ Sees K T s v d
  | .o1 => ∃ p, v = .ref p ∧ B = [p] ∧ Top K T s h p d
  | .dp => Deep K T h v d B
end

/-! ### what stays seen -/
section
variable {K : PySem.W.Frag} {T : Tx} {s s' h h' : Hp}
theorem rd_ext {p : Addr} {o : HO} (e : Sub s s') (n : ∀ ps, o ≠ .tbl ps) (r : Rd s p o) : Rd s' p o := by
  rcases r with r | ⟨ob, r⟩
  · exact .inl (e.at_ _ _ r n)
  · exact .inr ⟨ob, e.at_ _ _ r (by intro ps z; cases z)⟩
theorem sqL_ext {p : Addr} {vs : List V} (e : Sub s s') (r : SqL K s p vs) : SqL K s' p vs := by
  rcases r with r | r
  · exact .inl (rd_ext e (by intro ps z; cases z) r)
  · exact .inr r
theorem sqT_ext {p : Addr} {vs : List V} (e : Sub s s') (r : TupAt K s p vs) : TupAt K s' p vs := r.keep fun _ _ q => e.at_ _ _ q (by intro ps z; cases z)
mutual
theorem Sees.ext (e : Sub s s') : ∀ {v : V} (d : D), Sees K T s v d → Sees K T s' v d
  | _, .non, r => by simpa only [Sees] using r
  | _, .bl _, r => by simpa only [Sees] using r
  | _, .int _, r => by simpa only [Sees] using r
  | _, .str _, r => by simpa only [Sees] using r
  | _, .lst ds, r => by
    simp only [Sees] at r ⊢
    obtain ⟨p, vs, e1, e2, e3⟩ := r
    exact ⟨p, vs, e1, e.at_ _ _ e2 (by intro ps z; cases z), SeesL.ext e ds e3⟩
  | _, .tup ds, r => by
    simp only [Sees] at r ⊢
    obtain ⟨p, vs, e1, e2, e3⟩ := r
    exact ⟨p, vs, e1, sqT_ext e e2, SeesL.ext e ds e3⟩
  | _, .dk ks ds, r => by
    simp only [Sees] at r ⊢
    obtain ⟨p, vs, e1, e2, e3, e4⟩ := r
    exact ⟨p, vs, e1, rd_ext e (by intro ps z; cases z) e2, e3, SeesL.ext e ds e4⟩
  | _, .ins c ds, r => by
    simp only [Sees] at r ⊢
    obtain ⟨p, dx, vs, e1, e2, e3, e4⟩ := r
    exact ⟨p, dx, vs, e1, e.at_ _ _ e2 (by intro ps z; cases z), e3, SeesL.ext e ds e4⟩
  | _, .scr ns, r => by
    simp only [Sees] at r ⊢
    obtain ⟨p, e1, e2⟩ := r
    exact ⟨p, e1, sqL_ext e e2⟩
theorem SeesL.ext (e : Sub s s') : ∀ {vs : List V} (ds : List D), SeesL K T s vs ds → SeesL K T s' vs ds
  | _, [], r => by simpa only [SeesL] using r
  | _, d :: ds, r => by
    simp only [SeesL] at r ⊢
    obtain ⟨v, q, e1, e2, e3⟩ := r
    exact ⟨v, q, e1, Sees.ext e d e2, SeesL.ext e ds e3⟩
end
mutual
theorem Deep.sees : ∀ {v : V} (d : D) {B : List Addr}, Deep K T h v d B → Sees K T h v d
  | _, .non, _, r => by simp only [Deep] at r; simp only [Sees]; exact r.1
  | _, .bl _, _, r => by simp only [Deep] at r; simp only [Sees]; exact r.1
  | _, .int _, _, r => by simp only [Deep] at r; simp only [Sees]; exact r.1
  | _, .str _, _, r => by simp only [Deep] at r; simp only [Sees]; exact r.1
  | _, .lst ds, _, r => by
    simp only [Deep] at r
    simp only [Sees]
    obtain ⟨p, vs, C, e1, e2, _, e3⟩ := r
    exact ⟨p, vs, e1, e2, DeepL.sees ds e3⟩
  | _, .tup ds, _, r => by
    simp only [Deep] at r
    simp only [Sees]
    obtain ⟨p, vs, e1, e2, e3⟩ := r
    exact ⟨p, vs, e1, e2, DeepL.sees ds e3⟩
  | _, .dk ks ds, _, r => by
    simp only [Deep] at r
    simp only [Sees]
    obtain ⟨p, vs, C, e1, e2, e3, _, e4⟩ := r
    exact ⟨p, vs, e1, .inl e2, e3, DeepL.sees ds e4⟩
  | _, .ins c ds, _, r => by
    simp only [Deep] at r
    simp only [Sees]
    obtain ⟨p, dx, vs, C, e1, e2, e3, _, e4⟩ := r
    exact ⟨p, dx, vs, e1, e2, e3, DeepL.sees ds e4⟩
  | _, .scr _, _, r => by simp only [Deep] at r
theorem DeepL.sees : ∀ {vs : List V} (ds : List D) {B : List Addr}, DeepL K T h vs ds B → SeesL K T h vs ds
  | _, [], _, r => by simp only [DeepL] at r; simp only [SeesL]; exact r.1
  | _, d :: ds, _, r => by
    simp only [DeepL] at r
    simp only [SeesL]
    obtain ⟨v, q, B1, B2, e1, _, e2, e3⟩ := r
    exact ⟨v, q, e1, Deep.sees d e2, DeepL.sees ds e3⟩
end
/-- what may be owned -/
def Mu (o : HO) : Prop := match o with
  | .lst _ => True
  | .dK _ => True
  | .ins _ _ _ => True
  | _ => False
mutual
theorem Deep.mem : ∀ {v : V} (d : D) {B : List Addr}, Deep K T h v d B → ∀ b ∈ B, ∃ o, h b = some o ∧ Mu o
  | _, .non, _, r => by simp only [Deep] at r; rw [r.2]; intro b hb; cases hb
  | _, .bl _, _, r => by simp only [Deep] at r; rw [r.2]; intro b hb; cases hb
  | _, .int _, _, r => by simp only [Deep] at r; rw [r.2]; intro b hb; cases hb
  | _, .str _, _, r => by simp only [Deep] at r; rw [r.2]; intro b hb; cases hb
  | _, .lst ds, _, r => by
    simp only [Deep] at r
    obtain ⟨p, vs, C, _, e2, rfl, e3⟩ := r
    intro b hb
    rcases List.mem_cons.mp hb with rfl | hb
    · exact ⟨_, e2, trivial⟩
    · exact DeepL.mem ds e3 b hb
  | _, .tup ds, _, r => by
    simp only [Deep] at r
    obtain ⟨p, vs, _, _, e3⟩ := r
    exact DeepL.mem ds e3
  | _, .dk ks ds, _, r => by
    simp only [Deep] at r
    obtain ⟨p, vs, C, _, e2, _, rfl, e3⟩ := r
    intro b hb
    rcases List.mem_cons.mp hb with rfl | hb
    · exact ⟨_, e2, trivial⟩
    · exact DeepL.mem ds e3 b hb
  | _, .ins c ds, _, r => by
    simp only [Deep] at r
    obtain ⟨p, dx, vs, C, _, e2, _, rfl, e3⟩ := r
    intro b hb
    rcases List.mem_cons.mp hb with rfl | hb
    · exact ⟨_, e2, trivial⟩
    · exact DeepL.mem ds e3 b hb
  | _, .scr _, _, r => by simp only [Deep] at r
theorem DeepL.mem : ∀ {vs : List V} (ds : List D) {B : List Addr}, DeepL K T h vs ds B → ∀ b ∈ B, ∃ o, h b = some o ∧ Mu o
  | _, [], _, r => by simp only [DeepL] at r; rw [r.2]; intro b hb; cases hb
  | _, d :: ds, _, r => by
    simp only [DeepL] at r
    obtain ⟨v, q, B1, B2, _, rfl, e2, e3⟩ := r
    intro b hb
    rcases List.mem_append.mp hb with hb | hb
    · exact Deep.mem d e2 b hb
    · exact DeepL.mem ds e3 b hb
end
mutual
theorem Deep.keep (kt : ∀ a xs, h a = some (.tup xs) → h' a = some (.tup xs)) : ∀ {v : V} (d : D) {B : List Addr}, Deep K T h v d B → (∀ b ∈ B, h' b = h b) → Deep K T h' v d B
  | _, .non, _, r, _ => by simpa only [Deep] using r
  | _, .bl _, _, r, _ => by simpa only [Deep] using r
  | _, .int _, _, r, _ => by simpa only [Deep] using r
  | _, .str _, _, r, _ => by simpa only [Deep] using r
  | _, .lst ds, _, r, k => by
    simp only [Deep] at r ⊢
    obtain ⟨p, vs, C, e1, e2, rfl, e3⟩ := r
    exact ⟨p, vs, C, e1, (k p List.mem_cons_self).trans e2, rfl, DeepL.keep kt ds e3 fun b hb => k b (List.mem_cons_of_mem _ hb)⟩
  | _, .tup ds, _, r, k => by
    simp only [Deep] at r ⊢
    obtain ⟨p, vs, e1, e2, e3⟩ := r
    exact ⟨p, vs, e1, e2.keep kt, DeepL.keep kt ds e3 k⟩
  | _, .dk ks ds, _, r, k => by
    simp only [Deep] at r ⊢
    obtain ⟨p, vs, C, e1, e2, e4, rfl, e3⟩ := r
    exact ⟨p, vs, C, e1, (k p List.mem_cons_self).trans e2, e4, rfl, DeepL.keep kt ds e3 fun b hb => k b (List.mem_cons_of_mem _ hb)⟩
  | _, .ins c ds, _, r, k => by
    simp only [Deep] at r ⊢
    obtain ⟨p, dx, vs, C, e1, e2, e4, rfl, e3⟩ := r
    exact ⟨p, dx, vs, C, e1, (k p List.mem_cons_self).trans e2, e4, rfl, DeepL.keep kt ds e3 fun b hb => k b (List.mem_cons_of_mem _ hb)⟩
  | _, .scr _, _, r, _ => by simp only [Deep] at r
theorem DeepL.keep (kt : ∀ a xs, h a = some (.tup xs) → h' a = some (.tup xs)) : ∀ {vs : List V} (ds : List D) {B : List Addr}, DeepL K T h vs ds B → (∀ b ∈ B, h' b = h b) → DeepL K T h' vs ds B
  | _, [], _, r, _ => by simpa only [DeepL] using r
  | _, d :: ds, _, r, k => by
    simp only [DeepL] at r ⊢
    obtain ⟨v, q, B1, B2, e1, rfl, e2, e3⟩ := r
    exact ⟨v, q, B1, B2, e1, rfl, Deep.keep kt d e2 fun b hb => k b (List.mem_append_left _ hb), DeepL.keep kt ds e3 fun b hb => k b (List.mem_append_right _ hb)⟩
end
mutual
/-- what holds no list is all ours, whoever sees it -/
theorem Sees.deep : ∀ {v : V} (d : D), imm d = true → Sees K T h v d → Deep K T h v d []
  | _, .non, _, r => by simp only [Sees] at r; simp only [Deep]; exact ⟨r, trivial⟩
  | _, .bl _, _, r => by simp only [Sees] at r; simp only [Deep]; exact ⟨r, trivial⟩
  | _, .int _, _, r => by simp only [Sees] at r; simp only [Deep]; exact ⟨r, trivial⟩
  | _, .str _, _, r => by simp only [Sees] at r; simp only [Deep]; exact ⟨r, trivial⟩
  | _, .lst _, i, _ => by simp only [imm] at i; cases i
  | _, .tup ds, i, r => by
    simp only [imm] at i
    simp only [Sees] at r
    simp only [Deep]
    obtain ⟨p, vs, e1, e2, e3⟩ := r
    exact ⟨p, vs, e1, e2, SeesL.deep ds i e3⟩
  | _, .dk _ _, i, _ => by simp only [imm] at i; cases i
  | _, .ins _ _, i, _ => by simp only [imm] at i; cases i
  | _, .scr _, i, _ => by simp only [imm] at i; cases i
theorem SeesL.deep : ∀ {vs : List V} (ds : List D), immL ds = true → SeesL K T h vs ds → DeepL K T h vs ds []
  | _, [], _, r => by simp only [SeesL] at r; simp only [DeepL]; exact ⟨r, trivial⟩
  | _, d :: ds, i, r => by
    simp only [immL, Bool.and_eq_true] at i
    simp only [SeesL] at r
    simp only [DeepL]
    obtain ⟨v, q, e1, e2, e3⟩ := r
    exact ⟨v, q, [], [], e1, rfl, Sees.deep d i.1 e2, SeesL.deep ds i.2 e3⟩
end
mutual
theorem Deep.nil : ∀ {v : V} (d : D) {B : List Addr}, imm d = true → Deep K T h v d B → B = []
  | _, .non, _, _, r => by simp only [Deep] at r; exact r.2
  | _, .bl _, _, _, r => by simp only [Deep] at r; exact r.2
  | _, .int _, _, _, r => by simp only [Deep] at r; exact r.2
  | _, .str _, _, _, r => by simp only [Deep] at r; exact r.2
  | _, .lst _, _, i, _ => by simp only [imm] at i; cases i
  | _, .tup ds, _, i, r => by
    simp only [imm] at i
    simp only [Deep] at r
    obtain ⟨p, vs, _, _, e3⟩ := r
    exact DeepL.nil ds i e3
  | _, .dk _ _, _, i, _ => by simp only [imm] at i; cases i
  | _, .ins _ _, _, i, _ => by simp only [imm] at i; cases i
  | _, .scr _, _, i, _ => by simp only [imm] at i; cases i
theorem DeepL.nil : ∀ {vs : List V} (ds : List D) {B : List Addr}, immL ds = true → DeepL K T h vs ds B → B = []
  | _, [], _, _, r => by simp only [DeepL] at r; exact r.2
  | _, d :: ds, _, i, r => by
    simp only [immL, Bool.and_eq_true] at i
    simp only [DeepL] at r
    obtain ⟨v, q, B1, B2, _, rfl, e2, e3⟩ := r
    rw [Deep.nil d i.1 e2, DeepL.nil ds i.2 e3]
    rfl
end
/-! ### lists of what is seen -/
theorem SeesL.len : ∀ {vs : List V} (ds : List D), SeesL K T h vs ds → vs.length = ds.length
  | _, [], r => by simp only [SeesL] at r; rw [r]; rfl
  | _, d :: ds, r => by
    simp only [SeesL] at r
    obtain ⟨v, q, rfl, _, e3⟩ := r
    simp only [List.length_cons, SeesL.len ds e3]
theorem SeesL.get : ∀ {vs : List V} {ds : List D} {i : Nat} {d : D}, SeesL K T h vs ds → ds[i]? = some d → ∃ v, vs[i]? = some v ∧ Sees K T h v d
  | _, [], _, _, _, e => by simp at e
  | _, d :: ds, 0, x, r, e => by
    simp only [SeesL] at r
    obtain ⟨v, q, rfl, e2, _⟩ := r
    simp at e
    subst e
    exact ⟨v, by simp, e2⟩
  | _, d :: ds, i + 1, x, r, e => by
    simp only [SeesL] at r
    obtain ⟨v, q, rfl, _, e3⟩ := r
    simpa using SeesL.get (i := i) e3 (by simpa using e)
theorem SeesL.getV : ∀ {vs : List V} {ds : List D} {i : Nat} {v : V}, SeesL K T h vs ds → vs[i]? = some v → ∃ d, ds[i]? = some d ∧ Sees K T h v d
  | _, [], _, _, r, e => by simp only [SeesL] at r; rw [r] at e; simp at e
  | _, d :: ds, 0, x, r, e => by
    simp only [SeesL] at r
    obtain ⟨v, q, rfl, e2, _⟩ := r
    simp at e
    subst e
    exact ⟨d, by simp, e2⟩
  | _, d :: ds, i + 1, x, r, e => by
    simp only [SeesL] at r
    obtain ⟨v, q, rfl, _, e3⟩ := r
    simpa using SeesL.getV (i := i) e3 (by simpa using e)
theorem SeesL.app : ∀ {vs ws : List V} {ds es : List D}, SeesL K T h vs ds → SeesL K T h ws es → SeesL K T h (vs ++ ws) (ds ++ es)
  | _, _, [], _, r, q => by
    simp only [SeesL] at r
    rw [r]
    exact q
  | _, _, d :: ds, _, r, q => by
    simp only [SeesL] at r
    obtain ⟨v, t, rfl, e2, e3⟩ := r
    simp only [List.cons_append, SeesL]
    exact ⟨v, _, rfl, e2, SeesL.app e3 q⟩
theorem SeesL.one {v : V} {d : D} (r : Sees K T h v d) : SeesL K T h [v] [d] := by
  simp only [SeesL]
  exact ⟨v, [], rfl, r, rfl⟩
theorem SeesL.drop : ∀ {vs : List V} {ds : List D} (n : Nat), SeesL K T h vs ds → SeesL K T h (vs.drop n) (ds.drop n)
  | _, _, 0, r => r
  | _, [], n + 1, r => by
    simp only [SeesL] at r
    subst r
    simp [SeesL]
  | _, d :: ds, n + 1, r => by
    simp only [SeesL] at r
    obtain ⟨v, t, rfl, e2, e3⟩ := r
    exact SeesL.drop n e3
theorem SeesL.take : ∀ {vs : List V} {ds : List D} (n : Nat), SeesL K T h vs ds → SeesL K T h (vs.take n) (ds.take n)
  | _, _, 0, r => by simp [SeesL]
  | _, [], n + 1, r => by
    simp only [SeesL] at r
    subst r
    simp [SeesL]
  | _, d :: ds, n + 1, r => by
    simp only [SeesL] at r
    obtain ⟨v, t, rfl, e2, e3⟩ := r
    simp only [List.take_succ_cons, SeesL]
    exact ⟨v, _, rfl, e2, SeesL.take n e3⟩
theorem SeesL.rev : ∀ {vs : List V} {ds : List D}, SeesL K T h vs ds → SeesL K T h vs.reverse ds.reverse
  | _, [], r => by
    simp only [SeesL] at r
    subst r
    simp [SeesL]
  | _, d :: ds, r => by
    simp only [SeesL] at r
    obtain ⟨v, t, rfl, e2, e3⟩ := r
    simp only [List.reverse_cons]
    exact SeesL.app (SeesL.rev e3) (SeesL.one e2)
theorem SeesL.of_get {vs : List V} {ds : List D} (hl : vs.length = ds.length) (g : ∀ (i : Nat) v d, vs[i]? = some v → ds[i]? = some d → Sees K T h v d) : SeesL K T h vs ds := by
  induction ds generalizing vs with
  | nil =>
    simp only [SeesL]
    exact List.length_eq_zero_iff.mp hl
  | cons d ds ih =>
    cases vs with
    | nil => simp at hl
    | cons v r =>
      simp only [SeesL]
      refine ⟨v, r, rfl, g 0 v d rfl rfl, ih (by simpa using hl) fun i v' d' e1 e2 => g (i + 1) v' d' (by simpa using e1) (by simpa using e2)⟩
theorem seesL_ints : ∀ (ns : List Int), SeesL K T h (ns.map V.int) (ns.map D.int)
  | [] => by simp [SeesL]
  | n :: ns => by
    simp only [List.map_cons, SeesL]
    exact ⟨_, _, rfl, by simp only [Sees], seesL_ints ns⟩
theorem seesL_ints_inv : ∀ (ns : List Int) {vs : List V}, SeesL K T h vs (ns.map D.int) → vs = ns.map V.int
  | [], vs, r => by simpa [SeesL] using r
  | n :: ns, vs, r => by
    simp only [List.map_cons, SeesL, Sees] at r
    obtain ⟨v, q, rfl, rfl, e⟩ := r
    rw [seesL_ints_inv ns e]
    rfl
theorem DeepL.len : ∀ {vs : List V} (ds : List D) {B : List Addr}, DeepL K T h vs ds B → vs.length = ds.length := fun ds _ r => SeesL.len ds (DeepL.sees ds r)
theorem DeepL.app : ∀ {vs ws : List V} {ds es : List D} {B C : List Addr}, DeepL K T h vs ds B → DeepL K T h ws es C → DeepL K T h (vs ++ ws) (ds ++ es) (B ++ C)
  | _, _, [], _, _, _, r, q => by
    simp only [DeepL] at r
    rw [r.1, r.2]
    exact q
  | _, _, d :: ds, _, _, _, r, q => by
    simp only [DeepL] at r
    obtain ⟨v, t, B1, B2, rfl, rfl, e2, e3⟩ := r
    simp only [List.cons_append, DeepL]
    exact ⟨v, _, B1, _, rfl, List.append_assoc .., e2, DeepL.app e3 q⟩
theorem DeepL.one {v : V} {d : D} {B : List Addr} (r : Deep K T h v d B) : DeepL K T h [v] [d] B := by
  simp only [DeepL]
  exact ⟨v, [], B, [], rfl, (List.append_nil _).symm, r, rfl, rfl⟩

/-! ### what is held -/
theorem Rep.sees {v : V} {d : D} {m : M} {B : List Addr} (e : Sub s h) (r : Rep K T s h v d m B) : Sees K T h v d := by
  cases m with
  | sh => exact Sees.ext e d r.2
  | dp => exact Deep.sees d r
  | o1 =>
    obtain ⟨p, rfl, _, t⟩ := r
    cases d with
    | lst ds =>
      obtain ⟨vs, e1, e2⟩ := t
      simp only [Sees]
      exact ⟨p, vs, rfl, e1, SeesL.ext e ds e2⟩
    | dk ks ds =>
      obtain ⟨vs, e1, e3, e2⟩ := t
      simp only [Sees]
      exact ⟨p, vs, rfl, .inl e1, e3, SeesL.ext e ds e2⟩
    | ins c ds =>
      obtain ⟨dx, vs, e1, e3, e2⟩ := t
      simp only [Sees]
      exact ⟨p, dx, vs, rfl, e1, e3, SeesL.ext e ds e2⟩
    | _ => exact t.elim
theorem Rep.mem {v : V} {d : D} {m : M} {B : List Addr} (r : Rep K T s h v d m B) : ∀ b ∈ B, ∃ o, h b = some o ∧ Mu o := by
  cases m with
  | sh => rw [r.1]; intro b hb; cases hb
  | dp => exact Deep.mem d r
  | o1 =>
    obtain ⟨p, rfl, rfl, t⟩ := r
    intro b hb
    have eb : b = p := by simpa using hb
    subst eb
    cases d with
    | lst ds =>
      obtain ⟨vs, e1, e2⟩ := t
      exact ⟨_, e1, trivial⟩
    | dk ks ds =>
      obtain ⟨vs, e1, e3, e2⟩ := t
      exact ⟨_, e1, trivial⟩
    | ins c ds =>
      obtain ⟨dx, vs, e1, e3, e2⟩ := t
      exact ⟨_, e1, trivial⟩
    | _ => exact t.elim
theorem Rep.keep {v : V} {d : D} {m : M} {B : List Addr} (e : Sub s s') (kt : ∀ a xs, h a = some (.tup xs) → h' a = some (.tup xs)) (r : Rep K T s h v d m B) (k : ∀ b ∈ B, h' b = h b) : Rep K T s' h' v d m B := by
  cases m with
  | sh => exact ⟨r.1, Sees.ext e d r.2⟩
  | dp => exact Deep.keep kt d r k
  | o1 =>
    obtain ⟨p, rfl, rfl, t⟩ := r
    refine ⟨p, rfl, rfl, ?_⟩
    have kp := k p List.mem_cons_self
    cases d with
    | lst ds =>
      obtain ⟨vs, e1, e2⟩ := t
      exact ⟨vs, kp.trans e1, SeesL.ext e ds e2⟩
    | dk ks ds =>
      obtain ⟨vs, e1, e3, e2⟩ := t
      exact ⟨vs, kp.trans e1, e3, SeesL.ext e ds e2⟩
    | ins c ds =>
      obtain ⟨dx, vs, e1, e3, e2⟩ := t
      exact ⟨dx, vs, kp.trans e1, e3, SeesL.ext e ds e2⟩
    | _ => exact t.elim
end
end G
set_option Elab.async false
set_option linter.all false
set_option maxRecDepth 100000
set_option maxHeartbeats 4000000
/-! G2: growth of heaps, environments, the judgements over data -/
namespace G
open PySem PySem.Spec PyProof.Rows L2

abbrev Tabs (T : Tx) (h : Hp) : Prop := LamX.Tabs T.tabs h
/-- nothing is changed, something is new -/
structure Gr (T : Tx) (s h s' h' : Hp) : Prop where
  ss : Sub s s'
  hh : Sub h h'
  tbl : ∀ a ps, h a = some (.tbl ps) → ∃ more, h' a = some (.tbl (ps ++ more))
  sub : Sub s' h'
  new : ∀ a, s' a ≠ none → s a ≠ none ∨ h a = none ∨ ∃ xs, h a = some (.tup xs)
  tab : Tabs T h → Tabs T h'
section
variable {K : PySem.W.Frag} {T : Tx} {s s' s2 h h' h2 : Hp}
theorem Gr.refl (e : Sub s h) : Gr T s h s h := ⟨Sub.rfl', Sub.rfl', fun a ps e => ⟨#[], by rw [e]; simp⟩, e, fun a n => .inl n, id⟩
theorem Gr.non (g : Gr T s h s' h') {a : Addr} (e : h' a = none) : h a = none := g.hh.no a e
theorem Gr.tupB (g : Gr T s h s' h') {a : Addr} {xs : List V} (e : h' a = some (.tup xs)) : h a = none ∨ h a = some (.tup xs) := by
  cases q : h a with
  | none => exact .inl rfl
  | some o =>
    by_cases z : ∃ ps, o = .tbl ps
    · obtain ⟨ps, rfl⟩ := z
      obtain ⟨m, r⟩ := g.tbl a ps q
      rw [r] at e; cases e
    · have := g.hh.at_ a o q fun ps y => z ⟨ps, y⟩
      rw [this] at e; cases e
      exact .inr rfl
theorem Gr.trans (a : Gr T s h s' h') (b : Gr T s' h' s2 h2) : Gr T s h s2 h2 := by
  refine ⟨a.ss.trans b.ss, a.hh.trans b.hh, fun x ps e => ?_, b.sub, fun x n => ?_, b.tab ∘ a.tab⟩
  · obtain ⟨m, e1⟩ := a.tbl x ps e
    obtain ⟨m2, e2⟩ := b.tbl x _ e1
    exact ⟨m ++ m2, by rw [e2, Array.append_assoc]⟩
  · rcases b.new x n with z | z | ⟨xs, z⟩
    · exact a.new x z
    · exact .inr (.inl (a.non z))
    · rcases a.tupB z with z | z
      · exact .inr (.inl z)
      · exact .inr (.inr ⟨xs, z⟩)
theorem sub_upd (e : Sub s h) {p : Addr} {o : HO} (n : h p = none) : Sub s (upd s p o) := ⟨fun b u q z => by
  by_cases hb : b = p
  · subst hb
    rw [e.no b n] at q; cases q
  · rw [upd_ne hb]; exact q, fun b q => by
  by_cases hb : b = p
  · subst hb; exact e.no b n
  · rw [upd_ne hb] at q; exact q⟩
/-- a new object, seen by all -/
theorem Gr.alloc (e : Sub s h) {p : Addr} {o : HO} (n : h p = none) : Gr T s h (upd s p o) (upd h p o) := by
  refine ⟨sub_upd e n, sub_upd Sub.rfl' n, fun a ps q => ⟨#[], ?_⟩, ⟨fun b u q z => ?_, fun b q => ?_⟩, fun a q => ?_, fun t => t.ext fun b u q => ?_⟩
  · rw [upd_ne (ne_of_none q n), q]; simp
  · by_cases hb : b = p
    · subst hb
      rw [upd_same] at q ⊢
      exact q
    · rw [upd_ne hb] at q ⊢
      exact e.at_ b u q z
  · by_cases hb : b = p
    · subst hb
      rw [upd_same] at q; cases q
    · rw [upd_ne hb] at q ⊢
      exact e.no b q
  · by_cases hb : a = p
    · subst hb; exact .inr (.inl n)
    · rw [upd_ne hb] at q; exact .inl q
  · rw [upd_ne (ne_of_none q n)]; exact q
/-- a new object of ours -/
theorem Gr.own (e : Sub s h) {p : Addr} {o : HO} (n : h p = none) : Gr T s h s (upd h p o) := by
  refine ⟨Sub.rfl', sub_upd Sub.rfl' n, fun a ps q => ⟨#[], ?_⟩, ⟨fun b u q z => ?_, fun b q => ?_⟩, fun a q => .inl q, fun t => t.ext fun b u q => ?_⟩
  · rw [upd_ne (ne_of_none q n), q]; simp
  · have := e.at_ b u q z
    rw [upd_ne (ne_of_none this n)]; exact this
  · by_cases hb : b = p
    · subst hb; exact e.no b n
    · rw [upd_ne hb] at q; exact e.no b q
  · rw [upd_ne (ne_of_none q n)]; exact q
/-- what stands at B, and all tuples, is from now on seen by all -/
def shr (s h : Hp) (B : List Addr) : Hp := fun a => if a ∈ B then h a else match h a with
  | some (.tup xs) => some (.tup xs)
  | _ => s a
theorem shr_in {B : List Addr} {a : Addr} (m : a ∈ B) : shr s h B a = h a := if_pos m
theorem shr_tup {B : List Addr} {a : Addr} {xs : List V} (e : h a = some (.tup xs)) : shr s h B a = some (.tup xs) := by
  unfold shr
  split
  · exact e
  · rw [e]
theorem shr_cases {B : List Addr} {a : Addr} : shr s h B a = h a ∨ (shr s h B a = s a ∧ a ∉ B) := by
  unfold shr
  split
  · exact .inl rfl
  · rename_i nb
    split
    · rename_i xs e; exact .inl e.symm
    · exact .inr ⟨rfl, nb⟩
theorem shr_sub {B : List Addr} (e : Sub s h) : Sub (shr s h B) h := ⟨fun a o q z => by
  rcases shr_cases (s := s) (h := h) (B := B) (a := a) with r | ⟨r, _⟩
  · rw [r] at q; exact q
  · rw [r] at q; exact e.at_ a o q z, fun a q => by
  rcases shr_cases (s := s) (h := h) (B := B) (a := a) with r | ⟨r, _⟩
  · rw [r]; exact q
  · rw [r]; exact e.no a q⟩
theorem sub_shr {B : List Addr} (e : Sub s h) : Sub s (shr s h B) := ⟨fun a o q z => by
  rcases shr_cases (s := s) (h := h) (B := B) (a := a) with r | ⟨r, _⟩
  · rw [r]; exact e.at_ a o q z
  · rw [r]; exact q, fun a q => by
  rcases shr_cases (s := s) (h := h) (B := B) (a := a) with r | ⟨r, _⟩
  · rw [r] at q; exact e.no a q
  · rw [r] at q; exact q⟩
theorem shr_new {B : List Addr} {a : Addr} (n : shr s h B a ≠ none) : s a ≠ none ∨ a ∈ B ∨ ∃ xs, h a = some (.tup xs) := by
  unfold shr at n
  split at n
  · rename_i m; exact .inr (.inl m)
  · split at n
    · rename_i xs e; exact .inr (.inr ⟨xs, e⟩)
    · exact .inl n
theorem tupAt_shr {B : List Addr} {p : Addr} {vs : List V} (r : TupAt K h p vs) : TupAt K (shr s h B) p vs := r.keep fun _ _ q => shr_tup q

mutual
/-- what was ours is shared -/
theorem Deep.shr : ∀ {v : V} (d : D) {B C : List Addr}, Deep K T h v d B → (∀ b ∈ B, b ∈ C) → Sees K T (shr s h C) v d
  | _, .non, _, _, r, _ => by simp only [Deep] at r; simp only [Sees]; exact r.1
  | _, .bl _, _, _, r, _ => by simp only [Deep] at r; simp only [Sees]; exact r.1
  | _, .int _, _, _, r, _ => by simp only [Deep] at r; simp only [Sees]; exact r.1
  | _, .str _, _, _, r, _ => by simp only [Deep] at r; simp only [Sees]; exact r.1
  | _, .lst ds, _, C, r, k => by
    simp only [Deep] at r
    simp only [Sees]
    obtain ⟨p, vs, B', e1, e2, rfl, e3⟩ := r
    exact ⟨p, vs, e1, (shr_in (k p List.mem_cons_self)).trans e2, DeepL.shr ds e3 fun b hb => k b (List.mem_cons_of_mem _ hb)⟩
  | _, .tup ds, _, C, r, k => by
    simp only [Deep] at r
    simp only [Sees]
    obtain ⟨p, vs, e1, e2, e3⟩ := r
    exact ⟨p, vs, e1, tupAt_shr e2, DeepL.shr ds e3 k⟩
  | _, .dk ks ds, _, C, r, k => by
    simp only [Deep] at r
    simp only [Sees]
    obtain ⟨p, vs, B', e1, e2, e4, rfl, e3⟩ := r
    exact ⟨p, vs, e1, .inl ((shr_in (k p List.mem_cons_self)).trans e2), e4, DeepL.shr ds e3 fun b hb => k b (List.mem_cons_of_mem _ hb)⟩
  | _, .ins c ds, _, C, r, k => by
    simp only [Deep] at r
    simp only [Sees]
    obtain ⟨p, dx, vs, B', e1, e2, e4, rfl, e3⟩ := r
    exact ⟨p, dx, vs, e1, (shr_in (k p List.mem_cons_self)).trans e2, e4, DeepL.shr ds e3 fun b hb => k b (List.mem_cons_of_mem _ hb)⟩
  | _, .scr _, _, _, r, _ => by simp only [Deep] at r
theorem DeepL.shr : ∀ {vs : List V} (ds : List D) {B C : List Addr}, DeepL K T h vs ds B → (∀ b ∈ B, b ∈ C) → SeesL K T (shr s h C) vs ds
  | _, [], _, _, r, _ => by simp only [DeepL] at r; simp only [SeesL]; exact r.1
  | _, d :: ds, _, C, r, k => by
    simp only [DeepL] at r
    simp only [SeesL]
    obtain ⟨v, q, B1, B2, e1, rfl, e2, e3⟩ := r
    exact ⟨v, q, e1, Deep.shr d e2 fun b hb => k b (List.mem_append_left _ hb), DeepL.shr ds e3 fun b hb => k b (List.mem_append_right _ hb)⟩
end
theorem Rep.shr {v : V} {d : D} {m : M} {B C : List Addr} (e : Sub s h) (r : Rep K T s h v d m B) (k : ∀ b ∈ B, b ∈ C) : Sees K T (shr s h C) v d := by
  cases m with
  | sh => exact Sees.ext (sub_shr e) d r.2
  | dp => exact Deep.shr d r k
  | o1 =>
    obtain ⟨p, rfl, rfl, t⟩ := r
    have kp : G.shr s h C p = h p := shr_in (k p List.mem_cons_self)
    cases d with
    | lst ds =>
      obtain ⟨vs, e1, e2⟩ := t
      simp only [Sees]
      exact ⟨p, vs, rfl, kp.trans e1, SeesL.ext (sub_shr e) ds e2⟩
    | dk ks ds =>
      obtain ⟨vs, e1, e3, e2⟩ := t
      simp only [Sees]
      exact ⟨p, vs, rfl, .inl (kp.trans e1), e3, SeesL.ext (sub_shr e) ds e2⟩
    | ins c ds =>
      obtain ⟨dx, vs, e1, e3, e2⟩ := t
      simp only [Sees]
      exact ⟨p, dx, vs, rfl, kp.trans e1, e3, SeesL.ext (sub_shr e) ds e2⟩
    | _ => exact t.elim
/-- new and not seen by others -/
structure Fresh (h s' : Hp) (B : List Addr) : Prop where
  nd : B.Nodup
  nw : ∀ b ∈ B, h b = none
  ns : ∀ b ∈ B, s' b = none
theorem Fresh.nil : Fresh h s' [] := ⟨List.nodup_nil, (fun _ hb => nomatch hb), (fun _ hb => nomatch hb)⟩
theorem Gr.tupK (g : Gr T s h s' h') : ∀ a xs, h a = some (.tup xs) → h' a = some (.tup xs) := fun a xs e => g.hh.at_ a _ e (by intro ps z; cases z)
/-- what is new is shared at once -/
theorem Gr.shr {B : List Addr} (g : Gr T s h s' h') (f : Fresh h s' B) : Gr T s h (G.shr s' h' B) h' := by
  refine ⟨g.ss.trans (sub_shr g.sub), g.hh, g.tbl, shr_sub g.sub, fun a n => ?_, g.tab⟩
  rcases shr_new n with z | z | ⟨xs, z⟩
  · exact g.new a z
  · exact .inr (.inl (f.nw a z))
  · rcases g.tupB z with z | z
    · exact .inr (.inl z)
    · exact .inr (.inr ⟨xs, z⟩)
/-- what we hold stays through growth that it had no part in -/
theorem Rep.grow {v : V} {d : D} {m : M} {B : List Addr} (g : Gr T s h s' h') (r : Rep K T s h v d m B) : Rep K T s' h' v d m B :=
  r.keep g.ss g.tupK fun b hb => by
    obtain ⟨o, e, mu⟩ := r.mem b hb
    rw [g.hh.at_ b o e fun ps z => by subst z; exact mu, e]
theorem grow_none {b : Addr} {o : HO} (g : Gr T s h s' h') (e : h b = some o) (mu : Mu o) (n : s b = none) : s' b = none := by
  cases q : s' b with
  | none => rfl
  | some u =>
    rcases g.new b (by rw [q]; simp) with z | z | ⟨xs, z⟩
    · exact absurd n z
    · rw [z] at e; cases e
    · rw [z] at e; cases e; exact mu.elim
theorem Fresh.grow {v : V} {d : D} {m : M} {B : List Addr} {hz : Hp} (g : Gr T s h s' h') (r : Rep K T s h v d m B) (f : Fresh hz s B) : Fresh hz s' B :=
  ⟨f.nd, f.nw, fun b hb => by
    obtain ⟨o, e, mu⟩ := r.mem b hb
    exact grow_none g e mu (f.ns b hb)⟩

/-! ### lists of what is held -/
def RepL (K : PySem.W.Frag) (T : Tx) (s h : Hp) : List V → List (D × M) → List Addr → Prop
  | vs, [], B => vs = [] ∧ B = []
  | vs, dm :: r, B => ∃ v q B1 B2, vs = v :: q ∧ B = B1 ++ B2 ∧ Rep K T s h v dm.1 dm.2 B1 ∧ RepL K T s h q r B2
theorem RepL.mem : ∀ {dms : List (D × M)} {vs : List V} {B : List Addr}, RepL K T s h vs dms B → ∀ b ∈ B, ∃ o, h b = some o ∧ Mu o
  | [], _, _, r => by rw [r.2]; intro b hb; cases hb
  | dm :: dms, _, _, r => by
    obtain ⟨v, q, B1, B2, _, rfl, e2, e3⟩ := r
    intro b hb
    rcases List.mem_append.mp hb with hb | hb
    · exact e2.mem b hb
    · exact RepL.mem e3 b hb
theorem RepL.keep (e : Sub s s') (kt : ∀ a xs, h a = some (.tup xs) → h' a = some (.tup xs)) : ∀ {dms : List (D × M)} {vs : List V} {B : List Addr}, RepL K T s h vs dms B → (∀ b ∈ B, h' b = h b) → RepL K T s' h' vs dms B
  | [], _, _, r, _ => r
  | dm :: dms, _, _, r, k => by
    obtain ⟨v, q, B1, B2, e1, rfl, e2, e3⟩ := r
    exact ⟨v, q, B1, B2, e1, rfl, e2.keep e kt fun b hb => k b (List.mem_append_left _ hb), RepL.keep e kt e3 fun b hb => k b (List.mem_append_right _ hb)⟩
theorem RepL.grow {dms : List (D × M)} {vs : List V} {B : List Addr} (g : Gr T s h s' h') (r : RepL K T s h vs dms B) : RepL K T s' h' vs dms B :=
  r.keep g.ss g.tupK fun b hb => by
    obtain ⟨o, e, mu⟩ := r.mem b hb
    rw [g.hh.at_ b o e fun ps z => by subst z; exact mu, e]
theorem RepL.shr (e : Sub s h) : ∀ {dms : List (D × M)} {vs : List V} {B C : List Addr}, RepL K T s h vs dms B → (∀ b ∈ B, b ∈ C) → SeesL K T (shr s h C) vs (dms.map (·.1))
  | [], _, _, _, r, _ => by simp only [List.map_nil, SeesL]; exact r.1
  | dm :: dms, _, _, _, r, k => by
    obtain ⟨v, q, B1, B2, e1, rfl, e2, e3⟩ := r
    simp only [List.map_cons, SeesL]
    exact ⟨v, q, e1, e2.shr e fun b hb => k b (List.mem_append_left _ hb), RepL.shr e e3 fun b hb => k b (List.mem_append_right _ hb)⟩
/-- all of them all ours -/
def allDp (dms : List (D × M)) : Bool := dms.all fun x => decide (x.2 = .dp)
theorem RepL.deep : ∀ {dms : List (D × M)} {vs : List V} {B : List Addr}, allDp dms = true → RepL K T s h vs dms B → DeepL K T h vs (dms.map (·.1)) B
  | [], _, _, _, r => by simp only [List.map_nil, DeepL]; exact r
  | (d, m) :: dms, _, _, a, r => by
    obtain ⟨v, q, B1, B2, e1, e0, e2, e3⟩ := r
    simp only [allDp, List.all_cons, Bool.and_eq_true, decide_eq_true_eq] at a
    simp only [List.map_cons, DeepL]
    have em : m = .dp := a.1
    subst em
    exact ⟨v, q, B1, B2, e1, e0, e2, RepL.deep a.2 e3⟩
theorem RepL.len : ∀ {dms : List (D × M)} {vs : List V} {B : List Addr}, RepL K T s h vs dms B → vs.length = dms.length
  | [], _, _, r => by rw [r.1]; rfl
  | dm :: dms, _, _, r => by
    obtain ⟨v, q, B1, B2, rfl, e0, e2, e3⟩ := r
    simp only [List.length_cons, RepL.len e3]
end

/-! ### the judgements of what only reads -/
abbrev St := L2.St
abbrev VEnv := List (Option D)
def VOk (K : PySem.W.Frag) (T : Tx) (s : Hp) (σ : St) (ve : VEnv) : Prop := ∀ (i : Nat) (d : D), ve[i]? = some (some d) → ∃ v, σ[i]? = some (some v) ∧ Sees K T s v d
theorem VOk.ext {K : PySem.W.Frag} {T : Tx} {s s' : Hp} {σ : St} {ve : VEnv} (e : Sub s s') (o : VOk K T s σ ve) : VOk K T s' σ ve := fun i d q => by
  obtain ⟨v, e1, e2⟩ := o i d q
  exact ⟨v, e1, e2.ext e d⟩
/-- where one stands -/
structure At (K : PySem.W.Frag) (T : Tx) (s h : Hp) (σ : St) (ve : VEnv) : Prop where
  sub : Sub s h
  tab : Tabs T h
  ok : VOk K T s σ ve
  len : ve.length = σ.length
theorem At.grow {K : PySem.W.Frag} {T : Tx} {s h s' h' : Hp} {σ : St} {ve : VEnv} (a : At K T s h σ ve) (g : Gr T s h s' h') : At K T s' h' σ ve := ⟨g.sub, g.tab a.tab, a.ok.ext g.ss, a.len⟩
/-- what stands behind an expression -/
structure Got (K : PySem.W.Frag) (T : Tx) (s h : Hp) (v : V) (d : D) (m : M) (s' h' : Hp) (B : List Addr) : Prop where
  gr : Gr T s h s' h'
  rep : Rep K T s' h' v d m B
  fr : Fresh h s' B
theorem Got.seen {K : PySem.W.Frag} {T : Tx} {s h s' h' : Hp} {v : V} {d : D} {m : M} {B : List Addr} (g : Got K T s h v d m s' h' B) : Gr T s h (shr s' h' B) h' ∧ Sees K T (shr s' h' B) v d :=
  ⟨g.gr.shr g.fr, g.rep.shr g.gr.sub fun _ hb => hb⟩
theorem Got.of {K : PySem.W.Frag} {T : Tx} {s h s' h' : Hp} {v : V} {d : D} (g : Gr T s h s' h') (r : Sees K T s' v d) : Got K T s h v d (im d) s' h' [] := by
  refine ⟨g, ?_, Fresh.nil⟩
  unfold im
  split
  · rename_i i
    exact Sees.deep d i (r.ext g.sub d)
  · exact ⟨rfl, r⟩
/-- behind another growth -/
theorem Got.pre {K : PySem.W.Frag} {T : Tx} {s h s1 h1 s' h' : Hp} {v : V} {d : D} {m : M} {B : List Addr} (g : Gr T s h s1 h1) (r : Got K T s1 h1 v d m s' h' B) : Got K T s h v d m s' h' B :=
  ⟨g.trans r.gr, r.rep, r.fr.nd, fun b hb => g.non (r.fr.nw b hb), r.fr.ns⟩
/-- an expression that only reads -/
def JP (T : Tx) (X : Cx) (e : Expr) (f : VEnv → Option (D × M)) : Prop := ∃ t, PE X e t ∧ ∀ (σ : St) (s h : Hp) (ve : VEnv) (d : D) (m : M) (Q : VK), At X.K T s h σ ve → f ve = some (d, m) → (∀ v s' h' B, Got X.K T s h v d m s' h' B → Q v h') → t σ h Q
/-- a test that only reads -/
def JT (T : Tx) (X : Cx) (e : Expr) (f : VEnv → Option Bool) : Prop := ∃ t, PT X e t ∧ ∀ (σ : St) (s h : Hp) (ve : VEnv) (b : Bool) (Q : Bool → Hp → Prop), At X.K T s h σ ve → f ve = some b → (∀ s' h', Gr T s h s' h' → Q b h') → t σ h Q
/-- arguments that only read -/
def JA (T : Tx) (X : Cx) (es : List Expr) (f : VEnv → Option (List (D × M))) : Prop := ∃ t, PA X es t ∧ ∀ (σ : St) (s h : Hp) (ve : VEnv) (ds : List (D × M)) (Q : List V → Hp → Prop), At X.K T s h σ ve → f ve = some ds →
  (∀ vs s' h' B, Gr T s h s' h' → RepL X.K T s' h' vs ds B → Fresh h s' B → Q vs h') → t σ h Q
/-- an operator of two values, of one -/
def O2 (T : Tx) (X : Cx) (F : Value → Value → Sem Value) (g : D → D → Option (D × M)) : Prop := ∃ r, OpR X F r ∧ ∀ (s h : Hp) (x y : V) (a b d : D) (m : M) (Q : VK), Sub s h → Tabs T h → Sees X.K T s x a → Sees X.K T s y b → g a b = some (d, m) → (∀ v s' h' B, Got X.K T s h v d m s' h' B → Q v h') → r x y h Q
def O1 (T : Tx) (X : Cx) (F : Value → Sem Value) (g : D → Option (D × M)) : Prop := ∃ r, UnR X F r ∧ ∀ (s h : Hp) (x : V) (a d : D) (m : M) (Q : VK), Sub s h → Tabs T h → Sees X.K T s x a → g a = some (d, m) → (∀ v s' h' B, Got X.K T s h v d m s' h' B → Q v h') → r x h Q
/-- a built-in called with values -/
def OC (T : Tx) (X : Cx) (F : Value) (g : List D → Option (D × M)) : Prop := ∃ r, CallR X F r ∧ ∀ (s h : Hp) (xs : List V) (ds : List D) (d : D) (m : M) (Q : VK), Sub s h → Tabs T h → SeesL X.K T s xs ds → g ds = some (d, m) → (∀ v s' h' B, Got X.K T s h v d m s' h' B → Q v h') → r xs h Q

section
variable {X : Cx} {T : Tx} {a b e : Expr} {es : List Expr} {f k : VEnv → Option (D × M)} {pos : Pos}
def pVar (i : Nat) : VEnv → Option (D × M) := fun ve => match ve[i]? with
  | some (some d) => some (d, im d)
  | _ => none
theorem jp_var (i : Nat) {x : Str} (hN : X.N[i]? = some x := by rfl) (hv : Vis X.env.scope x := by first | exact Or.inl rfl | exact Or.inr (Or.inl rfl) | exact Or.inr (Or.inr rfl)) (hd : (x == ("__debug__" : Str)) = false := by decide)
    (hcd : (x == ("__classdict__" : Str)) = false := by decide) : JP T X (.Name x pos) (pVar i) := by
  refine ⟨_, pe_var hN hv hd hcd, fun σ s h ve d m Q A q w => ?_⟩
  unfold pVar at q
  split at q
  · rename_i d' e1
    cases q
    obtain ⟨v, e2, e3⟩ := A.ok i _ e1
    exact ⟨v, e2, w v s h [] (Got.of (Gr.refl A.sub) e3)⟩
  · cases q
def pC (d : D) : VEnv → Option (D × M) := fun _ => some (d, .dp)
theorem got_atom {K : PySem.W.Frag} {T : Tx} {s h : Hp} {v : V} {d : D} (e : Sub s h) (r : Deep K T h v d []) : Got K T s h v d .dp s h [] := ⟨Gr.refl e, r, Fresh.nil⟩
theorem jp_int {i : Int} {j : Nat} : JP T X (.Constant (.int i) j pos) (pC (.int i)) :=
  ⟨_, pe_int, fun σ s h ve d m Q A q w => by cases q; exact w _ s h [] (got_atom A.sub (by simp [Deep]))⟩
theorem jp_bl {i : Bool} {j : Nat} : JP T X (.Constant (.bool i) j pos) (pC (.bl i)) :=
  ⟨_, pe_bl, fun σ s h ve d m Q A q w => by cases q; exact w _ s h [] (got_atom A.sub (by simp [Deep]))⟩
theorem jp_non {j : Nat} : JP T X (.Constant .none j pos) (pC .non) :=
  ⟨_, pe_non, fun σ s h ve d m Q A q w => by cases q; exact w _ s h [] (got_atom A.sub (by simp [Deep]))⟩
theorem jp_str {x : Str} {j : Nat} : JP T X (.Constant (.str x) j pos) (pC (.str x)) :=
  ⟨_, pe_str, fun σ s h ve d m Q A q w => by cases q; exact w _ s h [] (got_atom A.sub (by simp [Deep]))⟩
/-- a module's constant, an int -/
theorem jp_gint {x : Str} {i : Int} {t : Tok} (hg : Gl X x) (hm : X.mg x = some (.int i t)) (hd : (x == ("__debug__" : Str)) = false := by decide) : JP T X (.Name x pos) (pC (.int i)) :=
  ⟨_, pe_glob (v := .int i) hg hm ⟨t, rfl⟩ hd, fun σ s h ve d m Q A q w => by cases q; exact w _ s h [] (got_atom A.sub (by simp [Deep]))⟩
/-- two operands -/
def p2 (g : D → D → Option (D × M)) (f k : VEnv → Option (D × M)) : VEnv → Option (D × M) := fun ve => (f ve).bind fun x => (k ve).bind fun y => g x.1 y.1
def p1 (g : D → Option (D × M)) (f : VEnv → Option (D × M)) : VEnv → Option (D × M) := fun ve => (f ve).bind fun x => g x.1
theorem two_go {F : Value → Value → Sem Value} {g : D → D → Option (D × M)} {ta tb : TE} {r : R2} (ha : ∀ (σ : St) (s h : Hp) (ve : VEnv) (d : D) (m : M) (Q : VK), At X.K T s h σ ve → f ve = some (d, m) → (∀ v s' h' B, Got X.K T s h v d m s' h' B → Q v h') → ta σ h Q)
    (hb : ∀ (σ : St) (s h : Hp) (ve : VEnv) (d : D) (m : M) (Q : VK), At X.K T s h σ ve → k ve = some (d, m) → (∀ v s' h' B, Got X.K T s h v d m s' h' B → Q v h') → tb σ h Q)
    (ho : ∀ (s h : Hp) (x y : V) (a b d : D) (m : M) (Q : VK), Sub s h → Tabs T h → Sees X.K T s x a → Sees X.K T s y b → g a b = some (d, m) → (∀ v s' h' B, Got X.K T s h v d m s' h' B → Q v h') → r x y h Q)
    (σ : St) (s h : Hp) (ve : VEnv) (d : D) (m : M) (Q : VK) (A : At X.K T s h σ ve) (q : p2 g f k ve = some (d, m)) (w : ∀ v s' h' B, Got X.K T s h v d m s' h' B → Q v h') : tOp r ta tb σ h Q := by
  unfold p2 at q
  obtain ⟨⟨da, ma⟩, e1, q⟩ := Option.bind_eq_some_iff.mp q
  obtain ⟨⟨db, mb⟩, e2, q⟩ := Option.bind_eq_some_iff.mp q
  refine ha σ s h ve da ma _ A e1 fun x s1 h1 B1 G1 => ?_
  obtain ⟨g1, r1⟩ := G1.seen
  refine hb σ _ h1 ve db mb _ (A.grow g1) e2 fun y s2 h2 B2 G2 => ?_
  obtain ⟨g2, r2⟩ := G2.seen
  refine ho _ h2 x y da db d m Q g2.sub (g2.tab (g1.tab A.tab)) (r1.ext g2.ss da) r2 q fun v s3 h3 B3 G3 => ?_
  exact w v s3 h3 B3 (G3.pre (g1.trans g2))
theorem jp_bin {op : Operator} {g : D → D → Option (D × M)} (o : O2 T X (binaryOp op) g) (ha : JP T X a f) (hb : JP T X b k) : JP T X (.BinOp a op b pos) (p2 g f k) := by
  obtain ⟨r, o1, o2⟩ := o
  obtain ⟨ta, a1, a2⟩ := ha
  obtain ⟨tb, b1, b2⟩ := hb
  exact ⟨_, pe_op o1 a1 b1, two_go (F := binaryOp op) a2 b2 o2⟩
theorem jp_cmp {op : CmpOp} {g : D → D → Option (D × M)} (o : O2 T X (compareOp op) g) (ha : JP T X a f) (hb : JP T X b k) (hm : behindInMarks op b = false) : JP T X (.Compare a [op] [b] pos) (p2 g f k) := by
  obtain ⟨r, o1, o2⟩ := o
  obtain ⟨ta, a1, a2⟩ := ha
  obtain ⟨tb, b1, b2⟩ := hb
  exact ⟨_, pe_cmpR o1 a1 b1 hm, two_go (F := compareOp op) a2 b2 o2⟩
def asB (x : D × M) : Option Bool := match x.1 with
  | .bl b => some b
  | _ => none
def tOf (f : VEnv → Option (D × M)) : VEnv → Option Bool := fun ve => (f ve).bind asB
theorem jt_cmp {op : CmpOp} {g : D → D → Option (D × M)} (o : O2 T X (compareOp op) g) (ha : JP T X a f) (hb : JP T X b k) (hm : behindInMarks op b = false) : JT T X (.Compare a [op] [b] pos) (tOf (p2 g f k)) := by
  obtain ⟨r, o1, o2⟩ := o
  obtain ⟨ta, a1, a2⟩ := ha
  obtain ⟨tb, b1, b2⟩ := hb
  refine ⟨_, pt_cmpR o1 a1 b1 hm, fun σ s h ve c Q A q w => ?_⟩
  obtain ⟨⟨d, m⟩, e1, q⟩ := Option.bind_eq_some_iff.mp q
  refine two_go (F := compareOp op) a2 b2 o2 σ s h ve d m _ A e1 fun v s' h' B G => ?_
  unfold asB at q
  split at q
  · rename_i z e3
    cases q
    have e4 : d = .bl c := e3
    subst e4
    obtain ⟨g1, r1⟩ := G.seen
    simp only [Sees] at r1
    exact ⟨c, r1, w _ h' g1⟩
  · cases q
theorem jp_un {op : UnaryOp} {g : D → Option (D × M)} (o : O1 T X (unaryOp op) g) (ha : JP T X a f) : JP T X (.UnaryOp op a pos) (p1 g f) := by
  obtain ⟨r, o1, o2⟩ := o
  obtain ⟨ta, a1, a2⟩ := ha
  refine ⟨_, pe_un o1 a1, fun σ s h ve d m Q A q w => ?_⟩
  obtain ⟨⟨da, ma⟩, e1, q⟩ := Option.bind_eq_some_iff.mp q
  refine a2 σ s h ve da ma _ A e1 fun x s1 h1 B1 G1 => ?_
  obtain ⟨g1, r1⟩ := G1.seen
  exact o2 _ h1 x da d m Q g1.sub (g1.tab A.tab) r1 q fun v s3 h3 B3 G3 => w v s3 h3 B3 (G3.pre g1)
/-! arguments -/
def aNil : VEnv → Option (List (D × M)) := fun _ => some []
def aCons (f : VEnv → Option (D × M)) (k : VEnv → Option (List (D × M))) : VEnv → Option (List (D × M)) := fun ve => (f ve).bind fun x => (k ve).bind fun r => some (x :: r)
theorem ja_nil : JA T X [] aNil := ⟨_, pa_nil, fun σ s h ve ds Q A q w => by cases q; exact w [] s h [] (Gr.refl A.sub) ⟨rfl, rfl⟩ Fresh.nil⟩
theorem ja_cons {k : VEnv → Option (List (D × M))} (ha : JP T X e f) (hr : JA T X es k) (hs : starEach (e :: es) X.env = (false, eval e X.env) :: starEach es X.env := by rfl) : JA T X (e :: es) (aCons f k) := by
  obtain ⟨ta, a1, a2⟩ := ha
  obtain ⟨tb, b1, b2⟩ := hr
  refine ⟨_, pa_cons a1 b1 hs, fun σ s h ve ds Q A q w => ?_⟩
  obtain ⟨⟨da, ma⟩, e1, q⟩ := Option.bind_eq_some_iff.mp q
  obtain ⟨dr, e2, q⟩ := Option.bind_eq_some_iff.mp q
  cases q
  refine a2 σ s h ve da ma _ A e1 fun x s1 h1 B1 G1 => ?_
  refine b2 σ s1 h1 ve dr _ (A.grow G1.gr) e2 fun ys s2 h2 B2 g2 r2 f2 => ?_
  refine w (x :: ys) s2 h2 (B1 ++ B2) (G1.gr.trans g2) ⟨x, ys, B1, B2, rfl, rfl, G1.rep.grow g2, r2⟩ ⟨?_, fun b hb => ?_, fun b hb => ?_⟩
  · refine List.nodup_append.mpr ⟨G1.fr.nd, f2.nd, fun b hb c hc e => ?_⟩
    subst e
    obtain ⟨o, e1, _⟩ := G1.rep.mem b hb
    rw [f2.nw b hc] at e1; cases e1
  · rcases List.mem_append.mp hb with hb | hb
    · exact G1.fr.nw b hb
    · exact G1.gr.non (f2.nw b hb)
  · rcases List.mem_append.mp hb with hb | hb
    · exact (G1.fr.grow g2 G1.rep).ns b hb
    · exact f2.ns b hb
/-- a call of a built-in function or class by its name -/
def pCB (g : List D → Option (D × M)) (k : VEnv → Option (List (D × M))) : VEnv → Option (D × M) := fun ve => (k ve).bind fun r => g (r.map (·.1))
theorem args_go {g : List D → Option (D × M)} {k : VEnv → Option (List (D × M))} {ta : TA} {r : List V → Hp → VK → Prop} (ha : ∀ (σ : St) (s h : Hp) (ve : VEnv) (ds : List (D × M)) (Q : List V → Hp → Prop), At X.K T s h σ ve → k ve = some ds →
      (∀ vs s' h' B, Gr T s h s' h' → RepL X.K T s' h' vs ds B → Fresh h s' B → Q vs h') → ta σ h Q)
    (ho : ∀ (s h : Hp) (xs : List V) (ds : List D) (d : D) (m : M) (Q : VK), Sub s h → Tabs T h → SeesL X.K T s xs ds → g ds = some (d, m) → (∀ v s' h' B, Got X.K T s h v d m s' h' B → Q v h') → r xs h Q)
    (σ : St) (s h : Hp) (ve : VEnv) (d : D) (m : M) (Q : VK) (A : At X.K T s h σ ve) (q : pCB g k ve = some (d, m)) (w : ∀ v s' h' B, Got X.K T s h v d m s' h' B → Q v h') : tCB r ta σ h Q := by
  obtain ⟨ds, e1, q⟩ := Option.bind_eq_some_iff.mp q
  refine ha σ s h ve ds _ A e1 fun xs s1 h1 B1 g1 r1 f1 => ?_
  have g2 := g1.shr f1
  exact ho _ h1 xs _ d m Q g2.sub (g2.tab A.tab) (r1.shr g1.sub fun _ hb => hb) q fun v s3 h3 B3 G3 => w v s3 h3 B3 (G3.pre g2)
theorem jp_callB {id : String} {x : Str} {p : Pos} {g : List D → Option (D × M)} {k : VEnv → Option (List (D × M))} (o : OC T X (.builtin id) g) (hg : Gl X x) (hm : X.mg x = none) (hv : bootBuiltins x = some (.builtin id)) (ha : JA T X (e :: es) k)
    (hn : x ≠ "__name__" := by decide) (hdb : (x == ("__debug__" : Str)) = false := by decide) (h1 : starEach (e :: es) X.env = (false, eval e X.env) :: starEach es X.env := by rfl)
    (h2 : (backTo pos (starEach es X.env)).any (·.1) = false := by rfl) : JP T X (.Call (.Name x p) (e :: es) [] pos) (pCB g k) := by
  obtain ⟨r, o1, o2⟩ := o
  obtain ⟨ta, a1, a2⟩ := ha
  exact ⟨_, pe_callB o1 hg hm hv a1 hn hdb h1 h2, args_go a2 o2⟩
end
end G
set_option Elab.async false
set_option linter.all false
set_option maxRecDepth 100000
set_option maxHeartbeats 4000000
/-! G3: operators and built-in functions over data -/
namespace G
open PySem PySem.Spec PyProof.Rows L2
def lim : Nat := 16777216
theorem lim_eq : lim = sizeLine := by rw [sizeLine_eq]; rfl
/-- how a new list is held -/
def lm (ds : List D) : M := if immL ds then .dp else .o1
section
variable {K : PySem.W.Frag} {T : Tx} {s s' h h' : Hp}
theorem got_list {p : Addr} {vs : List V} {ds : List D} (e : Sub s h) (n : h p = none) (r : SeesL K T s vs ds) : Got K T s h (.ref p) (.lst ds) (lm ds) s (upd h p (.lst vs)) [p] := by
  have g : Gr T s h s (upd h p (.lst vs)) := Gr.own e n
  refine ⟨g, ?_, by simp, fun b hb => ?_, fun b hb => ?_⟩
  · unfold lm
    split
    · rename_i i
      simp only [Rep, Deep]
      exact ⟨p, vs, [], rfl, upd_same, rfl, SeesL.deep ds i (r.ext g.sub ds)⟩
    · exact ⟨p, rfl, rfl, vs, upd_same, r⟩
  · rw [List.mem_singleton.mp hb]; exact n
  · rw [List.mem_singleton.mp hb]; exact e.no p n
theorem got_tup {p : Addr} {vs : List V} {ds : List D} (e : Sub s h) (n : h p = none) (r : SeesL K T s vs ds) : Got K T s h (.ref p) (.tup ds) (im (.tup ds)) (upd s p (.tup vs)) (upd h p (.tup vs)) [] := by
  have g : Gr T s h (upd s p (.tup vs)) (upd h p (.tup vs)) := Gr.alloc e n
  refine Got.of g ?_
  simp only [Sees]
  exact ⟨p, vs, rfl, upd_same, r.ext g.ss ds⟩
theorem got_at {v : V} {d : D} (e : Sub s h) (r : Sees K T s v d) : Got K T s h v d (im d) s h [] := Got.of (Gr.refl e) r
theorem got_int {i : Int} (e : Sub s h) : Got K T s h (.int i) (.int i) .dp s h [] := got_atom e (by simp [Deep])
theorem got_bl {b : Bool} (e : Sub s h) : Got K T s h (.bl b) (.bl b) .dp s h [] := got_atom e (by simp [Deep])
theorem got_str {x : Str} (e : Sub s h) : Got K T s h (.str x) (.str x) .dp s h [] := got_atom e (by simp [Deep])
theorem got_non (e : Sub s h) : Got K T s h .non .non .dp s h [] := got_atom e (by simp [Deep])
end
/-! ### + -/
def gAdd : D → D → Option (D × M)
  | .int i, .int j => some (.int (i + j), .dp)
  | .lst xs, .lst ys => if xs.length + ys.length ≤ lim then some (.lst (xs ++ ys), lm (xs ++ ys)) else none
  | .tup xs, .tup ys => if xs.length + ys.length ≤ lim then some (.tup (xs ++ ys), im (.tup (xs ++ ys))) else none
  | .str x, .str y => if x.length + y.length ≤ lim then some (.str (x ++ y), .dp) else none
  | _, _ => none
section
variable {X : Cx} {T : Tx}
theorem o2_add : O2 T X (binaryOp .Add) gAdd := by
  refine ⟨_, op_add.or (op_cat.or (op_catA.or op_add_str)), fun s h x y a b d m Q e tb ra rb q w => ?_⟩
  unfold gAdd at q
  split at q
  · cases q
    simp only [Sees] at ra rb
    exact .inl ⟨_, _, ra, rb, w _ s h [] (got_int e)⟩
  · split at q
    · rename_i hl
      cases q
      simp only [Sees] at ra rb
      obtain ⟨p, vs, e1, e2, e3⟩ := ra
      obtain ⟨p', vs', e1', e2', e3'⟩ := rb
      refine .inr (.inl ⟨p, p', vs, vs', e1, e1', e.at_ _ _ e2 (by intro _ z; cases z), e.at_ _ _ e2' (by intro _ z; cases z), ?_, fun q n => w _ _ _ _ (got_list e n (e3.app e3'))⟩)
      rw [SeesL.len _ e3, SeesL.len _ e3', ← lim_eq]; exact hl
    · cases q
  · split at q
    · rename_i hl
      cases q
      simp only [Sees] at ra rb
      obtain ⟨p, vs, e1, e2, e3⟩ := ra
      obtain ⟨p', vs', e1', e2', e3'⟩ := rb
      refine .inr (.inr (.inl ⟨p, p', vs, vs', e1, e1', (sqT_ext e e2).sq, (sqT_ext e e2').sq, ?_, fun z => ?_, fun z z' => ?_, fun _ _ q n => w _ _ _ _ (got_tup e n (e3.app e3'))⟩))
      · rw [SeesL.len _ e3, SeesL.len _ e3', ← lim_eq]; exact hl
      · have ez := SeesL.len _ e3
        rw [z] at ez
        have ez' : _ = [] := List.length_eq_zero_iff.mp ez.symm
        subst ez'
        refine w _ s h [] (got_at e ?_)
        simp only [Sees, List.nil_append]
        exact ⟨p', vs', rfl, e2', e3'⟩
      · have ez := SeesL.len _ e3'
        rw [z'] at ez
        have ez' : _ = [] := List.length_eq_zero_iff.mp ez.symm
        subst ez'
        refine w _ s h [] (got_at e ?_)
        simp only [Sees, List.append_nil]
        exact ⟨p, vs, rfl, e2, e3⟩
    · cases q
  · split at q
    · rename_i hl
      cases q
      simp only [Sees] at ra rb
      exact .inr (.inr (.inr ⟨_, _, ra, rb, by rw [← lim_eq]; exact hl, w _ s h [] (got_str e)⟩))
    · cases q
  · cases q
/-- an operator of two ints -/
def gI (c : Int → Int → Bool) (f : Int → Int → Int) : D → D → Option (D × M)
  | .int i, .int j => if c i j then some (.int (f i j), .dp) else none
  | _, _ => none
theorem o2_int {F : Value → Value → Sem Value} {C : Int → Int → Prop} {c : Int → Int → Bool} {f : Int → Int → Int} (ho : OpR X F (rI C fun i j => .int (f i j))) (hc : ∀ i j, c i j = true → C i j) : O2 T X F (gI c f) := by
  refine ⟨_, ho, fun s h x y a b d m Q e tb ra rb q w => ?_⟩
  unfold gI at q
  split at q
  · split at q
    · rename_i hh
      cases q
      simp only [Sees] at ra rb
      exact ⟨_, _, ra, rb, hc _ _ hh, w _ s h [] (got_int e)⟩
    · cases q
  · cases q
def gSub := gI (fun _ _ => true) (· - ·)
theorem o2_sub : O2 T X (binaryOp .Sub) gSub := by
  refine ⟨_, op_sub, fun s h x y a b d m Q e tb ra rb q w => ?_⟩
  unfold gSub gI at q
  split at q
  · simp only [if_true] at q
    cases q
    simp only [Sees] at ra rb
    exact ⟨_, _, ra, rb, w _ s h [] (got_int e)⟩
  · cases q
theorem o2_int0 {F : Value → Value → Sem Value} {f : Int → Int → Int} (ho : OpR X F (rI0 fun i j => .int (f i j))) : O2 T X F (gI (fun _ _ => true) f) := by
  refine ⟨_, ho, fun s h x y a b d m Q e tb ra rb q w => ?_⟩
  unfold gI at q
  split at q
  · simp only [if_true] at q
    cases q
    simp only [Sees] at ra rb
    exact ⟨_, _, ra, rb, w _ s h [] (got_int e)⟩
  · cases q
def small64 (i : Int) : Bool := decide (i.natAbs < 2 ^ 64)
theorem small64_b {i : Int} : small64 i = true ↔ (-(2 ^ 64) < i ∧ i < 2 ^ 64) := by
  simp only [small64, decide_eq_true_eq]
  omega
/-- * : two ints one of which is small; a list by an int -/
def gMul : D → D → Option (D × M)
  | .int i, .int j => if small64 i || small64 j then some (.int (i * j), .dp) else none
  | .lst xs, .int k => if small64 (2 * k) && decide (xs.length * k.toNat ≤ lim) then some (.lst (List.replicate k.toNat xs).flatten, lm (List.replicate k.toNat xs).flatten) else none
  | _, _ => none
theorem seesL_rep {K : PySem.W.Frag} {s : Hp} {vs : List V} {ds : List D} (r : SeesL K T s vs ds) : ∀ k, SeesL K T s (List.replicate k vs).flatten (List.replicate k ds).flatten
  | 0 => by simp [SeesL]
  | k + 1 => by
    rw [List.replicate_succ, List.replicate_succ, List.flatten_cons, List.flatten_cons]
    exact r.app (seesL_rep r k)
theorem o2_mul : O2 T X (binaryOp .Mult) gMul := by
  refine ⟨_, op_mul.or op_rep, fun s h x y a b d m Q e tb ra rb q w => ?_⟩
  unfold gMul at q
  split at q
  · split at q
    · rename_i hh
      cases q
      simp only [Sees] at ra rb
      simp only [small64_b, Bool.or_eq_true, Bool.and_eq_true, decide_eq_true_eq] at hh
      exact .inl ⟨_, _, ra, rb, hh, w _ s h [] (got_int e)⟩
    · cases q
  · split at q
    · rename_i hh
      cases q
      simp only [Sees] at ra rb
      obtain ⟨p, vs, e1, e2, e3⟩ := ra
      simp only [small64_b, Bool.and_eq_true, decide_eq_true_eq] at hh
      refine .inr ⟨p, _, vs, e1, rb, e.at_ _ _ e2 (by intro _ z; cases z), by omega, by omega, ?_, fun q n => w _ _ _ _ (got_list e n (seesL_rep e3 _))⟩
      rw [SeesL.len _ e3, ← lim_eq]; exact hh.2
    · cases q
  · cases q
def gFdiv := gI (fun _ j => decide (j ≠ 0) && decide (j.natAbs < 1073741824)) Int.fdiv
theorem o2_fdiv : O2 T X (binaryOp .FloorDiv) gFdiv := o2_int op_fdivN fun i j h => by
  simp only [Bool.and_eq_true, decide_eq_true_eq] at h
  exact h
def gMod := gI (fun _ j => decide (j ≠ 0)) Int.fmod
theorem o2_mod : O2 T X (binaryOp .Mod) gMod := o2_int op_modN fun i j h => by simpa using h
def gPow := gI (fun i j => decide (0 ≤ j) && decide ((Builtin.Int.intBits i : Int) * j ≤ 2 ^ 27)) (fun i j => i ^ j.toNat)
theorem op_powX : OpR X (binaryOp .Pow) (rI (fun i j => 0 ≤ j ∧ (Builtin.Int.intBits i : Int) * j ≤ 2 ^ 27) fun i j => .int (i ^ j.toNat)) := opI fun _ _ _ _ _ _ _ hc q => pow_int hc.1 hc.2 q
theorem o2_pow : O2 T X (binaryOp .Pow) gPow := o2_int op_powX fun i j h => by
  simp only [Bool.and_eq_true, decide_eq_true_eq] at h
  exact h
def gAnd := gI (fun _ _ => true) Builtin.bitAnd
theorem o2_and : O2 T X (binaryOp .BitAnd) gAnd := o2_int0 op_and
def gOr := gI (fun _ _ => true) Builtin.bitOr
theorem o2_or : O2 T X (binaryOp .BitOr) gOr := o2_int0 op_or
def gXor := gI (fun _ _ => true) Builtin.bitXor
theorem o2_xor : O2 T X (binaryOp .BitXor) gXor := o2_int0 op_xor
def gShl := gI (fun i j => decide (0 ≤ j) && decide (j.toNat ≤ 1000000) && small64 i) (fun i j => i * 2 ^ j.toNat)
theorem o2_shl : O2 T X (binaryOp .LShift) gShl := o2_int op_shl fun i j h => by
  simp only [small64_b, Bool.and_eq_true, decide_eq_true_eq] at h
  exact ⟨h.1.1, by omega, by omega⟩
def gShr := gI (fun _ j => decide (0 ≤ j)) (fun i j => i / 2 ^ j.toNat)
theorem o2_shr : O2 T X (binaryOp .RShift) gShr := o2_int op_shr fun i j h => by simpa using h
def gNeg : D → Option (D × M)
  | .int i => some (.int (-i), .dp)
  | _ => none
theorem o1_neg : O1 T X (unaryOp .USub) gNeg := by
  refine ⟨_, un_neg, fun s h x a d m Q e tb ra q w => ?_⟩
  unfold gNeg at q
  split at q
  · cases q
    simp only [Sees] at ra
    exact ⟨_, ra, w _ s h [] (got_int e)⟩
  · cases q
def gInv : D → Option (D × M)
  | .int i => some (.int (Builtin.bitNot i), .dp)
  | _ => none
theorem o1_inv : O1 T X (unaryOp .Invert) gInv := by
  refine ⟨_, un_inv, fun s h x a d m Q e tb ra q w => ?_⟩
  unfold gInv at q
  split at q
  · cases q
    simp only [Sees] at ra
    exact ⟨_, ra, w _ s h [] (got_int e)⟩
  · cases q
/-! ### comparisons of ints -/
def gC (f : Int → Int → Bool) : D → D → Option (D × M)
  | .int i, .int j => some (.bl (f i j), .dp)
  | _, _ => none
theorem o2_cmp {F : Value → Value → Sem Value} {f : Int → Int → Bool} (ho : OpR X F (rI0 fun i j => .bl (f i j))) : O2 T X F (gC f) := by
  refine ⟨_, ho, fun s h x y a b d m Q e tb ra rb q w => ?_⟩
  unfold gC at q
  split at q
  · cases q
    simp only [Sees] at ra rb
    exact ⟨_, _, ra, rb, w _ s h [] (got_bl e)⟩
  · cases q
def gLt := gC fun i j => decide (i < j)
def gLe := gC fun i j => decide (i ≤ j)
def gGt := gC fun i j => decide (j < i)
def gGe := gC fun i j => decide (j ≤ i)
theorem o2_lt : O2 T X (compareOp .Lt) gLt := o2_cmp op_lt
theorem o2_le : O2 T X (compareOp .LtE) gLe := o2_cmp op_le
theorem o2_gt : O2 T X (compareOp .Gt) gGt := o2_cmp op_gt
theorem o2_ge : O2 T X (compareOp .GtE) gGe := o2_cmp op_ge
/-! ### == of plain data -/
mutual
def py : D → PyData
  | .non => .none
  | .bl b => .bool b
  | .int i => .int i
  | .str x => .str x
  | .lst xs => .list (pyL xs)
  | .tup xs => .tuple (pyL xs)
  | .dk _ _ => .dict []
  | .ins _ _ => .dict []
  | .scr _ => .dict []
def pyL : List D → List PyData
  | [] => []
  | d :: ds => py d :: pyL ds
end
def eqOk (d : D) : Bool := SeqAt.shaped (py d)
mutual
theorem Sees.dp {K : PySem.W.Frag} {s h : Hp} (e : Sub s h) : ∀ {v : V} (d : D), (py d).canLay0 = true → Sees K T s v d → Dp K h v (py d)
  | _, .non, _, r => by simp only [Sees] at r; subst r; simp only [py]; exact .non
  | _, .bl b, _, r => by simp only [Sees] at r; subst r; simp only [py]; exact .bl b
  | _, .int i, _, r => by simp only [Sees] at r; subst r; simp only [py]; exact .int i
  | _, .str x, _, r => by simp only [Sees] at r; subst r; simp only [py]; exact .str x
  | _, .lst xs, c, r => by
    simp only [Sees] at r
    simp only [py, PyData.canLay0] at c
    obtain ⟨p, vs, rfl, e2, e3⟩ := r
    simp only [py]
    exact .lst (SqL.of (e.at_ _ _ e2 (by intro _ z; cases z))) (SeesL.dp e xs c e3)
  | _, .tup xs, c, r => by
    simp only [Sees] at r
    simp only [py, PyData.canLay0] at c
    obtain ⟨p, vs, rfl, e2, e3⟩ := r
    simp only [py]
    exact .tup (sqT_ext e e2).sq (SeesL.dp e xs c e3)
  | _, .dk _ _, c, _ => by simp [py, PyData.canLay0] at c
  | _, .ins _ _, c, _ => by simp [py, PyData.canLay0] at c
  | _, .scr _, c, _ => by simp [py, PyData.canLay0] at c
theorem SeesL.dp {K : PySem.W.Frag} {s h : Hp} (e : Sub s h) : ∀ {vs : List V} (ds : List D), PyData.canLayAll0 (pyL ds) = true → SeesL K T s vs ds → DpAll K h vs (pyL ds)
  | _, [], _, r => by simp only [SeesL] at r; subst r; simp only [pyL]; exact .nil
  | _, d :: ds, c, r => by
    simp only [SeesL] at r
    simp only [pyL, PyData.canLayAll0, Bool.and_eq_true] at c
    obtain ⟨v, q, rfl, e2, e3⟩ := r
    simp only [pyL]
    exact .cons (Sees.dp e d c.1 e2) (SeesL.dp e ds c.2 e3)
end
theorem eqOk_lay {d : D} (h : eqOk d = true) : (py d).canLay0 = true := SeqAt.canLay_of_shaped h
def gEq (a b : D) : Option (D × M) := if eqOk a && eqOk b then some (.bl (PyData.eqv (py a) (py b)), .dp) else none
def gNe (a b : D) : Option (D × M) := if eqOk a && eqOk b then some (.bl (!PyData.eqv (py a) (py b)), .dp) else none
theorem o2_eq (hu : X.A.units + 64 < cLine) : O2 T X (compareOp .Eq) gEq := by
  refine ⟨_, op_eqD hu, fun s h x y a b d m Q e tb ra rb q w => ?_⟩
  unfold gEq at q
  split at q
  · rename_i hh
    cases q
    rw [Bool.and_eq_true] at hh
    exact ⟨py a, py b, ra.dp e a (eqOk_lay hh.1), rb.dp e b (eqOk_lay hh.2), hh.1, hh.2, w _ s h [] (got_bl e)⟩
  · cases q
theorem o2_ne (hu : X.A.units + 64 < cLine) : O2 T X (compareOp .NotEq) gNe := by
  refine ⟨_, op_neD hu, fun s h x y a b d m Q e tb ra rb q w => ?_⟩
  unfold gNe at q
  split at q
  · rename_i hh
    cases q
    rw [Bool.and_eq_true] at hh
    exact ⟨py a, py b, ra.dp e a (eqOk_lay hh.1), rb.dp e b (eqOk_lay hh.2), hh.1, hh.2, w _ s h [] (got_bl e)⟩
  · cases q
/-! ### in -/
def isKey : D → Option Key
  | .int i => some (.inl i)
  | .str x => some (.inr x)
  | _ => none
/-- the item under a key -/
def look : List Key → List D → Key → Option D
  | k :: ks, d :: ds, x => if k = x then some d else look ks ds x
  | _, _, _ => none
theorem look_some {K : PySem.W.Frag} {s : Hp} {x : Key} : ∀ {ks : List Key} {vs : List V} {ds : List D} {d : D}, ks.length = vs.length → SeesL K T s vs ds → look ks ds x = some d → ∃ v, valV (ks.zip vs) x = some v ∧ Sees K T s v d
  | [], _, _, _, _, _, q => by simp [look] at q
  | k :: ks, [], _, _, hl, _, _ => by simp at hl
  | k :: ks, v :: vs, [], _, _, r, q => by simp [look] at q
  | k :: ks, v :: vs, d' :: ds, d, hl, r, q => by
    simp only [SeesL] at r
    obtain ⟨v', vr, e0, e2, e3⟩ := r
    cases e0
    unfold look at q
    rw [List.zip_cons_cons]
    split at q
    · rename_i hk
      cases q
      exact ⟨v, valV_pos hk, e2⟩
    · rename_i hk
      rw [valV_neg (p := (k, v)) (k := x) hk]
      exact look_some (by simpa using hl) e3 q
theorem look_none {K : PySem.W.Frag} {s : Hp} {x : Key} : ∀ {ks : List Key} {vs : List V} {ds : List D}, ks.length = vs.length → SeesL K T s vs ds → (valV (ks.zip vs) x).isSome = (look ks ds x).isSome
  | [], _, _, _, _ => by simp [look, valV]
  | k :: ks, [], _, hl, _ => by simp at hl
  | k :: ks, v :: vs, [], _, r => by simp [SeesL] at r
  | k :: ks, v :: vs, d' :: ds, hl, r => by
    simp only [SeesL] at r
    obtain ⟨v', vr, e0, e2, e3⟩ := r
    cases e0
    unfold look
    rw [List.zip_cons_cons]
    split
    · rename_i hk
      rw [valV_pos (p := (k, v)) hk]
      rfl
    · rename_i hk
      rw [valV_neg (p := (k, v)) (k := x) hk]
      exact look_none (by simpa using hl) e3
theorem op_inK (hu : X.A.units + 1 < cLine) : OpR X (compareOp .In) (fun y x H Q => ∃ a o, x = .ref a ∧ DGet H a y o ∧ Q (.bl o.isSome) H) := by
  intro pins s σ H x y v u Q I rx ry h
  obtain ⟨a, o, rfl, g, q⟩ := h
  obtain rfl : u = Value.ref a := ry
  exact d_in hu I g rx fun s3 I3 => ⟨.bl o.isSome, H, I3, rfl, q⟩
theorem op_notInK (hu : X.A.units + 1 < cLine) : OpR X (compareOp .NotIn) (fun y x H Q => ∃ a o, x = .ref a ∧ DGet H a y o ∧ Q (.bl (!o.isSome)) H) := by
  intro pins s σ H x y v u Q I rx ry h
  obtain ⟨a, o, rfl, g, q⟩ := h
  obtain rfl : u = Value.ref a := ry
  exact d_notIn hu I g rx fun s3 I3 => ⟨.bl (!o.isSome), H, I3, rfl, q⟩
def inB : D → D → Option Bool
  | a, .lst ds => if eqOk a && eqOk (.lst ds) then some ((pyL ds).any fun z => PyData.eqv z (py a)) else none
  | a, .dk ks ds => (isKey a).bind fun k => some (look ks ds k).isSome
  | _, _ => none
def gIn (a b : D) : Option (D × M) := (inB a b).bind fun c => some (.bl c, .dp)
def gNotIn (a b : D) : Option (D × M) := (inB a b).bind fun c => some (.bl (!c), .dp)
theorem key_sees {K : PySem.W.Frag} {s : Hp} {v : V} {d : D} {k : Key} (h : isKey d = some k) (r : Sees K T s v d) : v = kV k := by
  unfold isKey at h
  split at h
  · cases h; simp only [Sees] at r; exact r
  · cases h; simp only [Sees] at r; exact r
  · cases h
theorem inB_go {K : PySem.W.Frag} {s h : Hp} {x y : V} {a b : D} {c : Bool} (e : Sub s h) (ra : Sees K T s x a) (rb : Sees K T s y b) (q : inB a b = some c) :
    (∃ d ds, Dp K h x d ∧ Dp K h y (.list ds) ∧ SeqAt.shaped d = true ∧ SeqAt.shaped (.list ds) = true ∧ c = ds.any fun z => PyData.eqv z d) ∨ ∃ p o, y = .ref p ∧ DGet h p x o ∧ c = o.isSome := by
  unfold inB at q
  split at q
  · rename_i ds
    split at q
    · rename_i hh
      cases q
      rw [Bool.and_eq_true] at hh
      have h2 : eqOk (.lst ds) = true := hh.2
      have hb := rb.dp e _ (eqOk_lay h2)
      simp only [py] at hb
      refine .inl ⟨py a, pyL ds, ra.dp e a (eqOk_lay hh.1), hb, hh.1, ?_, rfl⟩
      simpa only [eqOk, py] using h2
    · cases q
  · obtain ⟨k, hk, q⟩ := Option.bind_eq_some_iff.mp q
    cases q
    simp only [Sees] at rb
    obtain ⟨p, vs, rfl, e2, e3, e4⟩ := rb
    refine .inr ⟨p, valV (_root_.List.zip _ vs) k, rfl, .inl ⟨_, k, rd_ext e (by intro _ z; cases z) e2, key_sees hk ra, rfl⟩, (look_none e3 e4).symm⟩
  · cases q
theorem o2_in (hu : X.A.units + 65 < cLine) : O2 T X (compareOp .In) gIn := by
  refine ⟨_, (op_inD hu).or (op_inK (by omega)), fun s h x y a b d m Q e tb ra rb q w => ?_⟩
  obtain ⟨c, hc, q⟩ := Option.bind_eq_some_iff.mp q
  cases q
  rcases inB_go e ra rb hc with ⟨d, ds, h1, h2, h3, h4, rfl⟩ | ⟨p, o, h1, h2, rfl⟩
  · exact .inl ⟨d, ds, h1, h2, h3, h4, w _ s h [] (got_bl e)⟩
  · exact .inr ⟨p, o, h1, h2, w _ s h [] (got_bl e)⟩
theorem o2_notIn (hu : X.A.units + 65 < cLine) : O2 T X (compareOp .NotIn) gNotIn := by
  refine ⟨_, (op_notInD hu).or (op_notInK (by omega)), fun s h x y a b d m Q e tb ra rb q w => ?_⟩
  obtain ⟨c, hc, q⟩ := Option.bind_eq_some_iff.mp q
  cases q
  rcases inB_go e ra rb hc with ⟨d, ds, h1, h2, h3, h4, rfl⟩ | ⟨p, o, h1, h2, rfl⟩
  · exact .inl ⟨d, ds, h1, h2, h3, h4, w _ s h [] (got_bl e)⟩
  · exact .inr ⟨p, o, h1, h2, w _ s h [] (got_bl e)⟩
/-! ### is None, is of bools -/
def isB : D → D → Option Bool
  | .bl a, .bl b => some (decide (a = b))
  | .non, .non => some true
  | _, .non => some false
  | _, _ => none
def gIs (a b : D) : Option (D × M) := (isB a b).bind fun c => some (.bl c, .dp)
def gIsNot (a b : D) : Option (D × M) := (isB a b).bind fun c => some (.bl (!c), .dp)
theorem isB_go {K : PySem.W.Frag} {s : Hp} {x y : V} {a b : D} {c : Bool} (ra : Sees K T s x a) (rb : Sees K T s y b) (q : isB a b = some c) :
    (y = .non ∧ c = decide (x = .non)) ∨ ∃ i j, x = .bl i ∧ y = .bl j ∧ c = decide (i = j) := by
  cases b with
  | non =>
    simp only [Sees] at rb
    left
    refine ⟨rb, ?_⟩
    cases a <;> simp only [isB, Option.some.injEq] at q <;> simp only [Sees] at ra <;> subst q
    case non => rw [ra]; rfl
    case bl => rw [ra]; rfl
    case int => rw [ra]; rfl
    case str => rw [ra]; rfl
    all_goals
      obtain ⟨p, ra⟩ := ra
      simp [ra]
    case dk => obtain ⟨_, ra, _⟩ := ra; simp [ra]
    case ins => obtain ⟨_, _, ra, _⟩ := ra; simp [ra]
    case lst => obtain ⟨_, ra, _⟩ := ra; simp [ra]
    case tup => obtain ⟨_, ra, _⟩ := ra; simp [ra]
  | bl j =>
    cases a with
    | bl i =>
      simp only [isB, Option.some.injEq] at q
      simp only [Sees] at ra rb
      exact .inr ⟨i, j, ra, rb, q.symm⟩
    | _ => simp [isB] at q
  | _ => cases a <;> simp [isB] at q
theorem o2_is : O2 T X (compareOp .Is) gIs := by
  refine ⟨_, op_isN.or op_isBl, fun s h x y a b d m Q e tb ra rb q w => ?_⟩
  obtain ⟨c, hc, q⟩ := Option.bind_eq_some_iff.mp q
  cases q
  rcases isB_go ra rb hc with ⟨h1, rfl⟩ | ⟨i, j, h1, h2, rfl⟩
  · exact .inl ⟨h1, w _ s h [] (got_bl e)⟩
  · exact .inr ⟨i, j, h1, h2, w _ s h [] (got_bl e)⟩
theorem o2_isNot : O2 T X (compareOp .IsNot) gIsNot := by
  refine ⟨_, op_notN.or op_notBl, fun s h x y a b d m Q e tb ra rb q w => ?_⟩
  obtain ⟨c, hc, q⟩ := Option.bind_eq_some_iff.mp q
  cases q
  rcases isB_go ra rb hc with ⟨h1, rfl⟩ | ⟨i, j, h1, h2, rfl⟩
  · exact .inl ⟨h1, w _ s h [] (got_bl e)⟩
  · exact .inr ⟨i, j, h1, h2, w _ s h [] (got_bl e)⟩
end
end G
set_option Elab.async false
set_option linter.all false
set_option maxRecDepth 100000
set_option maxHeartbeats 4000000
/-! G4: tests, displays, subscripts, slices, built-in functions over data -/
namespace G
open PySem PySem.Spec PyProof.Rows L2
/-! ### truth -/
def tru : D → Option Bool
  | .non => some false
  | .bl b => some b
  | .int i => some (i != 0)
  | .str x => if x.length ≤ lim then some ((x.length : Int) != 0) else none
  | .lst xs => some (!xs.isEmpty)
  | .tup xs => some (!xs.isEmpty)
  | .scr ns => some (!ns.isEmpty)
  | _ => none
theorem isEmpty_len {α β : Type} {xs : List α} {ys : List β} (h : xs.length = ys.length) : xs.isEmpty = ys.isEmpty := by
  cases xs <;> cases ys <;> simp_all
section
variable {X : Cx} {T : Tx} {a b c e : Expr} {es rest : List Expr} {f k : VEnv → Option (D × M)} {ft kt : VEnv → Option Bool} {pos : Pos}
theorem tru_go {K : PySem.W.Frag} {s h : Hp} {v : V} {d : D} {z : Bool} (e : Sub s h) (r : Sees K T s v d) (q : tru d = some z) : TruV K v h z := by
  cases d with
  | non => simp only [Sees] at r; subst r; simp only [tru, Option.some.injEq] at q; exact q.symm
  | bl b => simp only [Sees] at r; subst r; simp only [tru, Option.some.injEq] at q; exact q.symm
  | int i => simp only [Sees] at r; subst r; simp only [tru, Option.some.injEq] at q; exact q.symm
  | str x =>
    simp only [Sees] at r; subst r
    simp only [tru] at q
    split at q
    · rename_i hl
      simp only [Option.some.injEq] at q
      exact ⟨by rw [← lim_eq]; exact hl, q.symm⟩
    · cases q
  | lst xs =>
    simp only [Sees] at r
    obtain ⟨p, vs, rfl, e2, e3⟩ := r
    simp only [tru, Option.some.injEq] at q
    exact .inl ⟨vs, SqL.of (e.at_ _ _ e2 (by intro _ z; cases z)), by rw [← q, isEmpty_len (SeesL.len _ e3)]⟩
  | tup xs =>
    simp only [Sees] at r
    obtain ⟨p, vs, rfl, e2, e3⟩ := r
    simp only [tru, Option.some.injEq] at q
    exact .inr (.inl ⟨vs, (sqT_ext e e2).sq, by rw [← q, isEmpty_len (SeesL.len _ e3)]⟩)
  | scr ns =>
    simp only [Sees] at r
    obtain ⟨p, rfl, e2⟩ := r
    simp only [tru, Option.some.injEq] at q
    exact .inl ⟨_, sqL_ext e e2, by rw [← q]; cases ns <;> rfl⟩
  | _ => simp [tru] at q
def bTru (f : VEnv → Option (D × M)) : VEnv → Option Bool := fun ve => (f ve).bind fun x => tru x.1
theorem jt_val (ha : JP T X e f) (he : ∀ whole, isTrue e X.env whole = (do let v ← whole; standAt e.pos; holding [v] (truthy v)) := by intro _; rfl) : JT T X e (bTru f) := by
  obtain ⟨t, a1, a2⟩ := ha
  refine ⟨_, pt_truth a1 he, fun σ s h ve z Q A q w => ?_⟩
  obtain ⟨⟨d, m⟩, e1, q⟩ := Option.bind_eq_some_iff.mp q
  refine a2 σ s h ve d m _ A e1 fun v s' h' B G1 => ?_
  obtain ⟨g1, r1⟩ := G1.seen
  exact ⟨z, tru_go g1.sub r1 q, w _ h' g1⟩
def bNot (f : VEnv → Option Bool) : VEnv → Option Bool := fun ve => (f ve).bind fun x => some (!x)
theorem jt_not (ha : JT T X a ft) : JT T X (.UnaryOp .Not a pos) (bNot ft) := by
  obtain ⟨t, a1, a2⟩ := ha
  refine ⟨_, pt_not a1, fun σ s h ve z Q A q w => ?_⟩
  obtain ⟨c, e1, q⟩ := Option.bind_eq_some_iff.mp q
  cases q
  exact a2 σ s h ve c _ A e1 w
/-- a chain of and, of or, as a test -/
def JW (T : Tx) (X : Cx) (e : Expr) (f : VEnv → Option Bool) : Prop := ∃ t, PW X e t ∧ ∀ (σ : St) (s h : Hp) (ve : VEnv) (b : Bool) (Q : Bool → Hp → Prop), At X.K T s h σ ve → f ve = some b → (∀ s' h', Gr T s h s' h' → Q b h') → t σ h Q
theorem jt_w (h : JW T X e ft) : JT T X e ft := by
  obtain ⟨t, a1, a2⟩ := h
  exact ⟨t, a1.pt, a2⟩
theorem jw_and1 (h : JT T X a ft) : JW T X (.BoolOp .And [a] pos) ft := by
  obtain ⟨t, a1, a2⟩ := h
  exact ⟨t, pw_and1 a1, a2⟩
theorem jw_or1 (h : JT T X a ft) : JW T X (.BoolOp .Or [a] pos) ft := by
  obtain ⟨t, a1, a2⟩ := h
  exact ⟨t, pw_or1 a1, a2⟩
def bAnd (f k : VEnv → Option Bool) : VEnv → Option Bool := fun ve => (f ve).bind fun x => if x = true then k ve else some false
def bOr (f k : VEnv → Option Bool) : VEnv → Option Bool := fun ve => (f ve).bind fun x => if x = true then some true else k ve
theorem jw_and (ha : JT T X a ft) (hb : JW T X (.BoolOp .And (b :: rest) pos) kt) : JW T X (.BoolOp .And (a :: b :: rest) pos) (bAnd ft kt) := by
  obtain ⟨t, a1, a2⟩ := ha
  obtain ⟨u, b1, b2⟩ := hb
  refine ⟨_, pw_and a1 b1, fun σ s h ve z Q A q w => ?_⟩
  obtain ⟨c, e1, q⟩ := Option.bind_eq_some_iff.mp q
  refine a2 σ s h ve c _ A e1 fun s' h' g => ?_
  cases c with
  | true =>
    simp only [if_true] at q ⊢
    exact b2 σ s' h' ve z _ (A.grow g) q fun s2 h2 g2 => w s2 h2 (g.trans g2)
  | false =>
    simp only [Bool.false_eq_true, if_false] at q ⊢
    cases q
    exact w s' h' g
theorem jw_or (ha : JT T X a ft) (hb : JW T X (.BoolOp .Or (b :: rest) pos) kt) : JW T X (.BoolOp .Or (a :: b :: rest) pos) (bOr ft kt) := by
  obtain ⟨t, a1, a2⟩ := ha
  obtain ⟨u, b1, b2⟩ := hb
  refine ⟨_, pw_or a1 b1, fun σ s h ve z Q A q w => ?_⟩
  obtain ⟨c, e1, q⟩ := Option.bind_eq_some_iff.mp q
  refine a2 σ s h ve c _ A e1 fun s' h' g => ?_
  cases c with
  | false =>
    simp only [Bool.false_eq_true, if_false] at q ⊢
    exact b2 σ s' h' ve z _ (A.grow g) q fun s2 h2 g2 => w s2 h2 (g.trans g2)
  | true =>
    simp only [if_true] at q ⊢
    cases q
    exact w s' h' g
/-! as values -/
theorem jp_one {op : BoolOp} (h : JP T X a f) : JP T X (.BoolOp op [a] pos) f := by
  obtain ⟨t, a1, a2⟩ := h
  exact ⟨t, pe_one a1, a2⟩
def pAnd (f k : VEnv → Option (D × M)) : VEnv → Option (D × M) := fun ve => (f ve).bind fun x => (tru x.1).bind fun z => if z = true then k ve else some x
def pOr (f k : VEnv → Option (D × M)) : VEnv → Option (D × M) := fun ve => (f ve).bind fun x => (tru x.1).bind fun z => if z = true then some x else k ve
theorem jp_and (ha : JP T X a f) (hb : JP T X (.BoolOp .And (b :: rest) pos) k) : JP T X (.BoolOp .And (a :: b :: rest) pos) (pAnd f k) := by
  obtain ⟨t, a1, a2⟩ := ha
  obtain ⟨u, b1, b2⟩ := hb
  refine ⟨_, pe_andT a1 b1, fun σ s h ve d m Q A q w => ?_⟩
  obtain ⟨⟨d1, m1⟩, e1, q⟩ := Option.bind_eq_some_iff.mp q
  obtain ⟨z, e2, q⟩ := Option.bind_eq_some_iff.mp q
  refine a2 σ s h ve d1 m1 _ A e1 fun v s' h' B G1 => ?_
  refine ⟨z, tru_go G1.seen.1.sub G1.seen.2 e2, ?_⟩
  cases z with
  | true =>
    simp only [if_true] at q ⊢
    exact b2 σ s' h' ve d m _ (A.grow G1.gr) q fun v2 s2 h2 B2 G2 => w v2 s2 h2 B2 (G2.pre G1.gr)
  | false =>
    simp only [Bool.false_eq_true, if_false] at q ⊢
    cases q
    exact w v s' h' B G1
theorem jp_or (ha : JP T X a f) (hb : JP T X (.BoolOp .Or (b :: rest) pos) k) : JP T X (.BoolOp .Or (a :: b :: rest) pos) (pOr f k) := by
  obtain ⟨t, a1, a2⟩ := ha
  obtain ⟨u, b1, b2⟩ := hb
  refine ⟨_, pe_orT a1 b1, fun σ s h ve d m Q A q w => ?_⟩
  obtain ⟨⟨d1, m1⟩, e1, q⟩ := Option.bind_eq_some_iff.mp q
  obtain ⟨z, e2, q⟩ := Option.bind_eq_some_iff.mp q
  refine a2 σ s h ve d1 m1 _ A e1 fun v s' h' B G1 => ?_
  refine ⟨z, tru_go G1.seen.1.sub G1.seen.2 e2, ?_⟩
  cases z with
  | false =>
    simp only [Bool.false_eq_true, if_false] at q ⊢
    exact b2 σ s' h' ve d m _ (A.grow G1.gr) q fun v2 s2 h2 B2 G2 => w v2 s2 h2 B2 (G2.pre G1.gr)
  | true =>
    simp only [if_true] at q ⊢
    cases q
    exact w v s' h' B G1
def pNot (f : VEnv → Option (D × M)) : VEnv → Option (D × M) := fun ve => (f ve).bind fun x => (tru x.1).bind fun z => some (.bl (!z), .dp)
theorem jp_not (ha : JP T X a f) : JP T X (.UnaryOp .Not a pos) (pNot f) := by
  obtain ⟨t, a1, a2⟩ := ha
  refine ⟨_, pe_notT a1, fun σ s h ve d m Q A q w => ?_⟩
  obtain ⟨⟨d1, m1⟩, e1, q⟩ := Option.bind_eq_some_iff.mp q
  obtain ⟨z, e2, q⟩ := Option.bind_eq_some_iff.mp q
  cases q
  refine a2 σ s h ve d1 m1 _ A e1 fun v s' h' B G1 => ?_
  exact ⟨z, tru_go G1.seen.1.sub G1.seen.2 e2, w _ _ _ _ ((got_bl G1.seen.1.sub).pre G1.seen.1)⟩
def pIf (t : VEnv → Option Bool) (f k : VEnv → Option (D × M)) : VEnv → Option (D × M) := fun ve => (t ve).bind fun x => if x = true then f ve else k ve
theorem jp_if (hc : JT T X c ft) (ha : JP T X a f) (hb : JP T X b k) : JP T X (.IfExp c a b pos) (pIf ft f k) := by
  obtain ⟨t, c1, c2⟩ := hc
  obtain ⟨u, a1, a2⟩ := ha
  obtain ⟨u', b1, b2⟩ := hb
  refine ⟨_, pe_ifExp c1 a1 b1, fun σ s h ve d m Q A q w => ?_⟩
  obtain ⟨z, e1, q⟩ := Option.bind_eq_some_iff.mp q
  refine c2 σ s h ve z _ A e1 fun s' h' g => ?_
  cases z with
  | true =>
    simp only [if_true] at q ⊢
    exact a2 σ s' h' ve d m _ (A.grow g) q fun v2 s2 h2 B2 G2 => w v2 s2 h2 B2 (G2.pre g)
  | false =>
    simp only [Bool.false_eq_true, if_false] at q ⊢
    exact b2 σ s' h' ve d m _ (A.grow g) q fun v2 s2 h2 B2 G2 => w v2 s2 h2 B2 (G2.pre g)
/-- a < b < c -/
def pChain (g g' : D → D → Option (D × M)) (f k l : VEnv → Option (D × M)) : VEnv → Option (D × M) := fun ve => (f ve).bind fun x => (k ve).bind fun y => (g x.1 y.1).bind fun z => (asB z).bind fun c => if c = true then (l ve).bind fun u => g' y.1 u.1 else some (.bl false, .dp)
theorem asB_bl {z : D × M} {c : Bool} (h : asB z = some c) : z.1 = .bl c := by
  unfold asB at h
  split at h
  · rename_i e; cases h; exact e
  · cases h
theorem jp_chain {op op' : CmpOp} {g g' : D → D → Option (D × M)} {l : VEnv → Option (D × M)} (o : O2 T X (compareOp op) g) (o' : O2 T X (compareOp op') g') (ha : JP T X a f) (hb : JP T X b k) (hc : JP T X c l) (hmk : lastMarks [op, op'] [b, c] = false := by rfl) : JP T X (.Compare a [op, op'] [b, c] pos) (pChain g g' f k l) := by
  obtain ⟨r, o1, o2⟩ := o
  obtain ⟨r', o1', o2'⟩ := o'
  obtain ⟨t, a1, a2⟩ := ha
  obtain ⟨u, b1, b2⟩ := hb
  obtain ⟨u', c1, c2⟩ := hc
  refine ⟨_, pe_chain o1 o1' a1 b1 c1 hmk, fun σ s h ve d m Q A q w => ?_⟩
  obtain ⟨⟨d1, m1⟩, e1, q⟩ := Option.bind_eq_some_iff.mp q
  obtain ⟨⟨d2, m2⟩, e2, q⟩ := Option.bind_eq_some_iff.mp q
  obtain ⟨z, e3, q⟩ := Option.bind_eq_some_iff.mp q
  obtain ⟨cc, e4, q⟩ := Option.bind_eq_some_iff.mp q
  refine a2 σ s h ve d1 m1 _ A e1 fun x s1 h1 B1 G1 => ?_
  obtain ⟨g1, r1⟩ := G1.seen
  refine b2 σ _ h1 ve d2 m2 _ (A.grow g1) e2 fun y s2 h2 B2 G2 => ?_
  obtain ⟨g2, r2⟩ := G2.seen
  refine o2 _ h2 x y d1 d2 z.1 z.2 _ g2.sub (g2.tab (g1.tab A.tab)) (r1.ext g2.ss d1) r2 e3 fun v s3 h3 B3 G3 => ?_
  obtain ⟨g3, r3⟩ := G3.seen
  rw [asB_bl e4] at r3
  simp only [Sees] at r3
  refine ⟨cc, r3, ?_⟩
  have g123 := (g1.trans g2).trans g3
  cases cc with
  | false =>
    simp only [Bool.false_eq_true, if_false] at q ⊢
    cases q
    exact w _ _ _ _ ((got_bl g3.sub).pre g123)
  | true =>
    simp only [if_true] at q ⊢
    obtain ⟨⟨d4, m4⟩, e5, q⟩ := Option.bind_eq_some_iff.mp q
    refine c2 σ _ h3 ve d4 m4 _ (A.grow g123) e5 fun u s4 h4 B4 G4 => ?_
    obtain ⟨g4, r4⟩ := G4.seen
    exact o2' _ h4 y u d2 d4 d m Q g4.sub (g4.tab (g123.tab A.tab)) ((r2.ext g3.ss d2).ext g4.ss d2) r4 q fun v5 s5 h5 B5 G5 => w v5 s5 h5 B5 (G5.pre (g123.trans g4))
def tChn (f : VEnv → Option (D × M)) : VEnv → Option Bool := tOf f
theorem jt_chain {op op' : CmpOp} {g g' : D → D → Option (D × M)} {l : VEnv → Option (D × M)} (o : O2 T X (compareOp op) g) (o' : O2 T X (compareOp op') g') (ha : JP T X a f) (hb : JP T X b k) (hc : JP T X c l) (hmk : lastMarks [op, op'] [b, c] = false := by rfl) : JT T X (.Compare a [op, op'] [b, c] pos) (tOf (pChain g g' f k l)) := by
  obtain ⟨r, o1, o2⟩ := o
  obtain ⟨r', o1', o2'⟩ := o'
  obtain ⟨t, a1, a2⟩ := ha
  obtain ⟨u, b1, b2⟩ := hb
  obtain ⟨u', c1, c2⟩ := hc
  refine ⟨_, pt_chain o1 o1' a1 b1 c1 hmk, fun σ s h ve fin Q A q w => ?_⟩
  obtain ⟨⟨d, m⟩, q, e9⟩ := Option.bind_eq_some_iff.mp q
  have ed := asB_bl e9
  have ed' : d = .bl fin := ed
  subst ed'
  obtain ⟨⟨d1, m1⟩, e1, q⟩ := Option.bind_eq_some_iff.mp q
  obtain ⟨⟨d2, m2⟩, e2, q⟩ := Option.bind_eq_some_iff.mp q
  obtain ⟨z, e3, q⟩ := Option.bind_eq_some_iff.mp q
  obtain ⟨cc, e4, q⟩ := Option.bind_eq_some_iff.mp q
  refine a2 σ s h ve d1 m1 _ A e1 fun x s1 h1 B1 G1 => ?_
  obtain ⟨g1, r1⟩ := G1.seen
  refine b2 σ _ h1 ve d2 m2 _ (A.grow g1) e2 fun y s2 h2 B2 G2 => ?_
  obtain ⟨g2, r2⟩ := G2.seen
  refine o2 _ h2 x y d1 d2 z.1 z.2 _ g2.sub (g2.tab (g1.tab A.tab)) (r1.ext g2.ss d1) r2 e3 fun v s3 h3 B3 G3 => ?_
  obtain ⟨g3, r3⟩ := G3.seen
  rw [asB_bl e4] at r3
  simp only [Sees] at r3
  refine ⟨cc, r3, ?_⟩
  have g123 := (g1.trans g2).trans g3
  cases cc with
  | false =>
    simp only [Bool.false_eq_true, if_false] at q ⊢
    cases q
    exact ⟨false, rfl, w _ _ g123⟩
  | true =>
    simp only [if_true] at q ⊢
    obtain ⟨⟨d4, m4⟩, e5, q⟩ := Option.bind_eq_some_iff.mp q
    refine c2 σ _ h3 ve d4 m4 _ (A.grow g123) e5 fun u s4 h4 B4 G4 => ?_
    obtain ⟨g4, r4⟩ := G4.seen
    refine o2' _ h4 y u d2 d4 _ m _ g4.sub (g4.tab (g123.tab A.tab)) ((r2.ext g3.ss d2).ext g4.ss d2) r4 q fun v5 s5 h5 B5 G5 => ?_
    obtain ⟨g5, r5⟩ := G5.seen
    simp only [Sees] at r5
    exact ⟨fin, r5, w _ _ ((g123.trans g4).trans g5)⟩
/-! ### displays -/
/-- how a display is held -/
def dm (ds : List (D × M)) : M := if allDp ds then .dp else .o1
def pLst (k : VEnv → Option (List (D × M))) : VEnv → Option (D × M) := fun ve => (k ve).bind fun r => if r.length ≤ lim then some (.lst (r.map (·.1)), dm r) else none
def pTup (k : VEnv → Option (List (D × M))) : VEnv → Option (D × M) := fun ve => (k ve).bind fun r => if r.length ≤ lim then some (.tup (r.map (·.1)), if allDp r then .dp else .sh) else none
theorem jp_lst {k : VEnv → Option (List (D × M))} (ha : JA T X es k) : JP T X (.List es pos) (pLst k) := by
  obtain ⟨t, a1, a2⟩ := ha
  refine ⟨_, pe_lst a1, fun σ s h ve d m Q A q w => ?_⟩
  obtain ⟨r, e1, q⟩ := Option.bind_eq_some_iff.mp q
  split at q
  · rename_i hl
    cases q
    refine a2 σ s h ve r _ A e1 fun vs s1 h1 B g1 r1 f1 => ⟨by rw [r1.len, ← lim_eq]; exact hl, fun p n => ?_⟩
    by_cases hd : allDp r = true
    · have g2 : Gr T s1 h1 s1 (upd h1 p (.lst vs)) := Gr.own g1.sub n
      refine w _ s1 _ (p :: B) ⟨g1.trans g2, ?_, ?_, fun b hb => ?_, fun b hb => ?_⟩
      · unfold dm
        rw [if_pos hd]
        simp only [Rep, Deep]
        refine ⟨p, vs, B, rfl, upd_same, rfl, (r1.deep hd).keep g2.tupK _ fun b hb => ?_⟩
        obtain ⟨o, eb, _⟩ := r1.mem b hb
        rw [upd_ne (ne_of_none eb n)]
      · refine List.nodup_cons.mpr ⟨fun hp => ?_, f1.nd⟩
        obtain ⟨o, eb, _⟩ := r1.mem p hp
        rw [n] at eb; cases eb
      · rcases List.mem_cons.mp hb with rfl | hb
        · exact g1.non n
        · exact f1.nw b hb
      · rcases List.mem_cons.mp hb with rfl | hb
        · exact g1.sub.no _ n
        · exact f1.ns b hb
    · have g2 := g1.shr f1
      have r2 := r1.shr g1.sub (fun _ hb => hb)
      have g3 : Gr T (shr s1 h1 B) h1 (shr s1 h1 B) (upd h1 p (.lst vs)) := Gr.own g2.sub n
      refine w _ _ _ [p] ⟨g2.trans g3, ?_, by simp, fun b hb => ?_, fun b hb => ?_⟩
      · unfold dm
        rw [if_neg hd]
        exact ⟨p, rfl, rfl, vs, upd_same, r2⟩
      · rw [List.mem_singleton.mp hb]; exact g1.non n
      · rw [List.mem_singleton.mp hb]; exact g2.sub.no _ n
  · cases q
theorem jp_tup {k : VEnv → Option (List (D × M))} {x1 : Nat} (ha : JA T X es k) : JP T X (.Tuple es x1 pos) (pTup k) := by
  obtain ⟨t, a1, a2⟩ := ha
  refine ⟨_, pe_tup a1, fun σ s h ve d m Q A q w => ?_⟩
  obtain ⟨r, e1, q⟩ := Option.bind_eq_some_iff.mp q
  split at q
  · rename_i hl
    cases q
    refine a2 σ s h ve r _ A e1 fun vs s1 h1 B g1 r1 f1 => ⟨by rw [r1.len, ← lim_eq]; exact hl, fun p n => ?_⟩
    by_cases hd : allDp r = true
    · have g2 : Gr T s1 h1 s1 (upd h1 p (.tup vs)) := Gr.own g1.sub n
      refine w _ s1 _ B ⟨g1.trans g2, ?_, f1⟩
      rw [if_pos hd]
      simp only [Rep, Deep]
      refine ⟨p, vs, rfl, upd_same, (r1.deep hd).keep g2.tupK _ fun b hb => ?_⟩
      obtain ⟨o, eb, _⟩ := r1.mem b hb
      rw [upd_ne (ne_of_none eb n)]
    · have g2 := g1.shr f1
      have r2 := r1.shr g1.sub (fun _ hb => hb)
      have g3 : Gr T (shr s1 h1 B) h1 (upd (shr s1 h1 B) p (.tup vs)) (upd h1 p (.tup vs)) := Gr.alloc g2.sub n
      refine w _ _ _ [] ⟨g2.trans g3, ?_, Fresh.nil⟩
      rw [if_neg hd]
      refine ⟨rfl, ?_⟩
      simp only [Sees]
      exact ⟨p, vs, rfl, upd_same, r2.ext g3.ss⟩
  · cases q
end
end G
set_option Elab.async false
set_option linter.all false
set_option maxRecDepth 100000
set_option maxHeartbeats 4000000
/-! G5: subscripts, slices, built-in functions over data -/
namespace G
open PySem PySem.Spec PyProof.Rows L2
section
variable {X : Cx} {T : Tx} {a b c e : Expr} {es rest : List Expr} {f k : VEnv → Option (D × M)} {pos : Pos}
/-! ### subscripts -/
def OX (T : Tx) (X : Cx) (g : D → D → Option (D × M)) : Prop := ∃ r, IxR X r ∧ ∀ (s h : Hp) (x y : V) (a b d : D) (m : M) (Q : VK), Sub s h → Tabs T h → Sees X.K T s x a → Sees X.K T s y b → g a b = some (d, m) → (∀ v s' h' B, Got X.K T s h v d m s' h' B → Q v h') → r x y h Q
theorem jp_ix {g : D → D → Option (D × M)} (o : OX T X g) (ha : JP T X a f) (hb : JP T X b k) (hs : PlainIx b := by exact fun _ _ => rfl) : JP T X (.Subscript a b pos) (p2 g f k) := by
  obtain ⟨r, o1, o2⟩ := o
  obtain ⟨ta, a1, a2⟩ := ha
  obtain ⟨tb, b1, b2⟩ := hb
  exact ⟨_, pe_ix o1 a1 b1 hs, two_go (F := fun _ _ => pure Value.none) a2 b2 o2⟩
theorem ix_dict (hu : X.A.units + 1 < cLine) : IxR X (fun x y H Q => ∃ p v, x = .ref p ∧ DGet H p y (some v) ∧ Q v H) := by
  intro value slice pins s σ H x y v u Q I rx ry h hs
  obtain ⟨p, z, rfl, g, q⟩ := h
  obtain rfl : v = Value.ref p := rx
  have hT : s.TypeIs (.ref p) "dict" := dict_typeIs I g
  unfold subscriptTail
  refine wpAny_bind ?_
  rw [getitemInPython_of_ne hT.not_modules]
  refine wpAny_bind (wpAny_specialOf hT PySem.F.slot_dict_getitem.lookup ?_)
  have fin : wpAny (model X.prog X.w) X.A (subscripted slice false (.ref p) u) (fun r s₃ => wpAny (model X.prog X.w) X.A (letTemporaryGo value (.ref p) r >>= fun _ => pure r) (EP X pins σ Q) X.xe s₃) X.xe s := by
    rw [hs]
    exact wpAny_operating (wpAny_mono (d_getItem hu I g ry fun w' s3 I3 rw' => (show EP X pins σ Q w' s3 from ⟨z, H, I3, rw', q⟩)) (fun r s₃ h₃ => wpAny_bind (wpAny_letTemporaryGo (wpAny_pure h₃))) fun _ _ x => x)
  first
    | exact wpAny_pure (wpAny_bind fin)
    | exact wpAny_bind (wpAny_pure (wpAny_bind fin))
    | exact wpAny_bind fin
theorem at_sees {K : PySem.W.Frag} {s : Hp} {vs : List V} {ds : List D} {i : Int} {d : D} (r : SeesL K T s vs ds) (q : atI ds i = some d) : ∃ v, atI vs i = some v ∧ Sees K T s v d := by
  unfold atI at q ⊢
  rw [SeesL.len _ r]
  obtain ⟨j, e1, q⟩ := Option.bind_eq_some_iff.mp q
  obtain ⟨v, e2, e3⟩ := r.get q
  exact ⟨v, by rw [e1]; exact e2, e3⟩
theorem at_map {α β : Type} {xs : List α} {g : α → β} {i : Int} {x : α} (h : atI xs i = some x) : atI (xs.map g) i = some (g x) := by
  unfold atI at h ⊢
  rw [List.length_map]
  obtain ⟨j, e1, q⟩ := Option.bind_eq_some_iff.mp h
  rw [e1]
  show (xs.map g)[j]? = _
  rw [List.getElem?_map, q]
  rfl
def gIx : D → D → Option (D × M)
  | .lst ds, .int i => (atI ds i).bind fun d => some (d, im d)
  | .tup ds, .int i => (atI ds i).bind fun d => some (d, im d)
  | .scr ns, .int i => (atI ns i).bind fun n => some (.int n, .dp)
  | .str x, .int i => if x.length ≤ lim then (atI x.cps.toList i).bind fun c => some (.str ⟨#[c]⟩, .dp) else none
  | .dk ks ds, y => (isKey y).bind fun k => (look ks ds k).bind fun d => some (d, im d)
  | _, _ => none
theorem ox_ix (hu : X.A.units + 1 < cLine) : OX T X gIx := by
  refine ⟨_, ix_seq.or (ix_dict hu), fun s h x y a b d m Q e tb ra rb q w => ?_⟩
  unfold gIx at q
  split at q
  · obtain ⟨d', e1, q⟩ := Option.bind_eq_some_iff.mp q
    cases q
    simp only [Sees] at ra rb
    obtain ⟨p, vs, rfl, e2, e3⟩ := ra
    obtain ⟨v, e4, e5⟩ := at_sees e3 e1
    exact .inl (.inl ⟨p, vs, _, v, rfl, rb, SqL.of (e.at_ _ _ e2 (by intro _ z; cases z)), e4, w _ s h [] (got_at e e5)⟩)
  · obtain ⟨d', e1, q⟩ := Option.bind_eq_some_iff.mp q
    cases q
    simp only [Sees] at ra rb
    obtain ⟨p, vs, rfl, e2, e3⟩ := ra
    obtain ⟨v, e4, e5⟩ := at_sees e3 e1
    exact .inl (.inr (.inl ⟨p, vs, _, v, rfl, rb, (sqT_ext e e2).sq, e4, w _ s h [] (got_at e e5)⟩))
  · obtain ⟨d', e1, q⟩ := Option.bind_eq_some_iff.mp q
    cases q
    simp only [Sees] at ra rb
    obtain ⟨p, rfl, e2⟩ := ra
    exact .inl (.inl ⟨p, _, _, _, rfl, rb, sqL_ext e e2, at_map e1, w _ s h [] (got_int e)⟩)
  · split at q
    · rename_i hl
      obtain ⟨d', e1, q⟩ := Option.bind_eq_some_iff.mp q
      cases q
      simp only [Sees] at ra rb
      exact .inl (.inr (.inr ⟨_, _, d', ra, rb, by rw [← lim_eq]; exact hl, e1, w _ s h [] (got_str e)⟩))
    · cases q
  · obtain ⟨kk, hk, q⟩ := Option.bind_eq_some_iff.mp q
    obtain ⟨d', e1, q⟩ := Option.bind_eq_some_iff.mp q
    cases q
    simp only [Sees] at ra
    obtain ⟨p, vs, rfl, e2, e3, e4⟩ := ra
    obtain ⟨v, e5, e6⟩ := look_some e3 e4 e1
    exact .inr ⟨p, v, rfl, .inl ⟨_, kk, rd_ext e (by intro _ z; cases z) e2, key_sees hk rb, e5.symm⟩, w _ s h [] (got_at e e6)⟩
  · cases q
/-! ### slices -/
def cutL {α : Type} (xs : List α) (lo hi : Option Int) : List α := (xs.drop (HT.sIx xs.length 0 lo)).take (HT.sIx xs.length xs.length hi - HT.sIx xs.length 0 lo)
theorem cut_sees {K : PySem.W.Frag} {s : Hp} {vs : List V} {ds : List D} {lo hi : Option Int} (r : SeesL K T s vs ds) : SeesL K T s (cutV vs lo hi) (cutL ds lo hi) := by
  unfold cutV cutL
  rw [SeesL.len _ r]
  exact (r.drop _).take _
theorem cut_ints {ns : List Int} {lo hi : Option Int} : cutV (ns.map V.int) lo hi = (cutL ns lo hi).map V.int := by
  unfold cutV cutL
  rw [List.length_map, List.map_take, List.map_drop]
/-- a part of a slice -/
def JO (T : Tx) (X : Cx) (e : Option Expr) (f : VEnv → Option (Option Int)) : Prop := ∃ t, PO X e t ∧ ∀ (σ : St) (s h : Hp) (ve : VEnv) (o : Option Int) (Q : Option Int → Hp → Prop), At X.K T s h σ ve → f ve = some o → (∀ s' h', Gr T s h s' h' → Q o h') → t σ h Q
def oNone : VEnv → Option (Option Int) := fun _ => some none
def oSome (f : VEnv → Option (D × M)) : VEnv → Option (Option Int) := fun ve => (f ve).bind fun x => match x.1 with
  | .int i => some (some i)
  | _ => none
theorem jo_none : JO T X none oNone := ⟨_, po_none, fun σ s h ve o Q A q w => by cases q; exact w s h (Gr.refl A.sub)⟩
theorem jo_some (ha : JP T X e f) : JO T X (some e) (oSome f) := by
  obtain ⟨t, a1, a2⟩ := ha
  refine ⟨_, po_some a1, fun σ s h ve o Q A q w => ?_⟩
  obtain ⟨⟨d, m⟩, e1, q⟩ := Option.bind_eq_some_iff.mp q
  split at q
  · rename_i i e2
    cases q
    have e3 : d = .int i := e2
    subst e3
    refine a2 σ s h ve _ m _ A e1 fun v s' h' B G1 => ?_
    obtain ⟨g1, r1⟩ := G1.seen
    simp only [Sees] at r1
    exact ⟨i, r1, w _ h' g1⟩
  · cases q
def gSl (d : D) (lo hi : Option Int) : Option (D × M) := match d with
  | .lst ds => some (.lst (cutL ds lo hi), lm (cutL ds lo hi))
  | .tup ds => some (.tup (cutL ds lo hi), im (.tup (cutL ds lo hi)))
  | .scr ns => some (.lst ((cutL ns lo hi).map .int), .dp)
  | _ => none
theorem immL_ints : ∀ ns : List Int, immL (ns.map D.int) = true
  | [] => rfl
  | n :: ns => by simp only [List.map_cons, immL, imm, immL_ints ns, Bool.and_self]
theorem lm_ints (ns : List Int) : lm (ns.map D.int) = .dp := by unfold lm; rw [if_pos (immL_ints ns)]
theorem got_ints {K : PySem.W.Frag} {s h : Hp} {p : Addr} {ns : List Int} (e : Sub s h) (n : h p = none) : Got K T s h (.ref p) (.lst (ns.map D.int)) .dp s (upd h p (.lst (ns.map V.int))) [p] := by
  have t1 := got_list (K := K) (T := T) e n (seesL_ints ns)
  rw [lm_ints] at t1
  exact t1
def pSl (f : VEnv → Option (D × M)) (l u : VEnv → Option (Option Int)) : VEnv → Option (D × M) := fun ve => (f ve).bind fun x => (l ve).bind fun lo => (u ve).bind fun hi => gSl x.1 lo hi
theorem cut_all {α : Type} {xs : List α} {lo hi : Option Int} (h : HT.sIx xs.length 0 lo = 0 ∧ HT.sIx xs.length xs.length hi = xs.length) : cutL xs lo hi = xs := by
  unfold cutL
  rw [h.1, h.2]
  simp
theorem jp_slice {lo hi : Option Expr} {l u : VEnv → Option (Option Int)} {p2 : Pos} (ha : JP T X a f) (hl : JO T X lo l) (hu : JO T X hi u) : JP T X (.Subscript a (.Slice lo hi none p2) pos) (pSl f l u) := by
  obtain ⟨t, a1, a2⟩ := ha
  obtain ⟨tl, l1, l2⟩ := hl
  obtain ⟨tu, u1, u2⟩ := hu
  refine ⟨_, pe_slice (sl_list.or sl_tupA) a1 l1 u1, fun σ s h ve d m Q A q w => ?_⟩
  obtain ⟨⟨d1, m1⟩, e1, q⟩ := Option.bind_eq_some_iff.mp q
  obtain ⟨lo, e2, q⟩ := Option.bind_eq_some_iff.mp q
  obtain ⟨hi, e3, q⟩ := Option.bind_eq_some_iff.mp q
  refine a2 σ s h ve d1 m1 _ A e1 fun v s1 h1 B1 G1 => ?_
  obtain ⟨g1, r1⟩ := G1.seen
  refine l2 σ _ h1 ve lo _ (A.grow g1) e2 fun s2 h2 g2 => ?_
  refine u2 σ _ h2 ve hi _ (A.grow (g1.trans g2)) e3 fun s3 h3 g3 => ?_
  have g := (g1.trans g2).trans g3
  have r3 : Sees X.K T s3 v d1 := (r1.ext g2.ss d1).ext g3.ss d1
  unfold gSl at q
  dsimp only at q
  split at q
  · cases q
    simp only [Sees] at r3
    obtain ⟨p, vs, rfl, e4, e5⟩ := r3
    exact .inl ⟨p, vs, rfl, SqL.of (g.sub.at_ _ _ e4 (by intro _ z; cases z)), fun p n => w _ _ _ _ ((got_list g.sub n (cut_sees e5)).pre g)⟩
  · cases q
    simp only [Sees] at r3
    obtain ⟨p, vs, rfl, e4, e5⟩ := r3
    refine .inr ⟨p, vs, rfl, (sqT_ext g.sub e4).sq, fun hw => ?_, fun _ p n => w _ _ _ _ ((got_tup g.sub n (cut_sees e5)).pre g)⟩
    rw [SeesL.len _ e5] at hw
    have e6 := cut_all hw
    rw [e6] at w
    refine w _ _ _ _ ((got_at g.sub ?_).pre g)
    simp only [Sees]
    exact ⟨p, vs, rfl, e4, e5⟩
  · cases q
    simp only [Sees] at r3
    obtain ⟨p, rfl, e4⟩ := r3
    refine .inl ⟨_, _, rfl, sqL_ext g.sub e4, fun p n => ?_⟩
    rw [cut_ints]
    exact w _ _ _ _ ((got_ints g.sub n).pre g)
  · cases q
def gRev : D → Option (D × M)
  | .lst ds => some (.lst ds.reverse, lm ds.reverse)
  | _ => none
theorem jp_rev {k' : Nat} {q1 q2 q3 : Pos} (ha : JP T X a f) : JP T X (.Subscript a (.Slice none none (some (.UnaryOp .USub (.Constant (.int 1) k' q1) q2)) q3) pos) (p1 gRev f) := by
  obtain ⟨t, a1, a2⟩ := ha
  refine ⟨_, pe_revL a1, fun σ s h ve d m Q A q w => ?_⟩
  obtain ⟨⟨d1, m1⟩, e1, q⟩ := Option.bind_eq_some_iff.mp q
  refine a2 σ s h ve d1 m1 _ A e1 fun v s1 h1 B1 G1 => ?_
  obtain ⟨g1, r1⟩ := G1.seen
  unfold gRev at q
  dsimp only at q
  split at q
  · cases q
    simp only [Sees] at r1
    obtain ⟨p, vs, rfl, e4, e5⟩ := r1
    exact ⟨p, vs, rfl, SqL.of (g1.sub.at_ _ _ e4 (by intro _ z; cases z)), fun p n => w _ _ _ _ ((got_list g1.sub n e5.rev).pre g1)⟩
  · cases q
/-! ### built-in functions -/
def gLen : List D → Option (D × M)
  | [.lst ds] => some (.int ds.length, .dp)
  | [.tup ds] => some (.int ds.length, .dp)
  | [.scr ns] => some (.int ns.length, .dp)
  | [.str x] => if x.length ≤ lim then some (.int x.length, .dp) else none
  | [.dk ks _] => some (.int ks.length, .dp)
  | _ => none
theorem sees1 {K : PySem.W.Frag} {s : Hp} {xs : List V} {d : D} (r : SeesL K T s xs [d]) : ∃ v, xs = [v] ∧ Sees K T s v d := by
  simp only [SeesL] at r
  obtain ⟨v, q, rfl, e2, rfl⟩ := r
  exact ⟨v, rfl, e2⟩
theorem sees2 {K : PySem.W.Frag} {s : Hp} {xs : List V} {d d' : D} (r : SeesL K T s xs [d, d']) : ∃ v v', xs = [v, v'] ∧ Sees K T s v d ∧ Sees K T s v' d' := by
  simp only [SeesL] at r
  obtain ⟨v, q, rfl, e2, v', q', rfl, e3, rfl⟩ := r
  exact ⟨v, v', rfl, e2, e3⟩
theorem call_lenR : CallR X (.builtin "len") (fun xs H Q => ∃ a kvs, xs = [V.ref a] ∧ Rd H a (.dK kvs) ∧ Q (.int kvs.length) H) := by
  intro pins s σ H xs us Q I r h
  obtain ⟨a, kvs, rfl, ha, q⟩ := h
  obtain ⟨u, rfl, ru⟩ := vals1 r
  cases ru
  exact d_len I ha fun t s' I' => ⟨.int kvs.length, H, I', ⟨t, rfl⟩, q⟩
theorem oc_len : OC T X (.builtin "len") gLen := by
  refine ⟨_, (call_len_seq.or call_len_str).or call_lenR, fun s h xs ds d m Q e tb ra q w => ?_⟩
  unfold gLen at q
  split at q
  · cases q
    obtain ⟨v, rfl, r⟩ := sees1 ra
    simp only [Sees] at r
    obtain ⟨p, vs, rfl, e2, e3⟩ := r
    exact .inl <| .inl ⟨p, vs, rfl, .inl (SqL.of (e.at_ _ _ e2 (by intro _ z; cases z))), by rw [SeesL.len _ e3]; exact w _ s h [] (got_int e)⟩
  · cases q
    obtain ⟨v, rfl, r⟩ := sees1 ra
    simp only [Sees] at r
    obtain ⟨p, vs, rfl, e2, e3⟩ := r
    exact .inl <| .inl ⟨p, vs, rfl, .inr (sqT_ext e e2).sq, by rw [SeesL.len _ e3]; exact w _ s h [] (got_int e)⟩
  · cases q
    obtain ⟨v, rfl, r⟩ := sees1 ra
    simp only [Sees] at r
    obtain ⟨p, rfl, e2⟩ := r
    exact .inl <| .inl ⟨p, _, rfl, .inl (sqL_ext e e2), by rw [List.length_map]; exact w _ s h [] (got_int e)⟩
  · split at q
    · rename_i hl
      cases q
      obtain ⟨v, rfl, r⟩ := sees1 ra
      simp only [Sees] at r
      subst r
      exact .inl <| .inr ⟨_, rfl, by rw [← lim_eq]; exact hl, w _ s h [] (got_int e)⟩
    · cases q
  · cases q
    obtain ⟨v, rfl, r⟩ := sees1 ra
    simp only [Sees] at r
    obtain ⟨p, vs, rfl, e2, e3, e4⟩ := r
    refine .inr ⟨p, _, rfl, rd_ext e (by intro _ z; cases z) e2, ?_⟩
    rw [List.length_zip, ← e3, Nat.min_self]
    exact w _ s h [] (got_int e)
  · cases q
def gList : List D → Option (D × M)
  | [.lst ds] => some (.lst ds, lm ds)
  | [.tup ds] => some (.lst ds, lm ds)
  | _ => none
theorem oc_list : OC T X (.type "list") gList := by
  refine ⟨_, call_list_of, fun s h xs ds d m Q e tb ra q w => ?_⟩
  unfold gList at q
  split at q
  · cases q
    obtain ⟨v, rfl, r⟩ := sees1 ra
    simp only [Sees] at r
    obtain ⟨p, vs, rfl, e2, e3⟩ := r
    exact ⟨p, vs, rfl, .inl (SqL.of (e.at_ _ _ e2 (by intro _ z; cases z))), fun l n => w _ _ _ _ (got_list e n e3)⟩
  · cases q
    obtain ⟨v, rfl, r⟩ := sees1 ra
    simp only [Sees] at r
    obtain ⟨p, vs, rfl, e2, e3⟩ := r
    exact ⟨p, vs, rfl, .inr (sqT_ext e e2).sq, fun l n => w _ _ _ _ (got_list e n e3)⟩
  · cases q
def gTuple : List D → Option (D × M)
  | [.lst ds] => some (.tup ds, im (.tup ds))
  | [.tup ds] => some (.tup ds, im (.tup ds))
  | _ => none
theorem oc_tuple : OC T X (.type "tuple") gTuple := by
  refine ⟨_, call_tuple_of, fun s h xs ds d m Q e tb ra q w => ?_⟩
  unfold gTuple at q
  split at q
  · cases q
    obtain ⟨v, rfl, r⟩ := sees1 ra
    simp only [Sees] at r
    obtain ⟨p, vs, rfl, e2, e3⟩ := r
    exact ⟨p, vs, rfl, .inl ⟨SqL.of (e.at_ _ _ e2 (by intro _ z; cases z)), fun l n => w _ _ _ _ (got_tup e n e3)⟩⟩
  · cases q
    obtain ⟨v, rfl, r⟩ := sees1 ra
    have r0 := r
    simp only [Sees] at r
    obtain ⟨p, vs, rfl, e2, e3⟩ := r
    exact ⟨p, vs, rfl, .inr ⟨(sqT_ext e e2).sq, w _ _ _ _ (got_at e r0)⟩⟩
  · cases q
def gInt : List D → Option (D × M)
  | [.int i] => some (.int i, .dp)
  | [.bl b] => some (.int (if b then 1 else 0), .dp)
  | _ => none
theorem oc_int : OC T X (.type "int") gInt := by
  refine ⟨_, call_int1, fun s h xs ds d m Q e tb ra q w => ?_⟩
  unfold gInt at q
  split at q
  · cases q
    obtain ⟨v, rfl, r⟩ := sees1 ra
    simp only [Sees] at r
    subst r
    exact .inl ⟨_, rfl, w _ s h [] (got_int e)⟩
  · cases q
    obtain ⟨v, rfl, r⟩ := sees1 ra
    simp only [Sees] at r
    subst r
    exact .inr ⟨_, rfl, w _ s h [] (got_int e)⟩
  · cases q
def gAbs : List D → Option (D × M)
  | [.int i] => some (.int (if i < 0 then -i else i), .dp)
  | _ => none
theorem oc_abs : OC T X (.builtin "abs") gAbs := by
  refine ⟨_, call_abs, fun s h xs ds d m Q e tb ra q w => ?_⟩
  unfold gAbs at q
  split at q
  · cases q
    obtain ⟨v, rfl, r⟩ := sees1 ra
    simp only [Sees] at r
    subst r
    exact ⟨_, rfl, w _ s h [] (got_int e)⟩
  · cases q
/-- the ints of a list of ints -/
def toInts : List D → Option (List Int)
  | [] => some []
  | .int i :: ds => (toInts ds).bind fun r => some (i :: r)
  | _ :: _ => none
theorem toInts_map : ∀ ns : List Int, toInts (ns.map D.int) = some ns
  | [] => rfl
  | n :: ns => by simp only [List.map_cons, toInts, toInts_map ns, Option.bind_some]
theorem toInts_eq : ∀ {ds : List D} {ns : List Int}, toInts ds = some ns → ds = ns.map D.int
  | [], _, h => by cases h; rfl
  | d :: ds, ns, h => by
    cases d with
    | int i =>
      simp only [toInts] at h
      obtain ⟨r, e1, h⟩ := Option.bind_eq_some_iff.mp h
      cases h
      rw [toInts_eq e1]
      rfl
    | _ => simp [toInts] at h
def maxL : List Int → Int
  | [] => 0
  | [x] => x
  | x :: r => if maxL r > x then maxL r else x
def minL : List Int → Int
  | [] => 0
  | [x] => x
  | x :: r => if minL r < x then minL r else x
theorem maxL_spec : ∀ (ns : List Int), ns ≠ [] → maxL ns ∈ ns ∧ ∀ y ∈ ns, y ≤ maxL ns
  | [], h => absurd rfl h
  | [x], _ => ⟨by simp [maxL], by intro y hy; simp at hy; simp [maxL, hy]⟩
  | x :: y :: r, _ => by
    obtain ⟨h1, h2⟩ := maxL_spec (y :: r) (by simp)
    have e : maxL (x :: y :: r) = if maxL (y :: r) > x then maxL (y :: r) else x := rfl
    rw [e]
    split
    · refine ⟨List.mem_cons_of_mem _ h1, fun z hz => ?_⟩
      rcases List.mem_cons.mp hz with rfl | hz
      · omega
      · exact h2 z hz
    · refine ⟨List.mem_cons_self, fun z hz => ?_⟩
      rcases List.mem_cons.mp hz with rfl | hz
      · omega
      · have := h2 z hz; omega
theorem minL_spec : ∀ (ns : List Int), ns ≠ [] → minL ns ∈ ns ∧ ∀ y ∈ ns, minL ns ≤ y
  | [], h => absurd rfl h
  | [x], _ => ⟨by simp [minL], by intro y hy; simp at hy; simp [minL, hy]⟩
  | x :: y :: r, _ => by
    obtain ⟨h1, h2⟩ := minL_spec (y :: r) (by simp)
    have e : minL (x :: y :: r) = if minL (y :: r) < x then minL (y :: r) else x := rfl
    rw [e]
    split
    · refine ⟨List.mem_cons_of_mem _ h1, fun z hz => ?_⟩
      rcases List.mem_cons.mp hz with rfl | hz
      · omega
      · exact h2 z hz
    · refine ⟨List.mem_cons_self, fun z hz => ?_⟩
      rcases List.mem_cons.mp hz with rfl | hz
      · omega
      · have := h2 z hz; omega
def gMax : List D → Option (D × M)
  | [.int i, .int j] => some (.int (if j > i then j else i), .dp)
  | [.lst ds] => (toInts ds).bind fun ns => if ns.isEmpty then none else some (.int (maxL ns), .dp)
  | _ => none
def gMin : List D → Option (D × M)
  | [.int i, .int j] => some (.int (if j < i then j else i), .dp)
  | [.lst ds] => (toInts ds).bind fun ns => if ns.isEmpty then none else some (.int (minL ns), .dp)
  | _ => none
theorem oc_max (hc : X.calm = true) : OC T X (.builtin "max") gMax := by
  refine ⟨_, (call_max2 hc).or (cr_max hc), fun s h xs ds d m Q e tb ra q w => ?_⟩
  unfold gMax at q
  split at q
  · cases q
    obtain ⟨v, v', rfl, r, r'⟩ := sees2 ra
    simp only [Sees] at r r'
    subst r r'
    exact .inl ⟨_, _, rfl, w _ s h [] (got_int e)⟩
  · obtain ⟨ns, e1, q⟩ := Option.bind_eq_some_iff.mp q
    split at q
    · cases q
    · rename_i hne
      cases q
      obtain ⟨v, rfl, r⟩ := sees1 ra
      rw [toInts_eq e1] at r
      simp only [Sees] at r
      obtain ⟨p, vs, rfl, e2, e3⟩ := r
      have e4 := seesL_ints_inv ns e3
      subst e4
      have hn : ns ≠ [] := fun z => hne (by rw [z]; rfl)
      obtain ⟨s1, s2⟩ := maxL_spec ns hn
      refine .inr ⟨p, ns, rfl, SqL.of (e.at_ _ _ e2 (by intro _ z; cases z)), List.length_pos_iff.mpr hn, fun mm hm hle => ?_⟩
      have : mm = maxL ns := by have := hle _ s1; have := s2 _ hm; omega
      rw [this]
      exact w _ s h [] (got_int e)
  · cases q
theorem oc_min (hc : X.calm = true) : OC T X (.builtin "min") gMin := by
  refine ⟨_, (call_min2 hc).or (cr_min hc), fun s h xs ds d m Q e tb ra q w => ?_⟩
  unfold gMin at q
  split at q
  · cases q
    obtain ⟨v, v', rfl, r, r'⟩ := sees2 ra
    simp only [Sees] at r r'
    subst r r'
    exact .inl ⟨_, _, rfl, w _ s h [] (got_int e)⟩
  · obtain ⟨ns, e1, q⟩ := Option.bind_eq_some_iff.mp q
    split at q
    · cases q
    · rename_i hne
      cases q
      obtain ⟨v, rfl, r⟩ := sees1 ra
      rw [toInts_eq e1] at r
      simp only [Sees] at r
      obtain ⟨p, vs, rfl, e2, e3⟩ := r
      have e4 := seesL_ints_inv ns e3
      subst e4
      have hn : ns ≠ [] := fun z => hne (by rw [z]; rfl)
      obtain ⟨s1, s2⟩ := minL_spec ns hn
      refine .inr ⟨p, ns, rfl, SqL.of (e.at_ _ _ e2 (by intro _ z; cases z)), List.length_pos_iff.mpr hn, fun mm hm hle => ?_⟩
      have : mm = minL ns := by have := hle _ s1; have := s2 _ hm; omega
      rw [this]
      exact w _ s h [] (got_int e)
  · cases q
def gSum : List D → Option (D × M)
  | [.lst ds] => (toInts ds).bind fun ns => some (.int ns.sum, .dp)
  | _ => none
theorem oc_sum (hc : X.calm = true) : OC T X (.builtin "sum") gSum := by
  refine ⟨_, cr_sum hc, fun s h xs ds d m Q e tb ra q w => ?_⟩
  unfold gSum at q
  split at q
  · obtain ⟨ns, e1, q⟩ := Option.bind_eq_some_iff.mp q
    cases q
    obtain ⟨v, rfl, r⟩ := sees1 ra
    rw [toInts_eq e1] at r
    simp only [Sees] at r
    obtain ⟨p, vs, rfl, e2, e3⟩ := r
    have e4 := seesL_ints_inv ns e3
    subst e4
    exact ⟨p, ns, rfl, SqL.of (e.at_ _ _ e2 (by intro _ z; cases z)), w _ s h [] (got_int e)⟩
  · cases q
/-! ### sorted -/
def ins1 (x : Int) : List Int → List Int
  | [] => [x]
  | y :: r => if x ≤ y then x :: y :: r else y :: ins1 x r
def isort : List Int → List Int
  | [] => []
  | x :: r => ins1 x (isort r)
theorem ins1_perm (x : Int) : ∀ l, (ins1 x l).Perm (x :: l)
  | [] => .refl _
  | y :: r => by
    unfold ins1
    split
    · exact .refl _
    · exact ((ins1_perm x r).cons y).trans (.swap x y r)
theorem isort_perm : ∀ l, (isort l).Perm l
  | [] => .refl _
  | x :: r => (ins1_perm x _).trans ((isort_perm r).cons x)
theorem ins1_sorted (x : Int) : ∀ l, l.Pairwise (· ≤ ·) → (ins1 x l).Pairwise (· ≤ ·)
  | [], _ => by simp [ins1]
  | y :: r, h => by
    unfold ins1
    rw [List.pairwise_cons] at h
    split
    · rename_i hxy
      refine List.pairwise_cons.mpr ⟨fun z hz => ?_, List.pairwise_cons.mpr h⟩
      rcases List.mem_cons.mp hz with rfl | hz
      · exact hxy
      · have := h.1 z hz; omega
    · rename_i hxy
      refine List.pairwise_cons.mpr ⟨fun z hz => ?_, ins1_sorted x r h.2⟩
      rcases List.mem_cons.mp ((ins1_perm x r).mem_iff.mp hz) with rfl | hz
      · omega
      · exact h.1 z hz
theorem isort_sorted : ∀ l, (isort l).Pairwise (· ≤ ·)
  | [] => .nil
  | x :: r => ins1_sorted x _ (isort_sorted r)
theorem sorted_uniq {l m : List Int} (h1 : l.Pairwise (· ≤ ·)) (h2 : m.Pairwise (· ≤ ·)) (p : l.Perm m) : l = m := p.eq_of_pairwise (fun a b _ _ h1 h2 => by omega) h1 h2
end
end G
set_option Elab.async false
set_option linter.all false
set_option maxRecDepth 100000
set_option maxHeartbeats 4000000
/-! G6: targets, what is walked, comprehensions, calls of defs -/
namespace G
open PySem PySem.Spec PyProof.Rows L2
/-! ### the canonical readings -/
def tP (K : PySem.W.Frag) (T : Tx) (f : VEnv → Option (D × M)) : TE := fun σ h Q => ∃ s ve d m, At K T s h σ ve ∧ f ve = some (d, m) ∧ ∀ v s' h' B, Got K T s h v d m s' h' B → Q v h'
def tT (K : PySem.W.Frag) (T : Tx) (f : VEnv → Option Bool) : TT := fun σ h Q => ∃ s ve b, At K T s h σ ve ∧ f ve = some b ∧ ∀ s' h', Gr T s h s' h' → Q b h'
section
variable {X : Cx} {T : Tx} {a b c e tg : Expr} {es rest ifs : List Expr} {f k : VEnv → Option (D × M)} {ft : VEnv → Option Bool} {pos : Pos}
theorem JP.pe (h : JP T X e f) : PE X e (tP X.K T f) := by
  obtain ⟨t, a1, a2⟩ := h
  exact ⟨fun pins s σ H Q I ⟨s1, ve, d, m, A, q, w⟩ => a1.run pins s σ H Q I (a2 σ s1 H ve d m Q A q w)⟩
theorem JT.pt (h : JT T X e ft) : PT X e (tT X.K T ft) := by
  obtain ⟨t, a1, a2⟩ := h
  exact ⟨fun pins s σ H Q I ⟨s1, ve, b, A, q, w⟩ => a1.run pins s σ H Q I (a2 σ s1 H ve b Q A q w)⟩
/-! ### targets -/
/-- what a target does to the names: is, the slots that it sets -/
def tG (K : PySem.W.Frag) (T : Tx) (is : List Nat) (g : D → VEnv → Option VEnv) : TG := fun v σ h Q => ∃ s d ve ve', At K T s h σ ve ∧ Sees K T s v d ∧ g d ve = some ve' ∧
  ∀ σ', At K T s h σ' ve' → (∀ j : Nat, j ∉ is → σ'[j]? = σ[j]?) → σ'.length = σ.length → Q σ' h
def JG (T : Tx) (X : Cx) (tg : Expr) (is : List Nat) (g : D → VEnv → Option VEnv) : Prop := PG X tg (tG X.K T is g)
def gSet (i : Nat) : D → VEnv → Option VEnv := fun d ve => some (ve.set i (some d))
theorem At.set {K : PySem.W.Frag} {s h : Hp} {σ : St} {ve : VEnv} {i : Nat} {v : V} {d : D} (A : At K T s h σ ve) (r : Sees K T s v d) : At K T s h (σ.set i (some v)) (ve.set i (some d)) := by
  refine ⟨A.sub, A.tab, fun j x q => ?_, by simp [A.len]⟩
  by_cases hj : j = i
  · subst hj
    have hl : j < ve.length := by
      have := (List.getElem?_eq_some_iff.mp q).1
      simpa using this
    rw [List.getElem?_set_self hl] at q
    cases q
    exact ⟨v, List.getElem?_set_self (by rw [← A.len]; exact hl), r⟩
  · rw [List.getElem?_set_ne (Ne.symm hj)] at q
    obtain ⟨u, e1, e2⟩ := A.ok j x q
    exact ⟨u, by rw [List.getElem?_set_ne (Ne.symm hj)]; exact e1, e2⟩
theorem jg_name {i : Nat} {x : Str} (hN : X.N.Nodup) (hi : X.N[i]? = some x) (hx : Loc X.env.scope x) (hf : X.fn x = true ∨ X.env.scope.names.lookup x = some .local := by first | exact .inl rfl | exact .inr rfl) : JG T X (.Name x pos) [i] (gSet i) := by
  refine ⟨fun pins s0 σ H v u Q I r ⟨s, d, ve, ve', A, hs, q, w⟩ => ?_⟩
  cases q
  refine (pg_name hN hi hx hf).run pins s0 σ H v u Q I r ?_
  refine w _ (A.set hs) (fun j hj => ?_) (by simp)
  rw [List.getElem?_set_ne (fun z => hj (by simp [z]))]
/-- several -/
def gsN : List D → VEnv → Option VEnv := fun ds ve => match ds with
  | [] => some ve
  | _ => none
def gsC (g : D → VEnv → Option VEnv) (k : List D → VEnv → Option VEnv) : List D → VEnv → Option VEnv := fun ds ve => match ds with
  | d :: r => (g d ve).bind (k r)
  | _ => none
def tGs (K : PySem.W.Frag) (T : Tx) (is : List Nat) (g : List D → VEnv → Option VEnv) : TGs := fun vs σ h Q => ∃ s ds ve ve', At K T s h σ ve ∧ SeesL K T s vs ds ∧ g ds ve = some ve' ∧
  ∀ σ', At K T s h σ' ve' → (∀ j : Nat, j ∉ is → σ'[j]? = σ[j]?) → σ'.length = σ.length → Q σ' h
def JGs (T : Tx) (X : Cx) (ts : List Expr) (is : List Nat) (g : List D → VEnv → Option VEnv) : Prop := PGs X ts (tGs X.K T is g)
theorem jgs_nil : JGs T X [] [] gsN := by
  refine ⟨fun pins s0 σ H vs us Q I r ⟨s, ds, ve, ve', A, hs, q, w⟩ => ?_⟩
  refine pgs_nil.run pins s0 σ H vs us Q I r ?_
  unfold gsN at q
  split at q
  · cases q
    simp only [SeesL] at hs
    exact ⟨hs, w σ A (fun _ _ => rfl) rfl⟩
  · cases q
theorem jgs_cons {is js : List Nat} {g : D → VEnv → Option VEnv} {k : List D → VEnv → Option VEnv} (h1 : JG T X e is g) (h2 : JGs T X es js k)
    (hs : (assignEach (e :: es) X.env).map (·.2) = assign e X.env :: (assignEach es X.env).map (·.2) := by rfl) : JGs T X (e :: es) (is ++ js) (gsC g k) := by
  refine ⟨fun pins s0 σ H vs us Q I r ⟨s, ds, ve, ve', A, hq, q, w⟩ => ?_⟩
  refine (pgs_cons h1 h2 hs).run pins s0 σ H vs us Q I r ?_
  unfold gsC at q
  split at q
  · rename_i d dr
    obtain ⟨ve1, e1, q⟩ := Option.bind_eq_some_iff.mp q
    simp only [SeesL] at hq
    obtain ⟨v, vr, rfl, hv, hr⟩ := hq
    refine ⟨v, vr, rfl, s, d, ve, ve1, A, hv, e1, fun σ1 A1 k1 l1 => ?_⟩
    refine ⟨s, dr, ve1, ve', A1, hr, q, fun σ2 A2 k2 l2 => w σ2 A2 (fun j hj => ?_) (l2.trans l1)⟩
    rw [k2 j (fun z => hj (List.mem_append_right _ z)), k1 j (fun z => hj (List.mem_append_left _ z))]
  · cases q
def gTupD (n : Nat) (k : List D → VEnv → Option VEnv) : D → VEnv → Option VEnv := fun d ve => match d with
  | .tup ds => if ds.length = n then k ds ve else none
  | _ => none
theorem jg_tup {is : List Nat} {k : List D → VEnv → Option VEnv} {kk n : Nat} (hc : X.calm = true) (h : JGs T X es is k) (hn : (assignEach es X.env).length = n := by rfl) (hst : (assignEach es X.env).findIdx? (·.1) = none := by rfl) :
    JG T X (.Tuple es kk pos) is (gTupD n k) := by
  refine ⟨fun pins s0 σ H v u Q I r ⟨s, d, ve, ve', A, hs, q, w⟩ => ?_⟩
  unfold gTupD at q
  split at q
  · rename_i ds
    split at q
    · rename_i hl
      simp only [Sees] at hs
      obtain ⟨p, vs, rfl, e2, e3⟩ := hs
      refine (pg_tup (n := n) hc h hn hst).run pins s0 σ H _ u Q I r ⟨p, vs, rfl, (sqT_ext A.sub e2).sq, by rw [SeesL.len _ e3]; exact hl, s, ds, ve, ve', A, e3, q, w⟩
    · cases q
  · cases q
/-! ### what is walked -/
structure ItOk (K : PySem.W.Frag) (T : Tx) (J : It) (s0 : Hp) (ds : List D) : Prop where
  go : ∀ i h, Sub s0 h → i < ds.length → J.go i h
  stop : ∀ i h, Sub s0 h → ds.length ≤ i → J.stop i h
  yld : ∀ i s h x h', Sub s0 s → Sub s h → Tabs T h → i < ds.length → J.yld i h x h' → ∃ d s', ds[i]? = some d ∧ Gr T s h s' h' ∧ Sees K T s' x d
def JI (T : Tx) (X : Cx) (tg e : Expr) (f : VEnv → Option (List D)) : Prop := ∃ wi, PI X tg e wi ∧ ∀ (σ : St) (s h : Hp) (ve : VEnv) (ds : List D) (R : It → Hp → Prop), At X.K T s h σ ve → f ve = some ds → (∀ J s' h', Gr T s h s' h' → ItOk X.K T J s' ds → R J h') → wi σ h R
theorem itOk_list {K : PySem.W.Frag} {s : Hp} {p : Addr} {vs : List V} {ds : List D} (e : s p = some (.lst vs)) (r : SeesL K T s vs ds) : ItOk K T (Itl K p) s ds := by
  have up : ∀ h, Sub s h → h p = some (.lst vs) := fun h u => u.at_ _ _ e (by intro _ z; cases z)
  refine ⟨fun i h u hi => ?_, fun i h u hi => ⟨vs, SqL.of (up h u), by rw [SeesL.len _ r]; exact hi⟩, fun i s' h x h' u u' tb hi y => ?_⟩
  · have hv : i < vs.length := by rw [SeesL.len _ r]; exact hi
    exact ⟨vs, vs[i], SqL.of (up h u), List.getElem?_eq_getElem hv⟩
  · obtain ⟨rfl, y⟩ := y
    have hx := y vs (SqL.of (up h' (u.trans u')))
    obtain ⟨d, e1, e2⟩ := r.getV hx
    exact ⟨d, s', e1, Gr.refl u', e2.ext u d⟩
theorem itOk_tup {K : PySem.W.Frag} {s : Hp} {p : Addr} {vs : List V} {ds : List D} (e : s p = some (.tup vs)) (r : SeesL K T s vs ds) : ItOk K T (Itt K p) s ds := by
  have up : ∀ h, Sub s h → h p = some (.tup vs) := fun h u => u.at_ _ _ e (by intro _ z; cases z)
  refine ⟨fun i h u hi => ?_, fun i h u hi => ⟨vs, SqT.of (up h u), by rw [SeesL.len _ r]; exact hi⟩, fun i s' h x h' u u' tb hi y => ?_⟩
  · have hv : i < vs.length := by rw [SeesL.len _ r]; exact hi
    exact ⟨vs, vs[i], SqT.of (up h u), List.getElem?_eq_getElem hv⟩
  · obtain ⟨rfl, y⟩ := y
    have hx := y vs (SqT.of (up h' (u.trans u')))
    obtain ⟨d, e1, e2⟩ := r.getV hx
    exact ⟨d, s', e1, Gr.refl u', e2.ext u d⟩
def iLst (f : VEnv → Option (D × M)) : VEnv → Option (List D) := fun ve => (f ve).bind fun x => match x.1 with
  | .lst ds => some ds
  | _ => none
theorem ji_list (ha : JP T X e f) : JI T X tg e (iLst f) := by
  refine ⟨_, pi_list ha.pe, fun σ s h ve ds R A q w => ?_⟩
  obtain ⟨⟨d, m⟩, e1, q⟩ := Option.bind_eq_some_iff.mp q
  refine ⟨s, ve, d, m, A, e1, fun v s' h' B G1 => ?_⟩
  obtain ⟨g1, r1⟩ := G1.seen
  dsimp only at q
  split at q
  · cases q
    simp only [Sees] at r1
    obtain ⟨p, vs, rfl, e2, e3⟩ := r1
    exact ⟨p, rfl, ⟨vs, SqL.of (g1.sub.at_ _ _ e2 (by intro _ z; cases z))⟩, w _ _ h' g1 (itOk_list e2 e3)⟩
  · cases q
def iTupl (f : VEnv → Option (D × M)) : VEnv → Option (List D) := fun ve => (f ve).bind fun x => match x.1 with
  | .tup ds => some ds
  | _ => none
theorem ji_tup (ha : JP T X e f) : JI T X tg e (iTupl f) := by
  refine ⟨_, pi_tup ha.pe, fun σ s h ve ds R A q w => ?_⟩
  obtain ⟨⟨d, m⟩, e1, q⟩ := Option.bind_eq_some_iff.mp q
  refine ⟨s, ve, d, m, A, e1, fun v s' h' B G1 => ?_⟩
  obtain ⟨g1, r1⟩ := G1.seen
  dsimp only at q
  split at q
  · cases q
    simp only [Sees] at r1
    obtain ⟨p, vs, rfl, e2, e3⟩ := r1
    exact ⟨p, rfl, ⟨vs, (sqT_ext g1.sub e2).sq⟩, w _ _ h' g1 (itOk_tup e2 e3)⟩
  · cases q
/-- a, a + 1, .. below b -/
def rgD (a b : Int) : List D := (List.range (b - a).toNat).map fun i => D.int (a + (i : Nat))
theorem rgD_length (a b : Int) : (rgD a b).length = (b - a).toNat := by unfold rgD; simp
theorem rgD_get {a b : Int} {i : Nat} (h : i < (b - a).toNat) : (rgD a b)[i]? = some (.int (a + i)) := by
  unfold rgD
  rw [List.getElem?_map, List.getElem?_range h]
  rfl
theorem itOk_range {K : PySem.W.Frag} {s : Hp} {lo hi : Int} : ItOk K T (Itr lo (hi - lo).toNat) s (rgD lo hi) := by
  refine ⟨fun i h u hi => by rw [rgD_length] at hi; exact hi, fun i h u hi => by rw [rgD_length] at hi; exact hi, fun i s' h x h' u u' tb hi y => ?_⟩
  rw [rgD_length] at hi
  obtain ⟨rfl, rfl⟩ := y
  exact ⟨_, s', rgD_get hi, Gr.refl u', by simp only [Sees]⟩
theorem itOk_range0 {K : PySem.W.Frag} {s : Hp} {hi : Int} : ItOk K T (Itr 0 hi.toNat) s (rgD 0 hi) := by
  have t1 := itOk_range (K := K) (T := T) (s := s) (lo := 0) (hi := hi)
  simp only [Int.sub_zero] at t1
  exact t1
def bd62 (i : Int) : Bool := decide (i.natAbs < 2 ^ 62)
theorem bd62_b {i : Int} (h : bd62 i = true) : -(2 ^ 62) ≤ i ∧ i < 2 ^ 62 := by
  simp only [bd62, decide_eq_true_eq] at h
  omega
theorem bd62_of {i : Int} (h : -(2 ^ 62) < i ∧ i < 2 ^ 62) : bd62 i = true := by
  simp only [bd62, decide_eq_true_eq]
  omega
theorem and62 {i j : Int} (h : (bd62 i && bd62 j) = true) : (-(2 ^ 62) ≤ i ∧ i < 2 ^ 62) ∧ -(2 ^ 62) ≤ j ∧ j < 2 ^ 62 := by
  rw [Bool.and_eq_true] at h
  exact ⟨bd62_b h.1, bd62_b h.2⟩
def iRg1 (f : VEnv → Option (D × M)) : VEnv → Option (List D) := fun ve => (f ve).bind fun x => match x.1 with
  | .int j => if bd62 j then some (rgD 0 j) else none
  | _ => none
def iRg2 (f k : VEnv → Option (D × M)) : VEnv → Option (List D) := fun ve => (f ve).bind fun x => (k ve).bind fun y => match x.1, y.1 with
  | .int i, .int j => if bd62 i && bd62 j then some (rgD i j) else none
  | _, _ => none
theorem ji_range1 {p : Pos} (hg : Gl X "range") (hm : X.mg "range" = none) (ha : JP T X a f) (hs : starEach [a] X.env = [(false, eval a X.env)] := by rfl) : JI T X tg (.Call (.Name "range" p) [a] [] pos) (iRg1 f) := by
  refine ⟨_, pi_range1 hg hm (pa_cons ha.pe pa_nil hs) hs, fun σ s h ve ds R A q w => ?_⟩
  obtain ⟨⟨d, m⟩, e1, q⟩ := Option.bind_eq_some_iff.mp q
  refine ⟨s, ve, d, m, A, e1, fun v s' h' B G1 => ?_⟩
  obtain ⟨g1, r1⟩ := G1.seen
  dsimp only at q
  split at q
  · split at q
    · rename_i hb
      cases q
      simp only [Sees] at r1
      subst r1
      replace hb := bd62_b hb
      exact ⟨_, rfl, hb.1, hb.2, w _ _ h' g1 itOk_range0⟩
    · cases q
  · cases q
theorem ji_range2 {p : Pos} (hg : Gl X "range") (hm : X.mg "range" = none) (ha : JP T X a f) (hb : JP T X b k) (hs : starEach [a, b] X.env = [(false, eval a X.env), (false, eval b X.env)] := by rfl) (hs2 : starEach [b] X.env = [(false, eval b X.env)] := by rfl) :
    JI T X tg (.Call (.Name "range" p) [a, b] [] pos) (iRg2 f k) := by
  refine ⟨_, pi_range2 hg hm (pa_cons ha.pe (pa_cons hb.pe pa_nil hs2) (by rw [hs, hs2])) hs hs2, fun σ s h ve ds R A q w => ?_⟩
  obtain ⟨⟨d, m⟩, e1, q⟩ := Option.bind_eq_some_iff.mp q
  obtain ⟨⟨d', m'⟩, e2, q⟩ := Option.bind_eq_some_iff.mp q
  refine ⟨s, ve, d, m, A, e1, fun v s' h' B G1 => ?_⟩
  obtain ⟨g1, r1⟩ := G1.seen
  refine ⟨_, ve, d', m', A.grow g1, e2, fun v2 s2 h2 B2 G2 => ?_⟩
  obtain ⟨g2, r2⟩ := G2.seen
  dsimp only at q
  split at q
  · split at q
    · rename_i hb
      cases q
      simp only [Sees] at r1 r2
      subst r1 r2
      replace hb := and62 hb
      exact ⟨_, _, rfl, ⟨hb.1.1, hb.1.2, hb.2.1, hb.2.2⟩, w _ _ h2 (g1.trans g2) itOk_range⟩
    · cases q
  · cases q
/-- (0, x), (1, y), .. -/
def enD (i : Nat) : List D → List D
  | [] => []
  | d :: ds => .tup [.int i, d] :: enD (i + 1) ds
theorem enD_length : ∀ (i : Nat) (ds : List D), (enD i ds).length = ds.length
  | _, [] => rfl
  | i, d :: ds => by simp only [enD, List.length_cons, enD_length (i + 1) ds]
theorem enD_get : ∀ (i j : Nat) (ds : List D), (enD i ds)[j]? = ds[j]?.map fun d => D.tup [.int ((i + j : Nat) : Int), d]
  | _, _, [] => by simp [enD]
  | i, 0, d :: ds => by simp [enD]
  | i, j + 1, d :: ds => by
    simp only [enD, List.getElem?_cons_succ, enD_get (i + 1) j ds]
    rw [show i + 1 + j = i + (j + 1) by omega]
def iEn (f : VEnv → Option (D × M)) : VEnv → Option (List D) := fun ve => (iLst f ve).bind fun ds => some (enD 0 ds)
theorem ji_enum {p tpos : Pos} {elts : List Expr} {kk : Nat} (hg : Gl X "enumerate") (hm : X.mg "enumerate" = none) (ha : JP T X a f) (hs : starEach [a] X.env = [(false, eval a X.env)] := by rfl) : JI T X (.Tuple elts kk tpos) (.Call (.Name "enumerate" p) [a] [] pos) (iEn f) := by
  refine ⟨_, pi_enum hg hm (pa_cons ha.pe pa_nil hs) hs, fun σ s h ve ds R A q w => ?_⟩
  obtain ⟨ds0, q0, e9⟩ := Option.bind_eq_some_iff.mp q
  clear q
  cases e9
  unfold iLst at q0
  obtain ⟨⟨d, m⟩, e1, q⟩ := Option.bind_eq_some_iff.mp q0
  refine ⟨s, ve, d, m, A, e1, fun v s' h' B G1 => ?_⟩
  obtain ⟨g1, r1⟩ := G1.seen
  dsimp only at q
  split at q
  · cases q
    simp only [Sees] at r1
    obtain ⟨p, vs, rfl, e2, e3⟩ := r1
    refine ⟨p, vs, rfl, SqL.of (g1.sub.at_ _ _ e2 (by intro _ z; cases z)), w _ _ h' g1 ?_⟩
    have up : ∀ h, Sub (shr s' h' B) h → h p = some (.lst vs) := fun h u => u.at_ _ _ e2 (by intro _ z; cases z)
    refine ⟨fun i h u hi => ?_, fun i h u hi => ⟨vs, SqL.of (up h u), by rw [SeesL.len _ e3, ← enD_length 0]; exact hi⟩, fun i s2 h x h2 u u' tb hi y => ?_⟩
    · have hv : i < vs.length := by rw [SeesL.len _ e3, ← enD_length 0]; exact hi
      exact ⟨vs, vs[i], SqL.of (up h u), List.getElem?_eq_getElem hv⟩
    · obtain ⟨Tp, x0, rfl, nT, rfl, y⟩ := y
      have hx := y vs (SqL.of (up h (u.trans u')))
      obtain ⟨d, f1, f2⟩ := e3.getV hx
      refine ⟨.tup [.int i, d], upd s2 Tp (.tup [.int i, x0]), ?_, Gr.alloc u' nT, ?_⟩
      · rw [enD_get, f1]; simp
      · simp only [Sees, SeesL]
        exact ⟨Tp, _, rfl, upd_same, _, _, rfl, rfl, _, _, rfl, (f2.ext u d).ext (sub_upd u' nT |>.trans Sub.rfl') d, rfl⟩
  · cases q
/-! ### the rest of growth -/
theorem tabs_put {h : Hp} {p : Addr} {o o' : HO} (t : Tabs T h) (e : h p = some o) (n1 : ∀ ps, o ≠ .tbl ps) (n2 : ∀ φ, o ≠ .ext φ) : Tabs T (upd h p o') := fun q hq => by
  obtain ⟨ps, h1, h2, h3⟩ := t q hq
  have ne : q.1 ≠ p := fun z => by rw [z, e] at h1; exact n1 _ (Option.some.inj h1)
  refine ⟨ps, by rw [upd_ne ne]; exact h1, h2, fun pos cv hc => ?_⟩
  obtain ⟨c, e1, e2⟩ := h3 pos cv hc
  have nc : c ≠ p := fun z => by rw [z, e] at e2; exact n2 _ (Option.some.inj e2)
  exact ⟨c, e1, by rw [upd_ne nc]; exact e2⟩
theorem mu_tbl {o : HO} (m : Mu o) : (∀ ps, o ≠ .tbl ps) ∧ ∀ φ, o ≠ .ext φ := ⟨fun ps z => by subst z; exact m, fun φ z => by subst z; exact m⟩
/-- an own new object is changed -/
theorem Gr.put {s h s' h' : Hp} {p : Addr} {o o' : HO} (g : Gr T s h s' h') (n : h p = none) (e : h' p = some o) (mu : Mu o) (ns : s' p = none) : Gr T s h s' (upd h' p o') := by
  refine ⟨g.ss, ⟨fun b u q z => ?_, fun b q => ?_⟩, fun a ps q => ?_, ⟨fun b u q z => ?_, fun b q => ?_⟩, g.new, fun t => tabs_put (g.tab t) e (mu_tbl mu).1 (mu_tbl mu).2⟩
  · rw [upd_ne (ne_of_none q n)]; exact g.hh.at_ b u q z
  · by_cases hb : b = p
    · subst hb; exact n
    · rw [upd_ne hb] at q; exact g.hh.no b q
  · obtain ⟨m, r⟩ := g.tbl a ps q
    exact ⟨m, by rw [upd_ne (ne_of_none q n)]; exact r⟩
  · rw [upd_ne (ne_of_none q ns)]; exact g.sub.at_ b u q z
  · by_cases hb : b = p
    · subst hb; exact ns
    · rw [upd_ne hb] at q; exact g.sub.no b q
theorem RepL.app {K : PySem.W.Frag} {s h : Hp} : ∀ {ds es : List (D × M)} {vs ws : List V} {B C : List Addr}, RepL K T s h vs ds B → RepL K T s h ws es C → RepL K T s h (vs ++ ws) (ds ++ es) (B ++ C)
  | [], _, _, _, _, _, r, q => by
    obtain ⟨rfl, rfl⟩ := r
    exact q
  | d :: ds, _, _, _, _, _, r, q => by
    obtain ⟨v, t, B1, B2, rfl, rfl, e2, e3⟩ := r
    exact ⟨v, _, B1, _, rfl, List.append_assoc .., e2, RepL.app e3 q⟩
/-! ### comprehensions -/
def wipeV (ve : VEnv) : List Nat → VEnv
  | [] => ve
  | v :: vs => (wipeV ve vs).set v none
theorem wipeV_len (ve : VEnv) : ∀ vs, (wipeV ve vs).length = ve.length
  | [] => rfl
  | v :: vs => by unfold wipeV; rw [List.length_set, wipeV_len ve vs]
theorem wipe_get {σ : St} : ∀ (vs : List Nat) (j : Nat), (wipe σ vs)[j]? = if j ∈ vs ∧ j < σ.length then some none else σ[j]?
  | [], j => by simp [wipe]
  | v :: vs, j => by
    unfold wipe
    by_cases hj : v = j
    · subst hj
      by_cases hl : v < σ.length
      · rw [List.getElem?_set_self (by rw [wipe_length]; exact hl), if_pos ⟨List.mem_cons_self, hl⟩]
      · rw [List.getElem?_eq_none (by rw [List.length_set, wipe_length]; omega), if_neg (fun z => hl z.2), List.getElem?_eq_none (by omega)]
    · rw [List.getElem?_set_ne hj, wipe_get vs j]
      have : (j ∈ v :: vs ∧ j < σ.length) ↔ (j ∈ vs ∧ j < σ.length) := by
        simp only [List.mem_cons]
        constructor
        · rintro ⟨z | z, q⟩
          · exact absurd z.symm hj
          · exact ⟨z, q⟩
        · rintro ⟨z, q⟩; exact ⟨.inr z, q⟩
      by_cases hc : j ∈ vs ∧ j < σ.length
      · rw [if_pos hc, if_pos (this.mpr hc)]
      · rw [if_neg hc, if_neg (fun z => hc (this.mp z))]
theorem wipe_same {σ σ' : St} {vs : List Nat} (hl : σ'.length = σ.length) (k : ∀ j : Nat, j ∉ vs → σ'[j]? = σ[j]?) : wipe σ' vs = wipe σ vs := by
  apply List.ext_getElem?
  intro j
  rw [wipe_get, wipe_get, hl]
  by_cases hc : j ∈ vs ∧ j < σ.length
  · rw [if_pos hc, if_pos hc]
  · rw [if_neg hc, if_neg hc]
    by_cases hj : j ∈ vs
    · have h1 : σ.length ≤ j := Nat.le_of_not_lt fun z => hc ⟨hj, z⟩
      rw [List.getElem?_eq_none h1, List.getElem?_eq_none (by omega)]
    · exact k j hj
theorem wipeV_get {ve : VEnv} {d : D} : ∀ {vs : List Nat} {j : Nat}, (wipeV ve vs)[j]? = some (some d) → ve[j]? = some (some d) ∧ j ∉ vs
  | [], _, h => ⟨h, by simp⟩
  | v :: vs, j, h => by
    unfold wipeV at h
    by_cases hj : v = j
    · subst hj
      by_cases hl : v < (wipeV ve vs).length
      · rw [List.getElem?_set_self hl] at h; cases h
      · rw [List.getElem?_eq_none (by simpa using hl)] at h; cases h
    · rw [List.getElem?_set_ne hj] at h
      obtain ⟨h1, h2⟩ := wipeV_get h
      exact ⟨h1, by simp only [List.mem_cons, not_or]; exact ⟨fun e => hj e.symm, h2⟩⟩
theorem At.wipe {K : PySem.W.Frag} {s h : Hp} {σ : St} {ve : VEnv} (A : At K T s h σ ve) (vs : List Nat) : At K T s h (L2.wipe σ vs) (wipeV ve vs) := by
  refine ⟨A.sub, A.tab, fun j d q => ?_, by rw [wipeV_len, wipe_length, A.len]⟩
  obtain ⟨q1, q2⟩ := wipeV_get q
  obtain ⟨v, e1, e2⟩ := A.ok j d q1
  exact ⟨v, by rw [wipe_get, if_neg (fun z => q2 z.1)]; exact e1, e2⟩
/-- a clause's tests -/
def JTs (T : Tx) (X : Cx) (ifs : List Expr) (f : VEnv → Option Bool) : Prop := PTs X ifs (tT X.K T f)
def bYes : VEnv → Option Bool := fun _ => some true
theorem jts_nil : JTs T X [] bYes := ⟨fun pins s0 σ H Q I ⟨s, ve, b, A, q, w⟩ => by
  cases q
  exact pts_nil.run pins s0 σ H Q I (w s H (Gr.refl A.sub))⟩
theorem jts_one (h : JT T X c ft) : JTs T X [c] ft := pts_one h.pt
/-- the items that a comprehension makes -/
def compL (g : D → VEnv → Option VEnv) (t : VEnv → Option Bool) (e : VEnv → Option (D × M)) (ve : VEnv) : List D → Option (List (D × M))
  | [] => some []
  | d :: ds => (g d ve).bind fun ve' => (t ve').bind fun b => if b = true then (e ve').bind fun x => (compL g t e ve ds).bind fun r => some (x :: r) else compL g t e ve ds
def pComp (vs : List Nat) (i : VEnv → Option (List D)) (g : D → VEnv → Option VEnv) (t : VEnv → Option Bool) (e : VEnv → Option (D × M)) : VEnv → Option (D × M) := fun ve =>
  (i ve).bind fun ds => if ds.length ≤ lim then (compL g t e (wipeV ve vs) ds).bind fun r => some (.lst (r.map (·.1)), dm r) else none
/-- a reading of what only reads -/
def RdP (K : PySem.W.Frag) (T : Tx) (t : TE) (f : VEnv → Option (D × M)) : Prop := ∀ (σ : St) (s h : Hp) (ve : VEnv) (d : D) (m : M) (Q : VK), At K T s h σ ve → f ve = some (d, m) → (∀ v s' h' B, Got K T s h v d m s' h' B → Q v h') → t σ h Q
theorem comp_rd {i : VEnv → Option (List D)} {g : D → VEnv → Option VEnv} {wi : TI} {K : PySem.W.Frag} {vs : List Nat} (i2 : ∀ (σ : St) (s h : Hp) (ve : VEnv) (ds : List D) (R : It → Hp → Prop), At K T s h σ ve → i ve = some ds → (∀ J s' h', Gr T s h s' h' → ItOk K T J s' ds → R J h') → wi σ h R) :
    RdP K T (tLc wi (tG K T vs g) (tT K T ft) (tP K T f) vs) (pComp vs i g ft f) := by
  intro σ s h ve d m Q A q w
  obtain ⟨ds, e1, q⟩ := Option.bind_eq_some_iff.mp q
  split at q
  · rename_i hlim
    obtain ⟨fin, e2, q⟩ := Option.bind_eq_some_iff.mp q
    cases q
    refine i2 σ s h ve ds _ A e1 fun J s1 h1 g1 IO => ?_
    intro Dd nD
    refine ⟨fun i m H => m = ds.length - i ∧ i ≤ ds.length ∧ ∃ s' acc done B rest, Gr T s1 h1 s' H ∧ H Dd = some (.lst acc) ∧ s' Dd = none ∧ RepL K T s' H acc done B ∧ Fresh h1 s' B ∧ Dd ∉ B ∧ acc.length ≤ i ∧ compL g ft f (wipeV ve vs) (ds.drop i) = some rest ∧ fin = done ++ rest,
      ⟨ds.length, by simp, Nat.zero_le _, s1, [], [], [], fin, Gr.own g1.sub nD, upd_same, g1.sub.no _ nD, ⟨rfl, rfl⟩, Fresh.nil, by simp, by simp, e2, rfl⟩, ?_⟩
    rintro i m H ⟨rfl, hi, s', acc, done, B, rest, g2, eD, sD, rl, fr, nB, hl, ec, ef⟩
    by_cases hlt : i < ds.length
    · refine .inr ⟨IO.go i H (g2.ss.trans g2.sub) hlt, fun H => i + 1 ≤ ds.length ∧ ∃ s' acc done B rest, Gr T s1 h1 s' H ∧ H Dd = some (.lst acc) ∧ s' Dd = none ∧ RepL K T s' H acc done B ∧ Fresh h1 s' B ∧ Dd ∉ B ∧ acc.length ≤ i + 1 ∧ compL g ft f (wipeV ve vs) (ds.drop (i + 1)) = some rest ∧ fin = done ++ rest,
        fun H' hN' => ⟨ds.length - (i + 1), by omega, rfl, hN'.1, hN'.2⟩, fun x H' hy => ?_⟩
      have A2 : At K T s' H σ ve := A.grow (g1.trans g2)
      obtain ⟨d, s3, ed, g3, rx⟩ := IO.yld i s' H x H' g2.ss g2.sub A2.tab hlt hy
      have hdr : ds.drop i = d :: ds.drop (i + 1) := by
        obtain ⟨h0, h1'⟩ := List.getElem?_eq_some_iff.mp ed
        rw [← h1']
        exact (List.getElem_cons_drop h0).symm
      rw [hdr] at ec
      simp only [compL] at ec
      obtain ⟨ve', eg, ec⟩ := Option.bind_eq_some_iff.mp ec
      obtain ⟨b, et, ec⟩ := Option.bind_eq_some_iff.mp ec
      refine ⟨s3, d, wipeV ve vs, ve', ((A2.grow g3).wipe vs), rx, eg, fun σ' A3 kσ lσ => ⟨?_, s3, ve', b, A3, et, fun s4 H4 g4 => ?_⟩⟩
      · have z : L2.wipe σ' vs = L2.wipe (L2.wipe σ vs) vs := wipe_same lσ kσ
        rw [z]
        exact wipe_same (by rw [wipe_length]) fun j hj => by rw [wipe_get, if_neg (fun z => hj z.1)]
      · have g34 := g3.trans g4
        have eD4 : H4 Dd = some (.lst acc) := g34.hh.at_ _ _ eD (by intro _ z; cases z)
        have sD4 : s4 Dd = none := grow_none g34 eD trivial sD
        have rl4 := rl.grow g34
        have fr4 : Fresh h1 s4 B := ⟨fr.nd, fr.nw, fun b hb => by
          obtain ⟨o, eb, mu⟩ := rl.mem b hb
          exact grow_none g34 eb mu (fr.ns b hb)⟩
        cases b with
        | false =>
          simp only [Bool.false_eq_true, if_false] at ec ⊢
          exact ⟨by omega, s4, acc, done, B, rest, g2.trans g34, eD4, sD4, rl4, fr4, nB, by omega, ec, ef⟩
        | true =>
          simp only [if_true] at ec ⊢
          obtain ⟨xv, ex, ec⟩ := Option.bind_eq_some_iff.mp ec
          obtain ⟨rs, er, ec⟩ := Option.bind_eq_some_iff.mp ec
          cases ec
          refine ⟨s4, ve', xv.1, xv.2, A3.grow g4, ex, fun y s5 H5 B5 G5 => ?_⟩
          have g345 := g34.trans G5.gr
          have eD5 : H5 Dd = some (.lst acc) := g345.hh.at_ _ _ eD (by intro _ z; cases z)
          have sD5 : s5 Dd = none := grow_none g345 eD trivial sD
          have rl5 := rl.grow g345
          have nB5 : Dd ∉ B5 := fun z => by
            rw [G5.fr.nw _ z] at eD4; cases eD4
          have dis : ∀ b ∈ B, b ∉ B5 := fun b hb hb5 => by
            obtain ⟨o, eb, mu⟩ := rl4.mem b hb
            rw [G5.fr.nw _ hb5] at eb; cases eb
          refine ⟨acc, eD5, by rw [← lim_eq]; omega, by omega, s5, acc ++ [y], done ++ [xv], B ++ B5, rs, (g2.trans g345).put nD eD5 trivial sD5, upd_same, sD5, ?_, ⟨?_, fun b hb => ?_, fun b hb => ?_⟩, fun z => (List.mem_append.mp z).elim nB nB5, by simp; omega, er, by rw [ef]; simp⟩
          · have ru : RepL K T s5 H5 (acc ++ [y]) (done ++ [xv]) (B ++ B5) := rl5.app ⟨y, [], B5, [], rfl, by simp, G5.rep, rfl, rfl⟩
            refine ru.keep Sub.rfl' (fun a xs e => ?_) fun b hb => ?_
            · rw [upd_ne (ne_of e eD5 (by intro z; cases z))]; exact e
            · rw [upd_ne (fun z => by subst z; exact (List.mem_append.mp hb).elim nB nB5)]
          · exact List.nodup_append.mpr ⟨fr.nd, G5.fr.nd, fun b hb c hc e => by subst e; exact dis b hb hc⟩
          · rcases List.mem_append.mp hb with hb | hb
            · exact fr.nw b hb
            · exact (g2.trans g34).non (G5.fr.nw b hb)
          · rcases List.mem_append.mp hb with hb | hb
            · obtain ⟨o, eb, mu⟩ := rl.mem b hb
              exact grow_none g345 eb mu (fr.ns b hb)
            · exact G5.fr.ns b hb
    · have hie : i = ds.length := by omega
      subst hie
      refine .inl ⟨IO.stop _ H (g2.ss.trans g2.sub) (Nat.le_refl _), ?_⟩
      simp only [List.drop_length, compL] at ec
      cases ec
      rw [List.append_nil] at ef
      subst ef
      have nD0 : h Dd = none := g1.non nD
      by_cases hd : allDp fin = true
      · refine w _ s' H (Dd :: B) ⟨g1.trans g2, ?_, ?_, fun b hb => ?_, fun b hb => ?_⟩
        · unfold dm
          rw [if_pos hd]
          simp only [Rep, Deep]
          exact ⟨Dd, acc, B, rfl, eD, rfl, rl.deep hd⟩
        · exact List.nodup_cons.mpr ⟨nB, fr.nd⟩
        · rcases List.mem_cons.mp hb with rfl | hb
          · exact nD0
          · exact g1.non (fr.nw b hb)
        · rcases List.mem_cons.mp hb with rfl | hb
          · exact sD
          · exact fr.ns b hb
      · have sD' : shr s' H B Dd = none := by
          unfold shr
          rw [if_neg nB, eD]
          exact sD
        refine w _ (shr s' H B) H [Dd] ⟨g1.trans (g2.shr fr), ?_, by simp, fun b hb => ?_, fun b hb => ?_⟩
        · unfold dm
          rw [if_neg hd]
          exact ⟨Dd, rfl, rfl, acc, eD, rl.shr g2.sub fun _ hb => hb⟩
        · rw [List.mem_singleton.mp hb]; exact nD0
        · rw [List.mem_singleton.mp hb]; exact sD'
  · cases q
theorem jp_comp {elt iter : Expr} {scope : Scope} {own : List (Str × Nat)} {i : VEnv → Option (List D)} {g : D → VEnv → Option VEnv} (hc : X.calm = true) (hN : X.N.Nodup) (hi : JI T X tg iter i) (ok : BlkOk X.N X.env.scope scope own)
    (hg : ∀ (s : Shared) (H : Hp) (C : Addr) (cl : List (Str × Addr)) (fp : List Addr), JG T (X.blk s H scope (compEnvC scope cl C X.env) fp) tg (own.map (·.2)) g)
    (ht : ∀ (s : Shared) (H : Hp) (C : Addr) (cl : List (Str × Addr)) (fp : List Addr), JTs T (X.blk s H scope (compEnvC scope cl C X.env) fp) ifs ft)
    (he : ∀ (s : Shared) (H : Hp) (C : Addr) (cl : List (Str × Addr)) (fp : List Addr), JP T (X.blk s H scope (compEnvC scope cl C X.env) fp) elt f) (hs : ∀ x, foldedSetIterable iter X.env x = pure x := by intro _; rfl) :
    JP T X (.ListComp elt [⟨tg, iter, ifs, 0⟩] scope pos) (pComp (own.map (·.2)) i g ft f) := by
  obtain ⟨wi, i1, i2⟩ := hi
  exact ⟨_, pe_lc (g := tG X.K T (own.map fun (x : Str × Nat) => x.2) g) (tt := tT X.K T ft) (te := tP X.K T f) (own := own) hc hN i1 ok hg ht (fun s H C cl fp => (he s H C cl fp).pe) hs, comp_rd i2⟩
end
end G
set_option Elab.async false
set_option linter.all false
set_option maxRecDepth 100000
set_option maxHeartbeats 4000000
/-! G7: defs and their calls; environments that own; expressions and statements that change -/
namespace G
open PySem PySem.Spec PyProof.Rows L2
/-! ### the promise of a def that only reads -/
abbrev Fn := List D → Option (D × M)
def spP (K : PySem.W.Frag) (T : Tx) (n : Nat) (run : Fn) : Sp := fun vs H Q _ => ∃ s ds d m, vs.length = n ∧ Sub s H ∧ Tabs T H ∧ SeesL K T s vs ds ∧ run ds = some (d, m) ∧ ∀ v s' h' B, Got K T s H v d m s' h' B → Q v h'
/-- what is held of a def by its name -/
structure Cal' (P : Program) (w : World) (K : PySem.W.Frag) (mg : Str → Option Value) (base : Heap) (k : Nat) (x : Str) (sp : Sp) : Prop where
  ex : ∃ f fd ps, FnOk P w K mg base CX0 k f fd ps sp ∧ mg x = some (.ref f) ∧ PySem.W.keepIn K (.ref f) = true ∧ Binds K fd ps []
abbrev Fc (P : Program) (w : World) (K : PySem.W.Frag) (mg : Str → Option Value) (base : Heap) (T : Tx) (k : Nat) (x : Str) (n : Nat) (run : Fn) : Prop := Cal' P w K mg base k x (spP K T n run)
section
variable {X : Cx} {T : Tx} {a b c e tg : Expr} {es rest : List Expr} {f k : VEnv → Option (D × M)} {ft : VEnv → Option Bool} {pos p : Pos} {x : Str} {j n l : Nat} {run : Fn}
def pCall (n : Nat) (run : Fn) (k : VEnv → Option (List (D × M))) : VEnv → Option (D × M) := fun ve => (k ve).bind fun r => if r.length = n then run (r.map (·.1)) else none
theorem jp_call {k : VEnv → Option (List (D × M))} (F : Fc X.prog X.w X.K X.mg X.base T l x n run) (hr : Room j X.A) (hl : l ≤ j) (hg : Gl X x) (ha : JA T X (e :: es) k) (hdb : (x == ("__debug__" : Str)) = false := by decide)
    (he : starEach (e :: es) X.env = (false, eval e X.env) :: starEach es X.env := by rfl) (hpl : (backTo pos (starEach es X.env)).any (·.1) = false := by rfl) : JP T X (.Call (.Name x p) (e :: es) [] pos) (pCall n run k) := by
  obtain ⟨t, a1, a2⟩ := ha
  obtain ⟨ff, fd, ps, F0, hm, kp, bd⟩ := F.ex
  refine ⟨_, pe_call F0 (hr.mono hl) hg hm kp bd .nil pass0 a1 hdb he hpl, fun σ s h ve d m Q A q w => ?_⟩
  obtain ⟨ds, e1, q⟩ := Option.bind_eq_some_iff.mp q
  split at q
  · rename_i hn
    refine a2 σ s h ve ds _ A e1 fun vs s1 h1 B g1 r1 f1 => ?_
    have g2 := g1.shr f1
    rw [List.append_nil]
    exact ⟨_, _, d, m, by rw [r1.len]; exact hn, g2.sub, g2.tab A.tab, r1.shr g1.sub fun _ hb => hb, q, fun v s' h' B' G' => w v s' h' B' (G'.pre g2)⟩
  · cases q
/-! keywords -/
/-- the values of keywords -/
def JK (T : Tx) (X : Cx) (kws : List Keyword) (f : VEnv → Option (List (D × M))) : Prop := ∃ t, PK X kws t ∧ ∀ (σ : St) (s h : Hp) (ve : VEnv) (ds : List (D × M)) (Q : List V → Hp → Prop), At X.K T s h σ ve → f ve = some ds →
  (∀ vs s' h' B, Gr T s h s' h' → RepL X.K T s' h' vs ds B → Fresh h s' B → Q vs h') → t σ h Q
theorem jk_nil : JK T X [] aNil := ⟨_, pk_nil, fun σ s h ve ds Q A q w => by cases q; exact w [] s h [] (Gr.refl A.sub) ⟨rfl, rfl⟩ Fresh.nil⟩
theorem jk_cons {nm : Option Str} {kpos : Pos} {kws : List Keyword} {k : VEnv → Option (List (D × M))} (ha : JP T X e f) (hr : JK T X kws k) : JK T X (⟨nm, e, kpos⟩ :: kws) (aCons f k) := by
  obtain ⟨ta, a1, a2⟩ := ha
  obtain ⟨tb, b1, b2⟩ := hr
  refine ⟨_, pk_cons a1 b1, fun σ s h ve ds Q A q w => ?_⟩
  obtain ⟨⟨da, ma⟩, e1, q⟩ := Option.bind_eq_some_iff.mp q
  obtain ⟨dr, e2, q⟩ := Option.bind_eq_some_iff.mp q
  cases q
  refine a2 σ s h ve da ma _ A e1 fun x s1 h1 B1 G1 => ?_
  refine b2 σ s1 h1 ve dr _ (A.grow G1.gr) e2 fun ys s2 h2 B2 g2 r2 f2 => ?_
  refine w (x :: ys) s2 h2 (B1 ++ B2) (G1.gr.trans g2) ⟨x, ys, B1, B2, rfl, rfl, G1.rep.grow g2, r2⟩ ⟨?_, fun b hb => ?_, fun b hb => ?_⟩
  · refine List.nodup_append.mpr ⟨G1.fr.nd, f2.nd, fun b hb c hc e => ?_⟩
    subst e
    obtain ⟨o, e1, _⟩ := G1.rep.mem b hb
    rw [f2.nw b hc] at e1; cases e1
  · rcases List.mem_append.mp hb with hb | hb
    · exact G1.fr.nw b hb
    · exact G1.gr.non (f2.nw b hb)
  · rcases List.mem_append.mp hb with hb | hb
    · exact (G1.fr.grow g2 G1.rep).ns b hb
    · exact f2.ns b hb
end
/-! ### environments that own -/
abbrev Env' := List (Option (D × M))
def EnvRep (K : PySem.W.Frag) (T : Tx) (s h : Hp) : St → Env' → List Addr → Prop
  | σ, [], A => σ = [] ∧ A = []
  | σ, x :: env, A => ∃ y r A1 A2, σ = y :: r ∧ A = A1 ++ A2 ∧ (match x with
      | none => A1 = []
      | some dm => ∃ v, y = some v ∧ Rep K T s h v dm.1 dm.2 A1) ∧ EnvRep K T s h r env A2
def vw (env : Env') : VEnv := env.map fun x => x.map (·.1)
section
variable {K : PySem.W.Frag} {T : Tx} {s s' s2 h h' h2 : Hp}
theorem EnvRep.len : ∀ {env : Env'} {σ : St} {A : List Addr}, EnvRep K T s h σ env A → env.length = σ.length
  | [], _, _, r => by rw [r.1]; rfl
  | x :: env, _, _, r => by
    obtain ⟨y, r, A1, A2, rfl, _, _, q⟩ := r
    simp only [List.length_cons, EnvRep.len q]
theorem EnvRep.mem : ∀ {env : Env'} {σ : St} {A : List Addr}, EnvRep K T s h σ env A → ∀ b ∈ A, ∃ o, h b = some o ∧ Mu o
  | [], _, _, r => by rw [r.2]; intro b hb; cases hb
  | x :: env, _, _, r => by
    obtain ⟨y, r, A1, A2, rfl, rfl, r1, q⟩ := r
    intro b hb
    rcases List.mem_append.mp hb with hb | hb
    · cases x with
      | none => rw [r1] at hb; cases hb
      | some dm =>
        obtain ⟨v, _, r1⟩ := r1
        exact r1.mem b hb
    · exact q.mem b hb
theorem EnvRep.keep (e : Sub s s') (kt : ∀ a xs, h a = some (.tup xs) → h' a = some (.tup xs)) : ∀ {env : Env'} {σ : St} {A : List Addr}, EnvRep K T s h σ env A → (∀ b ∈ A, h' b = h b) → EnvRep K T s' h' σ env A
  | [], _, _, r, _ => r
  | x :: env, _, _, r, k => by
    obtain ⟨y, r, A1, A2, rfl, rfl, r1, q⟩ := r
    refine ⟨y, r, A1, A2, rfl, rfl, ?_, q.keep e kt fun b hb => k b (List.mem_append_right _ hb)⟩
    cases x with
    | none => exact r1
    | some dm =>
      obtain ⟨v, e1, r1⟩ := r1
      exact ⟨v, e1, r1.keep e kt fun b hb => k b (List.mem_append_left _ hb)⟩
theorem EnvRep.grow {env : Env'} {σ : St} {A : List Addr} (g : Gr T s h s' h') (r : EnvRep K T s h σ env A) : EnvRep K T s' h' σ env A :=
  r.keep g.ss g.tupK fun b hb => by
    obtain ⟨o, e, mu⟩ := r.mem b hb
    rw [g.hh.at_ b o e fun ps z => by subst z; exact mu, e]
theorem EnvRep.get : ∀ {env : Env'} {σ : St} {A : List Addr} {i : Nat} {dm : D × M}, EnvRep K T s h σ env A → env[i]? = some (some dm) → ∃ v B, σ[i]? = some (some v) ∧ Rep K T s h v dm.1 dm.2 B ∧ ∀ b ∈ B, b ∈ A
  | [], _, _, _, _, _, e => by simp at e
  | x :: env, _, _, 0, dm, r, e => by
    obtain ⟨y, r, A1, A2, rfl, rfl, r1, q⟩ := r
    simp at e
    subst e
    obtain ⟨v, e1, r1⟩ := r1
    exact ⟨v, A1, by simp [e1], r1, fun b hb => List.mem_append_left _ hb⟩
  | x :: env, _, _, i + 1, dm, r, e => by
    obtain ⟨y, r, A1, A2, rfl, rfl, r1, q⟩ := r
    obtain ⟨v, B, e1, e2, e3⟩ := q.get (i := i) (by simpa using e)
    exact ⟨v, B, by simpa using e1, e2, fun b hb => List.mem_append_right _ (e3 b hb)⟩
theorem EnvRep.view {env : Env'} {σ : St} {A : List Addr} (u : Sub s h) (r : EnvRep K T s h σ env A) : VOk K T h σ (vw env) := fun i d e => by
  unfold vw at e
  rw [List.getElem?_map] at e
  cases q : env[i]? with
  | none => rw [q] at e; simp at e
  | some x =>
    rw [q] at e
    cases x with
    | none => simp at e
    | some dm =>
      simp at e
      subst e
      obtain ⟨v, B, e1, e2, _⟩ := r.get q
      exact ⟨v, e1, e2.sees u⟩
/-- one slot in the focus: what it holds may become another thing that is held in its place -/
theorem EnvRep.focus : ∀ {env : Env'} {σ : St} {A : List Addr} {i : Nat} {dm : D × M}, EnvRep K T s h σ env A → env[i]? = some (some dm) →
    ∃ v A1 B A2, σ[i]? = some (some v) ∧ A = A1 ++ (B ++ A2) ∧ Rep K T s h v dm.1 dm.2 B ∧
      ∀ s' h', Sub s s' → (∀ a xs, h a = some (.tup xs) → h' a = some (.tup xs)) → (∀ b, b ∈ A1 ∨ b ∈ A2 → h' b = h b) → ∀ dm' C, Rep K T s' h' v dm'.1 dm'.2 C → EnvRep K T s' h' σ (env.set i (some dm')) (A1 ++ (C ++ A2))
  | [], _, _, _, _, _, e => by simp at e
  | x :: env, _, _, 0, dm, r, e => by
    obtain ⟨y, r, A1, A2, rfl, rfl, r1, q⟩ := r
    simp at e
    subst e
    obtain ⟨v, e1, r1⟩ := r1
    refine ⟨v, [], A1, A2, by simp [e1], rfl, r1, fun s' h' u kt k dm' C r' => ?_⟩
    exact ⟨y, r, C, A2, rfl, rfl, ⟨v, e1, r'⟩, q.keep u kt fun b hb => k b (.inr hb)⟩
  | x :: env, _, _, i + 1, dm, r, e => by
    obtain ⟨y, r, A1, A2, rfl, rfl, r1, q⟩ := r
    obtain ⟨v, B1, B, B2, e1, rfl, e2, e3⟩ := q.focus (i := i) (by simpa using e)
    refine ⟨v, A1 ++ B1, B, B2, by simpa using e1, by simp, e2, fun s' h' u kt k dm' C r' => ?_⟩
    refine ⟨y, r, A1, B1 ++ (C ++ B2), rfl, by simp, ?_, e3 s' h' u kt (fun b hb => k b (hb.elim (fun z => .inl (List.mem_append_right _ z)) .inr)) dm' C r'⟩
    cases x with
    | none => exact r1
    | some dm0 =>
      obtain ⟨v0, f1, f2⟩ := r1
      exact ⟨v0, f1, f2.keep u kt fun b hb => k b (.inl (List.mem_append_left _ hb))⟩
/-- a slot is stored -/
theorem EnvRep.store : ∀ {env : Env'} {σ : St} {A : List Addr} {i : Nat} {v : V} {dm : D × M} {B : List Addr}, EnvRep K T s h σ env A → i < env.length → Rep K T s h v dm.1 dm.2 B →
    ∃ A1 C A2, A = A1 ++ (C ++ A2) ∧ EnvRep K T s h (σ.set i (some v)) (env.set i (some dm)) (A1 ++ (B ++ A2))
  | [], _, _, _, _, _, _, _, hi, _ => by simp at hi
  | x :: env, _, _, 0, v, dm, B, r, _, rv => by
    obtain ⟨y, r, A1, A2, rfl, rfl, r1, q⟩ := r
    exact ⟨[], A1, A2, rfl, some v, r, B, A2, rfl, rfl, ⟨v, rfl, rv⟩, q⟩
  | x :: env, _, _, i + 1, v, dm, B, r, hi, rv => by
    obtain ⟨y, r, A1, A2, rfl, rfl, r1, q⟩ := r
    obtain ⟨B1, C, B2, rfl, q2⟩ := q.store (i := i) (by simpa using hi) rv
    exact ⟨A1 ++ B1, C, B2, by simp, y, r.set i (some v), A1, B1 ++ (B ++ B2), rfl, by simp, r1, q2⟩
/-- what changes where we own W -/
structure Step (T : Tx) (W : List Addr) (s h s' h' : Hp) : Prop where
  ss : Sub s s'
  sub : Sub s' h'
  keep : ∀ a o, h a = some o → (∀ ps, o ≠ .tbl ps) → a ∉ W → h' a = some o
  non : ∀ a, h' a = none → h a = none
  tbl : ∀ a ps, h a = some (.tbl ps) → ∃ more, h' a = some (.tbl (ps ++ more))
  tup : ∀ a xs, h a = some (.tup xs) → h' a = some (.tup xs)
  new : ∀ a, s' a ≠ none → s a ≠ none ∨ h a = none ∨ a ∈ W ∨ ∃ xs, h a = some (.tup xs)
  tab : Tabs T h → Tabs T h'
theorem Gr.step (g : Gr T s h s' h') (W : List Addr) : Step T W s h s' h' :=
  ⟨g.ss, g.sub, fun a o e n _ => g.hh.at_ a o e n, fun a e => g.non e, g.tbl, g.tupK, fun a n => (g.new a n).elim .inl fun z => .inr (z.elim .inl fun z => .inr (.inr z)), g.tab⟩
theorem Step.trans {W W' : List Addr} (a : Step T W s h s' h') (b : Step T W' s' h' s2 h2) (hw : ∀ x ∈ W', x ∈ W ∨ h x = none) : Step T W s h s2 h2 := by
  refine ⟨a.ss.trans b.ss, b.sub, fun x o e n nw => ?_, fun x e => a.non x (b.non x e), fun x ps e => ?_, fun x xs e => b.tup x xs (a.tup x xs e), fun x n => ?_, b.tab ∘ a.tab⟩
  · refine b.keep x o (a.keep x o e n nw) n fun z => ?_
    rcases hw x z with q | q
    · exact nw q
    · rw [q] at e; cases e
  · obtain ⟨m, e1⟩ := a.tbl x ps e
    obtain ⟨m2, e2⟩ := b.tbl x _ e1
    exact ⟨m ++ m2, by rw [e2, Array.append_assoc]⟩
  · rcases b.new x n with z | z | z | ⟨xs, z⟩
    · exact a.new x z
    · exact .inr (.inl (a.non x z))
    · rcases hw x z with q | q
      · exact .inr (.inr (.inl q))
      · exact .inr (.inl q)
    · cases q : h x with
      | none => exact .inr (.inl rfl)
      | some o =>
        by_cases hw' : x ∈ W
        · exact .inr (.inr (.inl hw'))
        · by_cases ht : ∃ ps, o = .tbl ps
          · obtain ⟨ps, rfl⟩ := ht
            obtain ⟨m, e⟩ := a.tbl x ps q
            rw [e] at z; cases z
          · have := a.keep x o q (fun ps y => ht ⟨ps, y⟩) hw'
            rw [this] at z; cases z
            exact .inr (.inr (.inr ⟨xs, rfl⟩))
end
/-- where one stands, owning -/
structure Own (K : PySem.W.Frag) (T : Tx) (s h : Hp) (σ : St) (env : Env') (A : List Addr) : Prop where
  sub : Sub s h
  tab : Tabs T h
  er : EnvRep K T s h σ env A
  nd : A.Nodup
  fr : ∀ a ∈ A, s a = none
section
variable {K : PySem.W.Frag} {T : Tx} {s s' s2 h h' h2 : Hp} {σ : St} {env env' : Env'} {A A' : List Addr}
/-- all seen: the owned too -/
theorem Own.at (o : Own K T s h σ env A) : At K T h h σ (vw env) := ⟨Sub.rfl', o.tab, o.er.view o.sub, by unfold vw; rw [List.length_map]; exact o.er.len⟩
/-- only what is shared or holds no list -/
def shv (env : Env') : VEnv := env.map fun x => match x with
  | some (d, m) => if m = .sh ∨ imm d = true then some d else none
  | none => none
theorem Own.ats (o : Own K T s h σ env A) : At K T (shr s h []) h σ (shv env) := by
  refine ⟨shr_sub o.sub, o.tab, fun i d e => ?_, by unfold shv; rw [List.length_map]; exact o.er.len⟩
  unfold shv at e
  rw [List.getElem?_map] at e
  cases q : env[i]? with
  | none => rw [q] at e; simp at e
  | some x =>
    rw [q] at e
    cases x with
    | none => simp at e
    | some dm =>
      obtain ⟨d', m⟩ := dm
      simp only [Option.map_some, Option.some.injEq] at e
      split at e
      · rename_i hc
        cases e
        obtain ⟨v, B, e1, e2, _⟩ := o.er.get q
        refine ⟨v, e1, ?_⟩
        rcases hc with rfl | hc
        · exact e2.2.ext (sub_shr o.sub) d
        · have dd := Sees.deep d hc (e2.sees o.sub)
          exact Deep.shr d dd (fun b hb => by cases hb)
      · cases e
/-- growth that only reads leaves all that we own -/
theorem Own.grow (o : Own K T s h σ env A) (g : Gr T s h s' h') : Own K T s' h' σ env A := ⟨g.sub, g.tab o.tab, o.er.grow g, o.nd, fun a ha => by
  obtain ⟨u, e, mu⟩ := o.er.mem a ha
  exact grow_none g e mu (o.fr a ha)⟩
/-- behind an expression that may change: the state, the value -/
structure GotE (K : PySem.W.Frag) (T : Tx) (s h : Hp) (A : List Addr) (σ : St) (v : V) (d : D) (m : M) (env' : Env') (s' h' : Hp) (A' B : List Addr) : Prop where
  st : Step T A s h s' h'
  tab : Tabs T h'
  er : EnvRep K T s' h' σ env' A'
  rp : Rep K T s' h' v d m B
  nd : (A' ++ B).Nodup
  fr : ∀ a ∈ A' ++ B, s' a = none
  wh : ∀ a ∈ A' ++ B, a ∈ A ∨ h a = none
theorem GotE.own {v : V} {d : D} {m : M} {B : List Addr} (g : GotE K T s h A σ v d m env' s' h' A' B) : Own K T s' h' σ env' A' :=
  ⟨g.st.sub, g.tab, g.er, (List.nodup_append.mp g.nd).1, fun a ha => g.fr a (List.mem_append_left _ ha)⟩
/-- what was read of the views, all of it ours -/
theorem GotE.of_view (o : Own K T s h σ env A) {v : V} {d : D} {B : List Addr} (g : Got K T h h v d .dp s' h' B) : ∃ s2, GotE K T s h A σ v d .dp env s2 h' A B := by
  have sh : Sub s h' := o.sub.trans g.gr.hh
  have gr : Gr T s h s h' := ⟨Sub.rfl', g.gr.hh, g.gr.tbl, sh, fun a n => .inl n, g.gr.tab⟩
  refine ⟨s, gr.step A, g.gr.tab o.tab, o.er.grow gr, g.rep, ?_, fun a ha => ?_, fun a ha => ?_⟩
  · refine List.nodup_append.mpr ⟨o.nd, g.fr.nd, fun b hb c hc e => ?_⟩
    subst e
    obtain ⟨u, e, _⟩ := o.er.mem b hb
    rw [g.fr.nw b hc] at e; cases e
  · rcases List.mem_append.mp ha with ha | ha
    · exact o.fr a ha
    · exact o.sub.no a (g.fr.nw a ha)
  · rcases List.mem_append.mp ha with ha | ha
    · exact .inl ha
    · exact .inr (g.fr.nw a ha)
/-- .. of what is shared -/
theorem GotE.of_shared (o : Own K T s h σ env A) {v : V} {d : D} {m : M} {B : List Addr} (g : Got K T (shr s h []) h v d m s' h' B) : GotE K T s h A σ v d m env s' h' A B := by
  have gr : Gr T s h s' h' := ⟨(sub_shr o.sub).trans g.gr.ss, g.gr.hh, g.gr.tbl, g.gr.sub, fun a n => by
    rcases g.gr.new a n with z | z | z
    · rcases shr_new z with z | z | z
      · exact .inl z
      · cases z
      · exact .inr (.inr z)
    · exact .inr (.inl z)
    · exact .inr (.inr z), g.gr.tab⟩
  have o' := o.grow gr
  refine ⟨gr.step A, o'.tab, o'.er, g.rep, ?_, fun a ha => ?_, fun a ha => ?_⟩
  · refine List.nodup_append.mpr ⟨o.nd, g.fr.nd, fun b hb c hc e => ?_⟩
    subst e
    obtain ⟨u, e, _⟩ := o.er.mem b hb
    rw [g.fr.nw b hc] at e; cases e
  · rcases List.mem_append.mp ha with ha | ha
    · exact o'.fr a ha
    · exact g.fr.ns a ha
  · rcases List.mem_append.mp ha with ha | ha
    · exact .inl ha
    · exact .inr (g.fr.nw a ha)
end
/-- an expression that may change what is owned: the canonical reading -/
def tE (K : PySem.W.Frag) (T : Tx) (f : Env' → Option (D × M × Env')) : TE := fun σ h Q => ∃ s env A d m env', Own K T s h σ env A ∧ f env = some (d, m, env') ∧ ∀ v s' h' A' B, GotE K T s h A σ v d m env' s' h' A' B → Q v h'
def JE (T : Tx) (X : Cx) (e : Expr) (f : Env' → Option (D × M × Env')) : Prop := PE X e (tE X.K T f)
section
variable {X : Cx} {T : Tx} {a b c e tg : Expr} {es rest : List Expr} {f k : VEnv → Option (D × M)} {ft : VEnv → Option Bool} {pos p : Pos}
/-- by another reading -/
theorem je_mk {t : TE} {g : Env' → Option (D × M × Env')} (h : PE X e t) (r : ∀ (σ : St) (h : Hp) (Q : VK), tE X.K T g σ h Q → t σ h Q) : JE T X e g := ⟨fun pins s σ H Q I q => h.run pins s σ H Q I (r σ H Q q)⟩
/-- reading all, keeping what is all new -/
def eV (f : VEnv → Option (D × M)) : Env' → Option (D × M × Env') := fun env => (f (vw env)).bind fun x => if x.2 = .dp then some (x.1, .dp, env) else none
theorem je_v (h : JP T X e f) : JE T X e (eV f) := by
  obtain ⟨t, a1, a2⟩ := h
  refine je_mk a1 fun σ h Q ⟨s, env, A, d, m, env', o, q, w⟩ => ?_
  obtain ⟨⟨d', m'⟩, e1, q⟩ := Option.bind_eq_some_iff.mp q
  dsimp only at q
  split at q
  · rename_i hm
    subst hm
    cases q
    refine a2 σ h h (vw env) _ _ Q o.at e1 fun v s' h' B g => ?_
    obtain ⟨s2, g2⟩ := GotE.of_view o g
    exact w v s2 h' A B g2
  · cases q
/-- reading only what is shared -/
def eS (f : VEnv → Option (D × M)) : Env' → Option (D × M × Env') := fun env => (f (shv env)).bind fun x => some (x.1, x.2, env)
theorem je_s (h : JP T X e f) : JE T X e (eS f) := by
  obtain ⟨t, a1, a2⟩ := h
  refine je_mk a1 fun σ h Q ⟨s, env, A, d, m, env', o, q, w⟩ => ?_
  obtain ⟨⟨d', m'⟩, e1, q⟩ := Option.bind_eq_some_iff.mp q
  cases q
  exact a2 σ _ h (shv env) _ _ Q o.ats e1 fun v s' h' B g => w v s' h' A B (GotE.of_shared o g)
end
end G
set_option Elab.async false
set_option linter.all false
set_option maxRecDepth 100000
set_option maxHeartbeats 4000000
/-! G8: expressions that may change what is owned, put together -/
namespace G
open PySem PySem.Spec PyProof.Rows L2
section
variable {K : PySem.W.Frag} {T : Tx} {s s' s1 s2 h h' h1 h2 : Hp} {σ : St} {env env' env1 env2 : Env'} {A A' A1 A2 W B : List Addr}
theorem Rep.step {v : V} {d : D} {m : M} (st : Step T W s h s' h') (r : Rep K T s h v d m B) (dis : ∀ b ∈ B, b ∉ W) : Rep K T s' h' v d m B :=
  r.keep st.ss st.tup fun b hb => by
    obtain ⟨o, e, mu⟩ := r.mem b hb
    rw [st.keep b o e (mu_tbl mu).1 (dis b hb), e]
theorem RepL.step {ds : List (D × M)} {vs : List V} (st : Step T W s h s' h') (r : RepL K T s h vs ds B) (dis : ∀ b ∈ B, b ∉ W) : RepL K T s' h' vs ds B :=
  r.keep st.ss st.tup fun b hb => by
    obtain ⟨o, e, mu⟩ := r.mem b hb
    rw [st.keep b o e (mu_tbl mu).1 (dis b hb), e]
theorem EnvRep.step (st : Step T W s h s' h') (r : EnvRep K T s h σ env B) (dis : ∀ b ∈ B, b ∉ W) : EnvRep K T s' h' σ env B :=
  r.keep st.ss st.tup fun b hb => by
    obtain ⟨o, e, mu⟩ := r.mem b hb
    rw [st.keep b o e (mu_tbl mu).1 (dis b hb), e]
theorem step_none {b : Addr} {o : HO} (st : Step T W s h s' h') (e : h b = some o) (mu : Mu o) (n : s b = none) (nw : b ∉ W) : s' b = none := by
  cases q : s' b with
  | none => rfl
  | some u =>
    rcases st.new b (by rw [q]; simp) with z | z | z | ⟨xs, z⟩
    · exact absurd n z
    · rw [z] at e; cases e
    · exact absurd z nw
    · rw [z] at e; cases e; exact mu.elim
theorem Step.tupB (st : Step T W s h s' h') {a : Addr} {xs : List V} (e : h' a = some (.tup xs)) : h a = none ∨ a ∈ W ∨ h a = some (.tup xs) := by
  cases q : h a with
  | none => exact .inl rfl
  | some o =>
    by_cases hw : a ∈ W
    · exact .inr (.inl hw)
    · by_cases z : ∃ ps, o = .tbl ps
      · obtain ⟨ps, rfl⟩ := z
        obtain ⟨m, r⟩ := st.tbl a ps q
        rw [r] at e; cases e
      · have := st.keep a o q (fun ps y => z ⟨ps, y⟩) hw
        rw [this] at e; cases e
        exact .inr (.inr rfl)
theorem Step.shr (st : Step T W s h s' h') (hB : ∀ b ∈ B, b ∈ W ∨ h b = none) : Step T W s h (G.shr s' h' B) h' := by
  refine ⟨st.ss.trans (sub_shr st.sub), shr_sub st.sub, st.keep, st.non, st.tbl, st.tup, fun a n => ?_, st.tab⟩
  rcases shr_new n with z | z | ⟨xs, z⟩
  · exact st.new a z
  · rcases hB a z with q | q
    · exact .inr (.inr (.inl q))
    · exact .inr (.inl q)
  · rcases st.tupB z with q | q | q
    · exact .inr (.inl q)
    · exact .inr (.inr (.inl q))
    · exact .inr (.inr (.inr ⟨xs, q⟩))
theorem shr_none {b : Addr} {o : HO} (n : s b = none) (e : h b = some o) (mu : Mu o) (nb : b ∉ B) : shr s h B b = none := by
  unfold shr
  rw [if_neg nb, e]
  cases o with
  | tup xs => exact mu.elim
  | _ => exact n
/-- part of what is owned is shared from now on -/
theorem EnvRep.shr (u : Sub s h) (r : EnvRep K T s h σ env A) : EnvRep K T (G.shr s h B) h σ env A := r.keep (sub_shr u) (fun _ _ e => e) fun _ _ => rfl
/-- behind some work -/
structure Go (K : PySem.W.Frag) (T : Tx) (s h : Hp) (A : List Addr) (σ : St) (env : Env') (s' h' : Hp) (A' : List Addr) : Prop where
  st : Step T A s h s' h'
  own : Own K T s' h' σ env A'
  wh : ∀ a ∈ A', a ∈ A ∨ h a = none
theorem Go.refl (o : Own K T s h σ env A) : Go K T s h A σ env s h A := ⟨(Gr.refl o.sub).step A, o, fun a ha => .inl ha⟩
theorem Go.trans {σ' : St} (a : Go K T s h A σ env s1 h1 A1) (b : Go K T s1 h1 A1 σ' env' s2 h2 A2) : Go K T s h A σ' env' s2 h2 A2 :=
  ⟨a.st.trans b.st a.wh, b.own, fun x hx => (b.wh x hx).elim (a.wh x) fun n => .inr (a.st.non x n)⟩
theorem GotE.go {v : V} {d : D} {m : M} (g : GotE K T s h A σ v d m env' s' h' A' B) : Go K T s h A σ env' s' h' A' := ⟨g.st, g.own, fun a ha => g.wh a (List.mem_append_left _ ha)⟩
theorem GotE.pre {σ' : St} {v : V} {d : D} {m : M} (g : Go K T s h A σ' env1 s1 h1 A1) (x : GotE K T s1 h1 A1 σ v d m env2 s2 h2 A2 B) : GotE K T s h A σ v d m env2 s2 h2 A2 B :=
  ⟨g.st.trans x.st g.wh, x.tab, x.er, x.rp, x.nd, x.fr, fun a ha => (x.wh a ha).elim (g.wh a) fun n => .inr (g.st.non a n)⟩
theorem GotE.of_got {v : V} {d : D} {m : M} (g : Go K T s h A σ env s1 h1 A1) (x : Got K T s1 h1 v d m s2 h2 B) : GotE K T s h A σ v d m env s2 h2 A1 B := by
  have o2 := g.own.grow x.gr
  refine ⟨g.st.trans (x.gr.step A1) g.wh, o2.tab, o2.er, x.rep, ?_, fun a ha => ?_, fun a ha => ?_⟩
  · refine List.nodup_append.mpr ⟨o2.nd, x.fr.nd, fun b hb c hc e => ?_⟩
    subst e
    obtain ⟨u, e, _⟩ := g.own.er.mem b hb
    rw [x.fr.nw b hc] at e; cases e
  · rcases List.mem_append.mp ha with ha | ha
    · exact o2.fr a ha
    · exact x.fr.ns a ha
  · rcases List.mem_append.mp ha with ha | ha
    · exact g.wh a ha
    · exact .inr (g.st.non a (x.fr.nw a ha))
/-- growth is work -/
theorem Go.gr (o : Own K T s h σ env A) (g : Gr T s h s' h') : Go K T s h A σ env s' h' A := ⟨g.step A, o.grow g, fun a ha => .inl ha⟩
/-- growth seen from all -/
theorem Gr.own_of (u : Sub s h) (g : Gr T h h s' h') : Gr T s h s h' := ⟨Sub.rfl', g.hh, g.tbl, u.trans g.hh, fun a n => .inl n, g.tab⟩
/-- a list of values, ours behind an expression list -/
structure GotL (K : PySem.W.Frag) (T : Tx) (s h : Hp) (A : List Addr) (σ : St) (vs : List V) (ds : List (D × M)) (env' : Env') (s' h' : Hp) (A' B : List Addr) : Prop where
  st : Step T A s h s' h'
  tab : Tabs T h'
  er : EnvRep K T s' h' σ env' A'
  rp : RepL K T s' h' vs ds B
  nd : (A' ++ B).Nodup
  fr : ∀ a ∈ A' ++ B, s' a = none
  wh : ∀ a ∈ A' ++ B, a ∈ A ∨ h a = none
theorem GotL.nil (o : Own K T s h σ env A) : GotL K T s h A σ [] [] env s h A [] :=
  ⟨(Gr.refl o.sub).step A, o.tab, o.er, ⟨rfl, rfl⟩, by rw [List.append_nil]; exact o.nd, fun a ha => o.fr a (by simpa using ha), fun a ha => .inl (by simpa using ha)⟩
theorem GotL.own {vs : List V} {ds : List (D × M)} (g : GotL K T s h A σ vs ds env' s' h' A' B) : Own K T s' h' σ env' A' :=
  ⟨g.st.sub, g.tab, g.er, (List.nodup_append.mp g.nd).1, fun a ha => g.fr a (List.mem_append_left _ ha)⟩
theorem GotL.go {vs : List V} {ds : List (D × M)} (g : GotL K T s h A σ vs ds env' s' h' A' B) : Go K T s h A σ env' s' h' A' := ⟨g.st, g.own, fun a ha => g.wh a (List.mem_append_left _ ha)⟩
theorem GotL.cons {v : V} {d : D} {m : M} {vs : List V} {ds : List (D × M)} {B1 B2 : List Addr} (x : GotE K T s h A σ v d m env1 s1 h1 A1 B1) (y : GotL K T s1 h1 A1 σ vs ds env2 s2 h2 A2 B2) : GotL K T s h A σ (v :: vs) ((d, m) :: ds) env2 s2 h2 A2 (B1 ++ B2) := by
  have g := x.go
  obtain ⟨n1, n2, n3⟩ := List.nodup_append.mp x.nd
  obtain ⟨k1, k2, k3⟩ := List.nodup_append.mp y.nd
  have dis : ∀ b ∈ B1, b ∉ A1 := fun b hb ha => n3 b ha b hb rfl
  have old : ∀ b ∈ B1, ∃ o, h1 b = some o ∧ Mu o := x.rp.mem
  have sep : ∀ b ∈ B1, ∀ c ∈ A2 ++ B2, c ≠ b := fun b hb c hc e => by
    subst e
    rcases y.wh c hc with z | z
    · exact dis c hb z
    · obtain ⟨o, eo, _⟩ := old c hb
      rw [z] at eo; cases eo
  refine ⟨g.st.trans y.st g.wh, y.tab, y.er, ⟨v, vs, B1, B2, rfl, rfl, x.rp.step y.st dis, y.rp⟩, ?_, fun a ha => ?_, fun a ha => ?_⟩
  · refine List.nodup_append.mpr ⟨k1, List.nodup_append.mpr ⟨n2, k2, fun b hb c hc e => sep b hb c (List.mem_append_right _ hc) e.symm⟩, fun a ha c hc e => ?_⟩
    rcases List.mem_append.mp hc with hc | hc
    · exact sep c hc a (List.mem_append_left _ ha) e
    · exact k3 a ha c hc e
  · rcases List.mem_append.mp ha with ha | ha
    · exact y.fr a (List.mem_append_left _ ha)
    · rcases List.mem_append.mp ha with ha | ha
      · obtain ⟨o, eo, mu⟩ := old a ha
        exact step_none y.st eo mu (x.fr a (List.mem_append_right _ ha)) (dis a ha)
      · exact y.fr a (List.mem_append_right _ ha)
  · have up : ∀ a, (a ∈ A1 ∨ h1 a = none) → a ∈ A ∨ h a = none := fun a z => z.elim (fun z => g.wh a z) fun z => .inr (g.st.non a z)
    rcases List.mem_append.mp ha with ha | ha
    · exact up a (y.wh a (List.mem_append_left _ ha))
    · rcases List.mem_append.mp ha with ha | ha
      · exact x.wh a (List.mem_append_right _ ha)
      · exact up a (y.wh a (List.mem_append_right _ ha))
/-- .. shared -/
theorem GotL.seen {vs : List V} {ds : List (D × M)} (g : GotL K T s h A σ vs ds env' s' h' A' B) : Go K T s h A σ env' (G.shr s' h' B) h' A' ∧ SeesL K T (G.shr s' h' B) vs (ds.map (·.1)) := by
  obtain ⟨n1, n2, n3⟩ := List.nodup_append.mp g.nd
  refine ⟨⟨g.st.shr fun b hb => g.wh b (List.mem_append_right _ hb), ⟨shr_sub g.st.sub, g.tab, g.er.shr g.st.sub, n1, fun a ha => ?_⟩, fun a ha => g.wh a (List.mem_append_left _ ha)⟩, g.rp.shr g.st.sub fun _ hb => hb⟩
  obtain ⟨o, e, mu⟩ := g.er.mem a ha
  exact shr_none (g.fr a (List.mem_append_left _ ha)) e mu fun hb => n3 a ha a hb rfl
theorem GotE.one {v : V} {d : D} {m : M} (g : GotE K T s h A σ v d m env' s' h' A' B) : GotL K T s h A σ [v] [(d, m)] env' s' h' A' B :=
  ⟨g.st, g.tab, g.er, ⟨v, [], B, [], rfl, (List.append_nil _).symm, g.rp, rfl, rfl⟩, g.nd, g.fr, g.wh⟩
theorem GotE.seen {v : V} {d : D} {m : M} (g : GotE K T s h A σ v d m env' s' h' A' B) : Go K T s h A σ env' (G.shr s' h' B) h' A' ∧ Sees K T (G.shr s' h' B) v d := by
  obtain ⟨g1, r1⟩ := g.one.seen
  simp only [List.map_cons, List.map_nil, SeesL] at r1
  obtain ⟨v', q, e, r, eq⟩ := r1
  cases e
  exact ⟨g1, r⟩
end
/-! ### the rules -/
def tAE (K : PySem.W.Frag) (T : Tx) (f : Env' → Option (List (D × M) × Env')) : TA := fun σ h Q => ∃ s env A ds env', Own K T s h σ env A ∧ f env = some (ds, env') ∧ ∀ vs s' h' A' B, GotL K T s h A σ vs ds env' s' h' A' B → Q vs h'
def JAE (T : Tx) (X : Cx) (es : List Expr) (f : Env' → Option (List (D × M) × Env')) : Prop := PA X es (tAE X.K T f)
def tTE (K : PySem.W.Frag) (T : Tx) (f : Env' → Option (Bool × Env')) : TT := fun σ h Q => ∃ s env A b env', Own K T s h σ env A ∧ f env = some (b, env') ∧ ∀ s' h' A', Go K T s h A σ env' s' h' A' → Q b h'
def JTE (T : Tx) (X : Cx) (e : Expr) (f : Env' → Option (Bool × Env')) : Prop := PT X e (tTE X.K T f)
def JWE (T : Tx) (X : Cx) (e : Expr) (f : Env' → Option (Bool × Env')) : Prop := PW X e (tTE X.K T f)
section
variable {X : Cx} {T : Tx} {a b c e tg : Expr} {es rest : List Expr} {f k : Env' → Option (D × M × Env')} {ft kt : Env' → Option (Bool × Env')} {pos p : Pos}
theorem ja_mk {t : TA} {g : Env' → Option (List (D × M) × Env')} (h : PA X es t) (r : ∀ (σ : St) (h : Hp) (Q : List V → Hp → Prop), tAE X.K T g σ h Q → t σ h Q) : JAE T X es g := ⟨fun pos pins s σ H Q I q => h.run pos pins s σ H Q I (r σ H Q q)⟩
theorem jt_mk {t : TT} {g : Env' → Option (Bool × Env')} (h : PT X e t) (r : ∀ (σ : St) (h : Hp) (Q : Bool → Hp → Prop), tTE X.K T g σ h Q → t σ h Q) : JTE T X e g := ⟨fun pins s σ H Q I q => h.run pins s σ H Q I (r σ H Q q)⟩
theorem jw_mk {t : TT} {g : Env' → Option (Bool × Env')} (h : PW X e t) (r : ∀ (σ : St) (h : Hp) (Q : Bool → Hp → Prop), tTE X.K T g σ h Q → t σ h Q) : JWE T X e g := ⟨fun w pins s σ H Q I q => h.run w pins s σ H Q I (r σ H Q q)⟩
/-! argument lists -/
def eNil : Env' → Option (List (D × M) × Env') := fun env => some ([], env)
def eCons (f : Env' → Option (D × M × Env')) (k : Env' → Option (List (D × M) × Env')) : Env' → Option (List (D × M) × Env') := fun env => (f env).bind fun x => (k x.2.2).bind fun r => some ((x.1, x.2.1) :: r.1, r.2)
theorem jae_nil : JAE T X [] eNil := ja_mk pa_nil fun σ h Q ⟨s, env, A, ds, env', o, q, w⟩ => by cases q; exact w [] s h A [] (GotL.nil o)
theorem jae_cons {k : Env' → Option (List (D × M) × Env')} (ha : JE T X e f) (hr : JAE T X es k) (hs : starEach (e :: es) X.env = (false, eval e X.env) :: starEach es X.env := by rfl) : JAE T X (e :: es) (eCons f k) :=
  ja_mk (pa_cons ha hr hs) fun σ h Q ⟨s, env, A, ds, env', o, q, w⟩ => by
    obtain ⟨⟨d, m, env1⟩, e1, q⟩ := Option.bind_eq_some_iff.mp q
    obtain ⟨⟨dr, env2⟩, e2, q⟩ := Option.bind_eq_some_iff.mp q
    cases q
    refine ⟨s, env, A, d, m, env1, o, e1, fun v s1 h1 A1 B1 g1 => ⟨s1, env1, A1, dr, env2, g1.own, e2, fun vs s2 h2 A2 B2 g2 => ?_⟩⟩
    exact w (v :: vs) s2 h2 A2 (B1 ++ B2) (GotL.cons g1 g2)
/-! operators -/
def e2 (g : D → D → Option (D × M)) (f k : Env' → Option (D × M × Env')) : Env' → Option (D × M × Env') := fun env => (f env).bind fun x => (k x.2.2).bind fun y => (g x.1 y.1).bind fun z => some (z.1, z.2, y.2.2)
theorem e2_go {g : D → D → Option (D × M)} {r : R2} {K : PySem.W.Frag}
    (ho : ∀ (s h : Hp) (x y : V) (a b d : D) (m : M) (Q : VK), Sub s h → Tabs T h → Sees K T s x a → Sees K T s y b → g a b = some (d, m) → (∀ v s' h' B, Got K T s h v d m s' h' B → Q v h') → r x y h Q) (σ : St) (h : Hp) (Q : VK)
    (q : tE K T (e2 g f k) σ h Q) : tOp r (tE K T f) (tE K T k) σ h Q := by
  obtain ⟨s, env, A, d, m, env', o, q, w⟩ := q
  obtain ⟨⟨da, ma, env1⟩, e1, q⟩ := Option.bind_eq_some_iff.mp q
  obtain ⟨⟨db, mb, env2⟩, e2, q⟩ := Option.bind_eq_some_iff.mp q
  obtain ⟨⟨dz, mz⟩, e3, q⟩ := Option.bind_eq_some_iff.mp q
  cases q
  refine ⟨s, env, A, da, ma, env1, o, e1, fun x s1 h1 A1 B1 g1 => ?_⟩
  refine ⟨s1, env1, A1, db, mb, env2, g1.own, e2, fun y s2 h2 A2 B2 g2 => ?_⟩
  obtain ⟨g3, r3⟩ := (GotL.cons g1 g2.one).seen
  simp only [List.map_cons, List.map_nil, SeesL] at r3
  obtain ⟨x', _, e4, r4, y', _, e5, r5, e6⟩ := r3
  cases e4
  cases e5
  exact ho _ h2 x y da db dz mz Q g3.own.sub g3.own.tab r4 r5 e3 fun v s3 h3 B3 G3 => w v s3 h3 A2 B3 (GotE.of_got g3 G3)
theorem je_bin {op : Operator} {g : D → D → Option (D × M)} (o : O2 T X (binaryOp op) g) (ha : JE T X a f) (hb : JE T X b k) : JE T X (.BinOp a op b pos) (e2 g f k) := by
  obtain ⟨r, o1, o2⟩ := o
  exact je_mk (pe_op o1 ha hb) fun σ h Q => e2_go o2 σ h Q
theorem je_cmp {op : CmpOp} {g : D → D → Option (D × M)} (o : O2 T X (compareOp op) g) (ha : JE T X a f) (hb : JE T X b k) (hm : behindInMarks op b = false) : JE T X (.Compare a [op] [b] pos) (e2 g f k) := by
  obtain ⟨r, o1, o2⟩ := o
  exact je_mk (pe_cmpR o1 ha hb hm) fun σ h Q => e2_go o2 σ h Q
theorem je_ix {g : D → D → Option (D × M)} (o : OX T X g) (ha : JE T X a f) (hb : JE T X b k) (hs : PlainIx b := by exact fun _ _ => rfl) : JE T X (.Subscript a b pos) (e2 g f k) := by
  obtain ⟨r, o1, o2⟩ := o
  exact je_mk (pe_ix o1 ha hb hs) fun σ h Q => e2_go o2 σ h Q
def asBE (x : D × M × Env') : Option (Bool × Env') := match x.1 with
  | .bl b => some (b, x.2.2)
  | _ => none
def tOfE (f : Env' → Option (D × M × Env')) : Env' → Option (Bool × Env') := fun env => (f env).bind asBE
theorem jte_cmp {op : CmpOp} {g : D → D → Option (D × M)} (o : O2 T X (compareOp op) g) (ha : JE T X a f) (hb : JE T X b k) (hm : behindInMarks op b = false) : JTE T X (.Compare a [op] [b] pos) (tOfE (e2 g f k)) := by
  obtain ⟨r, o1, o2⟩ := o
  refine jt_mk (pt_cmpR o1 ha hb hm) fun σ h Q ⟨s, env, A, c, env', o, q, w⟩ => ?_
  obtain ⟨⟨d, m, env2⟩, e1, q⟩ := Option.bind_eq_some_iff.mp q
  refine e2_go (g := g) o2 σ h _ ⟨s, env, A, d, m, env2, o, e1, fun v s' h' A' B g => ?_⟩
  unfold asBE at q
  split at q
  · rename_i z e3
    cases q
    have e4 : d = .bl c := e3
    subst e4
    obtain ⟨g1, r1⟩ := g.seen
    simp only [Sees] at r1
    exact ⟨c, r1, w _ h' A' g1⟩
  · cases q
def e1 (g : D → Option (D × M)) (f : Env' → Option (D × M × Env')) : Env' → Option (D × M × Env') := fun env => (f env).bind fun x => (g x.1).bind fun z => some (z.1, z.2, x.2.2)
theorem je_un {op : UnaryOp} {g : D → Option (D × M)} (o : O1 T X (unaryOp op) g) (ha : JE T X a f) : JE T X (.UnaryOp op a pos) (e1 g f) := by
  obtain ⟨r, o1, o2⟩ := o
  refine je_mk (pe_un o1 ha) fun σ h Q ⟨s, env, A, d, m, env', o, q, w⟩ => ?_
  obtain ⟨⟨da, ma, env1⟩, e1, q⟩ := Option.bind_eq_some_iff.mp q
  obtain ⟨⟨dz, mz⟩, e3, q⟩ := Option.bind_eq_some_iff.mp q
  cases q
  refine ⟨s, env, A, da, ma, env1, o, e1, fun x s1 h1 A1 B1 g1 => ?_⟩
  obtain ⟨g2, r2⟩ := g1.seen
  exact o2 _ h1 x da dz mz Q g2.own.sub g2.own.tab r2 e3 fun v s3 h3 B3 G3 => w v s3 h3 A1 B3 (GotE.of_got g2 G3)
/-! calls of built-ins -/
def eCB (g : List D → Option (D × M)) (k : Env' → Option (List (D × M) × Env')) : Env' → Option (D × M × Env') := fun env => (k env).bind fun r => (g (r.1.map (·.1))).bind fun z => some (z.1, z.2, r.2)
theorem eCB_go {g : List D → Option (D × M)} {k : Env' → Option (List (D × M) × Env')} {K : PySem.W.Frag} {r : List V → Hp → VK → Prop}
    (ho : ∀ (s h : Hp) (xs : List V) (ds : List D) (d : D) (m : M) (Q : VK), Sub s h → Tabs T h → SeesL K T s xs ds → g ds = some (d, m) → (∀ v s' h' B, Got K T s h v d m s' h' B → Q v h') → r xs h Q) (σ : St) (h : Hp) (Q : VK)
    (q : tE K T (eCB g k) σ h Q) : tCB r (tAE K T k) σ h Q := by
  obtain ⟨s, env, A, d, m, env', o, q, w⟩ := q
  obtain ⟨⟨ds, env1⟩, e1, q⟩ := Option.bind_eq_some_iff.mp q
  obtain ⟨⟨dz, mz⟩, e3, q⟩ := Option.bind_eq_some_iff.mp q
  cases q
  refine ⟨s, env, A, ds, env1, o, e1, fun vs s1 h1 A1 B1 g1 => ?_⟩
  obtain ⟨g2, r2⟩ := g1.seen
  exact ho _ h1 vs _ dz mz Q g2.own.sub g2.own.tab r2 e3 fun v s3 h3 B3 G3 => w v s3 h3 A1 B3 (GotE.of_got g2 G3)
theorem je_callB {id : String} {x : Str} {p : Pos} {g : List D → Option (D × M)} {k : Env' → Option (List (D × M) × Env')} (o : OC T X (.builtin id) g) (hg : Gl X x) (hm : X.mg x = none) (hv : bootBuiltins x = some (.builtin id)) (ha : JAE T X (e :: es) k)
    (hn : x ≠ "__name__" := by decide) (hdb : (x == ("__debug__" : Str)) = false := by decide) (h1 : starEach (e :: es) X.env = (false, eval e X.env) :: starEach es X.env := by rfl)
    (h2 : (backTo pos (starEach es X.env)).any (·.1) = false := by rfl) : JE T X (.Call (.Name x p) (e :: es) [] pos) (eCB g k) := by
  obtain ⟨r, o1, o2⟩ := o
  exact je_mk (pe_callB o1 hg hm hv ha hn hdb h1 h2) fun σ h Q => eCB_go o2 σ h Q
/-! tests -/
def tV (f : VEnv → Option Bool) : Env' → Option (Bool × Env') := fun env => (f (vw env)).bind fun b => some (b, env)
theorem jte_v {f : VEnv → Option Bool} (h : JT T X e f) : JTE T X e (tV f) := by
  obtain ⟨t, a1, a2⟩ := h
  refine jt_mk a1 fun σ h Q ⟨s, env, A, b, env', o, q, w⟩ => ?_
  obtain ⟨b', e1, q⟩ := Option.bind_eq_some_iff.mp q
  cases q
  exact a2 σ h h (vw env) b Q o.at e1 fun s' h' g => w _ h' A (Go.gr o (Gr.own_of o.sub g))
def tNotE (f : Env' → Option (Bool × Env')) : Env' → Option (Bool × Env') := fun env => (f env).bind fun x => some (!x.1, x.2)
theorem jte_not (ha : JTE T X a ft) : JTE T X (.UnaryOp .Not a pos) (tNotE ft) := by
  refine jt_mk (pt_not ha) fun σ h Q ⟨s, env, A, b, env', o, q, w⟩ => ?_
  obtain ⟨⟨b', env1⟩, e1, q⟩ := Option.bind_eq_some_iff.mp q
  cases q
  exact ⟨s, env, A, b', env1, o, e1, fun s' h' A' g => w s' h' A' g⟩
theorem jte_w (h : JWE T X e ft) : JTE T X e ft := h.pt
def tAndE (f k : Env' → Option (Bool × Env')) : Env' → Option (Bool × Env') := fun env => (f env).bind fun x => if x.1 = true then k x.2 else some (false, x.2)
def tOrE (f k : Env' → Option (Bool × Env')) : Env' → Option (Bool × Env') := fun env => (f env).bind fun x => if x.1 = true then some (true, x.2) else k x.2
theorem jwe_and1 (h : JTE T X a ft) : JWE T X (.BoolOp .And [a] pos) ft := pw_and1 h
theorem jwe_or1 (h : JTE T X a ft) : JWE T X (.BoolOp .Or [a] pos) ft := pw_or1 h
theorem jwe_and (ha : JTE T X a ft) (hb : JWE T X (.BoolOp .And (b :: rest) pos) kt) : JWE T X (.BoolOp .And (a :: b :: rest) pos) (tAndE ft kt) := by
  refine jw_mk (pw_and ha hb) fun σ h Q ⟨s, env, A, z, env', o, q, w⟩ => ?_
  obtain ⟨⟨c, env1⟩, e1, q⟩ := Option.bind_eq_some_iff.mp q
  refine ⟨s, env, A, c, env1, o, e1, fun s1 h1 A1 g1 => ?_⟩
  cases c with
  | true =>
    simp only [if_true] at q ⊢
    exact ⟨s1, env1, A1, z, env', g1.own, q, fun s2 h2 A2 g2 => w s2 h2 A2 (g1.trans g2)⟩
  | false =>
    simp only [Bool.false_eq_true, if_false] at q ⊢
    cases q
    exact w s1 h1 A1 g1
theorem jwe_or (ha : JTE T X a ft) (hb : JWE T X (.BoolOp .Or (b :: rest) pos) kt) : JWE T X (.BoolOp .Or (a :: b :: rest) pos) (tOrE ft kt) := by
  refine jw_mk (pw_or ha hb) fun σ h Q ⟨s, env, A, z, env', o, q, w⟩ => ?_
  obtain ⟨⟨c, env1⟩, e1, q⟩ := Option.bind_eq_some_iff.mp q
  refine ⟨s, env, A, c, env1, o, e1, fun s1 h1 A1 g1 => ?_⟩
  cases c with
  | true =>
    simp only [if_true] at q ⊢
    cases q
    exact w s1 h1 A1 g1
  | false =>
    simp only [Bool.false_eq_true, if_false] at q ⊢
    exact ⟨s1, env1, A1, z, env', g1.own, q, fun s2 h2 A2 g2 => w s2 h2 A2 (g1.trans g2)⟩
/-- a if c else b -/
def eIf (t : Env' → Option (Bool × Env')) (f k : Env' → Option (D × M × Env')) : Env' → Option (D × M × Env') := fun env => (t env).bind fun x => if x.1 = true then f x.2 else k x.2
theorem je_if (hc : JTE T X c ft) (ha : JE T X a f) (hb : JE T X b k) : JE T X (.IfExp c a b pos) (eIf ft f k) := by
  refine je_mk (pe_ifExp hc ha hb) fun σ h Q ⟨s, env, A, d, m, env', o, q, w⟩ => ?_
  obtain ⟨⟨z, env1⟩, e1, q⟩ := Option.bind_eq_some_iff.mp q
  refine ⟨s, env, A, z, env1, o, e1, fun s1 h1 A1 g1 => ?_⟩
  cases z with
  | true =>
    simp only [if_true] at q ⊢
    exact ⟨s1, env1, A1, d, m, env', g1.own, q, fun v s2 h2 A2 B2 g2 => w v s2 h2 A2 B2 (GotE.pre g1 g2)⟩
  | false =>
    simp only [Bool.false_eq_true, if_false] at q ⊢
    exact ⟨s1, env1, A1, d, m, env', g1.own, q, fun v s2 h2 A2 B2 g2 => w v s2 h2 A2 B2 (GotE.pre g1 g2)⟩
/-- truth of a value -/
def tTruE (f : Env' → Option (D × M × Env')) : Env' → Option (Bool × Env') := fun env => (f env).bind fun x => (tru x.1).bind fun b => some (b, x.2.2)
theorem jte_val (ha : JE T X e f) (he : ∀ whole, isTrue e X.env whole = (do let v ← whole; standAt e.pos; holding [v] (truthy v)) := by intro _; rfl) : JTE T X e (tTruE f) := by
  refine jt_mk (pt_truth ha he) fun σ h Q ⟨s, env, A, b, env', o, q, w⟩ => ?_
  obtain ⟨⟨d, m, env1⟩, e1, q⟩ := Option.bind_eq_some_iff.mp q
  obtain ⟨z, e2, q⟩ := Option.bind_eq_some_iff.mp q
  cases q
  refine ⟨s, env, A, d, m, env1, o, e1, fun v s1 h1 A1 B1 g1 => ?_⟩
  obtain ⟨g2, r2⟩ := g1.seen
  exact ⟨_, tru_go g2.own.sub r2 e2, w _ h1 A1 g2⟩
/-! displays -/
def eLst (k : Env' → Option (List (D × M) × Env')) : Env' → Option (D × M × Env') := fun env => (k env).bind fun r => if r.1.length ≤ lim then some (.lst (r.1.map (·.1)), dm r.1, r.2) else none
def eTup (k : Env' → Option (List (D × M) × Env')) : Env' → Option (D × M × Env') := fun env => (k env).bind fun r => if r.1.length ≤ lim then some (.tup (r.1.map (·.1)), if allDp r.1 then .dp else .sh, r.2) else none
/-- .. of values that are held -/
theorem GotL.lst {K : PySem.W.Frag} {s h s' h' : Hp} {A A' B : List Addr} {σ : St} {vs : List V} {ds : List (D × M)} {env' : Env'} {p : Addr} (g : GotL K T s h A σ vs ds env' s' h' A' B) (n : h' p = none) :
    ∃ s2 B2, GotE K T s h A σ (.ref p) (.lst (ds.map (·.1))) (dm ds) env' s2 (upd h' p (.lst vs)) A' B2 := by
  by_cases hd : allDp ds = true
  · have g2 : Gr T s' h' s' (upd h' p (.lst vs)) := Gr.own g.st.sub n
    have st := g.st.trans (g2.step (A' ++ B)) g.wh
    refine ⟨s', p :: B, ⟨g.st.trans (g2.step A') (fun a ha => g.wh a (List.mem_append_left _ ha)), g2.tab g.tab, g.er.grow g2, ?_, ?_, fun a ha => ?_, fun a ha => ?_⟩⟩
    · unfold dm
      rw [if_pos hd]
      simp only [Rep, Deep]
      refine ⟨p, vs, B, rfl, upd_same, rfl, (g.rp.deep hd).keep g2.tupK _ fun b hb => ?_⟩
      obtain ⟨o, eb, _⟩ := g.rp.mem b hb
      rw [upd_ne (ne_of_none eb n)]
    · obtain ⟨n1, n2, n3⟩ := List.nodup_append.mp g.nd
      refine List.nodup_append.mpr ⟨n1, List.nodup_cons.mpr ⟨fun hp => ?_, n2⟩, fun a ha c hc e => ?_⟩
      · obtain ⟨o, eb, _⟩ := g.rp.mem p hp
        rw [n] at eb; cases eb
      · rcases List.mem_cons.mp hc with rfl | hc
        · obtain ⟨o, eb, _⟩ := g.er.mem a ha
          rw [e, n] at eb; cases eb
        · exact n3 a ha c hc e
    · rcases List.mem_append.mp ha with ha | ha
      · exact g.fr a (List.mem_append_left _ ha)
      · rcases List.mem_cons.mp ha with rfl | ha
        · exact g.st.sub.no _ n
        · exact g.fr a (List.mem_append_right _ ha)
    · rcases List.mem_append.mp ha with ha | ha
      · exact g.wh a (List.mem_append_left _ ha)
      · rcases List.mem_cons.mp ha with rfl | ha
        · exact .inr (g.st.non _ n)
        · exact g.wh a (List.mem_append_right _ ha)
  · obtain ⟨g1, r1⟩ := g.seen
    have g2 : Gr T (shr s' h' B) h' (shr s' h' B) (upd h' p (.lst vs)) := Gr.own g1.own.sub n
    refine ⟨_, [p], GotE.of_got g1 ⟨g2, ?_, by simp, fun b hb => ?_, fun b hb => ?_⟩⟩
    · unfold dm
      rw [if_neg hd]
      exact ⟨p, rfl, rfl, vs, upd_same, r1⟩
    · rw [List.mem_singleton.mp hb]; exact n
    · rw [List.mem_singleton.mp hb]; exact g1.own.sub.no _ n
theorem GotL.tup {K : PySem.W.Frag} {s h s' h' : Hp} {A A' B : List Addr} {σ : St} {vs : List V} {ds : List (D × M)} {env' : Env'} {p : Addr} (g : GotL K T s h A σ vs ds env' s' h' A' B) (n : h' p = none) :
    ∃ s2 B2, GotE K T s h A σ (.ref p) (.tup (ds.map (·.1))) (if allDp ds then .dp else .sh) env' s2 (upd h' p (.tup vs)) A' B2 := by
  by_cases hd : allDp ds = true
  · have g2 : Gr T s' h' s' (upd h' p (.tup vs)) := Gr.own g.st.sub n
    refine ⟨s', B, ⟨g.st.trans (g2.step A') (fun a ha => g.wh a (List.mem_append_left _ ha)), g2.tab g.tab, g.er.grow g2, ?_, g.nd, g.fr, g.wh⟩⟩
    rw [if_pos hd]
    simp only [Rep, Deep]
    refine ⟨p, vs, rfl, upd_same, (g.rp.deep hd).keep g2.tupK _ fun b hb => ?_⟩
    obtain ⟨o, eb, _⟩ := g.rp.mem b hb
    rw [upd_ne (ne_of_none eb n)]
  · obtain ⟨g1, r1⟩ := g.seen
    have g2 : Gr T (shr s' h' B) h' (upd (shr s' h' B) p (.tup vs)) (upd h' p (.tup vs)) := Gr.alloc g1.own.sub n
    refine ⟨_, [], GotE.of_got g1 ⟨g2, ?_, Fresh.nil⟩⟩
    rw [if_neg hd]
    refine ⟨rfl, ?_⟩
    simp only [Sees]
    exact ⟨p, vs, rfl, upd_same, r1.ext g2.ss⟩
theorem je_lst {k : Env' → Option (List (D × M) × Env')} (ha : JAE T X es k) : JE T X (.List es pos) (eLst k) := by
  refine je_mk (pe_lst ha) fun σ h Q ⟨s, env, A, d, m, env', o, q, w⟩ => ?_
  obtain ⟨⟨ds, env1⟩, e1, q⟩ := Option.bind_eq_some_iff.mp q
  dsimp only at q
  split at q
  · rename_i hl
    cases q
    refine ⟨s, env, A, ds, _, o, e1, fun vs s1 h1 A1 B1 g1 => ⟨by rw [g1.rp.len, ← lim_eq]; exact hl, fun p n => ?_⟩⟩
    obtain ⟨s2, B2, g2⟩ := g1.lst n
    exact w _ s2 _ A1 B2 g2
  · cases q
theorem je_tup {k : Env' → Option (List (D × M) × Env')} {x1 : Nat} (ha : JAE T X es k) : JE T X (.Tuple es x1 pos) (eTup k) := by
  refine je_mk (pe_tup ha) fun σ h Q ⟨s, env, A, d, m, env', o, q, w⟩ => ?_
  obtain ⟨⟨ds, env1⟩, e1, q⟩ := Option.bind_eq_some_iff.mp q
  dsimp only at q
  split at q
  · rename_i hl
    cases q
    refine ⟨s, env, A, ds, _, o, e1, fun vs s1 h1 A1 B1 g1 => ⟨by rw [g1.rp.len, ← lim_eq]; exact hl, fun p n => ?_⟩⟩
    obtain ⟨s2, B2, g2⟩ := g1.tup n
    exact w _ s2 _ A1 B2 g2
  · cases q
end
end G
set_option Elab.async false
set_option linter.all false
set_option maxRecDepth 100000
set_option maxHeartbeats 4000000
/-! G9: slots taken out and put back; statements -/
namespace G
open PySem PySem.Spec PyProof.Rows L2
section
variable {K : PySem.W.Frag} {T : Tx} {s s' s1 s2 h h' h1 h2 : Hp} {σ : St} {env env' env1 env2 : Env'} {A A' A1 A2 W B : List Addr}
/-! ### slots -/
theorem EnvRep.takeO : ∀ {env : Env'} {σ : St} {A : List Addr} {j : Nat} {dm : D × M}, EnvRep K T s h σ env A → env[j]? = some (some dm) →
    ∃ v A1 B A2, σ[j]? = some (some v) ∧ A = A1 ++ (B ++ A2) ∧ Rep K T s h v dm.1 dm.2 B ∧ EnvRep K T s h σ (env.set j none) (A1 ++ A2)
  | [], _, _, _, _, _, e => by simp at e
  | x :: env, _, _, 0, dm, r, e => by
    obtain ⟨y, r, A1, A2, rfl, rfl, r1, q⟩ := r
    simp at e
    subst e
    obtain ⟨v, e1, r1⟩ := r1
    exact ⟨v, [], A1, A2, by simp [e1], rfl, r1, y, r, [], A2, rfl, rfl, rfl, q⟩
  | x :: env, _, _, j + 1, dm, r, e => by
    obtain ⟨y, r, A1, A2, rfl, rfl, r1, q⟩ := r
    obtain ⟨v, B1, B, B2, e1, rfl, e2, e3⟩ := q.takeO (j := j) (by simpa using e)
    exact ⟨v, A1 ++ B1, B, B2, by simpa using e1, by simp, e2, y, r, A1, B1 ++ B2, rfl, by simp, r1, e3⟩
theorem EnvRep.putO : ∀ {env : Env'} {σ : St} {A : List Addr} {j : Nat} {v : V} {dm : D × M} {C : List Addr}, EnvRep K T s h σ env A → env[j]? = some none → σ[j]? = some (some v) → Rep K T s h v dm.1 dm.2 C →
    ∃ A1 A2, A = A1 ++ A2 ∧ EnvRep K T s h σ (env.set j (some dm)) (A1 ++ (C ++ A2))
  | [], _, _, _, _, _, _, _, e, _, _ => by simp at e
  | x :: env, _, _, 0, v, dm, C, r, e, eσ, rv => by
    obtain ⟨y, r, A1, A2, rfl, rfl, r1, q⟩ := r
    simp at e
    subst e
    simp at eσ
    subst eσ
    exact ⟨[], A2, by rw [r1], some v, r, C, A2, rfl, rfl, ⟨v, rfl, rv⟩, q⟩
  | x :: env, _, _, j + 1, v, dm, C, r, e, eσ, rv => by
    obtain ⟨y, r, A1, A2, rfl, rfl, r1, q⟩ := r
    obtain ⟨B1, B2, rfl, q2⟩ := q.putO (j := j) (by simpa using e) (by simpa using eσ) rv
    exact ⟨A1 ++ B1, B2, by simp, y, r, A1, B1 ++ (C ++ B2), rfl, by simp, r1, q2⟩
theorem perm_mid (A1 B A2 : List Addr) : (A1 ++ (B ++ A2)).Perm ((A1 ++ A2) ++ B) := by
  rw [List.append_assoc]
  exact List.Perm.append_left A1 List.perm_append_comm
/-- a slot's value in the hand -/
theorem GotE.take {j : Nat} {d : D} {m : M} (g : Go K T s h A σ env s1 h1 A1) (e : env[j]? = some (some (d, m))) : ∃ v A0 B, σ[j]? = some (some v) ∧ GotE K T s h A σ v d m (env.set j none) s1 h1 A0 B := by
  obtain ⟨v, C1, B, C2, e1, rfl, e2, e3⟩ := g.own.er.takeO e
  have p := perm_mid C1 B C2
  exact ⟨v, C1 ++ C2, B, e1, g.st, g.own.tab, e3, e2, p.nodup_iff.mp g.own.nd, fun a ha => g.own.fr a (p.mem_iff.mpr ha), fun a ha => g.wh a (p.mem_iff.mpr ha)⟩
/-- .. put back -/
theorem GotE.put {j : Nat} {v : V} {d : D} {m : M} (g : GotE K T s h A σ v d m env s1 h1 A1 B) (e : env[j]? = some none) (eσ : σ[j]? = some (some v)) : ∃ A2, Go K T s h A σ (env.set j (some (d, m))) s1 h1 A2 := by
  obtain ⟨C1, C2, rfl, q⟩ := g.er.putO e eσ (dm := (d, m)) g.rp
  have p := perm_mid C1 B C2
  exact ⟨C1 ++ (B ++ C2), g.st, ⟨g.st.sub, g.tab, q, p.nodup_iff.mpr g.nd, fun a ha => g.fr a (p.mem_iff.mp ha)⟩, fun a ha => g.wh a (p.mem_iff.mp ha)⟩
/-- a value in the hand goes into a slot -/
theorem GotE.store {i : Nat} {v : V} {d : D} {m : M} (g : GotE K T s h A σ v d m env s1 h1 A1 B) (hi : i < env.length) : ∃ A2, Go K T s h A (σ.set i (some v)) (env.set i (some (d, m))) s1 h1 A2 ∧ ∀ a ∈ A2, a ∈ A1 ++ B := by
  obtain ⟨C1, C, C2, rfl, q⟩ := g.er.store hi (dm := (d, m)) g.rp
  have p : (C1 ++ (B ++ C2)).Perm ((C1 ++ C2) ++ B) := perm_mid C1 B C2
  have sb : ((C1 ++ C2) ++ B).Sublist ((C1 ++ (C ++ C2)) ++ B) := List.Sublist.append (List.Sublist.append (List.Sublist.refl _) (List.sublist_append_right _ _)) (List.Sublist.refl _)
  refine ⟨C1 ++ (B ++ C2), ⟨g.st, ⟨g.st.sub, g.tab, q, p.nodup_iff.mpr (List.Nodup.sublist sb g.nd), fun a ha => g.fr a (sb.mem (p.mem_iff.mp ha))⟩, fun a ha => g.wh a (sb.mem (p.mem_iff.mp ha))⟩, fun a ha => sb.mem (p.mem_iff.mp ha)⟩
theorem Sees.rep {v : V} {d : D} (u : Sub s h) (r : Sees K T s v d) : Rep K T s h v d (im d) [] := by
  unfold im
  split
  · rename_i i
    exact Sees.deep d i (r.ext u d)
  · exact ⟨rfl, r⟩
/-- what is seen, in the hand -/
theorem GotE.sees {v : V} {d : D} (g : Go K T s h A σ env s1 h1 A1) (r : Sees K T s1 v d) : GotE K T s h A σ v d (im d) env s1 h1 A1 [] :=
  ⟨g.st, g.own.tab, g.own.er, r.rep g.own.sub, by rw [List.append_nil]; exact g.own.nd, fun a ha => g.own.fr a (by simpa using ha), fun a ha => g.wh a (by simpa using ha)⟩
/-- a slot shared from now on -/
def frz (j : Nat) (env : Env') : Option Env' := match env[j]? with
  | some (some dm) => some (env.set j (some (dm.1, im dm.1)))
  | _ => none
theorem set_set_none {j : Nat} {x : Option (D × M)} (env : Env') : (env.set j none).set j x = env.set j x := by rw [List.set_set]
theorem get_hole {j : Nat} {dm : D × M} (e : env[j]? = some (some dm)) : (env.set j none)[j]? = some none := List.getElem?_set_self (List.getElem?_eq_some_iff.mp e).1
theorem Go.frz {j : Nat} (g : Go K T s h A σ env s1 h1 A1) (e : G.frz j env = some env') : ∃ s2 A2, Go K T s h A σ env' s2 h1 A2 := by
  unfold G.frz at e
  split at e
  · rename_i dm eq
    cases e
    obtain ⟨d, m⟩ := dm
    obtain ⟨v, A0, B, eσ, g0⟩ := GotE.take g eq
    obtain ⟨g2, r2⟩ := g0.seen
    obtain ⟨A2, g3⟩ := (GotE.sees g2 r2).put (get_hole eq) eσ
    rw [set_set_none] at g3
    exact ⟨_, A2, g3⟩
  · cases e
/-- an own object changes -/
theorem Step.putO {p : Addr} {o o' : HO} (u : Sub s h) (hw : p ∈ W) (e : h p = some o) (mu : Mu o) (n : s p = none) : Step T W s h s (upd h p o') := by
  have g : ∀ a ps, h a = some (.tbl ps) → upd h p o' a = some (.tbl ps) := fun a ps q => by
    rw [upd_ne (fun z => by subst z; rw [q] at e; cases e; exact mu.elim)]; exact q
  refine ⟨Sub.rfl', ⟨fun b x q z => ?_, fun b q => ?_⟩, fun a x q z nw => ?_, fun a q => ?_, fun a ps q => ⟨#[], by rw [g a ps q]; simp⟩, fun a xs q => ?_, fun a q => .inl q, fun t => tabs_put t e (mu_tbl mu).1 (mu_tbl mu).2⟩
  · rw [upd_ne (ne_of_none q n)]; exact u.at_ b x q z
  · by_cases hb : b = p
    · subst hb; exact n
    · rw [upd_ne hb] at q; exact u.no b q
  · rw [upd_ne (fun z => by subst z; exact nw hw)]; exact q
  · by_cases hb : a = p
    · subst hb; rw [upd_same] at q; cases q
    · rw [upd_ne hb] at q; exact q
  · rw [upd_ne (fun z => by subst z; rw [q] at e; cases e; exact mu.elim)]; exact q
/-- a change of the value in the hand: at its top p -/
theorem GotE.change {v : V} {d d' : D} {m m' : M} {p : Addr} {o o' : HO} {B' : List Addr} (g : GotE K T s h A σ v d m env s1 h1 A1 B) (hp : p ∈ B) (e : h1 p = some o) (mu : Mu o) (u : Sub s1 s2) (st : Step T A s h s2 h1)
    (fr : ∀ a ∈ A1 ++ B', s2 a = none) (sb : ∀ b ∈ B', b ∈ B) (nd : B'.Nodup) (n2 : s2 p = none) (r : Rep K T s2 (upd h1 p o') v d' m' B') : GotE K T s h A σ v d' m' env s2 (upd h1 p o') A1 B' := by
  obtain ⟨n1, n3, n4⟩ := List.nodup_append.mp g.nd
  have st2 : Step T (A1 ++ B) s2 h1 s2 (upd h1 p o') := Step.putO st.sub (List.mem_append_right _ hp) e mu n2
  refine ⟨st.trans st2 g.wh, st2.tab g.tab, ?_, r, List.nodup_append.mpr ⟨n1, nd, fun a ha b hb z => n4 a ha b (sb b hb) z⟩, fr, fun a ha => ?_⟩
  · refine g.er.keep u st2.tup fun b hb => ?_
    rw [upd_ne (fun z => by subst z; exact n4 b hb b hp rfl)]
  · rcases List.mem_append.mp ha with ha | ha
    · exact g.wh a (List.mem_append_left _ ha)
    · exact g.wh a (List.mem_append_right _ (sb a ha))
end
/-! ### statements -/
inductive Fl where
  | nx | rt (d : D) (m : M) | bk | ct
abbrev Sf := Env' → Option (Fl × Env')
def Pin (io : List Bool) (σ σ' : St) : Prop := ∀ i : Nat, io[i]? = some true → σ'[i]? = σ[i]?
theorem Pin.rfl' {io : List Bool} {σ : St} : Pin io σ σ := fun _ _ => rfl
theorem Pin.trans {io : List Bool} {a b c : St} (x : Pin io a b) (y : Pin io b c) : Pin io a c := fun i e => (y i e).trans (x i e)
def EndS (K : PySem.W.Frag) (T : Tx) (io : List Bool) (s h : Hp) (A : List Addr) (σ : St) (fl : Fl) (env' : Env') (E : Ends) : Prop := match fl with
  | .nx => ∀ σ' s' h' A', Go K T s h A σ' env' s' h' A' → Pin io σ σ' → E.nx σ' h'
  | .bk => ∀ σ' s' h' A', Go K T s h A σ' env' s' h' A' → Pin io σ σ' → E.bk σ' h'
  | .ct => ∀ σ' s' h' A', Go K T s h A σ' env' s' h' A' → Pin io σ σ' → E.ct σ' h'
  | .rt d m => ∀ v σ' s' h' A' B, GotE K T s h A σ' v d m env' s' h' A' B → Pin io σ σ' → E.rt v h'
def tS (K : PySem.W.Frag) (T : Tx) (io : List Bool) (f : Sf) : TS := fun E σ h => ∃ s env A fl env', Own K T s h σ env A ∧ f env = some (fl, env') ∧ EndS K T io s h A σ fl env' E
def JS (T : Tx) (X : Cx) (io : List Bool) (st : Stmt) (f : Sf) : Prop := PS X st (tS X.K T io f)
def JSs (T : Tx) (X : Cx) (io : List Bool) (sts : List Stmt) (f : Sf) : Prop := PSs X sts (tS X.K T io f)
theorem EndS.pre {K : PySem.W.Frag} {T : Tx} {io : List Bool} {s h s1 h1 : Hp} {A A1 : List Addr} {σ σ1 : St} {fl : Fl} {env1 env' : Env'} {E : Ends} (g : Go K T s h A σ1 env1 s1 h1 A1) (p : Pin io σ σ1) (e : EndS K T io s h A σ fl env' E) : EndS K T io s1 h1 A1 σ1 fl env' E := by
  cases fl with
  | nx => exact fun σ' s' h' A' g' p' => e σ' s' h' A' (g.trans g') (p.trans p')
  | bk => exact fun σ' s' h' A' g' p' => e σ' s' h' A' (g.trans g') (p.trans p')
  | ct => exact fun σ' s' h' A' g' p' => e σ' s' h' A' (g.trans g') (p.trans p')
  | rt d m => exact fun v σ' s' h' A' B g' p' => e v σ' s' h' A' B (GotE.pre g g') (p.trans p')
section
variable {X : Cx} {T : Tx} {io : List Bool} {a b c e tg : Expr} {es : List Expr} {st : Stmt} {rest sa sb : List Stmt} {f k : Env' → Option (D × M × Env')} {F1 F2 : Sf} {ft : Env' → Option (Bool × Env')} {pos p : Pos}
theorem js_mk {t : TS} {g : Sf} (h : PS X st t) (r : ∀ (E : Ends) (σ : St) (h : Hp), tS X.K T io g E σ h → t E σ h) : JS T X io st g := ⟨fun pins s σ H E I q => h.run pins s σ H E I (r E σ H q)⟩
theorem jss_mk {t : TS} {g : Sf} (h : PSs X rest t) (r : ∀ (E : Ends) (σ : St) (h : Hp), tS X.K T io g E σ h → t E σ h) : JSs T X io rest g := ⟨fun pins s σ H E I q => h.run pins s σ H E I (r E σ H q)⟩
def sNext : Sf := fun env => some (.nx, env)
def sSeq (f k : Sf) : Sf := fun env => (f env).bind fun r => match r.1 with
  | .nx => k r.2
  | _ => some r
theorem jss_nil : JSs T X io [] sNext := jss_mk pss_nil fun E σ h ⟨s, env, A, fl, env', o, q, w⟩ => by
  cases q
  exact w σ s h A (Go.refl o) Pin.rfl'
theorem jss_cons (h1 : JS T X io st F1) (h2 : JSs T X io rest F2) : JSs T X io (st :: rest) (sSeq F1 F2) := jss_mk (pss_cons h1 h2) fun E σ h ⟨s, env, A, fl, env', o, q, w⟩ => by
  obtain ⟨⟨fl1, env1⟩, e1, q⟩ := Option.bind_eq_some_iff.mp q
  refine ⟨s, env, A, fl1, env1, o, e1, ?_⟩
  cases fl1 with
  | nx => exact fun σ' s' h' A' g p => ⟨s', env1, A', fl, env', g.own, q, w.pre g p⟩
  | bk => cases q; exact w
  | ct => cases q; exact w
  | rt d m => cases q; exact w
theorem jss_one (h1 : JS T X io st F1) : JSs T X io [st] F1 := jss_mk (pss_one h1) fun E σ h q => q
def sRet (f : Env' → Option (D × M × Env')) : Sf := fun env => (f env).bind fun x => some (.rt x.1 x.2.1, x.2.2)
theorem js_ret (he : JE T X e f) : JS T X io (.Return (some e) pos) (sRet f) := js_mk (ps_ret he) fun E σ h ⟨s, env, A, fl, env', o, q, w⟩ => by
  obtain ⟨⟨d, m, env1⟩, e1, q⟩ := Option.bind_eq_some_iff.mp q
  cases q
  exact ⟨s, env, A, d, m, _, o, e1, fun v s' h' A' B g => w v σ s' h' A' B g Pin.rfl'⟩
def sRetN : Sf := fun env => some (.rt .non .dp, env)
theorem js_retN : JS T X io (.Return none pos) sRetN := js_mk ps_retN fun E σ h ⟨s, env, A, fl, env', o, q, w⟩ => by
  cases q
  exact w .non σ s h A [] (GotE.of_got (Go.refl o) (got_non o.sub)) Pin.rfl'
def sExpr (f : Env' → Option (D × M × Env')) : Sf := fun env => (f env).bind fun x => some (.nx, x.2.2)
theorem js_expr (he : JE T X e f) (hs : swapsWith e none pos.line X.env = pure false := by rfl) : JS T X io (.Expr e pos) (sExpr f) := js_mk (ps_expr he hs) fun E σ h ⟨s, env, A, fl, env', o, q, w⟩ => by
  obtain ⟨⟨d, m, env1⟩, e1, q⟩ := Option.bind_eq_some_iff.mp q
  cases q
  exact ⟨s, env, A, d, m, _, o, e1, fun v s' h' A' B g => w σ s' h' A' g.go Pin.rfl'⟩
def sIf (t : Env' → Option (Bool × Env')) (f k : Sf) : Sf := fun env => (t env).bind fun x => if x.1 = true then f x.2 else k x.2
theorem js_if (hc : JTE T X c ft) (ha : JSs T X io sa F1) (hb : JSs T X io sb F2) : JS T X io (.If c sa sb pos) (sIf ft F1 F2) := js_mk (ps_if hc ha hb) fun E σ h ⟨s, env, A, fl, env', o, q, w⟩ => by
  obtain ⟨⟨z, env1⟩, e1, q⟩ := Option.bind_eq_some_iff.mp q
  refine ⟨s, env, A, z, env1, o, e1, fun s1 h1 A1 g1 => ?_⟩
  cases z with
  | true =>
    simp only [if_true] at q ⊢
    exact ⟨s1, env1, A1, fl, env', g1.own, q, w.pre g1 Pin.rfl'⟩
  | false =>
    simp only [Bool.false_eq_true, if_false] at q ⊢
    exact ⟨s1, env1, A1, fl, env', g1.own, q, w.pre g1 Pin.rfl'⟩
theorem js_pass : JS T X io (.Pass pos) sNext := js_mk ps_pass fun E σ h ⟨s, env, A, fl, env', o, q, w⟩ => by
  cases q
  exact w σ s h A (Go.refl o) Pin.rfl'
def sBrk : Sf := fun env => some (.bk, env)
theorem js_brk : JS T X io (.Break pos) sBrk := js_mk ps_break fun E σ h ⟨s, env, A, fl, env', o, q, w⟩ => by
  cases q
  exact w σ s h A (Go.refl o) Pin.rfl'
def sCt : Sf := fun env => some (.ct, env)
theorem js_ct : JS T X io (.Continue pos) sCt := js_mk ps_continue fun E σ h ⟨s, env, A, fl, env', o, q, w⟩ => by
  cases q
  exact w σ s h A (Go.refl o) Pin.rfl'
def sNever : Sf := fun _ => none
theorem js_never : JS T X io st sNever := js_mk ps_never fun E σ h ⟨s, env, A, fl, env', o, q, w⟩ => nomatch q
theorem jss_never : JSs T X io rest sNever := jss_mk pss_never fun E σ h ⟨s, env, A, fl, env', o, q, w⟩ => nomatch q
/-- a slot is shared ahead of what follows -/
def sFrz (j : Nat) (f : Sf) : Sf := fun env => (frz j env).bind f
theorem jss_frz (j : Nat) (h : JSs T X io rest F1) : JSs T X io rest (sFrz j F1) := jss_mk h fun E σ h ⟨s, env, A, fl, env', o, q, w⟩ => by
  obtain ⟨env1, e1, q⟩ := Option.bind_eq_some_iff.mp q
  obtain ⟨s2, A2, g⟩ := (Go.refl o).frz e1
  exact ⟨s2, env1, A2, fl, env', g.own, q, w.pre g Pin.rfl'⟩
def eFrz (j : Nat) (f : Env' → Option (D × M × Env')) : Env' → Option (D × M × Env') := fun env => (frz j env).bind f
theorem je_frz (j : Nat) (h : JE T X e f) : JE T X e (eFrz j f) := je_mk h fun σ h Q ⟨s, env, A, d, m, env', o, q, w⟩ => by
  obtain ⟨env1, e1, q⟩ := Option.bind_eq_some_iff.mp q
  obtain ⟨s2, A2, g⟩ := (Go.refl o).frz e1
  exact ⟨s2, env1, A2, d, m, env', g.own, q, fun v s' h' A' B x => w v s' h' A' B (GotE.pre g x)⟩
/-! ### names -/
/-- slot i takes dm -/
def putS (io : List Bool) (i : Nat) (dm : D × M) (env : Env') : Option Env' := if io[i]? = some true then none else if i < env.length then some (env.set i (some dm)) else none
theorem pin_set {io : List Bool} {σ : St} {i : Nat} {x : Option V} (h : ¬ io[i]? = some true) : Pin io σ (σ.set i x) := fun j e => by
  have : i ≠ j := fun z => h (by rw [z]; exact e)
  rw [List.getElem?_set_ne this]
theorem GotE.putN {K : PySem.W.Frag} {s h s1 h1 : Hp} {A A1 B : List Addr} {σ : St} {v : V} {dm : D × M} {env env' : Env'} {i : Nat} (g : GotE K T s h A σ v dm.1 dm.2 env s1 h1 A1 B) (q : putS io i dm env = some env') : Pin io σ (σ.set i (some v)) ∧ ∃ A2, Go K T s h A (σ.set i (some v)) env' s1 h1 A2 ∧ ∀ a ∈ A2, a ∈ A1 ++ B := by
  unfold putS at q
  split at q
  · cases q
  · rename_i hp
    split at q
    · rename_i hi
      cases q
      exact ⟨pin_set hp, g.store hi⟩
    · cases q
def sSet (io : List Bool) (i : Nat) (f : Env' → Option (D × M × Env')) : Sf := fun env => (f env).bind fun x => (putS io i (x.1, x.2.1) x.2.2).bind fun e => some (.nx, e)
theorem sSet_go {K : PySem.W.Frag} {te : TE} {i : Nat} (r : ∀ (σ : St) (h : Hp) (Q : VK), tE K T f σ h Q → te σ h Q) (E : Ends) (σ : St) (h : Hp) (q : tS K T io (sSet io i f) E σ h) : tAsg te (gName i) E σ h := by
  obtain ⟨s, env, A, fl, env', o, q, w⟩ := q
  obtain ⟨⟨d, m, env1⟩, e1, q⟩ := Option.bind_eq_some_iff.mp q
  obtain ⟨env2, e2, q⟩ := Option.bind_eq_some_iff.mp q
  cases q
  refine r σ h _ ⟨s, env, A, d, m, env1, o, e1, fun v s' h' A' B g => ?_⟩
  obtain ⟨p1, A2, g2, sb⟩ := GotE.putN (dm := (d, m)) g e2
  exact w _ s' h' A2 g2 p1
theorem js_set {i : Nat} {x : Str} {pos' : Pos} (hN : X.N.Nodup) (hi : X.N[i]? = some x) (hx : Loc X.env.scope x) (he : JE T X e f) (hs : swapsWith e (some (.Name x pos')) pos.line X.env = pure false := by rfl) (hf : X.fn x = true ∨ X.env.scope.names.lookup x = some .local := by first | exact .inl rfl | exact .inr rfl) :
    JS T X io (.Assign [.Name x pos'] e pos) (sSet io i f) := js_mk (ps_set hN hi hx he hs hf) fun E σ h q => sSet_go (fun _ _ _ q => q) E σ h q
/-! ### targets that own -/
/-- what one has, and things in the hand at B -/
structure Hold (K : PySem.W.Frag) (T : Tx) (s h : Hp) (σ : St) (env : Env') (A B : List Addr) : Prop where
  sub : Sub s h
  tab : Tabs T h
  er : EnvRep K T s h σ env A
  nd : (A ++ B).Nodup
  fr : ∀ a ∈ A ++ B, s a = none
theorem GotE.hold {K : PySem.W.Frag} {s h s1 h1 : Hp} {A A1 B : List Addr} {σ : St} {v : V} {d : D} {m : M} {env : Env'} (g : GotE K T s h A σ v d m env s1 h1 A1 B) : Hold K T s1 h1 σ env A1 B := ⟨g.st.sub, g.tab, g.er, g.nd, g.fr⟩
theorem GotL.hold {K : PySem.W.Frag} {s h s1 h1 : Hp} {A A1 B : List Addr} {σ : St} {vs : List V} {ds : List (D × M)} {env : Env'} (g : GotL K T s h A σ vs ds env s1 h1 A1 B) : Hold K T s1 h1 σ env A1 B := ⟨g.st.sub, g.tab, g.er, g.nd, g.fr⟩
theorem Hold.gotE {K : PySem.W.Frag} {s h : Hp} {A B : List Addr} {σ : St} {v : V} {d : D} {m : M} {env : Env'} (g : Hold K T s h σ env A B) (r : Rep K T s h v d m B) : GotE K T s h (A ++ B) σ v d m env s h A B := ⟨(Gr.refl g.sub).step _, g.tab, g.er, r, g.nd, g.fr, fun a ha => .inl ha⟩
theorem Hold.gotL {K : PySem.W.Frag} {s h : Hp} {A B : List Addr} {σ : St} {vs : List V} {ds : List (D × M)} {env : Env'} (g : Hold K T s h σ env A B) (r : RepL K T s h vs ds B) : GotL K T s h (A ++ B) σ vs ds env s h A B := ⟨(Gr.refl g.sub).step _, g.tab, g.er, r, g.nd, g.fr, fun a ha => .inl ha⟩
/-- behind what was done with the things in the hand -/
theorem Go.after {K : PySem.W.Frag} {s h s1 h1 s2 h2 : Hp} {A A1 A2 B : List Addr} {σ : St} {env : Env'} (st : Step T A s h s1 h1) (wh : ∀ a ∈ A1 ++ B, a ∈ A ∨ h a = none) (g : Go K T s1 h1 (A1 ++ B) σ env s2 h2 A2) : Go K T s h A σ env s2 h2 A2 :=
  ⟨st.trans g.st wh, g.own, fun x hx => (g.wh x hx).elim (wh x) fun n => .inr (st.non x n)⟩
theorem Step.mono {W W' : List Addr} {s h s1 h1 : Hp} (st : Step T W s h s1 h1) (u : ∀ a ∈ W, a ∈ W') : Step T W' s h s1 h1 :=
  ⟨st.ss, st.sub, fun a o e n nw => st.keep a o e n fun z => nw (u a z), st.non, st.tbl, st.tup, fun a n => (st.new a n).elim .inl fun z => .inr (z.elim .inl fun z => .inr (z.elim (fun z => .inl (u a z)) .inr)), st.tab⟩
def tGO (K : PySem.W.Frag) (T : Tx) (io : List Bool) (g : D × M → Env' → Option Env') : TG := fun v σ h Q => ∃ s d m env A B env', Hold K T s h σ env A B ∧ Rep K T s h v d m B ∧ g (d, m) env = some env' ∧ ∀ σ' s' h' A', Go K T s h (A ++ B) σ' env' s' h' A' → Pin io σ σ' → Q σ' h'
def JGO (T : Tx) (X : Cx) (io : List Bool) (tg : Expr) (g : D × M → Env' → Option Env') : Prop := PG X tg (tGO X.K T io g)
theorem jgo_name {i : Nat} {x : Str} (hN : X.N.Nodup) (hi : X.N[i]? = some x) (hx : Loc X.env.scope x) (hf : X.fn x = true ∨ X.env.scope.names.lookup x = some .local := by first | exact .inl rfl | exact .inr rfl) : JGO T X io (.Name x pos) (putS io i) := by
  refine ⟨fun pins sx σ H v u Q I r ⟨s, d, m, env, A, B, env', g, rp, q, w⟩ => ?_⟩
  refine (pg_name hN hi hx hf).run pins sx σ H v u Q I r ?_
  obtain ⟨p1, A2, g2, sb⟩ := GotE.putN (dm := (d, m)) (g.gotE rp) q
  exact w _ s H A2 g2 p1
def goN : List (D × M) → Env' → Option Env' := fun ds env => match ds with
  | [] => some env
  | _ => none
def goC (g : D × M → Env' → Option Env') (k : List (D × M) → Env' → Option Env') : List (D × M) → Env' → Option Env' := fun ds env => match ds with
  | d :: r => (g d env).bind (k r)
  | _ => none
def tGOs (K : PySem.W.Frag) (T : Tx) (io : List Bool) (g : List (D × M) → Env' → Option Env') : TGs := fun vs σ h Q => ∃ s ds env A B env', Hold K T s h σ env A B ∧ RepL K T s h vs ds B ∧ g ds env = some env' ∧ ∀ σ' s' h' A', Go K T s h (A ++ B) σ' env' s' h' A' → Pin io σ σ' → Q σ' h'
def JGOs (T : Tx) (X : Cx) (io : List Bool) (ts : List Expr) (g : List (D × M) → Env' → Option Env') : Prop := PGs X ts (tGOs X.K T io g)
theorem jgos_nil : JGOs T X io [] goN := by
  refine ⟨fun pins sx σ H vs us Q I r ⟨s, ds, env, A, B, env', g, rp, q, w⟩ => ?_⟩
  refine pgs_nil.run pins sx σ H vs us Q I r ?_
  unfold goN at q
  split at q
  · cases q
    exact ⟨rp.1, w σ s H A (g.gotL rp).go Pin.rfl'⟩
  · cases q
/-- the first of some in the hand, the others -/
theorem GotL.head {K : PySem.W.Frag} {s h s1 h1 : Hp} {A A1 B : List Addr} {σ : St} {vs : List V} {dm : D × M} {ds : List (D × M)} {env : Env'} (g : GotL K T s h A σ vs (dm :: ds) env s1 h1 A1 B) :
    ∃ v q B1 B2, vs = v :: q ∧ B = B1 ++ B2 ∧ GotE K T s h A σ v dm.1 dm.2 env s1 h1 A1 B1 ∧ RepL K T s1 h1 q ds B2 := by
  obtain ⟨v, q, B1, B2, rfl, rfl, r1, r2⟩ := g.rp
  have sb : (A1 ++ B1).Sublist (A1 ++ (B1 ++ B2)) := List.Sublist.append (List.Sublist.refl _) (List.sublist_append_left _ _)
  exact ⟨v, q, B1, B2, rfl, rfl, ⟨g.st, g.tab, g.er, r1, List.Nodup.sublist sb g.nd, fun a ha => g.fr a (sb.mem ha), fun a ha => g.wh a (sb.mem ha)⟩, r2⟩
theorem GotL.tl {K : PySem.W.Frag} {s h s1 h1 : Hp} {A A1 A2 B1 B2 : List Addr} {σ σ' : St} {v : V} {vs : List V} {dm : D × M} {ds : List (D × M)} {env env' : Env'} (g : GotL K T s h A σ (v :: vs) (dm :: ds) env s1 h1 A1 (B1 ++ B2)) (r2 : RepL K T s1 h1 vs ds B2)
    (g2 : Go K T s h A σ' env' s1 h1 A2) (sb : ∀ a ∈ A2, a ∈ A1 ++ B1) : GotL K T s h A σ' vs ds env' s1 h1 A2 B2 := by
  have nd := g.nd
  rw [← List.append_assoc] at nd
  obtain ⟨n1, n2, n3⟩ := List.nodup_append.mp nd
  refine ⟨g.st, g.tab, g2.own.er, r2, List.nodup_append.mpr ⟨g2.own.nd, n2, fun a ha b hb z => n3 a (sb a ha) b hb z⟩, fun a ha => ?_, fun a ha => ?_⟩
  · rcases List.mem_append.mp ha with ha | ha
    · exact g2.own.fr a ha
    · exact g.fr a (List.mem_append_right _ (List.mem_append_right _ ha))
  · rcases List.mem_append.mp ha with ha | ha
    · exact g2.wh a ha
    · exact g.wh a (List.mem_append_right _ (List.mem_append_right _ ha))
theorem jgos_cons {g1 : D × M → Env' → Option Env'} {k1 : List (D × M) → Env' → Option Env'} (h1 : JGO T X io e g1) (h2 : JGOs T X io es k1) (hs : (assignEach (e :: es) X.env).map (·.2) = assign e X.env :: (assignEach es X.env).map (·.2) := by rfl) : JGOs T X io (e :: es) (goC g1 k1) := by
  refine ⟨fun pins sx σ H vs us Q I r ⟨s, ds, env, A, B, env', g, rp, q, w⟩ => ?_⟩
  refine (pgs_cons h1 h2 hs).run pins sx σ H vs us Q I r ?_
  unfold goC at q
  split at q
  · rename_i d dr
    obtain ⟨env1, e1, q⟩ := Option.bind_eq_some_iff.mp q
    obtain ⟨v, vr, B1, B2, rfl, rfl, gh, r2⟩ := rp
    have nd := g.nd
    rw [← List.append_assoc] at nd
    obtain ⟨n1, n2, n3⟩ := List.nodup_append.mp nd
    have sb0 : ∀ a ∈ A ++ B1, a ∈ A ++ (B1 ++ B2) := fun a ha => by rw [← List.append_assoc]; exact List.mem_append_left _ ha
    have dis : ∀ b ∈ B2, b ∉ A ++ B1 := fun b hb ha => n3 b ha b hb rfl
    refine ⟨v, vr, rfl, s, d.1, d.2, env, A, B1, env1, ⟨g.sub, g.tab, g.er, n1, fun a ha => g.fr a (sb0 a ha)⟩, gh, e1, fun σ1 s1 H1 A1 g2 p1 => ?_⟩
    have apart : ∀ a ∈ A1, a ∉ B2 := fun a ha hb => by
      rcases g2.wh a ha with z | z
      · exact dis a hb z
      · obtain ⟨o, eo, _⟩ := r2.mem a hb
        rw [z] at eo; cases eo
    refine ⟨s1, dr, env1, A1, B2, env', ⟨g2.st.sub, g2.own.tab, g2.own.er, List.nodup_append.mpr ⟨g2.own.nd, n2, fun a ha b hb z => apart a ha (z ▸ hb)⟩, fun a ha => ?_⟩, r2.step g2.st dis, q, fun σ2 s2 H2 A2 g3 p2 => w σ2 s2 H2 A2 ?_ (p1.trans p2)⟩
    · rcases List.mem_append.mp ha with ha | ha
      · exact g2.own.fr a ha
      · obtain ⟨o, eo, mu⟩ := r2.mem a ha
        exact step_none g2.st eo mu (g.fr a (List.mem_append_right _ (List.mem_append_right _ ha))) (dis a ha)
    · refine Go.after (A1 := A1) (B := B2) (g2.st.mono sb0) (fun a ha => ?_) g3
      rcases List.mem_append.mp ha with ha | ha
      · exact (g2.wh a ha).elim (fun z => .inl (sb0 a z)) .inr
      · exact .inl (List.mem_append_right _ (List.mem_append_right _ ha))
  · cases q
/-- the items of a tuple -/
def unTup : D × M → Option (List (D × M)) := fun x => match x.1, x.2 with
  | .tup ds, .dp => some (ds.map fun d => (d, .dp))
  | .tup ds, .sh => some (ds.map fun d => (d, im d))
  | _, _ => none
theorem DeepL.repL {K : PySem.W.Frag} {s h : Hp} : ∀ {vs : List V} (ds : List D) {B : List Addr}, DeepL K T h vs ds B → RepL K T s h vs (ds.map fun d => (d, M.dp)) B
  | _, [], _, r => by simp only [DeepL] at r; exact r
  | _, d :: ds, _, r => by
    simp only [DeepL] at r
    obtain ⟨v, q, B1, B2, e1, e2, e3, e4⟩ := r
    exact ⟨v, q, B1, B2, e1, e2, e3, DeepL.repL ds e4⟩
theorem SeesL.repL {K : PySem.W.Frag} {s h : Hp} (u : Sub s h) : ∀ {vs : List V} (ds : List D), SeesL K T s vs ds → RepL K T s h vs (ds.map fun d => (d, im d)) []
  | _, [], r => by simp only [SeesL] at r; exact ⟨r, rfl⟩
  | _, d :: ds, r => by
    simp only [SeesL] at r
    obtain ⟨v, q, e1, e3, e4⟩ := r
    exact ⟨v, q, [], [], e1, rfl, e3.rep u, SeesL.repL u ds e4⟩
theorem Rep.unTup {K : PySem.W.Frag} {s h : Hp} {B : List Addr} {v : V} {dm : D × M} {ds : List (D × M)} (u : Sub s h) (rp : Rep K T s h v dm.1 dm.2 B) (q : G.unTup dm = some ds) : ∃ p vs, v = .ref p ∧ TupAt K h p vs ∧ RepL K T s h vs ds B := by
  obtain ⟨d, m⟩ := dm
  unfold G.unTup at q
  split at q
  · rename_i xs e1 e2
    cases q
    dsimp only at e1 e2
    subst e1 e2
    simp only [Rep, Deep] at rp
    obtain ⟨p, vs, rfl, r1, r2⟩ := rp
    exact ⟨p, vs, rfl, r1, DeepL.repL _ r2⟩
  · rename_i xs e1 e2
    cases q
    dsimp only at e1 e2
    subst e1 e2
    simp only [Rep, Sees] at rp
    obtain ⟨rfl, p, vs, rfl, r1, r2⟩ := rp
    exact ⟨p, vs, rfl, sqT_ext u r1, SeesL.repL u _ r2⟩
  · cases q
def goTup (n : Nat) (k : List (D × M) → Env' → Option Env') : D × M → Env' → Option Env' := fun x env => (unTup x).bind fun ds => if ds.length = n then k ds env else none
theorem jgo_tup {k1 : List (D × M) → Env' → Option Env'} {kk n : Nat} (hc : X.calm = true) (h : JGOs T X io es k1) (hn : (assignEach es X.env).length = n := by rfl) (hst : (assignEach es X.env).findIdx? (·.1) = none := by rfl) : JGO T X io (.Tuple es kk pos) (goTup n k1) := by
  refine ⟨fun pins sx σ H v u Q I r ⟨s, d, m, env, A, B, env', g, rp, q, w⟩ => ?_⟩
  obtain ⟨ds, e1, q⟩ := Option.bind_eq_some_iff.mp q
  split at q
  · rename_i hl
    obtain ⟨p, vs, rfl, r1, r2⟩ := Rep.unTup (dm := (d, m)) g.sub rp e1
    exact (pg_tup (n := n) hc h hn hst).run pins sx σ H _ u Q I r ⟨p, vs, rfl, r1.sq, by rw [r2.len]; exact hl, s, ds, env, A, B, env', g, r2, q, w⟩
  · cases q
/-- target = e -/
def sAsg (f : Env' → Option (D × M × Env')) (g : D × M → Env' → Option Env') : Sf := fun env => (f env).bind fun x => (g (x.1, x.2.1) x.2.2).bind fun e => some (.nx, e)
theorem js_asg {g : D × M → Env' → Option Env'} (he : JE T X e f) (hg : JGO T X io tg g) (hs : swapsWithSole [tg] e pos.line X.env = pure false := by rfl) (hw : swappedStores [tg] e X.env = pure none := by rfl) (h1 : (assignEach [tg] X.env).map (·.2) = [assign tg X.env] := by rfl) :
    JS T X io (.Assign [tg] e pos) (sAsg f g) := js_mk (ps_asg he hg hs hw h1) fun E σ h ⟨s, env, A, fl, env', o, q, w⟩ => by
  obtain ⟨⟨d, m, env1⟩, e1, q⟩ := Option.bind_eq_some_iff.mp q
  obtain ⟨env2, e2, q⟩ := Option.bind_eq_some_iff.mp q
  cases q
  exact ⟨s, env, A, d, m, env1, o, e1, fun v s' h' A' B g1 => ⟨s', d, m, env1, A', B, _, g1.hold, g1.rp, e2, fun σ' s2 h2 A2 g2 p => w σ' s2 h2 A2 (Go.after g1.st g1.wh g2) p⟩⟩
/-- a, b = x, y -/
def sPar (io : List Bool) (i j : Nat) (k : Env' → Option (List (D × M) × Env')) : Sf := fun env => (k env).bind fun r => match r.1 with
  | [x, y] => (putS io i x r.2).bind fun e1 => (putS io j y e1).bind fun e2 => some (.nx, e2)
  | _ => none
theorem js_par {i j : Nat} {x y : Str} {px py pt : Pos} {kt k2 pt2} {k1 : Env' → Option (List (D × M) × Env')} (hc : X.calm = true) (hN : X.N.Nodup) (hi : X.N[i]? = some x) (hj : X.N[j]? = some y) (hij : i ≠ j)
    (hx : X.env.scope.names.lookup x = some .local) (hy : X.env.scope.names.lookup y = some .local) (ha : JAE T X [a, b] k1)
    (hw : swappedStores [.Tuple [.Name x px, .Name y py] kt pt] (.Tuple [a, b] k2 pt2) X.env = pure (some [x, y]) := by rfl)
    (hs : swapsWithSole [.Tuple [.Name x px, .Name y py] kt pt] (.Tuple [a, b] k2 pt2) pos.line X.env = pure false := by rfl) :
    JS T X io (.Assign [.Tuple [.Name x px, .Name y py] kt pt] (.Tuple [a, b] k2 pt2) pos) (sPar io i j k1) := js_mk (ps_par hc hN hi hj hij hx hy ha hw hs) fun E σ h ⟨s, env, A, fl, env', o, q, w⟩ => by
  obtain ⟨⟨ds, env1⟩, e1, q⟩ := Option.bind_eq_some_iff.mp q
  dsimp only at q
  split at q
  · rename_i d1 d2
    obtain ⟨env2, e2, q⟩ := Option.bind_eq_some_iff.mp q
    obtain ⟨env3, e3, q⟩ := Option.bind_eq_some_iff.mp q
    cases q
    refine ⟨s, env, A, _, env1, o, e1, fun vs s1 h1 A1 B1 g1 => ?_⟩
    obtain ⟨v, vr, B1, B2, rfl, rfl, gh, r2⟩ := g1.head
    obtain ⟨p1, A2, g2, sb⟩ := GotE.putN gh e2
    have g3 := g1.tl r2 g2 sb
    obtain ⟨v2, vr2, B3, B4, rfl, rfl, gh2, r3⟩ := g3.head
    obtain ⟨p2, A3, g4, sb2⟩ := GotE.putN gh2 e3
    obtain ⟨rfl, _⟩ := r3
    exact ⟨v, v2, rfl, w _ s1 h1 A3 g4 (p1.trans p2)⟩
  · cases q
def sPar3 (io : List Bool) (i j l : Nat) (k : Env' → Option (List (D × M) × Env')) : Sf := fun env => (k env).bind fun r => match r.1 with
  | [x, y, z] => (putS io i x r.2).bind fun e1 => (putS io j y e1).bind fun e2 => (putS io l z e2).bind fun e3 => some (.nx, e3)
  | _ => none
theorem js_par3 {i j l : Nat} {x y z : Str} {px py pz pt : Pos} {kt k2 pt2} {k1 : Env' → Option (List (D × M) × Env')} (hc : X.calm = true) (hN : X.N.Nodup) (hi : X.N[i]? = some x) (hj : X.N[j]? = some y) (hl : X.N[l]? = some z) (hij : i ≠ j) (hil : i ≠ l) (hjl : j ≠ l)
    (hx : X.env.scope.names.lookup x = some .local) (hy : X.env.scope.names.lookup y = some .local) (hz : X.env.scope.names.lookup z = some .local) (ha : JAE T X [a, b, c] k1)
    (hw : swappedStores [.Tuple [.Name x px, .Name y py, .Name z pz] kt pt] (.Tuple [a, b, c] k2 pt2) X.env = pure (some [x, y, z]) := by rfl)
    (hs : swapsWithSole [.Tuple [.Name x px, .Name y py, .Name z pz] kt pt] (.Tuple [a, b, c] k2 pt2) pos.line X.env = pure false := by rfl) :
    JS T X io (.Assign [.Tuple [.Name x px, .Name y py, .Name z pz] kt pt] (.Tuple [a, b, c] k2 pt2) pos) (sPar3 io i j l k1) := js_mk (ps_par3 hc hN hi hj hl hij hil hjl hx hy hz ha hw hs) fun E σ h ⟨s, env, A, fl, env', o, q, w⟩ => by
  obtain ⟨⟨ds, env1⟩, e1, q⟩ := Option.bind_eq_some_iff.mp q
  dsimp only at q
  split at q
  · rename_i d1 d2 d3
    obtain ⟨env2, e2, q⟩ := Option.bind_eq_some_iff.mp q
    obtain ⟨env3, e3, q⟩ := Option.bind_eq_some_iff.mp q
    obtain ⟨env4, e4, q⟩ := Option.bind_eq_some_iff.mp q
    cases q
    refine ⟨s, env, A, _, env1, o, e1, fun vs s1 h1 A1 B1 g1 => ?_⟩
    obtain ⟨v, vr, B1, B2, rfl, rfl, gh, r2⟩ := g1.head
    obtain ⟨p1, A2, g2, sb⟩ := GotE.putN gh e2
    have g3 := g1.tl r2 g2 sb
    obtain ⟨v2, vr2, B3, B4, rfl, rfl, gh2, r3⟩ := g3.head
    obtain ⟨p2, A3, g4, sb2⟩ := GotE.putN gh2 e3
    have g5 := g3.tl r3 g4 sb2
    obtain ⟨v3, vr3, B5, B6, rfl, rfl, gh3, r4⟩ := g5.head
    obtain ⟨p3, A4, g6, sb3⟩ := GotE.putN gh3 e4
    obtain ⟨rfl, _⟩ := r4
    exact ⟨v, v2, v3, rfl, w _ s1 h1 A4 g6 ((p1.trans p2).trans p3)⟩
  · cases q
end
end G
set_option Elab.async false
set_option linter.all false
set_option maxRecDepth 100000
set_option maxHeartbeats 4000000
/-! G10: loops; lists and dicts that are changed -/
namespace G
open PySem PySem.Spec PyProof.Rows L2
/-! ### loops -/
def forL (g : D × M → Env' → Option Env') (b : Sf) : List D → Env' → Option (Fl × Env')
  | [], env => some (.nx, env)
  | d :: ds, env => (g (d, im d) env).bind fun e1 => (b e1).bind fun r => match r.1 with
    | .nx => forL g b ds r.2
    | .ct => forL g b ds r.2
    | .bk => some (.nx, r.2)
    | .rt d m => some (.rt d m, r.2)
def tIE (K : PySem.W.Frag) (T : Tx) (f : Env' → Option (List D × Env')) : TI := fun σ h R => ∃ s env A ds env', Own K T s h σ env A ∧ f env = some (ds, env') ∧ ∀ J s' h' A', Go K T s h A σ env' s' h' A' → ItOk K T J s' ds → R J h'
def JIE (T : Tx) (X : Cx) (tg e : Expr) (f : Env' → Option (List D × Env')) : Prop := PI X tg e (tIE X.K T f)
section
variable {X : Cx} {T : Tx} {io : List Bool} {a b c e tg : Expr} {es : List Expr} {st : Stmt} {rest sa sb body : List Stmt} {f k : Env' → Option (D × M × Env')} {F1 F2 fb : Sf} {ft : Env' → Option (Bool × Env')} {pos p : Pos}
theorem ji_mk {t : TI} {g : Env' → Option (List D × Env')} (h : PI X tg e t) (r : ∀ (σ : St) (h : Hp) (R : It → Hp → Prop), tIE X.K T g σ h R → t σ h R) : JIE T X tg e g := ⟨fun pins s σ H R I q => h.run pins s σ H R I (r σ H R q)⟩
theorem Go.of_ats {K : PySem.W.Frag} {s h s' h' : Hp} {σ : St} {env : Env'} {A : List Addr} (o : Own K T s h σ env A) (g : Gr T (shr s h []) h s' h') : Go K T s h A σ env s' h' A := (GotE.of_shared o (v := .non) (d := .non) (m := .dp) (B := []) ⟨g, by simp [Rep, Deep], Fresh.nil⟩).go
/-- what is walked only reads what is shared -/
def iS (f : VEnv → Option (List D)) : Env' → Option (List D × Env') := fun env => (f (shv env)).bind fun ds => some (ds, env)
theorem jie_s {f : VEnv → Option (List D)} (h : JI T X tg e f) : JIE T X tg e (iS f) := by
  obtain ⟨wi, i1, i2⟩ := h
  refine ji_mk i1 fun σ h R ⟨s, env, A, ds, env', o, q, w⟩ => ?_
  obtain ⟨ds', e1, q⟩ := Option.bind_eq_some_iff.mp q
  cases q
  exact i2 σ _ h (shv env) ds R o.ats e1 fun J s' h' g io => w J s' h' A (Go.of_ats o g) io
/-- any list -/
def iLstE (f : Env' → Option (D × M × Env')) : Env' → Option (List D × Env') := fun env => (f env).bind fun x => match x.1 with
  | .lst ds => some (ds, x.2.2)
  | _ => none
theorem jie_list (ha : JE T X e f) : JIE T X tg e (iLstE f) := ji_mk (pi_list ha) fun σ h R ⟨s, env, A, ds, env', o, q, w⟩ => by
  obtain ⟨⟨d, m, env1⟩, e1, q⟩ := Option.bind_eq_some_iff.mp q
  refine ⟨s, env, A, d, m, env1, o, e1, fun v s1 h1 A1 B1 g1 => ?_⟩
  obtain ⟨g2, r2⟩ := g1.seen
  dsimp only at q
  split at q
  · cases q
    simp only [Sees] at r2
    obtain ⟨p, vs, rfl, e2, e3⟩ := r2
    exact ⟨p, rfl, ⟨vs, SqL.of (g2.own.sub.at_ _ _ e2 (by intro _ z; cases z))⟩, w _ _ h1 A1 g2 (itOk_list e2 e3)⟩
  · cases q
def iTupE (f : Env' → Option (D × M × Env')) : Env' → Option (List D × Env') := fun env => (f env).bind fun x => match x.1 with
  | .tup ds => some (ds, x.2.2)
  | _ => none
theorem jie_tup (ha : JE T X e f) : JIE T X tg e (iTupE f) := ji_mk (pi_tup ha) fun σ h R ⟨s, env, A, ds, env', o, q, w⟩ => by
  obtain ⟨⟨d, m, env1⟩, e1, q⟩ := Option.bind_eq_some_iff.mp q
  refine ⟨s, env, A, d, m, env1, o, e1, fun v s1 h1 A1 B1 g1 => ?_⟩
  obtain ⟨g2, r2⟩ := g1.seen
  dsimp only at q
  split at q
  · cases q
    simp only [Sees] at r2
    obtain ⟨p, vs, rfl, e2, e3⟩ := r2
    exact ⟨p, rfl, ⟨vs, (sqT_ext g2.own.sub e2).sq⟩, w _ _ h1 A1 g2 (itOk_tup e2 e3)⟩
  · cases q
def iRg1E (f : Env' → Option (D × M × Env')) : Env' → Option (List D × Env') := fun env => (f env).bind fun x => match x.1 with
  | .int j => if bd62 j then some (rgD 0 j, x.2.2) else none
  | _ => none
def iRg2E (f k : Env' → Option (D × M × Env')) : Env' → Option (List D × Env') := fun env => (f env).bind fun x => (k x.2.2).bind fun y => match x.1, y.1 with
  | .int i, .int j => if bd62 i && bd62 j then some (rgD i j, y.2.2) else none
  | _, _ => none
theorem jie_range1 {p : Pos} (hg : Gl X "range") (hm : X.mg "range" = none) (ha : JE T X a f) (hs : starEach [a] X.env = [(false, eval a X.env)] := by rfl) : JIE T X tg (.Call (.Name "range" p) [a] [] pos) (iRg1E f) := by
  refine ji_mk (pi_range1 hg hm (pa_cons ha pa_nil hs) hs) fun σ h R ⟨s, env, A, ds, env', o, q, w⟩ => ?_
  obtain ⟨⟨d, m, env1⟩, e1, q⟩ := Option.bind_eq_some_iff.mp q
  refine ⟨s, env, A, d, m, env1, o, e1, fun v s1 h1 A1 B1 g1 => ?_⟩
  obtain ⟨g2, r2⟩ := g1.seen
  dsimp only at q
  split at q
  · split at q
    · rename_i hb
      cases q
      simp only [Sees] at r2
      subst r2
      replace hb := bd62_b hb
      exact ⟨_, rfl, hb.1, hb.2, w _ _ h1 A1 g2 itOk_range0⟩
    · cases q
  · cases q
theorem jie_range2 {p : Pos} (hg : Gl X "range") (hm : X.mg "range" = none) (ha : JE T X a f) (hb : JE T X b k) (hs : starEach [a, b] X.env = [(false, eval a X.env), (false, eval b X.env)] := by rfl) (hs2 : starEach [b] X.env = [(false, eval b X.env)] := by rfl) :
    JIE T X tg (.Call (.Name "range" p) [a, b] [] pos) (iRg2E f k) := by
  refine ji_mk (pi_range2 hg hm (pa_cons ha (pa_cons hb pa_nil hs2) (by rw [hs, hs2])) hs hs2) fun σ h R ⟨s, env, A, ds, env', o, q, w⟩ => ?_
  obtain ⟨⟨d, m, env1⟩, e1, q⟩ := Option.bind_eq_some_iff.mp q
  obtain ⟨⟨d', m', env2⟩, e2, q⟩ := Option.bind_eq_some_iff.mp q
  refine ⟨s, env, A, d, m, env1, o, e1, fun v s1 h1 A1 B1 g1 => ?_⟩
  obtain ⟨g2, r2⟩ := g1.seen
  refine ⟨_, env1, A1, d', m', env2, g2.own, e2, fun v' s3 h3 A3 B3 g3 => ?_⟩
  obtain ⟨g4, r4⟩ := g3.seen
  dsimp only at q
  split at q
  · split at q
    · rename_i hb
      cases q
      simp only [Sees] at r2 r4
      subst r2 r4
      replace hb := and62 hb
      exact ⟨_, _, rfl, ⟨hb.1.1, hb.1.2, hb.2.1, hb.2.2⟩, w _ _ h3 A3 (g2.trans g4) itOk_range⟩
    · cases q
  · cases q
theorem loop_go {K : PySem.W.Frag} {J : It} {g : D × M → Env' → Option Env'} {s h s1 h1 : Hp} {σ : St} {A A1 : List Addr} {ds : List D} {env env' : Env'} {fl : Fl} {E : Ends} (IO : ItOk K T J s1 ds) (g1 : Go K T s h A σ env s1 h1 A1) (q : forL g fb ds env = some (fl, env'))
    (w : EndS K T io s h A σ fl env' E) : ∃ W : Nat → Nat → St → Hp → Prop, (∃ m, W 0 m σ h1) ∧ ∀ i m σ H, W i m σ H → (J.stop i H ∧ E.nx σ H) ∨ (J.go i H ∧ ∃ N : St → Hp → Prop, (∀ σ' H', N σ' H' → ∃ m', m' < m ∧ W (i + 1) m' σ' H') ∧ ∀ x H', J.yld i H x H' →
      tGO K T io g x σ H' fun σ2 H2 => tS K T io fb { E with nx := N, ct := N, bk := E.nx } σ2 H2) := by
  refine ⟨fun i m σi H => m = ds.length - i ∧ i ≤ ds.length ∧ ∃ si envi Ai, Go K T s h A σi envi si H Ai ∧ Sub s1 si ∧ Pin io σ σi ∧ forL g fb (ds.drop i) envi = some (fl, env'),
    ⟨ds.length, by simp, Nat.zero_le _, s1, env, A1, g1, Sub.rfl', Pin.rfl', q⟩, ?_⟩
  rintro i m σi H ⟨rfl, hi, si, envi, Ai, gi, ui, pi, qi⟩
  by_cases hlt : i < ds.length
  · refine .inr ⟨IO.go i H (ui.trans gi.own.sub) hlt, fun σ' H' => i + 1 ≤ ds.length ∧ ∃ si envi Ai, Go K T s h A σ' envi si H' Ai ∧ Sub s1 si ∧ Pin io σ σ' ∧ forL g fb (ds.drop (i + 1)) envi = some (fl, env'),
      fun σ' H' hN => ⟨ds.length - (i + 1), by omega, rfl, hN.1, hN.2⟩, fun x H' hy => ?_⟩
    obtain ⟨d, s2, ed, g2, rx⟩ := IO.yld i si H x H' ui gi.own.sub gi.own.tab hlt hy
    have hdr : ds.drop i = d :: ds.drop (i + 1) := by
      obtain ⟨h0, h1'⟩ := List.getElem?_eq_some_iff.mp ed
      rw [← h1']
      exact (List.getElem_cons_drop h0).symm
    rw [hdr] at qi
    simp only [forL] at qi
    obtain ⟨env1, eg, qi⟩ := Option.bind_eq_some_iff.mp qi
    obtain ⟨⟨fl1, env2⟩, eb, qi⟩ := Option.bind_eq_some_iff.mp qi
    have g3 := gi.trans (Go.gr gi.own g2)
    have gx := GotE.sees g3 rx
    refine ⟨s2, d, im d, envi, Ai, [], env1, gx.hold, gx.rp, eg, fun σ2 s3 H2 A2 g4 p4 => ?_⟩
    have up : Sub s1 s3 := (ui.trans g2.ss).trans g4.st.ss
    have g4 := Go.after gx.st gx.wh g4
    refine ⟨s3, env1, A2, fl1, env2, g4.own, eb, ?_⟩
    have N1 : ∀ σ' s' h' A', Go K T s3 H2 A2 σ' env2 s' h' A' → Pin io σ2 σ' → forL g fb (ds.drop (i + 1)) env2 = some (fl, env') → i + 1 ≤ ds.length ∧ ∃ si envi Ai, Go K T s h A σ' envi si h' Ai ∧ Sub s1 si ∧ Pin io σ σ' ∧ forL g fb (ds.drop (i + 1)) envi = some (fl, env') :=
      fun σ' s' h' A' g5 p5 q5 => ⟨by omega, s', env2, A', g4.trans g5, up.trans g5.st.ss, (pi.trans p4).trans p5, q5⟩
    have wp := w.pre g4 (pi.trans p4)
    cases fl1 with
    | nx => exact fun σ' s' h' A' g5 p5 => N1 σ' s' h' A' g5 p5 qi
    | ct => exact fun σ' s' h' A' g5 p5 => N1 σ' s' h' A' g5 p5 qi
    | bk => cases qi; exact wp
    | rt d m => cases qi; exact wp
  · have hie : i = ds.length := by omega
    subst hie
    refine .inl ⟨IO.stop _ H (ui.trans gi.own.sub) (Nat.le_refl _), ?_⟩
    simp only [List.drop_length, forL] at qi
    cases qi
    exact w σi si H Ai gi pi
def sFor (i : Env' → Option (List D × Env')) (g : D × M → Env' → Option Env') (b : Sf) : Sf := fun env => (i env).bind fun x => forL g b x.1 x.2
theorem js_for {i : Env' → Option (List D × Env')} {g : D × M → Env' → Option Env'} (hp : PassesOwn (model X.prog X.w) X.A X.env X.xe) (hc : X.calm = true) (hi : JIE T X tg e i) (hg : JGO T X io tg g) (hb : JSs T X io body fb) (hs : ∀ x, foldedSetIterable e X.env x = pure x := by intro _; rfl) :
    JS T X io (.For tg e body [] pos) (sFor i g fb) := js_mk (ps_for hp hc hi hg hb hs) fun E σ h ⟨s, env, A, fl, env', o, q, w⟩ => by
  obtain ⟨⟨ds, env1⟩, e1, q⟩ := Option.bind_eq_some_iff.mp q
  exact ⟨s, env, A, ds, env1, o, e1, fun J s' h' A' g1 IO => loop_go IO g1 q w⟩
def whL (t : Env' → Option (Bool × Env')) (b : Sf) : Nat → Env' → Option (Fl × Env')
  | 0, _ => none
  | n + 1, env => (t env).bind fun x => if x.1 = true then (b x.2).bind fun r => match r.1 with
      | .nx => whL t b n r.2
      | .ct => whL t b n r.2
      | .bk => some (.nx, r.2)
      | .rt d m => some (.rt d m, r.2)
    else some (.nx, x.2)
theorem whL_mono {t : Env' → Option (Bool × Env')} : ∀ {n : Nat} {env : Env'} {r : Fl × Env'}, whL t fb n env = some r → whL t fb (n + 1) env = some r
  | 0, _, _, q => by simp [whL] at q
  | n + 1, env, r, q => by
    unfold whL at q ⊢
    obtain ⟨⟨z, env1⟩, e1, q⟩ := Option.bind_eq_some_iff.mp q
    rw [e1]
    dsimp only [Option.bind_some] at q ⊢
    cases z with
    | false => simpa using q
    | true =>
      simp only [if_true] at q ⊢
      obtain ⟨⟨fl, env2⟩, e2, q⟩ := Option.bind_eq_some_iff.mp q
      rw [e2]
      dsimp only [Option.bind_some] at q ⊢
      cases fl with
      | nx => exact whL_mono q
      | ct => exact whL_mono q
      | bk => exact q
      | rt d m => exact q
theorem whL_le {t : Env' → Option (Bool × Env')} {n m : Nat} {env : Env'} {r : Fl × Env'} (q : whL t fb n env = some r) (h : n ≤ m) : whL t fb m env = some r := by
  induction h with
  | refl => exact q
  | step _ ih => exact whL_mono ih
/-- more turns than any loop here makes -/
def fuel : Nat := 4294967296
def sWhile (t : Env' → Option (Bool × Env')) (b : Sf) : Sf := whL t b fuel
theorem sWhile_eq {t : Env' → Option (Bool × Env')} {n : Nat} {env : Env'} {r : Fl × Env'} (q : whL t fb n env = some r) (h : n ≤ fuel) : sWhile t fb env = some r := whL_le q h
theorem js_while {t : Env' → Option (Bool × Env')} (hp : PassesOwn (model X.prog X.w) X.A X.env X.xe) (hc : JTE T X c t) (hb : JSs T X io body fb) : JS T X io (.While c body [] pos) (sWhile t fb) := js_mk (ps_while hp hc hb) fun E σ h ⟨s, env, A, fl, env', o, q, w⟩ => by
  let n0 := fuel
  refine ⟨fun m σi H => ∃ si envi Ai, Go X.K T s h A σi envi si H Ai ∧ Pin io σ σi ∧ whL t fb m envi = some (fl, env'), ⟨n0, s, env, A, Go.refl o, Pin.rfl', q⟩, ?_⟩
  rintro m σi H ⟨si, envi, Ai, gi, pi, qi⟩
  cases m with
  | zero => simp [whL] at qi
  | succ m =>
    unfold whL at qi
    obtain ⟨⟨z, env1⟩, e1, qi⟩ := Option.bind_eq_some_iff.mp qi
    refine ⟨si, envi, Ai, z, env1, gi.own, e1, fun s1 h1 A1 g1 => ?_⟩
    cases z with
    | false =>
      simp only [Bool.false_eq_true, if_false] at qi ⊢
      cases qi
      exact w σi s1 h1 A1 (gi.trans g1) pi
    | true =>
      simp only [if_true] at qi ⊢
      obtain ⟨⟨fl1, env2⟩, e2, qi⟩ := Option.bind_eq_some_iff.mp qi
      refine ⟨fun σ' H' => ∃ si envi Ai, Go X.K T s h A σ' envi si H' Ai ∧ Pin io σ σ' ∧ whL t fb m envi = some (fl, env'), fun σ' H' hN => ⟨m, Nat.lt_succ_self m, hN⟩, s1, env1, A1, fl1, env2, g1.own, e2, ?_⟩
      have g2 := gi.trans g1
      have wp := w.pre g2 pi
      cases fl1 with
      | nx => exact fun σ' s' h' A' g5 p5 => ⟨s', env2, A', g2.trans g5, pi.trans p5, qi⟩
      | ct => exact fun σ' s' h' A' g5 p5 => ⟨s', env2, A', g2.trans g5, pi.trans p5, qi⟩
      | bk => cases qi; exact wp
      | rt d m => cases qi; exact wp
end
end G
set_option Elab.async false
set_option linter.all false
set_option maxRecDepth 100000
set_option maxHeartbeats 4000000
/-! G11: lists and dicts that are changed -/
namespace G
open PySem PySem.Spec PyProof.Rows L2
section
variable {K : PySem.W.Frag} {T : Tx} {s s' s1 s2 h h' h1 h2 : Hp} {σ : St} {env env' env1 env2 : Env'} {A A' A1 A2 W B : List Addr}
theorem RepL.two {v w : V} {x y : D × M} {B C : List Addr} (r : Rep K T s h v x.1 x.2 B) (q : Rep K T s h w y.1 y.2 C) : RepL K T s h [v, w] [x, y] (B ++ C) :=
  ⟨v, [w], B, C, rfl, rfl, r, w, [], C, [], rfl, (List.append_nil C).symm, q, rfl, rfl⟩
theorem RepL.two0 {v w : V} {x y : D × M} {C : List Addr} (r : Rep K T s h v x.1 x.2 []) (q : Rep K T s h w y.1 y.2 C) : RepL K T s h [v, w] [x, y] C := RepL.two r q
theorem RepL.non2 {w : V} {y : D × M} {C : List Addr} (q : Rep K T s h w y.1 y.2 C) : RepL K T s h [.non, w] [(.non, .dp), y] C := RepL.two0 (by simp [Rep, Deep]) q
/-- some things in the hand -/
structure Hd (K : PySem.W.Frag) (T : Tx) (s h : Hp) (A : List Addr) (σ : St) (env' : Env') (s' h' : Hp) (A' B : List Addr) : Prop where
  st : Step T A s h s' h'
  tab : Tabs T h'
  er : EnvRep K T s' h' σ env' A'
  nd : (A' ++ B).Nodup
  fr : ∀ a ∈ A' ++ B, s' a = none
  wh : ∀ a ∈ A' ++ B, a ∈ A ∨ h a = none
  mem : ∀ b ∈ B, ∃ o, h' b = some o ∧ Mu o
theorem GotL.hd {vs : List V} {ds : List (D × M)} (g : GotL K T s h A σ vs ds env s1 h1 A1 B) : Hd K T s h A σ env s1 h1 A1 B := ⟨g.st, g.tab, g.er, g.nd, g.fr, g.wh, g.rp.mem⟩
theorem Hd.got {vs : List V} {ds : List (D × M)} (g : Hd K T s h A σ env s1 h1 A1 B) (r : RepL K T s1 h1 vs ds B) : GotL K T s h A σ vs ds env s1 h1 A1 B := ⟨g.st, g.tab, g.er, r, g.nd, g.fr, g.wh⟩
/-- fewer, in another order -/
theorem Hd.less {B' : List Addr} (g : Hd K T s h A σ env s1 h1 A1 B) (nd : B'.Nodup) (sb : ∀ b ∈ B', b ∈ B) : Hd K T s h A σ env s1 h1 A1 B' := by
  obtain ⟨n1, n2, n3⟩ := List.nodup_append.mp g.nd
  have up : ∀ a ∈ A1 ++ B', a ∈ A1 ++ B := fun a ha => (List.mem_append.mp ha).elim (List.mem_append_left _) fun z => List.mem_append_right _ (sb a z)
  exact ⟨g.st, g.tab, g.er, List.nodup_append.mpr ⟨n1, nd, fun a ha b hb => n3 a ha b (sb b hb)⟩, fun a ha => g.fr a (up a ha), fun a ha => g.wh a (up a ha), fun b hb => g.mem b (sb b hb)⟩
/-- the object at p becomes o', what stands at S is shared -/
theorem Hd.change {p : Addr} {o o' : HO} {S B' : List Addr} (g : Hd K T s h A σ env s1 h1 A1 B) (hp : p ∈ B) (e : h1 p = some o) (mu : Mu o) (mu' : Mu o') (hS : ∀ b ∈ S, b ∈ B) (pS : p ∉ S) (sb : ∀ b ∈ B', b ∈ B) (dis : ∀ b ∈ B', b ∉ S) (nd : B'.Nodup) :
    Hd K T s h A σ env (shr s1 h1 S) (upd h1 p o') A1 B' := by
  obtain ⟨n1, n3, n4⟩ := List.nodup_append.mp g.nd
  have st0 : Step T A s h (shr s1 h1 S) h1 := g.st.shr fun b hb => g.wh b (List.mem_append_right _ (hS b hb))
  have n2 : shr s1 h1 S p = none := shr_none (g.fr p (List.mem_append_right _ hp)) e mu pS
  have st2 : Step T (A1 ++ B) (shr s1 h1 S) h1 (shr s1 h1 S) (upd h1 p o') := Step.putO st0.sub (List.mem_append_right _ hp) e mu n2
  refine ⟨st0.trans st2 g.wh, st2.tab g.tab, ?_, List.nodup_append.mpr ⟨n1, nd, fun a ha b hb z => n4 a ha b (sb b hb) z⟩, fun a ha => ?_, fun a ha => ?_, fun b hb => ?_⟩
  · refine (g.er.shr g.st.sub).keep Sub.rfl' st2.tup fun b hb => ?_
    rw [upd_ne (fun z => by subst z; exact n4 b hb b hp rfl)]
  · rcases List.mem_append.mp ha with ha | ha
    · obtain ⟨u, eu, mu⟩ := g.er.mem a ha
      exact shr_none (g.fr a (List.mem_append_left _ ha)) eu mu fun z => n4 a ha a (hS a z) rfl
    · obtain ⟨u, eu, mu⟩ := g.mem a (sb a ha)
      exact shr_none (g.fr a (List.mem_append_right _ (sb a ha))) eu mu (dis a ha)
  · rcases List.mem_append.mp ha with ha | ha
    · exact g.wh a (List.mem_append_left _ ha)
    · exact g.wh a (List.mem_append_right _ (sb a ha))
  · by_cases z : b = p
    · exact ⟨o', by rw [z, upd_same], mu'⟩
    · rw [upd_ne z]; exact g.mem b (sb b hb)
theorem DeepL.put {vs : List V} {ds : List D} {p : Addr} {o o' : HO} {C : List Addr} (r : DeepL K T h1 vs ds C) (e : h1 p = some o) (mu : Mu o) (n : p ∉ C) : DeepL K T (upd h1 p o') vs ds C :=
  DeepL.keep (fun a xs q => by rw [upd_ne (fun z => by subst z; rw [q] at e; cases e; exact mu.elim)]; exact q) ds r fun b hb => by rw [upd_ne (fun z => by subst z; exact n hb)]
theorem Deep.put {v : V} {d : D} {p : Addr} {o o' : HO} {C : List Addr} (r : Deep K T h1 v d C) (e : h1 p = some o) (mu : Mu o) (n : p ∉ C) : Deep K T (upd h1 p o') v d C :=
  Deep.keep (fun a xs q => by rw [upd_ne (fun z => by subst z; rw [q] at e; cases e; exact mu.elim)]; exact q) d r fun b hb => by rw [upd_ne (fun z => by subst z; exact n hb)]
/-- an item taken out of a list -/
theorem DeepL.erase : ∀ {vs : List V} {ds : List D} {C : List Addr} {i : Nat} {d : D}, DeepL K T h vs ds C → ds[i]? = some d → ∃ v C1 Ck C2, vs[i]? = some v ∧ C = C1 ++ (Ck ++ C2) ∧ Deep K T h v d Ck ∧ DeepL K T h (vs.eraseIdx i) (ds.eraseIdx i) (C1 ++ C2) ∧ (∀ {x y E}, Deep K T h x y E → DeepL K T h (vs.set i x) (ds.set i y) (C1 ++ (E ++ C2)))
  | _, [], _, _, _, _, e => by simp at e
  | _, d0 :: ds, _, 0, d, r, e => by
    simp only [DeepL] at r
    obtain ⟨v, q, B1, B2, rfl, rfl, r1, r2⟩ := r
    simp at e
    subst e
    refine ⟨v, [], B1, B2, rfl, rfl, r1, r2, fun {x y E} hx => ?_⟩
    simp only [List.set_cons_zero, DeepL]
    exact ⟨x, q, E, B2, rfl, rfl, hx, r2⟩
  | _, d0 :: ds, _, i + 1, d, r, e => by
    simp only [DeepL] at r
    obtain ⟨v, q, B1, B2, rfl, rfl, r1, r2⟩ := r
    obtain ⟨w, C1, Ck, C2, e1, rfl, r3, r4, r5⟩ := DeepL.erase (i := i) r2 (by simpa using e)
    refine ⟨w, B1 ++ C1, Ck, C2, by simpa using e1, by simp, r3, ?_, fun {x y E} hx => ?_⟩
    · simp only [List.eraseIdx_cons_succ, DeepL]
      exact ⟨v, _, B1, C1 ++ C2, rfl, by simp, r1, r4⟩
    · simp only [List.set_cons_succ, DeepL]
      exact ⟨v, _, B1, C1 ++ (E ++ C2), rfl, by simp, r1, r5 hx⟩
theorem SeesL.erase : ∀ {vs : List V} {ds : List D} {i : Nat}, SeesL K T h vs ds → SeesL K T h (vs.eraseIdx i) (ds.eraseIdx i)
  | _, [], _, r => by simp only [SeesL] at r; subst r; simp [SeesL]
  | _, d0 :: ds, 0, r => by
    simp only [SeesL] at r
    obtain ⟨v, q, rfl, r1, r2⟩ := r
    exact r2
  | _, d0 :: ds, i + 1, r => by
    simp only [SeesL] at r
    obtain ⟨v, q, rfl, r1, r2⟩ := r
    simp only [List.eraseIdx_cons_succ, SeesL]
    exact ⟨v, _, rfl, r1, SeesL.erase r2⟩
theorem SeesL.set : ∀ {vs : List V} {ds : List D} {i : Nat} {x : V} {y : D}, SeesL K T h vs ds → Sees K T h x y → SeesL K T h (vs.set i x) (ds.set i y)
  | _, [], _, _, _, r, _ => by simp only [SeesL] at r; subst r; simp [SeesL]
  | _, d0 :: ds, 0, x, y, r, hx => by
    simp only [SeesL] at r
    obtain ⟨v, q, rfl, r1, r2⟩ := r
    simp only [List.set_cons_zero, SeesL]
    exact ⟨x, q, rfl, hx, r2⟩
  | _, d0 :: ds, i + 1, x, y, r, hx => by
    simp only [SeesL] at r
    obtain ⟨v, q, rfl, r1, r2⟩ := r
    simp only [List.set_cons_succ, SeesL]
    exact ⟨v, _, rfl, r1, SeesL.set r2 hx⟩
theorem DeepL.rev : ∀ {vs : List V} {ds : List D} {C : List Addr}, DeepL K T h vs ds C → ∃ C', C'.Perm C ∧ DeepL K T h vs.reverse ds.reverse C'
  | _, [], _, r => by
    simp only [DeepL] at r
    obtain ⟨rfl, rfl⟩ := r
    exact ⟨[], List.Perm.refl _, by simp [DeepL]⟩
  | _, d :: ds, _, r => by
    simp only [DeepL] at r
    obtain ⟨v, q, B1, B2, rfl, rfl, r1, r2⟩ := r
    obtain ⟨C', p, r3⟩ := DeepL.rev r2
    refine ⟨C' ++ B1, (List.perm_append_comm).trans (List.Perm.append_left B1 p), ?_⟩
    simp only [List.reverse_cons]
    exact r3.app (DeepL.one r1)
end
/-- a method that changes its own list: what it does in the hand. g: the list, the other arguments; the answer, the list behind it -/
abbrev Mf := D × M → List (D × M) → Option ((D × M) × (D × M))
def OMut (T : Tx) (X : Cx) (id : String) (g : Mf) : Prop := ∃ r, MtM X id r ∧ ∀ (s h : Hp) (A : List Addr) (σ : St) (v : V) (vs : List V) (x : D × M) (ds : List (D × M)) (env : Env') (s1 h1 : Hp) (A1 B : List Addr) (y z : D × M) (Q : VK),
  GotL X.K T s h A σ (v :: vs) (x :: ds) env s1 h1 A1 B → g x ds = some (y, z) → (∀ w s2 h2 B2, GotL X.K T s h A σ [w, v] [y, z] env s2 h2 A1 B2 → Q w h2) → r v vs h1 Q
section
variable {X : Cx} {T : Tx}
def both (a b : M) : M := if a = .dp ∧ b = .dp then .dp else .o1
def gAppend : Mf := fun x ds => match x.1, x.2, ds with
  | .lst xs, .dp, [(d, m)] => if xs.length < lim then some ((.non, .dp), (.lst (xs ++ [d]), if m = .dp then .dp else .o1)) else none
  | .lst xs, .o1, [(d, _)] => if xs.length < lim then some ((.non, .dp), (.lst (xs ++ [d]), .o1)) else none
  | _, _, _ => none
theorem om_append : OMut T X "list.append" gAppend := by
  refine ⟨_, mt_append, fun s h A σ v vs x ds env s1 h1 A1 B y z Q g q w => ?_⟩
  obtain ⟨dx, mx⟩ := x
  have hh := g.hd
  obtain ⟨v', q', B0, B1, e1, rfl, r0, r1⟩ := g.rp
  cases e1
  unfold gAppend at q
  dsimp only at q r0
  split at q
  · rename_i xs d m
    split at q
    · rename_i hl
      cases q
      simp only [Rep, Deep] at r0
      obtain ⟨p, vs, C, rfl, e2, rfl, e3⟩ := r0
      obtain ⟨vx, q2, B2, B3, rfl, rfl, r2, r3⟩ := r1
      obtain ⟨rfl, rfl⟩ := r3
      rw [List.append_nil] at hh g
      obtain ⟨n1, n2, n3⟩ := List.nodup_append.mp hh.nd
      have n2' : (p :: (C ++ B2)).Nodup := by simpa using n2
      obtain ⟨np, n4⟩ := List.nodup_cons.mp n2'
      obtain ⟨n5, n6, n7⟩ := List.nodup_append.mp n4
      refine ⟨p, vs, vx, rfl, rfl, e2, by rw [DeepL.len _ e3, ← lim_eq]; exact hl, ?_⟩
      by_cases hm : m = .dp
      · subst hm
        have H2 := hh.change (o' := .lst (vs ++ [vx])) (S := []) (B' := p :: (C ++ B2)) (by simp) e2 trivial trivial (by simp) (by simp) (by simp) (by simp) n2'
        refine w _ _ _ _ (H2.got (RepL.non2 ?_))
        simp only [if_true, Rep, Deep]
        refine ⟨p, _, C ++ B2, rfl, upd_same, rfl, (e3.put e2 trivial (fun z => np (List.mem_append_left _ z))).app (DeepL.one (Deep.put (show Deep X.K T h1 vx d B2 from r2) e2 trivial (fun z => np (List.mem_append_right _ z))))⟩
      · have H2 := hh.change (o' := .lst (vs ++ [vx])) (S := C ++ B2) (B' := [p]) (by simp) e2 trivial trivial (fun b hb => by simpa using Or.inr (List.mem_append.mp hb)) np (by simp) (by simpa using np) (by simp)
        refine w _ _ _ _ (H2.got (RepL.non2 ?_))
        rw [if_neg hm]
        exact ⟨p, rfl, rfl, _, upd_same, (DeepL.shr _ e3 (fun b hb => List.mem_append_left _ hb)).app (SeesL.one (r2.shr g.st.sub fun b hb => List.mem_append_right _ hb))⟩
    · cases q
  · rename_i xs d m
    split at q
    · rename_i hl
      cases q
      simp only [Rep] at r0
      obtain ⟨p, rfl, rfl, vs, e2, e3⟩ := r0
      obtain ⟨vx, q2, B2, B3, rfl, rfl, r2, r3⟩ := r1
      obtain ⟨rfl, rfl⟩ := r3
      rw [List.append_nil] at hh g
      obtain ⟨n1, n2, n3⟩ := List.nodup_append.mp hh.nd
      have n2' : (p :: B2).Nodup := by simpa using n2
      obtain ⟨np, n4⟩ := List.nodup_cons.mp n2'
      refine ⟨p, vs, vx, rfl, rfl, e2, by rw [SeesL.len _ e3, ← lim_eq]; exact hl, ?_⟩
      have H2 := hh.change (o' := .lst (vs ++ [vx])) (S := B2) (B' := [p]) (by simp) e2 trivial trivial (fun b hb => by simp [hb]) np (by simp) (by simpa using np) (by simp)
      refine w _ _ _ _ (H2.got (RepL.non2 ?_))
      exact ⟨p, rfl, rfl, _, upd_same, (e3.ext (sub_shr g.st.sub)).app (SeesL.one (r2.shr g.st.sub fun b hb => hb))⟩
    · cases q
  · cases q
/-- an item out of a list in the hand -/
theorem erase_go {K : PySem.W.Frag} {s h s1 h1 : Hp} {A A1 B : List Addr} {σ : St} {env : Env'} {p : Addr} {vs : List V} {xs : List D} {mx m : M} {k : Nat} {d : D} {Q : VK} (g : GotL K T s h A σ [.ref p] [(.lst xs, mx)] env s1 h1 A1 B) (e2 : h1 p = some (.lst vs)) (hd : xs[k]? = some d)
    (hm : (mx = .dp ∧ m = .dp) ∨ (mx = .o1 ∧ m = im d)) (w : ∀ w s2 h2 B2, GotL K T s h A σ [w, .ref p] [(d, m), (.lst (xs.eraseIdx k), mx)] env s2 h2 A1 B2 → Q w h2) : ∃ y, vs[k]? = some y ∧ Q y (upd h1 p (.lst (vs.eraseIdx k))) := by
  have hh := g.hd
  obtain ⟨v', q', B0, B1, e1, rfl, r0, r1⟩ := g.rp
  cases e1
  obtain ⟨_, rfl⟩ := r1
  rw [List.append_nil] at hh g
  obtain ⟨n1, n2, n3⟩ := List.nodup_append.mp hh.nd
  rcases hm with ⟨rfl, rfl⟩ | ⟨rfl, rfl⟩
  · simp only [Rep, Deep] at r0
    obtain ⟨p', vs', C, e0, e2', rfl, e3⟩ := r0
    cases e0
    rw [e2] at e2'
    cases e2'
    obtain ⟨y, C1, Ck, C2, ey, rfl, dy, dr, _⟩ := e3.erase hd
    obtain ⟨np, n4⟩ := List.nodup_cons.mp n2
    have hp := (perm_mid C1 Ck C2)
    have n5 : ((C1 ++ C2) ++ Ck).Nodup := hp.nodup_iff.mp n4
    have nin : ∀ b, b ∈ C1 ++ C2 ∨ b ∈ Ck → b ≠ p := fun b hb z => by
      subst z
      exact np (hp.mem_iff.mpr (List.mem_append.mpr hb))
    have nB : (Ck ++ (p :: (C1 ++ C2))).Nodup := by
      obtain ⟨m1, m2, m3⟩ := List.nodup_append.mp n5
      refine List.nodup_append.mpr ⟨m2, List.nodup_cons.mpr ⟨fun z => nin p (.inl z) rfl, m1⟩, fun a ha b hb z => ?_⟩
      rcases List.mem_cons.mp hb with rfl | hb
      · exact nin a (.inr ha) z
      · exact m3 b hb a ha z.symm
    have H2 := hh.change (o' := .lst (vs.eraseIdx k)) (S := []) (B' := Ck ++ (p :: (C1 ++ C2))) (by simp) e2 trivial trivial (by simp) (by simp) (fun b hb => by
      rcases List.mem_append.mp hb with hb | hb
      · exact List.mem_cons_of_mem _ (hp.mem_iff.mpr (List.mem_append_right _ hb))
      · rcases List.mem_cons.mp hb with rfl | hb
        · exact List.mem_cons_self
        · exact List.mem_cons_of_mem _ (hp.mem_iff.mpr (List.mem_append_left _ hb))) (by simp) nB
    refine ⟨y, ey, w y _ _ _ (H2.got (RepL.two ?_ ?_))⟩
    · exact Deep.put dy e2 trivial fun z => nin p (.inr z) rfl
    · simp only [Rep, Deep]
      exact ⟨p, _, C1 ++ C2, rfl, upd_same, rfl, dr.put e2 trivial fun z => nin p (.inl z) rfl⟩
  · simp only [Rep] at r0
    obtain ⟨p', e0, rfl, vs', e2', e3⟩ := r0
    cases e0
    rw [e2] at e2'
    cases e2'
    obtain ⟨y, ey, sy⟩ := e3.get hd
    have H2 := hh.change (o' := .lst (vs.eraseIdx k)) (S := []) (B' := [p]) (by simp) e2 trivial trivial (by simp) (by simp) (by simp) (by simp) (by simp)
    refine ⟨y, ey, w y _ _ _ (H2.got (RepL.two0 ?_ ?_))⟩
    · exact (sy.ext (sub_shr g.st.sub) d).rep H2.st.sub
    · exact ⟨p, rfl, rfl, _, upd_same, (e3.ext (sub_shr g.st.sub)).erase⟩
/-- how an item comes out -/
def outM (mx : M) (d : D) : Option M := match mx with
  | .dp => some .dp
  | .o1 => some (im d)
  | .sh => none
theorem outM_cases {mx m : M} {d : D} (h : outM mx d = some m) : (mx = .dp ∧ m = .dp) ∨ (mx = .o1 ∧ m = im d) := by
  cases mx with
  | dp => cases h; exact .inl ⟨rfl, rfl⟩
  | o1 => cases h; exact .inr ⟨rfl, rfl⟩
  | sh => cases h
theorem lst_at {K : PySem.W.Frag} {s h : Hp} {v : V} {xs : List D} {mx : M} {B : List Addr} (u : Sub s h) (r : Rep K T s h v (.lst xs) mx B) : ∃ p vs, v = .ref p ∧ h p = some (.lst vs) ∧ vs.length = xs.length := by
  have r1 := r.sees u
  simp only [Sees] at r1
  obtain ⟨p, vs, rfl, e1, e2⟩ := r1
  exact ⟨p, vs, rfl, e1, SeesL.len _ e2⟩
def gPop : Mf := fun x ds => match x.1, ds with
  | .lst xs, [] => (xs[xs.length - 1]?).bind fun d => (outM x.2 d).bind fun m => some ((d, m), (.lst xs.dropLast, x.2))
  | _, _ => none
theorem om_pop : OMut T X "list.pop" gPop := by
  refine ⟨_, mt_pop, fun s h A σ v vs x ds env s1 h1 A1 B y z Q g q w => ?_⟩
  obtain ⟨dx, mx⟩ := x
  unfold gPop at q
  dsimp only at q
  split at q
  · rename_i xs
    obtain ⟨d, e1, q⟩ := Option.bind_eq_some_iff.mp q
    obtain ⟨m, e2, q⟩ := Option.bind_eq_some_iff.mp q
    cases q
    obtain ⟨v', q', B0, B1, e0, rfl, r0, r1⟩ := g.rp
    cases e0
    obtain ⟨rfl, rfl⟩ := r1
    obtain ⟨p, ws, rfl, e3, e4⟩ := lst_at g.st.sub r0
    have ed : xs.dropLast = xs.eraseIdx (xs.length - 1) := by
      cases xs with
      | nil => rfl
      | cons a l => rw [List.eraseIdx_eq_dropLast (by simp)]
    have ew : ws.dropLast = ws.eraseIdx (ws.length - 1) := by
      cases ws with
      | nil => rfl
      | cons a l => rw [List.eraseIdx_eq_dropLast (by simp)]
    rw [ed] at w
    obtain ⟨y, ey, qy⟩ := erase_go (m := m) g e3 e1 (outM_cases e2) w
    refine ⟨p, ws, y, rfl, rfl, e3, by rw [e4]; exact ey, ?_⟩
    rw [ew, e4]
    exact qy
  · cases q
def gPopAt : Mf := fun x ds => match x.1, ds with
  | .lst xs, [(.int i, _)] => if bd62 i then (seqIndex? i xs.length).bind fun k => (xs[k]?).bind fun d => (outM x.2 d).bind fun m => some ((d, m), (.lst (xs.eraseIdx k), x.2)) else none
  | _, _ => none
theorem om_popAt : OMut T X "list.pop" gPopAt := by
  refine ⟨_, mt_popAt, fun s h A σ v vs x ds env s1 h1 A1 B y z Q g q w => ?_⟩
  obtain ⟨dx, mx⟩ := x
  unfold gPopAt at q
  dsimp only at q
  split at q
  · rename_i xs i mi
    split at q
    · rename_i hb
      replace hb := bd62_b hb
      obtain ⟨k, e5, q⟩ := Option.bind_eq_some_iff.mp q
      obtain ⟨d, e1, q⟩ := Option.bind_eq_some_iff.mp q
      obtain ⟨m, e2, q⟩ := Option.bind_eq_some_iff.mp q
      cases q
      have gg := g
      obtain ⟨v', q', B0, B1, e0, rfl, r0, r1⟩ := g.rp
      cases e0
      obtain ⟨vi, q2, B2, B3, rfl, rfl, r2, rfl, rfl⟩ := r1
      have si := r2.sees g.st.sub
      simp only [Sees] at si
      subst si
      obtain ⟨p, ws, rfl, e3, e4⟩ := lst_at g.st.sub r0
      have hB : B0.Nodup := (List.nodup_append.mp (List.nodup_append.mp g.nd).2.1).1
      have g1 : GotL X.K T s h A σ [.ref p] [(.lst xs, mx)] env s1 h1 A1 B0 := (g.hd.less hB (fun b hb => List.mem_append_left _ hb)).got ⟨.ref p, [], B0, [], rfl, by simp, r0, rfl, rfl⟩
      obtain ⟨y, ey, qy⟩ := erase_go (m := m) g1 e3 e1 (outM_cases e2) w
      exact ⟨p, ws, i, k, y, rfl, rfl, e3, by omega, by omega, by rw [e4]; exact e5, ey, qy⟩
    · cases q
  · cases q
def gReverse : Mf := fun x ds => match x.1, x.2, ds with
  | .lst xs, .dp, [] => some ((.non, .dp), (.lst xs.reverse, .dp))
  | .lst xs, .o1, [] => some ((.non, .dp), (.lst xs.reverse, .o1))
  | _, _, _ => none
theorem om_reverse : OMut T X "list.reverse" gReverse := by
  refine ⟨_, mt_reverse, fun s h A σ v vs x ds env s1 h1 A1 B y z Q g q w => ?_⟩
  obtain ⟨dx, mx⟩ := x
  have hh := g.hd
  obtain ⟨v', q', B0, B1, e1, rfl, r0, r1⟩ := g.rp
  cases e1
  unfold gReverse at q
  dsimp only at q r0
  split at q
  · rename_i xs
    cases q
    obtain ⟨rfl, rfl⟩ := r1
    rw [List.append_nil] at hh
    simp only [Rep, Deep] at r0
    obtain ⟨p, vs, C, rfl, e2, rfl, e3⟩ := r0
    obtain ⟨n1, n2, n3⟩ := List.nodup_append.mp hh.nd
    obtain ⟨np, n4⟩ := List.nodup_cons.mp n2
    obtain ⟨C', pm, r3⟩ := e3.rev
    refine ⟨p, vs, rfl, rfl, e2, ?_⟩
    have np' : p ∉ C' := fun z => np (pm.mem_iff.mp z)
    have H2 := hh.change (o' := .lst vs.reverse) (S := []) (B' := p :: C') (by simp) e2 trivial trivial (by simp) (by simp) (fun b hb => by
      rcases List.mem_cons.mp hb with rfl | hb
      · exact List.mem_cons_self
      · exact List.mem_cons_of_mem _ (pm.mem_iff.mp hb)) (by simp) (List.nodup_cons.mpr ⟨np', pm.nodup_iff.mpr n4⟩)
    refine w _ _ _ _ (H2.got (RepL.non2 ?_))
    simp only [Rep, Deep]
    exact ⟨p, _, C', rfl, upd_same, rfl, r3.put e2 trivial np'⟩
  · rename_i xs
    cases q
    obtain ⟨rfl, rfl⟩ := r1
    rw [List.append_nil] at hh
    simp only [Rep] at r0
    obtain ⟨p, rfl, rfl, vs, e2, e3⟩ := r0
    refine ⟨p, vs, rfl, rfl, e2, ?_⟩
    have H2 := hh.change (o' := .lst vs.reverse) (S := []) (B' := [p]) (by simp) e2 trivial trivial (by simp) (by simp) (by simp) (by simp) (by simp)
    refine w _ _ _ _ (H2.got (RepL.non2 ?_))
    exact ⟨p, rfl, rfl, _, upd_same, (e3.ext (sub_shr g.st.sub)).rev⟩
  · cases q
end
/-! ### the calls: on a slot, on what is only in the hand -/
section
variable {X : Cx} {T : Tx} {a b c e o tg : Expr} {es : List Expr} {f k : Env' → Option (D × M × Env')} {pos p apos cpos : Pos}
theorem GotL.fst {K : PySem.W.Frag} {s h s1 h1 : Hp} {A A1 B : List Addr} {σ : St} {w v : V} {y z : D × M} {env : Env'} {j : Nat} (g : GotL K T s h A σ [w, v] [y, z] env s1 h1 A1 B) (e : env[j]? = some none) (eσ : σ[j]? = some (some v)) :
    ∃ A2 B2, GotE K T s h A σ w y.1 y.2 (env.set j (some z)) s1 h1 A2 B2 := by
  obtain ⟨w', q, B1, B2, e1, rfl, r1, r2⟩ := g.rp
  cases e1
  obtain ⟨v', q, B3, B4, e1, rfl, r3, r4⟩ := r2
  cases e1
  obtain ⟨_, rfl⟩ := r4
  obtain ⟨C1, C2, rfl, q⟩ := g.er.putO e eσ (dm := z) r3
  have p1 : (C1 ++ (B3 ++ C2)).Perm ((C1 ++ C2) ++ B3) := perm_mid C1 B3 C2
  have p2 : ((C1 ++ (B3 ++ C2)) ++ B1).Perm ((C1 ++ C2) ++ (B1 ++ (B3 ++ []))) := by
    rw [List.append_nil]
    exact (List.Perm.append_right B1 p1).trans (by rw [List.append_assoc]; exact List.Perm.append_left _ List.perm_append_comm)
  exact ⟨C1 ++ (B3 ++ C2), B1, g.st, g.tab, q, r1, p2.nodup_iff.mpr g.nd, fun a ha => g.fr a (p2.mem_iff.mp ha), fun a ha => g.wh a (p2.mem_iff.mp ha)⟩
def isLst : Option (Option (D × M)) → Bool
  | some (some (.lst _, _)) => true
  | _ => false
/-- the step on slot j behind the arguments -/
def eOn (j : Nat) (g : Mf) (r : List (D × M) × Env') : Option (D × M × Env') := match r.2[j]? with
  | some (some x) => (g x r.1).bind fun y => some (y.1.1, y.1.2, r.2.set j (some y.2))
  | _ => none
def eMut (j : Nat) (g : Mf) (k : Env' → Option (List (D × M) × Env')) : Env' → Option (D × M × Env') := fun env => if isLst env[j]? then (k env).bind (eOn j g) else none
/-- slot j taken behind the arguments -/
theorem GotL.takeC {K : PySem.W.Frag} {s h s1 h1 : Hp} {A A1 B : List Addr} {σ : St} {vs : List V} {ds : List (D × M)} {env : Env'} {j : Nat} {x : D × M} (g : GotL K T s h A σ vs ds env s1 h1 A1 B) (e : env[j]? = some (some x)) :
    ∃ v A2 B2, σ[j]? = some (some v) ∧ GotL K T s h A σ (v :: vs) (x :: ds) (env.set j none) s1 h1 A2 B2 := by
  obtain ⟨v, C1, Bx, C2, e1, rfl, e2, e3⟩ := g.er.takeO e
  have p1 := perm_mid C1 Bx C2
  have p2 : ((C1 ++ (Bx ++ C2)) ++ B).Perm ((C1 ++ C2) ++ (Bx ++ B)) := (List.Perm.append_right B p1).trans (by rw [List.append_assoc])
  exact ⟨v, C1 ++ C2, Bx ++ B, e1, g.st, g.tab, e3, ⟨v, vs, Bx, B, rfl, rfl, e2, g.rp⟩, p2.nodup_iff.mp g.nd, fun a ha => g.fr a (p2.mem_iff.mpr ha), fun a ha => g.wh a (p2.mem_iff.mpr ha)⟩
theorem eOn_go {K : PySem.W.Frag} {g : Mf} {r : V → List V → Hp → VK → Prop} {s h s1 h1 : Hp} {A A1 B : List Addr} {σ : St} {vs : List V} {ds : List (D × M)} {env env' : Env'} {j : Nat} {d : D} {m : M} {Q : VK}
    (ho : ∀ (s h : Hp) (A : List Addr) (σ : St) (v : V) (vs : List V) (x : D × M) (ds : List (D × M)) (env : Env') (s1 h1 : Hp) (A1 B : List Addr) (y z : D × M) (Q : VK),
  GotL K T s h A σ (v :: vs) (x :: ds) env s1 h1 A1 B → g x ds = some (y, z) → (∀ w s2 h2 B2, GotL K T s h A σ [w, v] [y, z] env s2 h2 A1 B2 → Q w h2) → r v vs h1 Q)
    (g1 : GotL K T s h A σ vs ds env s1 h1 A1 B) (q : eOn j g (ds, env) = some (d, m, env')) (w : ∀ v s' h' A' B, GotE K T s h A σ v d m env' s' h' A' B → Q v h') : ∃ v, σ[j]? = some (some v) ∧ r v vs h1 Q := by
  unfold eOn at q
  dsimp only at q
  split at q
  · rename_i x ex
    obtain ⟨⟨y, z⟩, e1, q⟩ := Option.bind_eq_some_iff.mp q
    cases q
    obtain ⟨v, A2, B2, eσ, g2⟩ := g1.takeC ex
    refine ⟨v, eσ, ho s h A σ v vs x ds _ s1 h1 A2 B2 y z Q g2 e1 fun u s2 h2 B3 g3 => ?_⟩
    obtain ⟨A4, B4, g4⟩ := g3.fst (get_hole ex) eσ
    rw [set_set_none] at g4
    exact w u s2 h2 A4 B4 g4
  · cases q
theorem slot_list {K : PySem.W.Frag} {s h : Hp} {σ : St} {env : Env'} {A : List Addr} {j : Nat} (o : Own K T s h σ env A) (e : isLst env[j]? = true) : ∃ p vs, σ[j]? = some (some (.ref p)) ∧ h p = some (.lst vs) := by
  unfold isLst at e
  split at e
  · rename_i xs m ex
    obtain ⟨v, B, e1, e2, _⟩ := o.er.get ex
    obtain ⟨p, vs, rfl, e3, _⟩ := lst_at o.sub e2
    exact ⟨p, vs, e1, e3⟩
  · cases e
variable {name : Str} {id : String} {g : Mf} {j : Nat} {x : Str} {ka : Env' → Option (List (D × M) × Env')}
theorem je_mut (slot : Slot "list" name id) (hty : typeOf (.builtin id) = pure (.type "method_descriptor")) (om : OMut T X id g) (hN : X.N[j]? = some x) (ha : JAE T X (e :: es) ka) (hv : Vis X.env.scope x := by first | exact Or.inl rfl | exact Or.inr (Or.inl rfl) | exact Or.inr (Or.inr rfl)) (hd : (x == ("__debug__" : Str)) = false := by decide) (hcd : (x == ("__classdict__" : Str)) = false := by decide)
    (hbase : attributeBase (.Name x p) name X.env (eval (.Name x p) X.env) = eval (.Name x p) X.env := by rfl)
    (hfew : ((backTo cpos (starEach (e :: es) X.env)).all (fun x => !x.1) && (backToKw cpos (keywordEach [] X.env)).all (fun x => x.1.isSome)
      && decide ((e :: es).length + ([] : List Keyword).length + (if ([] : List Keyword).isEmpty then 0 else 1) < 30)) = true := by rfl)
    (hline : (apos.endLine == cpos.line) = true := by rfl) (hs : starEach (e :: es) X.env = (false, eval e X.env) :: starEach es X.env := by rfl) (hplain : (backTo cpos (starEach es X.env)).any (·.1) = false := by rfl) :
    JE T X (.Call (.Attribute (.Name x p) name apos) (e :: es) [] cpos) (eMut j g ka) := by
  obtain ⟨r, o1, o2⟩ := om
  refine je_mk (pe_bm PySem.F.plainAttrs_list slot hty o1 (pe_var hN hv hd hcd) ha hbase hfew hline hs hplain) fun σ h Q ⟨s, env, A, d, m, env', o, q, w⟩ => ?_
  unfold eMut at q
  split at q
  · rename_i hl
    obtain ⟨⟨ds, env1⟩, e1, q⟩ := Option.bind_eq_some_iff.mp q
    obtain ⟨p0, ws, eσ, ew⟩ := slot_list o hl
    refine ⟨.ref p0, eσ, .inl ⟨rfl, ws, SqL.of ew⟩, s, env, A, ds, env1, o, e1, fun vs s1 h1 A1 B1 g1 => ?_⟩
    obtain ⟨v, eσ', rr⟩ := eOn_go o2 g1 q w
    rw [eσ] at eσ'
    cases eσ'
    exact rr
  · cases q
def eMut0 (j : Nat) (g : Mf) : Env' → Option (D × M × Env') := fun env => if isLst env[j]? then eOn j g ([], env) else none
theorem je_mut0 (slot : Slot "list" name id) (hty : typeOf (.builtin id) = pure (.type "method_descriptor")) (om : OMut T X id g) (hN : X.N[j]? = some x) (hv : Vis X.env.scope x := by first | exact Or.inl rfl | exact Or.inr (Or.inl rfl) | exact Or.inr (Or.inr rfl)) (hd : (x == ("__debug__" : Str)) = false := by decide) (hcd : (x == ("__classdict__" : Str)) = false := by decide)
    (hbase : attributeBase (.Name x p) name X.env (eval (.Name x p) X.env) = eval (.Name x p) X.env := by rfl) (hline : (apos.endLine == cpos.line) = true := by rfl) : JE T X (.Call (.Attribute (.Name x p) name apos) [] [] cpos) (eMut0 j g) := by
  obtain ⟨r, o1, o2⟩ := om
  refine je_mk (pe_bm0 PySem.F.plainAttrs_list slot hty o1 (pe_var hN hv hd hcd) hbase hline) fun σ h Q ⟨s, env, A, d, m, env', o, q, w⟩ => ?_
  unfold eMut0 at q
  split at q
  · rename_i hl
    obtain ⟨p0, ws, eσ, ew⟩ := slot_list o hl
    refine ⟨.ref p0, eσ, .inl ⟨rfl, ws, SqL.of ew⟩, ?_⟩
    obtain ⟨v, eσ', rr⟩ := eOn_go o2 (GotL.nil o) q w
    rw [eσ] at eσ'
    cases eσ'
    exact rr
  · cases q
/-- on a list that is only in the hand (its change is seen by none) -/
def eTmp (f : Env' → Option (D × M × Env')) (g : Mf) (k : Env' → Option (List (D × M) × Env')) : Env' → Option (D × M × Env') := fun env => (f env).bind fun x => match x.1 with
  | .lst _ => (k x.2.2).bind fun r => (g (x.1, x.2.1) r.1).bind fun y => some (y.1.1, y.1.2, r.2)
  | _ => none
theorem je_tmp (slot : Slot "list" name id) (hty : typeOf (.builtin id) = pure (.type "method_descriptor")) (om : OMut T X id g) (ho : JE T X o f) (ha : JAE T X (e :: es) ka)
    (hbase : attributeBase o name X.env (eval o X.env) = eval o X.env := by rfl)
    (hfew : ((backTo cpos (starEach (e :: es) X.env)).all (fun x => !x.1) && (backToKw cpos (keywordEach [] X.env)).all (fun x => x.1.isSome)
      && decide ((e :: es).length + ([] : List Keyword).length + (if ([] : List Keyword).isEmpty then 0 else 1) < 30)) = true := by rfl)
    (hline : (apos.endLine == cpos.line) = true := by rfl) (hs : starEach (e :: es) X.env = (false, eval e X.env) :: starEach es X.env := by rfl) (hplain : (backTo cpos (starEach es X.env)).any (·.1) = false := by rfl) :
    JE T X (.Call (.Attribute o name apos) (e :: es) [] cpos) (eTmp f g ka) := by
  obtain ⟨r, o1, o2⟩ := om
  refine je_mk (pe_bm PySem.F.plainAttrs_list slot hty o1 ho ha hbase hfew hline hs hplain) fun σ h Q ⟨s, env, A, d, m, env', o, q, w⟩ => ?_
  obtain ⟨⟨dx, mx, env1⟩, e1, q⟩ := Option.bind_eq_some_iff.mp q
  dsimp only at q
  split at q
  · rename_i xs
    obtain ⟨⟨ds, env2⟩, e2, q⟩ := Option.bind_eq_some_iff.mp q
    obtain ⟨⟨y, z⟩, e3, q⟩ := Option.bind_eq_some_iff.mp q
    cases q
    refine ⟨s, env, A, _, mx, env1, o, e1, fun v s1 h1 A1 B1 g1 => ?_⟩
    obtain ⟨p0, ws, rfl, ew, _⟩ := lst_at g1.st.sub g1.rp
    refine ⟨.inl ⟨rfl, ws, SqL.of ew⟩, s1, env1, A1, ds, _, g1.own, e2, fun vs s2 h2 A2 B2 g2 => ?_⟩
    refine o2 s h A σ _ vs _ ds _ s2 h2 A2 _ y z Q (GotL.cons g1 g2) e3 fun u s3 h3 B3 g3 => ?_
    obtain ⟨w', q', C1, C2, e4, rfl, g4, _⟩ := g3.head
    cases e4
    exact w u s3 h3 A2 C1 g4
  · cases q
end
end G
set_option Elab.async false
set_option linter.all false
set_option maxRecDepth 100000
set_option maxHeartbeats 4000000
/-! G12: x[i] = v -/
namespace G
open PySem PySem.Spec PyProof.Rows L2
section
variable {K : PySem.W.Frag} {T : Tx} {s s' s1 s2 h h' h1 h2 : Hp} {σ : St} {env env' env1 env2 : Env'} {A A' A1 A2 W B : List Addr}
theorem GotE.grow {v : V} {d : D} {m : M} (g : GotE K T s h A σ v d m env s1 h1 A1 B) (x : Gr T s1 h1 s2 h2) : GotE K T s h A σ v d m env s2 h2 A1 B := by
  have old : ∀ b ∈ A1 ++ B, ∃ o, h1 b = some o ∧ Mu o := fun b hb => (List.mem_append.mp hb).elim (fun z => g.er.mem b z) fun z => g.rp.mem b z
  exact ⟨g.st.trans (x.step (A1 ++ B)) g.wh, x.tab g.tab, g.er.grow x, g.rp.grow x, g.nd, fun a ha => by
    obtain ⟨o, e, mu⟩ := old a ha
    exact grow_none x e mu (g.fr a ha), g.wh⟩
theorem GotE.view {v : V} {d : D} {m : M} (g : GotE K T s h A σ v d m env s1 h1 A1 B) : At K T h1 h1 σ (vw env) := g.own.at
end
section
variable {X : Cx} {T : Tx} {io : List Bool} {a b c e i tg : Expr} {es : List Expr} {f k : Env' → Option (D × M × Env')} {fi : VEnv → Option (D × M)} {pos p apos cpos : Pos}
/-- where a value goes that is put into a list or dict held so -/
def inM (mx m : M) : Option M := match mx with
  | .dp => some (if m = .dp then .dp else .o1)
  | .o1 => some .o1
  | .sh => none
/-- the object at p of the hand's first thing becomes o', keeping its parts, the second thing goes into it: what is then held -/
def setAtD (xs : List D) (n : Option Nat) (x : D × M) (mx : M) : Option (D × M) := n.bind fun k => if k < xs.length then (inM mx x.2).bind fun m => some (.lst (xs.set k x.1), m) else none
theorem setAt_go {K : PySem.W.Frag} {s h s1 h1 : Hp} {A A1 B : List Addr} {σ : St} {env : Env'} {v y : V} {xs : List D} {mx : M} {k : Nat} {x : D × M} {z : D × M} (g : GotL K T s h A σ [v, y] [(.lst xs, mx), x] env s1 h1 A1 B) (q : setAtD xs (some k) x mx = some z) :
    ∃ p vs, v = .ref p ∧ h1 p = some (.lst vs) ∧ vs.length = xs.length ∧ k < vs.length ∧ ∃ s2 B2, GotE K T s h A σ v z.1 z.2 env s2 (upd h1 p (.lst (vs.set k y))) A1 B2 ∧ (∀ b ∈ B2, b ∈ B) ∧ Sub s1 s2 := by
  have hh := g.hd
  obtain ⟨v', q', B0, B1, e1, rfl, r0, r1⟩ := g.rp
  cases e1
  obtain ⟨y', q', B2, B3, e1, rfl, r2, r3⟩ := r1
  cases e1
  obtain ⟨_, rfl⟩ := r3
  rw [List.append_nil] at hh g
  have fin : ∀ {s2 h2 : Hp} {d : D} {m : M} {B' : List Addr} {v : V}, Hd K T s h A σ env s2 h2 A1 B' → Rep K T s2 h2 v d m B' → GotE K T s h A σ v d m env s2 h2 A1 B' := fun H R => ⟨H.st, H.tab, H.er, R, H.nd, H.fr, H.wh⟩
  simp only [setAtD, Option.bind_some] at q
  split at q
  · rename_i hk
    obtain ⟨m, e1, q⟩ := Option.bind_eq_some_iff.mp q
    cases q
    cases mx with
    | sh => simp [inM] at e1
    | dp =>
      simp only [Rep, Deep] at r0
      obtain ⟨p, vs, C, rfl, e2, rfl, e3⟩ := r0
      have hl := DeepL.len _ e3
      refine ⟨p, vs, rfl, e2, hl, by omega, ?_⟩
      obtain ⟨n1, n2, n3⟩ := List.nodup_append.mp hh.nd
      have n2' : (p :: (C ++ B2)).Nodup := by simpa using n2
      obtain ⟨np, n4⟩ := List.nodup_cons.mp n2'
      obtain ⟨n5, n6, n7⟩ := List.nodup_append.mp n4
      simp only [inM, Option.some.injEq] at e1
      by_cases hm : x.2 = .dp
      · rw [if_pos hm] at e1
        subst e1
        obtain ⟨u, C1, Ck, C2, ey, rfl, dy, dr, ds⟩ := e3.erase (List.getElem?_eq_getElem hk)
        have hx : Deep K T h1 y x.1 B2 := by rw [hm] at r2; exact r2
        have sbC : ∀ b, b ∈ C1 ++ (B2 ++ C2) → b ∈ (C1 ++ (Ck ++ C2)) ++ B2 := fun b hb => by
          simp only [List.mem_append] at hb ⊢
          rcases hb with hb | hb | hb
          · exact .inl (.inl hb)
          · exact .inr hb
          · exact .inl (.inr (.inr hb))
        have ndC : (C1 ++ (B2 ++ C2)).Nodup := by
          have sb : ((C1 ++ C2) ++ B2).Sublist ((C1 ++ (Ck ++ C2)) ++ B2) := List.Sublist.append (List.Sublist.append (List.Sublist.refl _) (List.sublist_append_right _ _)) (List.Sublist.refl _)
          exact (perm_mid C1 B2 C2).nodup_iff.mpr (List.Nodup.sublist sb n4)
        have np2 : p ∉ C1 ++ (B2 ++ C2) := fun z => np (sbC p z)
        have H2 := hh.change (o' := .lst (vs.set k y)) (S := []) (B' := p :: (C1 ++ (B2 ++ C2))) (by simp) e2 trivial trivial (by simp) (by simp) (fun b hb => by
          rcases List.mem_cons.mp hb with rfl | hb
          · simp
          · have := sbC b hb
            simp only [List.mem_append, List.mem_cons] at this ⊢
            rcases this with z | z
            · exact .inl (.inr z)
            · exact .inr z) (by simp) (List.nodup_cons.mpr ⟨np2, ndC⟩)
        refine ⟨_, _, fin H2 ?_, fun b hb => ?_, sub_shr g.st.sub⟩
        · simp only [Rep, Deep]
          exact ⟨p, _, C1 ++ (B2 ++ C2), rfl, upd_same, rfl, (ds hx).put e2 trivial np2⟩
        · rcases List.mem_cons.mp hb with rfl | hb
          · simp
          · have := sbC b hb
            simp only [List.mem_append, List.mem_cons] at this ⊢
            rcases this with z | z
            · exact .inl (.inr z)
            · exact .inr (.inl z)
      · rw [if_neg hm] at e1
        subst e1
        have H2 := hh.change (o' := .lst (vs.set k y)) (S := C ++ B2) (B' := [p]) (by simp) e2 trivial trivial (fun b hb => by simpa using Or.inr (List.mem_append.mp hb)) np (by simp) (by simpa using np) (by simp)
        refine ⟨_, _, fin H2 ?_, fun b hb => by simp at hb; simp [hb], sub_shr g.st.sub⟩
        exact ⟨p, rfl, rfl, _, upd_same, (DeepL.shr _ e3 (fun b hb => List.mem_append_left _ hb)).set (r2.shr g.st.sub fun b hb => List.mem_append_right _ hb)⟩
    | o1 =>
      simp only [inM, Option.some.injEq] at e1
      subst e1
      simp only [Rep] at r0
      obtain ⟨p, rfl, rfl, vs, e2, e3⟩ := r0
      have hl := SeesL.len _ e3
      refine ⟨p, vs, rfl, e2, hl, by omega, ?_⟩
      obtain ⟨n1, n2, n3⟩ := List.nodup_append.mp hh.nd
      have n2' : (p :: B2).Nodup := by simpa using n2
      obtain ⟨np, n4⟩ := List.nodup_cons.mp n2'
      have H2 := hh.change (o' := .lst (vs.set k y)) (S := B2) (B' := [p]) (by simp) e2 trivial trivial (fun b hb => by simp [hb]) np (by simp) (by simpa using np) (by simp)
      refine ⟨_, _, fin H2 ?_, fun b hb => by simp at hb; simp [hb], sub_shr g.st.sub⟩
      exact ⟨p, rfl, rfl, _, upd_same, (e3.ext (sub_shr g.st.sub)).set (r2.shr g.st.sub fun b hb => hb)⟩
  · cases q
def gSetL (j : Nat) (fi : VEnv → Option (D × M)) : D × M → Env' → Option Env' := fun x env => (fi (vw env)).bind fun iv => match iv.1, env[j]? with
  | .int i, some (some (.lst xs, mx)) => (setAtD xs (ixN xs.length i) x mx).bind fun z => some (env.set j (some z))
  | _, _ => none
theorem jgo_setL {j : Nat} {x : Str} {spos : Pos} (hN : X.N[j]? = some x) (hi : JP T X i fi) (hv : Vis X.env.scope x := by first | exact Or.inl rfl | exact Or.inr (Or.inl rfl) | exact Or.inr (Or.inr rfl)) (hd : (x == ("__debug__" : Str)) = false := by decide) (hcd : (x == ("__classdict__" : Str)) = false := by decide)
    (ha : ∀ v, assign (.Subscript (.Name x p) i spos) X.env v = (do
      let ov ← holding [v] (eval (.Name x p) X.env)
      let iv ← holding [v, ov] (eval i X.env)
      standAt spos
      holding [v, ov, iv] (setItem ov iv v)
      release [v, ov, iv] []) := by intro _; rfl) : JGO T X io (.Subscript (.Name x p) i spos) (gSetL j fi) := by
  obtain ⟨ti, i1, i2⟩ := hi
  refine ⟨fun pins sx σ H v u Q I r ⟨s, d, m, env, A, B, env', g0, rp, q, w⟩ => ?_⟩
  refine (pg_sub (pe_var hN hv hd hcd) i1 set_list ha).run pins sx σ H v u Q I r ?_
  have g := g0.gotE rp
  obtain ⟨⟨di, mi⟩, e1, q⟩ := Option.bind_eq_some_iff.mp q
  dsimp only at q
  split at q
  · rename_i ii xs mx ej
    obtain ⟨z, e2, q⟩ := Option.bind_eq_some_iff.mp q
    cases q
    obtain ⟨k, ek⟩ : ∃ k, ixN xs.length ii = some k := by
      unfold setAtD at e2
      cases hk : ixN xs.length ii with
      | none => rw [hk] at e2; simp at e2
      | some k => exact ⟨k, rfl⟩
    rw [ek] at e2
    obtain ⟨vj, Bj, ev, _, _⟩ := g.own.er.get ej
    refine ⟨vj, ev, i2 σ H H (vw env) _ mi _ g.view e1 fun iv s' h' Bi Gi => ?_⟩
    obtain ⟨gg, ri⟩ := Gi.seen
    simp only [Sees] at ri
    subst ri
    have g2 := g.grow (Gr.own_of g.st.sub gg)
    obtain ⟨v2, A2, B2, ev2, g3⟩ := g2.one.takeC ej
    rw [ev] at ev2
    cases ev2
    obtain ⟨p0, ws, rfl, e3, e4, e5, s3, B3, g4, sb, u3⟩ := setAt_go g3 e2
    refine ⟨p0, ws, ii, k, rfl, rfl, e3, by rw [e4]; exact ek, ?_⟩
    obtain ⟨A5, g5⟩ := g4.put (get_hole ej) ev
    rw [set_set_none] at g5
    exact w σ s3 _ A5 g5 Pin.rfl'
  · cases q
end
end G
set_option Elab.async false
set_option linter.all false
set_option maxRecDepth 100000
set_option maxHeartbeats 4000000
/-! G13: defs, calls, objects -/
namespace G
open PySem PySem.Spec PyProof.Rows L2
/-! ### what a def promises -/
abbrev Fi := List (D × M) → Option (D × M × List (D × M))
def spG (K : PySem.W.Frag) (T : Tx) (n : Nat) (run : Fi) : Sp := fun vs H Q _ => ∃ s ps A d m ps', vs.length = n ∧ Own K T s H (vs.map some) (ps.map some) A ∧ run ps = some (d, m, ps') ∧ ∀ v s' h' A' B, GotE K T s H A (vs.map some) v d m (ps'.map some) s' h' A' B → Q v h'
/-- the parameters behind the body -/
def outP : List Bool → List (D × M) → Env' → Option (List (D × M))
  | [], [], _ => some []
  | true :: io, _ :: ps, some x :: env => (outP io ps env).bind fun r => some (x :: r)
  | false :: io, p :: ps, _ :: env => if p.2 = im p.1 then (outP io ps env).bind fun r => some (p :: r) else none
  | _, _, _ => none
/-- a def by its body: io tells the parameters that it changes, k how many names it has beside the parameters -/
def runG (io : List Bool) (k : Nat) (f : Sf) : Fi := fun ps => (f (ps.map some ++ List.replicate k none)).bind fun r => match r.1 with
  | .rt d m => (outP io ps r.2).bind fun ps' => some (d, m, ps')
  | .nx => (outP io ps r.2).bind fun ps' => some (.non, .dp, ps')
  | _ => none
section
variable {K : PySem.W.Frag} {T : Tx} {s s' s1 s2 h h' h1 h2 : Hp} {σ : St} {env env' env1 env2 : Env'} {A A' A1 A2 W B : List Addr}
theorem im_nil {v : V} {d : D} {B : List Addr} (r : Rep K T s h v d (im d) B) : B = [] := by
  unfold im at r
  split at r
  · rename_i i
    exact Deep.nil d i r
  · exact r.1
theorem proj : ∀ {io : List Bool} {ps ps' : List (D × M)} {vs : List V} {σ' : St} {env' : Env'} {A A' : List Addr}, Sub s s' → (∀ a xs, h a = some (.tup xs) → h' a = some (.tup xs)) → EnvRep K T s h (vs.map some) (ps.map some) A → EnvRep K T s' h' σ' env' A' → (∀ i : Nat, io[i]? = some true → σ'[i]? = (vs.map some)[i]?) →
    outP io ps env' = some ps' → ∃ A2, A2.Sublist A' ∧ EnvRep K T s' h' (vs.map some) (ps'.map some) A2
  | [], [], _, vs, _, _, _, _, _, _, e0, _, _, q => by
    unfold outP at q
    cases q
    obtain ⟨e1, _⟩ := e0
    exact ⟨[], List.nil_sublist _, by rw [e1]; exact ⟨rfl, rfl⟩⟩
  | true :: io, _ :: ps, ps', vs, σ', some x :: env, A, A', u, kt, e0, e1, pin, q => by
    unfold outP at q
    obtain ⟨r, e2, q⟩ := Option.bind_eq_some_iff.mp q
    cases q
    simp only [List.map_cons] at e0
    obtain ⟨y0, r0, A01, A02, ev, _, _, e0'⟩ := e0
    obtain ⟨y, r1, A11, A12, rfl, rfl, ⟨v1, rfl, rp⟩, e1'⟩ := e1
    cases vs with
    | nil => simp at ev
    | cons v vs =>
      simp only [List.map_cons, List.cons.injEq] at ev
      obtain ⟨rfl, rfl⟩ := ev
      have p0 := pin 0 rfl
      simp at p0
      subst p0
      obtain ⟨A2, sb, e3⟩ := proj u kt e0' e1' (fun i hi => by simpa using pin (i + 1) (by simpa using hi)) e2
      exact ⟨A11 ++ A2, List.Sublist.append (List.Sublist.refl _) sb, some v1, vs.map some, A11, A2, rfl, rfl, ⟨v1, rfl, rp⟩, e3⟩
  | false :: io, p :: ps, ps', vs, σ', z :: env, A, A', u, kt, e0, e1, pin, q => by
    unfold outP at q
    split at q
    · rename_i hp
      obtain ⟨r, e2, q⟩ := Option.bind_eq_some_iff.mp q
      cases q
      simp only [List.map_cons] at e0
      obtain ⟨y0, r0, A01, A02, ev, _, ⟨v0, rfl, rp0⟩, e0'⟩ := e0
      obtain ⟨y, r1, A11, A12, rfl, rfl, _, e1'⟩ := e1
      cases vs with
      | nil => simp at ev
      | cons v vs =>
        simp only [List.map_cons, List.cons.injEq] at ev
        obtain ⟨e9, rfl⟩ := ev
        cases e9
        obtain ⟨A2, sb, e3⟩ := proj u kt e0' e1' (fun i hi => by simpa using pin (i + 1) (by simpa using hi)) e2
        have hB : A01 = [] := im_nil (by rw [← hp]; exact rp0)
        subst hB
        exact ⟨A2, sb.trans (List.sublist_append_right _ _), some v0, vs.map some, [], A2, rfl, rfl, ⟨v0, rfl, rp0.keep u kt (fun b hb => by cases hb)⟩, e3⟩
    · cases q
  | [], _ :: _, _, _, _, _, _, _, _, _, _, _, _, q => by simp [outP] at q
  | true :: _, [], _, _, _, _, _, _, _, _, _, _, _, q => by simp [outP] at q
  | true :: _, _ :: _, _, _, _, [], _, _, _, _, _, _, _, q => by simp [outP] at q
  | true :: _, _ :: _, _, _, _, none :: _, _, _, _, _, _, _, _, q => by simp [outP] at q
  | false :: _, [], _, _, _, _, _, _, _, _, _, _, _, q => by simp [outP] at q
  | false :: _, _ :: _, _, _, _, [], _, _, _, _, _, _, _, q => by simp [outP] at q
theorem EnvRep.nones : ∀ {env : Env'} {σ : St} {A : List Addr} (k : Nat), EnvRep K T s h σ env A → EnvRep K T s h (σ ++ List.replicate k none) (env ++ List.replicate k none) A
  | [], _, _, k, r => by
    obtain ⟨rfl, rfl⟩ := r
    induction k with
    | zero => exact ⟨rfl, rfl⟩
    | succ k ih => exact ⟨none, _, [], [], rfl, rfl, rfl, ih⟩
  | x :: env, _, _, k, r => by
    obtain ⟨y, r, A1, A2, rfl, rfl, r1, q⟩ := r
    exact ⟨y, _, A1, A2, rfl, rfl, r1, q.nones k⟩
theorem RepL.toEnv : ∀ {ds : List (D × M)} {vs : List V} {B : List Addr}, RepL K T s h vs ds B → EnvRep K T s h (vs.map some) (ds.map some) B
  | [], _, _, r => by
    obtain ⟨rfl, rfl⟩ := r
    exact ⟨rfl, rfl⟩
  | x :: ds, _, _, r => by
    obtain ⟨v, q, B1, B2, rfl, rfl, r1, r2⟩ := r
    exact ⟨some v, q.map some, B1, B2, rfl, rfl, ⟨v, rfl, r1⟩, r2.toEnv⟩
theorem EnvRep.toRep : ∀ {ds : List (D × M)} {vs : List V} {B : List Addr}, EnvRep K T s h (vs.map some) (ds.map some) B → RepL K T s h vs ds B
  | [], vs, _, r => by
    obtain ⟨e, rfl⟩ := r
    exact ⟨List.map_eq_nil_iff.mp e, rfl⟩
  | x :: ds, vs, _, r => by
    obtain ⟨y, q, B1, B2, e, rfl, ⟨v, rfl, r1⟩, r2⟩ := r
    cases vs with
    | nil => simp at e
    | cons w vs =>
      simp only [List.map_cons, List.cons.injEq] at e
      obtain ⟨e1, rfl⟩ := e
      cases e1
      exact ⟨_, vs, B1, B2, rfl, rfl, r1, r2.toRep⟩
end
/-! ### THE RULE for a def -/
theorem fn_ok {P : Program} {w : World} {K : PySem.W.Frag} {mg : Str → Option Value} {base : Heap} {T : Tx} {x qual : Str} {st : Stmt} {f : Addr} {fd : FuncData} {N ps : List Str} {kk k n : Nat} {io : List Bool} {body : Sf} (F : Fun K x qual st f fd) (S : FnScope N ps (defScope st)) (hn : ps.length = n) (hN : N.length = n + k)
    (hb : ∀ (cdv : Value) (A : Around) (outer : List Env) (s : Shared) (H : Hp) (E : XK), Room kk (A.deeper (envOfC qual (defScope st) s.heap.objs.size f cdv)) → JSs T (cxOf CX0 P w K mg base N qual (defScope st) f cdv A outer s H E).nox io (defBody st) body) :
    FnOk P w K mg base CX0 (kk + 1) f fd ps (spG K T n (runG io k body)) := by
  refine F.ok S (fun vs H Q E ⟨s, p, A, d, m, p', hl, _⟩ => by rw [hl, hn]) (fun cdv A outer s H vs Q E hr h => ?_)
  obtain ⟨s0, p, A0, d, m, p', hl, o, q, w⟩ := h
  refine ⟨_, hb cdv A outer s H E hr, ?_⟩
  obtain ⟨⟨fl, env1⟩, e1, q⟩ := Option.bind_eq_some_iff.mp q
  have es : L2.start N vs = vs.map some ++ List.replicate k none := by
    unfold L2.start
    rw [hN, hl, Nat.add_sub_cancel_left]
  have o1 : Own K T s0 H (L2.start N vs) (p.map some ++ List.replicate k none) A0 := ⟨o.sub, o.tab, by rw [es]; exact o.er.nones k, o.nd, o.fr⟩
  refine ⟨s0, _, A0, fl, env1, o1, e1, ?_⟩
  have fin : ∀ {v : V} {d : D} {m : M} {σ' : St} {s' h' : Hp} {A' B : List Addr}, outP io p env1 = some p' → GotE K T s0 H A0 σ' v d m env1 s' h' A' B → Pin io (L2.start N vs) σ' → ∃ A2, GotE K T s0 H A0 (vs.map some) v d m (p'.map some) s' h' A2 B := fun {v d m σ' s' h' A' B} e2 g pin => by
    have ppin : ∀ i : Nat, io[i]? = some true → i < vs.length → σ'[i]? = (vs.map some)[i]? := fun i hi hlt => by
      rw [pin i hi, es, List.getElem?_append_left (by simpa using hlt)]
    have hio : ∀ (io : List Bool) (ps ps' : List (D × M)) (env : Env'), outP io ps env = some ps' → io.length = ps.length := by
      intro io
      induction io with
      | nil => intro ps ps' env e; cases ps with
        | nil => rfl
        | cons _ _ => simp [outP] at e
      | cons b io ih =>
        intro ps ps' env e
        cases ps with
        | nil => cases b <;> simp [outP] at e
        | cons p ps =>
          cases env with
          | nil => cases b <;> simp [outP] at e
          | cons z env =>
            cases b with
            | true =>
              cases z with
              | none => simp [outP] at e
              | some x =>
                unfold outP at e
                obtain ⟨r, e2, _⟩ := Option.bind_eq_some_iff.mp e
                simp [ih ps r env e2]
            | false =>
              unfold outP at e
              split at e
              · obtain ⟨r, e2, _⟩ := Option.bind_eq_some_iff.mp e
                simp [ih ps r env e2]
              · cases e
    have hlen : io.length = vs.length := by
      rw [hio io p p' env1 e2]
      have := o.er.len
      simpa using this
    obtain ⟨A2, sb, e3⟩ := proj g.st.ss g.st.tup o.er g.er (fun i hi => ppin i hi (by rw [← hlen]; exact (List.getElem?_eq_some_iff.mp hi).1)) e2
    have sb2 : (A2 ++ B).Sublist (A' ++ B) := List.Sublist.append sb (List.Sublist.refl _)
    exact ⟨A2, g.st, g.tab, e3, g.rp, List.Nodup.sublist sb2 g.nd, fun a ha => g.fr a (sb2.mem ha), fun a ha => g.wh a (sb2.mem ha)⟩
  cases fl with
  | nx =>
    obtain ⟨p2, e2, q⟩ := Option.bind_eq_some_iff.mp q
    cases q
    intro σ' s' h' A' g pin
    obtain ⟨A2, g2⟩ := fin e2 (GotE.of_got g (got_non g.own.sub)) pin
    exact w .non s' h' A2 [] g2
  | rt d1 m1 =>
    obtain ⟨p2, e2, q⟩ := Option.bind_eq_some_iff.mp q
    cases q
    intro v σ' s' h' A' B g pin
    obtain ⟨A2, g2⟩ := fin e2 g pin
    exact w v s' h' A2 B g2
  | bk => cases q
  | ct => cases q
/-! ### the callee from the caller's side -/
section
variable {K : PySem.W.Frag} {T : Tx} {s s' s1 s2 h h' h1 h2 : Hp} {σ : St} {env env' env1 env2 : Env'} {A A' A1 A2 W B : List Addr}
theorem call_core {n : Nat} {run : Fi} {vs : List V} {dms ps' : List (D × M)} {d : D} {m : M} {Q : VK} {E : XK} (g : GotL K T s h A σ vs dms env1 s1 h1 A1 B) (hn : dms.length = n) (q : run dms = some (d, m, ps'))
    (w : ∀ v s2 h2 B2, GotL K T s h A σ (v :: vs) ((d, m) :: ps') env1 s2 h2 A1 B2 → Q v h2) : spG K T n run vs h1 Q E := by
  obtain ⟨n1, n2, n3⟩ := List.nodup_append.mp g.nd
  refine ⟨s1, dms, B, d, m, ps', by rw [g.rp.len]; exact hn, ⟨g.st.sub, g.tab, g.rp.toEnv, n2, fun a ha => g.fr a (List.mem_append_right _ ha)⟩, q, fun v s2 h2 B' Bv x => ?_⟩
  obtain ⟨k1, k2, k3⟩ := List.nodup_append.mp x.nd
  have dis : ∀ a ∈ A1, a ∉ B := fun a ha hb => n3 a ha a hb rfl
  have apart : ∀ a ∈ A1, ∀ b, b ∈ B' ++ Bv → a ≠ b := fun a ha b hb z => by
    subst z
    rcases x.wh a hb with z | z
    · exact dis a ha z
    · obtain ⟨o, eo, _⟩ := g.er.mem a ha
      rw [z] at eo; cases eo
  refine w v s2 h2 (Bv ++ B') ⟨g.st.trans x.st (fun b hb => g.wh b (List.mem_append_right _ hb)), x.tab, g.er.step x.st dis, ⟨v, vs, Bv, B', rfl, rfl, x.rp, x.er.toRep⟩, ?_, fun a ha => ?_, fun a ha => ?_⟩
  · refine List.nodup_append.mpr ⟨n1, List.nodup_append.mpr ⟨k2, k1, fun a ha b hb z => k3 b hb a ha z.symm⟩, fun a ha b hb z => ?_⟩
    refine apart a ha b ?_ z
    rcases List.mem_append.mp hb with hb | hb
    · exact List.mem_append_right _ hb
    · exact List.mem_append_left _ hb
  · rcases List.mem_append.mp ha with ha | ha
    · obtain ⟨o, eo, mu⟩ := g.er.mem a ha
      exact step_none x.st eo mu (g.fr a (List.mem_append_left _ ha)) (dis a ha)
    · refine x.fr a ?_
      rcases List.mem_append.mp ha with ha | ha
      · exact List.mem_append_right _ ha
      · exact List.mem_append_left _ ha
  · rcases List.mem_append.mp ha with ha | ha
    · exact g.wh a (List.mem_append_left _ ha)
    · have ha' : a ∈ B' ++ Bv := by
        rcases List.mem_append.mp ha with ha | ha
        · exact List.mem_append_right _ ha
        · exact List.mem_append_left _ ha
      rcases x.wh a ha' with z | z
      · exact g.wh a (List.mem_append_right _ z)
      · exact .inr (g.st.non a z)
/-- what is only read is shared -/
def convL : List Bool → List (D × M) → List (D × M)
  | false :: io, p :: ps => (p.1, im p.1) :: convL io ps
  | true :: io, p :: ps => p :: convL io ps
  | _, ps => ps
theorem convL_len : ∀ (io : List Bool) (ps : List (D × M)), (convL io ps).length = ps.length
  | false :: io, p :: ps => by simp only [convL, List.length_cons, convL_len io ps]
  | true :: io, p :: ps => by simp only [convL, List.length_cons, convL_len io ps]
  | [], _ => rfl
  | true :: _, [] => rfl
  | false :: _, [] => rfl
theorem RepL.part (u : Sub s h) : ∀ (io : List Bool) {dms : List (D × M)} {vs : List V} {B : List Addr}, RepL K T s h vs dms B → B.Nodup → ∃ (S B2 : List Addr), (∀ b ∈ S, b ∈ B) ∧ B2.Sublist B ∧ (∀ b ∈ B2, b ∉ S) ∧ ∀ (C : List Addr), (∀ b ∈ S, b ∈ C) → RepL K T (G.shr s h C) h vs (convL io dms) B2
  | io, [], _, _, r, _ => by
    obtain ⟨rfl, rfl⟩ := r
    refine ⟨[], [], by simp, List.Sublist.refl _, by simp, fun C _ => ?_⟩
    rw [show convL io [] = [] from by cases io with
      | nil => rfl
      | cons b io => cases b <;> rfl]
    exact ⟨rfl, rfl⟩
  | [], x :: dms, vs, B, r, nd => by
    refine ⟨[], B, by simp, List.Sublist.refl _, by simp, fun C _ => ?_⟩
    exact r.keep (sub_shr u) (fun _ _ e => e) fun _ _ => rfl
  | true :: io, x :: dms, _, _, r, nd => by
    obtain ⟨v, q, B1, B2, rfl, rfl, r1, r2⟩ := r
    obtain ⟨n1, n2, n3⟩ := List.nodup_append.mp nd
    obtain ⟨S, C2, h1, h2, h3, h4⟩ := RepL.part u io r2 n2
    refine ⟨S, B1 ++ C2, fun b hb => List.mem_append_right _ (h1 b hb), List.Sublist.append (List.Sublist.refl _) h2, fun b hb hs => ?_, fun C hC => ⟨v, q, B1, C2, rfl, rfl, r1.keep (sub_shr u) (fun _ _ e => e) (fun _ _ => rfl), h4 C hC⟩⟩
    rcases List.mem_append.mp hb with hb | hb
    · exact n3 b hb b (h1 b hs) rfl
    · exact h3 b hb hs
  | false :: io, x :: dms, _, _, r, nd => by
    obtain ⟨v, q, B1, B2, rfl, rfl, r1, r2⟩ := r
    obtain ⟨n1, n2, n3⟩ := List.nodup_append.mp nd
    obtain ⟨S, C2, h1, h2, h3, h4⟩ := RepL.part u io r2 n2
    refine ⟨B1 ++ S, C2, fun b hb => ?_, h2.trans (List.sublist_append_right _ _), fun b hb hs => ?_, fun C hC => ⟨v, q, [], C2, rfl, rfl, ?_, h4 C fun b hb => hC b (List.mem_append_right _ hb)⟩⟩
    · rcases List.mem_append.mp hb with hb | hb
      · exact List.mem_append_left _ hb
      · exact List.mem_append_right _ (h1 b hb)
    · rcases List.mem_append.mp hs with hs | hs
      · exact n3 b hs b (h2.mem hb) rfl
      · exact h3 b hb hs
    · exact (r1.shr u fun b hb => hC b (List.mem_append_left _ hb)).rep (shr_sub u)
theorem GotL.conv {vs : List V} {dms : List (D × M)} (io : List Bool) (g : GotL K T s h A σ vs dms env1 s1 h1 A1 B) : ∃ s2 B2, GotL K T s h A σ vs (convL io dms) env1 s2 h1 A1 B2 := by
  obtain ⟨n1, n2, n3⟩ := List.nodup_append.mp g.nd
  obtain ⟨S, B2, hS, sb, dis, r⟩ := g.rp.part g.st.sub io n2
  refine ⟨shr s1 h1 S, B2, g.st.shr (fun b hb => g.wh b (List.mem_append_right _ (hS b hb))), g.tab, g.er.shr g.st.sub, r S (fun _ hb => hb), List.nodup_append.mpr ⟨n1, List.Nodup.sublist sb n2, fun a ha b hb z => n3 a ha b (sb.mem hb) z⟩, fun a ha => ?_, fun a ha => ?_⟩
  · rcases List.mem_append.mp ha with ha | ha
    · obtain ⟨o, eo, mu⟩ := g.er.mem a ha
      exact shr_none (g.fr a (List.mem_append_left _ ha)) eo mu fun hs => n3 a ha a (hS a hs) rfl
    · obtain ⟨o, eo, mu⟩ := g.rp.mem a (sb.mem ha)
      exact shr_none (g.fr a (List.mem_append_right _ (sb.mem ha))) eo mu (dis a ha)
  · rcases List.mem_append.mp ha with ha | ha
    · exact g.wh a (List.mem_append_left _ ha)
    · exact g.wh a (List.mem_append_right _ (sb.mem ha))
/-! ### arguments: values, and slots that the callee changes -/
inductive Ar where
  | sl (j : Nat)
  | vl (x : D × M)
def ArgL (K : PySem.W.Frag) (T : Tx) (s h : Hp) (σ : St) : List V → List Ar → List Addr → Prop
  | vs, [], B => vs = [] ∧ B = []
  | vs, .sl j :: r, B => ∃ v q, vs = v :: q ∧ σ[j]? = some (some v) ∧ ArgL K T s h σ q r B
  | vs, .vl x :: r, B => ∃ v q B1 B2, vs = v :: q ∧ B = B1 ++ B2 ∧ Rep K T s h v x.1 x.2 B1 ∧ ArgL K T s h σ q r B2
/-- the slots' values -/
def ArgV (σ : St) : List V → List Ar → Prop
  | vs, [] => vs = []
  | vs, .sl j :: r => ∃ v q, vs = v :: q ∧ σ[j]? = some (some v) ∧ ArgV σ q r
  | vs, .vl _ :: r => ∃ v q, vs = v :: q ∧ ArgV σ q r
theorem ArgL.v : ∀ {ars : List Ar} {vs : List V} {B : List Addr}, ArgL K T s h σ vs ars B → ArgV σ vs ars
  | [], _, _, r => r.1
  | .sl j :: ars, _, _, r => by
    obtain ⟨v, q, e, e1, r⟩ := r
    exact ⟨v, q, e, e1, r.v⟩
  | .vl x :: ars, _, _, r => by
    obtain ⟨v, q, B1, B2, e, _, _, r⟩ := r
    exact ⟨v, q, e, r.v⟩
theorem ArgL.mem : ∀ {ars : List Ar} {vs : List V} {B : List Addr}, ArgL K T s h σ vs ars B → ∀ b ∈ B, ∃ o, h b = some o ∧ Mu o
  | [], _, _, r => by rw [r.2]; intro b hb; cases hb
  | .sl j :: ars, _, _, r => by
    obtain ⟨v, q, e, e1, r⟩ := r
    exact r.mem
  | .vl x :: ars, _, _, r => by
    obtain ⟨v, q, B1, B2, e, rfl, r1, r⟩ := r
    intro b hb
    rcases List.mem_append.mp hb with hb | hb
    · exact r1.mem b hb
    · exact r.mem b hb
theorem ArgL.step : ∀ {ars : List Ar} {vs : List V} {B : List Addr}, Step T W s h s' h' → ArgL K T s h σ vs ars B → (∀ b ∈ B, b ∉ W) → ArgL K T s' h' σ vs ars B
  | [], _, _, _, r, _ => r
  | .sl j :: ars, _, _, st, r, dis => by
    obtain ⟨v, q, e, e1, r⟩ := r
    exact ⟨v, q, e, e1, r.step st dis⟩
  | .vl x :: ars, _, _, st, r, dis => by
    obtain ⟨v, q, B1, B2, e, rfl, r1, r⟩ := r
    exact ⟨v, q, B1, B2, e, rfl, r1.step st (fun b hb => dis b (List.mem_append_left _ hb)), r.step st fun b hb => dis b (List.mem_append_right _ hb)⟩
/-- two lots in the hand -/
theorem Hd.two {B1 B2 : List Addr} (x : Hd K T s h A σ env1 s1 h1 A1 B1) (y : Hd K T s1 h1 A1 σ env2 s2 h2 A2 B2) : Hd K T s h A σ env2 s2 h2 A2 (B1 ++ B2) ∧ ∀ b ∈ B1, b ∉ A1 := by
  obtain ⟨n1, n2, n3⟩ := List.nodup_append.mp x.nd
  obtain ⟨k1, k2, k3⟩ := List.nodup_append.mp y.nd
  have dis : ∀ b ∈ B1, b ∉ A1 := fun b hb ha => n3 b ha b hb rfl
  have sep : ∀ b ∈ B1, ∀ c ∈ A2 ++ B2, c ≠ b := fun b hb c hc e => by
    subst e
    rcases y.wh c hc with z | z
    · exact dis c hb z
    · obtain ⟨o, eo, _⟩ := x.mem c hb
      rw [z] at eo; cases eo
  refine ⟨⟨x.st.trans y.st (fun a ha => x.wh a (List.mem_append_left _ ha)), y.tab, y.er, ?_, fun a ha => ?_, fun a ha => ?_, fun b hb => ?_⟩, dis⟩
  · refine List.nodup_append.mpr ⟨k1, List.nodup_append.mpr ⟨n2, k2, fun b hb c hc e => sep b hb c (List.mem_append_right _ hc) e.symm⟩, fun a ha c hc e => ?_⟩
    rcases List.mem_append.mp hc with hc | hc
    · exact sep c hc a (List.mem_append_left _ ha) e
    · exact k3 a ha c hc e
  · rcases List.mem_append.mp ha with ha | ha
    · exact y.fr a (List.mem_append_left _ ha)
    · rcases List.mem_append.mp ha with ha | ha
      · obtain ⟨o, eo, mu⟩ := x.mem a ha
        exact step_none y.st eo mu (x.fr a (List.mem_append_right _ ha)) (dis a ha)
      · exact y.fr a (List.mem_append_right _ ha)
  · have up : ∀ a, (a ∈ A1 ∨ h1 a = none) → a ∈ A ∨ h a = none := fun a z => z.elim (fun z => x.wh a (List.mem_append_left _ z)) fun z => .inr (x.st.non a z)
    rcases List.mem_append.mp ha with ha | ha
    · exact up a (y.wh a (List.mem_append_left _ ha))
    · rcases List.mem_append.mp ha with ha | ha
      · exact x.wh a (List.mem_append_right _ ha)
      · exact up a (y.wh a (List.mem_append_right _ ha))
  · rcases List.mem_append.mp hb with hb | hb
    · obtain ⟨o, eo, mu⟩ := x.mem b hb
      exact ⟨o, y.st.keep b o eo (mu_tbl mu).1 (dis b hb), mu⟩
    · exact y.mem b hb
theorem Hd.own (g : Hd K T s h A σ env s1 h1 A1 B) : Own K T s1 h1 σ env A1 := ⟨g.st.sub, g.tab, g.er, (List.nodup_append.mp g.nd).1, fun a ha => g.fr a (List.mem_append_left _ ha)⟩
theorem Hd.nil (o : Own K T s h σ env A) : Hd K T s h A σ env s h A [] := (GotL.nil o).hd
/-- the slots' values are taken -/
def takeA : List Ar → Env' → Option (List (D × M) × Env')
  | [], env => some ([], env)
  | .sl j :: r, env => match env[j]? with
    | some (some x) => (takeA r (env.set j none)).bind fun y => some (x :: y.1, y.2)
    | _ => none
  | .vl x :: r, env => (takeA r env).bind fun y => some (x :: y.1, y.2)
/-- .. and put back -/
def putA : List Ar → List (D × M) → Env' → Option Env'
  | [], _, env => some env
  | .sl j :: r, p :: ps, env => match env[j]? with
    | some none => putA r ps (env.set j (some p))
    | _ => none
  | .vl _ :: r, _ :: ps, env => putA r ps env
  | _, [], _ => none
theorem take_go : ∀ {ars : List Ar} {vs : List V} {env env2 : Env'} {A1 Bd B : List Addr} {ds : List (D × M)}, Hd K T s h A σ env s1 h1 A1 (Bd ++ B) → ArgL K T s1 h1 σ vs ars B → takeA ars env = some (ds, env2) → ∃ A2 B2, Hd K T s h A σ env2 s1 h1 A2 (Bd ++ B2) ∧ RepL K T s1 h1 vs ds B2
  | [], _, _, _, A1, Bd, B, _, g, r, q => by
    cases q
    obtain ⟨rfl, rfl⟩ := r
    exact ⟨A1, [], g, rfl, rfl⟩
  | .sl j :: ars, _, env, _, A1, Bd, B, _, g, r, q => by
    obtain ⟨v, vr, rfl, ev, r⟩ := r
    unfold takeA at q
    split at q
    · rename_i x ex
      obtain ⟨⟨dr, env3⟩, e1, q⟩ := Option.bind_eq_some_iff.mp q
      cases q
      obtain ⟨v', C1, Bx, C2, e2, rfl, e3, e4⟩ := g.er.takeO ex
      rw [ev] at e2
      cases e2
      have p1 := perm_mid C1 Bx C2
      have p2 : ((C1 ++ (Bx ++ C2)) ++ (Bd ++ B)).Perm ((C1 ++ C2) ++ ((Bd ++ Bx) ++ B)) := List.perm_iff_count.mpr fun a => by
        simp only [List.count_append]
        omega
      have g2 : Hd K T s h A σ (env.set j none) s1 h1 (C1 ++ C2) ((Bd ++ Bx) ++ B) := ⟨g.st, g.tab, e4, p2.nodup_iff.mp g.nd, fun a ha => g.fr a (p2.mem_iff.mpr ha), fun a ha => g.wh a (p2.mem_iff.mpr ha), fun b hb => by
        rcases List.mem_append.mp hb with hb | hb
        · rcases List.mem_append.mp hb with hb | hb
          · exact g.mem b (List.mem_append_left _ hb)
          · exact e3.mem b hb
        · exact g.mem b (List.mem_append_right _ hb)⟩
      obtain ⟨A2, B2, g3, r3⟩ := take_go g2 r e1
      exact ⟨A2, Bx ++ B2, by rw [← List.append_assoc]; exact g3, v, vr, Bx, B2, rfl, rfl, e3, r3⟩
    · cases q
  | .vl x :: ars, _, env, _, A1, Bd, B, _, g, r, q => by
    obtain ⟨v, vr, B1, B2', rfl, rfl, r1, r⟩ := r
    unfold takeA at q
    obtain ⟨⟨dr, env3⟩, e1, q⟩ := Option.bind_eq_some_iff.mp q
    cases q
    rw [← List.append_assoc] at g
    obtain ⟨A2, B2, g3, r3⟩ := take_go g r e1
    exact ⟨A2, B1 ++ B2, by rw [← List.append_assoc]; exact g3, v, vr, B1, B2, rfl, rfl, r1, r3⟩
theorem put_go : ∀ {ars : List Ar} {vs : List V} {ps : List (D × M)} {env env2 : Env'} {A1 Bd B : List Addr}, Hd K T s h A σ env s1 h1 A1 (Bd ++ B) → ArgV σ vs ars → RepL K T s1 h1 vs ps B → putA ars ps env = some env2 → ∃ A2, Hd K T s h A σ env2 s1 h1 A2 Bd
  | [], _, _, _, _, A1, Bd, B, g, _, _, q => by
    cases q
    exact ⟨A1, g.less (List.nodup_append.mp (List.nodup_append.mp g.nd).2.1).1 fun b hb => List.mem_append_left _ hb⟩
  | .sl j :: ars, _, p :: ps, env, _, A1, Bd, B, g, av, r, q => by
    obtain ⟨v, vr, rfl, ev, av⟩ := av
    obtain ⟨v', q', B1, B2, e0, rfl, r1, r2⟩ := r
    cases e0
    unfold putA at q
    split at q
    · rename_i ex
      obtain ⟨C1, C2, rfl, e4⟩ := g.er.putO ex ev (dm := p) r1
      have p1 := perm_mid C1 B1 C2
      have p2 : ((C1 ++ (B1 ++ C2)) ++ (Bd ++ B2)).Perm ((C1 ++ C2) ++ (Bd ++ (B1 ++ B2))) := List.perm_iff_count.mpr fun a => by
        simp only [List.count_append]
        omega
      have g2 : Hd K T s h A σ (env.set j (some p)) s1 h1 (C1 ++ (B1 ++ C2)) (Bd ++ B2) := ⟨g.st, g.tab, e4, p2.nodup_iff.mpr g.nd, fun a ha => g.fr a (p2.mem_iff.mp ha), fun a ha => g.wh a (p2.mem_iff.mp ha), fun b hb => g.mem b (by
        rcases List.mem_append.mp hb with hb | hb
        · exact List.mem_append_left _ hb
        · exact List.mem_append_right _ (List.mem_append_right _ hb))⟩
      exact put_go g2 av r2 q
    · cases q
  | .vl x :: ars, _, p :: ps, env, _, A1, Bd, B, g, av, r, q => by
    obtain ⟨v, vr, rfl, av⟩ := av
    obtain ⟨v', q', B1, B2, e0, rfl, r1, r2⟩ := r
    cases e0
    unfold putA at q
    have nd := (List.nodup_append.mp g.nd).2.1
    have sb : (Bd ++ B2).Sublist (Bd ++ (B1 ++ B2)) := List.Sublist.append (List.Sublist.refl _) (List.sublist_append_right _ _)
    exact put_go (g.less (List.Nodup.sublist sb nd) fun b hb => sb.mem hb) av r2 q
  | .sl _ :: _, _, [], _, _, _, _, _, _, _, _, q => by simp [putA] at q
  | .vl _ :: _, _, [], _, _, _, _, _, _, _, _, q => by simp [putA] at q
/-- the whole call: the arguments, the callee, the slots -/
def callR (io : List Bool) (n : Nat) (run : Fi) (ars : List Ar) (env : Env') : Option (D × M × Env') := if ars.length = n then (takeA ars env).bind fun x => (run (convL io x.1)).bind fun y => (putA ars y.2.2 x.2).bind fun e => some (y.1, y.2.1, e) else none
theorem ArgV.len : ∀ {ars : List Ar} {vs : List V}, ArgV σ vs ars → vs.length = ars.length
  | [], _, r => by rw [show _ = [] from r]; rfl
  | .sl j :: ars, _, r => by
    obtain ⟨v, q, rfl, _, r⟩ := r
    simp [r.len]
  | .vl j :: ars, _, r => by
    obtain ⟨v, q, rfl, r⟩ := r
    simp [r.len]
theorem callR_go {io : List Bool} {n : Nat} {run : Fi} {ars : List Ar} {vs : List V} {d : D} {m : M} {Q : VK} {E : XK} (g : Hd K T s h A σ env s1 h1 A1 B) (r : ArgL K T s1 h1 σ vs ars B) (q : callR io n run ars env = some (d, m, env'))
    (w : ∀ v s' h' A' B, GotE K T s h A σ v d m env' s' h' A' B → Q v h') : spG K T n run vs h1 Q E := by
  unfold callR at q
  split at q
  · rename_i hn
    obtain ⟨⟨ds, env2⟩, e1, q⟩ := Option.bind_eq_some_iff.mp q
    obtain ⟨⟨dz, mz, ps'⟩, e2, q⟩ := Option.bind_eq_some_iff.mp q
    obtain ⟨env3, e3, q⟩ := Option.bind_eq_some_iff.mp q
    cases q
    obtain ⟨A2, B2, g2, r2⟩ := take_go (Bd := []) g r e1
    obtain ⟨s3, B3, g3⟩ := (g2.got r2).conv io
    refine call_core g3 (by rw [convL_len, ← r2.len, r.v.len]; exact hn) e2 fun v s4 h4 B4 g4 => ?_
    obtain ⟨v', q', C1, C2, e4, rfl, g5, r5⟩ := g4.head
    cases e4
    obtain ⟨A6, g6⟩ := put_go g4.hd r.v r5 e3
    exact w v s4 h4 A6 C1 ⟨g6.st, g6.tab, g6.er, g5.rp, g6.nd, g6.fr, g6.wh⟩
  · cases q
end
end G
set_option Elab.async false
set_option linter.all false
set_option maxRecDepth 100000
set_option maxHeartbeats 4000000
/-! G14: calls, methods, new objects, fields -/
namespace G
open PySem PySem.Spec PyProof.Rows L2
def tRv (K : PySem.W.Frag) (T : Tx) (f : Env' → Option (Ar × Env')) : TE := fun σ h Q => ∃ s env A x env', Own K T s h σ env A ∧ f env = some (x, env') ∧ ∀ v s' h' A' B, Hd K T s h A σ env' s' h' A' B → ArgL K T s' h' σ [v] [x] B → Q v h'
def JRv (T : Tx) (X : Cx) (e : Expr) (f : Env' → Option (Ar × Env')) : Prop := PE X e (tRv X.K T f)
def tCA (K : PySem.W.Frag) (T : Tx) (f : Env' → Option (List Ar × Env')) : TA := fun σ h Q => ∃ s env A ars env', Own K T s h σ env A ∧ f env = some (ars, env') ∧ ∀ vs s' h' A' B, Hd K T s h A σ env' s' h' A' B → ArgL K T s' h' σ vs ars B → Q vs h'
def JCA (T : Tx) (X : Cx) (es : List Expr) (f : Env' → Option (List Ar × Env')) : Prop := PA X es (tCA X.K T f)
/-- a def that may be called by its name -/
structure CalG (P : Program) (w : World) (K : PySem.W.Frag) (mg : Str → Option Value) (base : Heap) (T : Tx) (k : Nat) (x : Str) (n : Nat) (run : Fi) : Prop where
  ex : ∃ f fd ps, FnOk P w K mg base CX0 k f fd ps (spG K T n run) ∧ mg x = some (.ref f) ∧ PySem.W.keepIn K (.ref f) = true ∧ Binds K fd ps []
/-- a method of class c -/
structure MetG (P : Program) (w : World) (K : PySem.W.Frag) (mg : Str → Option Value) (base : Heap) (T : Tx) (k : Nat) (c : Nat) (m : Str) (n : Nat) (run : Fi) : Prop where
  ex : ∃ f fd ps, Cls K (T.cl c) ∧ Meth K (T.cl c) m f ∧ FnOk P w K mg base CX0 k f fd ps (spG K T n run) ∧ Binds K fd ps [] ∧ m ∉ T.fl c
/-- class c, made by its name -/
structure MakG (P : Program) (w : World) (K : PySem.W.Frag) (mg : Str → Option Value) (base : Heap) (T : Tx) (k : Nat) (x : Str) (c : Nat) (n : Nat) (run : Fi) : Prop where
  ex : ∃ f fd ps, Mk K (T.cl c) f ∧ mg x = some (.ref (T.cl c)) ∧ FnOk P w K mg base CX0 k f fd ps (spG K T n run) ∧ Binds K fd ps []
/-- the fields of class c -/
structure FldG (K : PySem.W.Frag) (T : Tx) (c : Nat) : Prop where
  cls : Cls K (T.cl c)
  na : ∀ f ∈ T.fl c, NoAttr K (T.cl c) f
  nd : (T.fl c).Nodup
  few : (T.fl c).length < 1000
section
variable {K : PySem.W.Frag} {T : Tx} {s s' s1 s2 h h' h1 h2 : Hp} {σ : St} {env env' env1 env2 : Env'} {A A' A1 A2 W B : List Addr}
/-- nothing is owned -/
def noEnv (σ : St) : Env' := List.replicate σ.length none
theorem noEnv_er : ∀ (σ : St), EnvRep K T s h σ (noEnv σ) []
  | [] => ⟨rfl, rfl⟩
  | x :: σ => ⟨x, σ, [], [], rfl, rfl, rfl, noEnv_er σ⟩
theorem At.own {ve : VEnv} (a : At K T s h σ ve) : Own K T s h σ (noEnv σ) [] := ⟨a.sub, a.tab, noEnv_er σ, List.nodup_nil, fun _ ha => by cases ha⟩
theorem GotE.got {v : V} {d : D} {m : M} (g : GotE K T s h [] σ v d m env' s' h' A' B) : Got K T s h v d m s' h' B := by
  obtain ⟨n1, n2, n3⟩ := List.nodup_append.mp g.nd
  refine ⟨⟨g.st.ss, ⟨fun b o e n => g.st.keep b o e n (by simp), g.st.non⟩, g.st.tbl, g.st.sub, fun a n => ?_, g.st.tab⟩, g.rp, n2, fun b hb => ?_, fun b hb => g.fr b (List.mem_append_right _ hb)⟩
  · rcases g.st.new a n with z | z | z | z
    · exact .inl z
    · exact .inr (.inl z)
    · cases z
    · exact .inr (.inr z)
  · rcases g.wh b (List.mem_append_right _ hb) with z | z
    · cases z
    · exact z
/-- values read, in the hand of one that owns nothing -/
theorem At.gotL {ve : VEnv} {vs : List V} {ds : List (D × M)} (a : At K T s h σ ve) (g : Gr T s h s1 h1) (r : RepL K T s1 h1 vs ds B) (f : Fresh h s1 B) : GotL K T s h [] σ vs ds (noEnv σ) s1 h1 [] B :=
  ⟨g.step [], g.tab a.tab, noEnv_er σ, r, by simpa using f.nd, fun b hb => f.ns b (by simpa using hb), fun b hb => .inr (f.nw b (by simpa using hb))⟩
/-- the read-only arguments -/
def rdL (ds : List (D × M)) : List (D × M) := ds.map fun x => (x.1, im x.1)
theorem convL_rd : ∀ (ds : List (D × M)), convL (List.replicate ds.length false) ds = rdL ds
  | [] => rfl
  | x :: ds => by
    simp only [List.length_cons, List.replicate_succ, convL, convL_rd ds]
    rfl
/-- a call whose arguments are only read -/
theorem rd_call {n : Nat} {run : Fi} {vs : List V} {dms ps' : List (D × M)} {d : D} {m : M} {Q : VK} {E : XK} (g : GotL K T s h A σ vs dms env1 s1 h1 A1 B) (hn : dms.length = n) (q : run (rdL dms) = some (d, m, ps')) (w : ∀ v s2 h2 A2 B2, GotE K T s h A σ v d m env1 s2 h2 A2 B2 → Q v h2) : spG K T n run vs h1 Q E := by
  obtain ⟨s3, B3, g3⟩ := g.conv (List.replicate dms.length false)
  rw [convL_rd] at g3
  refine call_core g3 (by unfold rdL; rw [List.length_map]; exact hn) q fun v s4 h4 B4 g4 => ?_
  obtain ⟨v', q', C1, C2, e4, rfl, g5, r5⟩ := g4.head
  cases e4
  exact w v s4 h4 A1 C1 g5
theorem ins_at {v : V} {c : Nat} {xs : List D} {m : M} (u : Sub s h) (r : Rep K T s h v (.ins c xs) m B) : ∃ p dx vs, v = .ref p ∧ h p = some (.ins (T.cl c) dx ((T.fl c).zip vs)) ∧ vs.length ≤ (T.fl c).length ∧ SeesL K T h vs xs := by
  have r1 := r.sees u
  simpa only [Sees] using r1
theorem zip_none {fl : List Str} {vs : List V} {m : Str} (h : m ∉ fl) : (fl.zip vs).lookup m = none := by
  induction fl generalizing vs with
  | nil => rfl
  | cons f fl ih =>
    cases vs with
    | nil => rfl
    | cons v vs =>
      simp only [List.mem_cons, not_or] at h
      simp only [List.zip_cons_cons, List.lookup_cons]
      rw [show (m == f) = false from beq_eq_false_iff_ne.mpr h.1]
      exact ih h.2
theorem zip_get : ∀ {fl : List Str} {vs : List V} {i : Nat} {f : Str} {v : V}, fl.Nodup → fl[i]? = some f → vs[i]? = some v → (fl.zip vs).lookup f = some v
  | [], _, _, _, _, _, e, _ => by simp at e
  | _ :: _, [], _, _, _, _, _, e => by simp at e
  | f0 :: fl, v0 :: vs, 0, f, v, nd, e1, e2 => by
    simp at e1 e2
    subst e1 e2
    simp [List.lookup_cons]
  | f0 :: fl, v0 :: vs, i + 1, f, v, nd, e1, e2 => by
    obtain ⟨n1, n2⟩ := List.nodup_cons.mp nd
    have hm : f ∈ fl := List.mem_of_getElem? (by simpa using e1)
    have hne : f ≠ f0 := fun z => n1 (z ▸ hm)
    simp only [List.zip_cons_cons, List.lookup_cons]
    rw [show (f == f0) = false from beq_eq_false_iff_ne.mpr hne]
    exact zip_get n2 (by simpa using e1) (by simpa using e2)
end
section
variable {X : Cx} {T : Tx} {io : List Bool} {a b c e o i tg : Expr} {es : List Expr} {f k : Env' → Option (D × M × Env')} {fi fp : VEnv → Option (D × M)} {fl : VEnv → Option (List (D × M))} {pos p apos cpos : Pos} {x m : Str} {j l n cc : Nat} {run : Fi} {fr : Env' → Option (Ar × Env')} {ka : Env' → Option (List Ar × Env')}
def rSl (j : Nat) : Env' → Option (Ar × Env') := fun env => match env[j]? with
  | some (some _) => some (.sl j, env)
  | _ => none
theorem jrv_sl (hN : X.N[j]? = some x) (hv : Vis X.env.scope x := by first | exact Or.inl rfl | exact Or.inr (Or.inl rfl) | exact Or.inr (Or.inr rfl)) (hd : (x == ("__debug__" : Str)) = false := by decide) (hcd : (x == ("__classdict__" : Str)) = false := by decide) : JRv T X (.Name x p) (rSl j) :=
  ⟨fun pins sx σ H Q I ⟨s, env, A, y, env', o, q, w⟩ => by
    unfold rSl at q
    split at q
    · rename_i dm ex
      cases q
      obtain ⟨v, B, e1, e2, _⟩ := o.er.get ex
      exact (pe_var hN hv hd hcd).run pins sx σ H Q I ⟨v, e1, w v s H A [] (Hd.nil o) ⟨v, [], rfl, e1, rfl, rfl⟩⟩
    · cases q⟩
def rVl (f : Env' → Option (D × M × Env')) : Env' → Option (Ar × Env') := fun env => (f env).bind fun x => some (.vl (x.1, x.2.1), x.2.2)
theorem jrv_vl (h : JE T X e f) : JRv T X e (rVl f) := ⟨fun pins sx σ H Q I ⟨s, env, A, y, env', o, q, w⟩ => by
  obtain ⟨⟨d, m, env1⟩, e1, q⟩ := Option.bind_eq_some_iff.mp q
  cases q
  exact h.run pins sx σ H Q I ⟨s, env, A, d, m, _, o, e1, fun v s' h' A' B g => w v s' h' A' B g.one.hd ⟨v, [], B, [], rfl, (List.append_nil B).symm, g.rp, rfl, rfl⟩⟩⟩
def caN : Env' → Option (List Ar × Env') := fun env => some ([], env)
def caC (f : Env' → Option (Ar × Env')) (k : Env' → Option (List Ar × Env')) : Env' → Option (List Ar × Env') := fun env => (f env).bind fun x => (k x.2).bind fun r => some (x.1 :: r.1, r.2)
theorem jca_nil : JCA T X [] caN := ⟨fun pos pins sx σ H Q I ⟨s, env, A, ars, env', o, q, w⟩ => by
  cases q
  exact pa_nil.run pos pins sx σ H Q I (w [] s H A [] (Hd.nil o) ⟨rfl, rfl⟩)⟩
theorem argL_cons {K : PySem.W.Frag} {s h s' h' : Hp} {σ : St} {W B1 B2 : List Addr} {v : V} {vs : List V} {y : Ar} {ars : List Ar} (st : Step T W s h s' h') (r : ArgL K T s h σ [v] [y] B1) (dis : ∀ b ∈ B1, b ∉ W) (q : ArgL K T s' h' σ vs ars B2) : ArgL K T s' h' σ (v :: vs) (y :: ars) (B1 ++ B2) := by
  have r' := r.step st dis
  cases y with
  | sl j =>
    obtain ⟨v', q', e, e1, r2⟩ := r'
    cases e
    obtain ⟨_, rfl⟩ := r2
    exact ⟨v, vs, rfl, e1, q⟩
  | vl x =>
    obtain ⟨v', q', C1, C2, e, e0, r1, r2⟩ := r'
    cases e
    obtain ⟨_, rfl⟩ := r2
    rw [List.append_nil] at e0
    subst e0
    exact ⟨v, vs, _, B2, rfl, rfl, r1, q⟩
theorem jca_cons (hr : JRv T X e fr) (ha : JCA T X es ka) (hs : starEach (e :: es) X.env = (false, eval e X.env) :: starEach es X.env := by rfl) : JCA T X (e :: es) (caC fr ka) := ⟨fun pos pins sx σ H Q I ⟨s, env, A, ars, env', o, q, w⟩ => by
  obtain ⟨⟨y, env1⟩, e1, q⟩ := Option.bind_eq_some_iff.mp q
  obtain ⟨⟨r, env2⟩, e2, q⟩ := Option.bind_eq_some_iff.mp q
  cases q
  refine (pa_cons hr ha hs).run pos pins sx σ H Q I ⟨s, env, A, y, env1, o, e1, fun v s1 h1 A1 B1 g1 r1 => ⟨s1, env1, A1, r, _, g1.own, e2, fun vs s2 h2 A2 B2 g2 r2 => ?_⟩⟩
  obtain ⟨g3, dis⟩ := g1.two g2
  exact w (v :: vs) s2 h2 A2 (B1 ++ B2) g3 (argL_cons g2.st r1 dis r2)⟩
/-! calls by name -/
def eCall (io : List Bool) (n : Nat) (run : Fi) (ka : Env' → Option (List Ar × Env')) : Env' → Option (D × M × Env') := fun env => (ka env).bind fun x => callR io n run x.1 x.2
theorem je_call (F : CalG X.prog X.w X.K X.mg X.base T l x n run) (io : List Bool) (hr : Room j X.A) (hl : l ≤ j) (hg : Gl X x) (ha : JCA T X (e :: es) ka) (hdb : (x == ("__debug__" : Str)) = false := by decide)
    (he : starEach (e :: es) X.env = (false, eval e X.env) :: starEach es X.env := by rfl) (hpl : (backTo pos (starEach es X.env)).any (·.1) = false := by rfl) : JE T X (.Call (.Name x p) (e :: es) [] pos) (eCall io n run ka) := by
  obtain ⟨ff, fd, ps, F0, hm, kp, bd⟩ := F.ex
  refine je_mk (pe_call F0 (hr.mono hl) hg hm kp bd .nil pass0 ha hdb he hpl) fun σ h Q ⟨s, env, A, d, m, env', o, q, w⟩ => ?_
  obtain ⟨⟨ars, env1⟩, e1, q⟩ := Option.bind_eq_some_iff.mp q
  refine ⟨s, env, A, ars, env1, o, e1, fun vs s1 h1 A1 B1 g1 r1 => ?_⟩
  simp only [List.append_nil]
  exact callR_go g1 r1 q w
def eCall0 (run : Fi) : Env' → Option (D × M × Env') := fun env => callR [] 0 run [] env
theorem je_call0 (F : CalG X.prog X.w X.K X.mg X.base T l x 0 run) (hr : Room j X.A) (hl : l ≤ j) (hg : Gl X x) (hdb : (x == ("__debug__" : Str)) = false := by decide) : JE T X (.Call (.Name x p) [] [] pos) (eCall0 run) := by
  obtain ⟨ff, fd, ps, F0, hm, kp, bd⟩ := F.ex
  exact je_mk (pe_call0 F0 (hr.mono hl) hg hm kp bd .nil pass0 hdb) fun σ h Q ⟨s, env, A, d, m, env', o, q, w⟩ => callR_go (E := E0) (vs := []) (Hd.nil o) (show ArgL X.K T s h σ [] [] [] from ⟨rfl, rfl⟩) q w
/-- .. that only reads -/
def pCalG (n : Nat) (run : Fi) (k : VEnv → Option (List (D × M))) : VEnv → Option (D × M) := fun ve => (k ve).bind fun r => if r.length = n then (run (rdL r)).bind fun y => some (y.1, y.2.1) else none
theorem jp_callG (F : CalG X.prog X.w X.K X.mg X.base T l x n run) (hr : Room j X.A) (hl : l ≤ j) (hg : Gl X x) (ha : JA T X (e :: es) fl) (hdb : (x == ("__debug__" : Str)) = false := by decide)
    (he : starEach (e :: es) X.env = (false, eval e X.env) :: starEach es X.env := by rfl) (hpl : (backTo pos (starEach es X.env)).any (·.1) = false := by rfl) : JP T X (.Call (.Name x p) (e :: es) [] pos) (pCalG n run fl) := by
  obtain ⟨t, a1, a2⟩ := ha
  obtain ⟨ff, fd, ps, F0, hm, kp, bd⟩ := F.ex
  refine ⟨_, pe_call F0 (hr.mono hl) hg hm kp bd .nil pass0 a1 hdb he hpl, fun σ s h ve d m Q A q w => ?_⟩
  obtain ⟨ds, e1, q⟩ := Option.bind_eq_some_iff.mp q
  split at q
  · rename_i hn
    obtain ⟨⟨dz, mz, ps'⟩, e2, q⟩ := Option.bind_eq_some_iff.mp q
    cases q
    refine a2 σ s h ve ds _ A e1 fun vs s1 h1 B g1 r1 f1 => ?_
    simp only [List.append_nil]
    exact rd_call (A.gotL g1 r1 f1) hn e2 fun v s2 h2 A2 B2 g2 => w v s2 h2 B2 g2.got
  · cases q
/-! methods -/
def isIns (c : Nat) (x : Ar) (env : Env') : Bool := match x with
  | .sl j => match env[j]? with
    | some (some (.ins c' _, _)) => c' == c
    | _ => false
  | .vl (.ins c' _, _) => c' == c
  | _ => false
theorem isIns_go {K : PySem.W.Frag} {s h s1 h1 : Hp} {σ : St} {A A1 B : List Addr} {env : Env'} {v : V} {y : Ar} (g : Hd K T s h A σ env s1 h1 A1 B) (r : ArgL K T s1 h1 σ [v] [y] B) (e : isIns cc y env = true) (hm : m ∉ T.fl cc) :
    ∃ a dx fs, v = .ref a ∧ h1 a = some (.ins (T.cl cc) dx fs) ∧ fs.lookup m = none := by
  have fin : ∀ {xs : List D} {mm : M} {B : List Addr}, Rep K T s1 h1 v (.ins cc xs) mm B → ∃ a dx fs, v = .ref a ∧ h1 a = some (.ins (T.cl cc) dx fs) ∧ fs.lookup m = none := fun r => by
    obtain ⟨p, dx, vs, e1, e2, _, _⟩ := ins_at g.st.sub r
    exact ⟨p, dx, _, e1, e2, zip_none hm⟩
  cases y with
  | sl j =>
    obtain ⟨v', q', e0, e1, r2⟩ := r
    cases e0
    unfold isIns at e
    dsimp only at e
    split at e
    · rename_i c' xs mm ex
      have ec : c' = cc := by simpa using e
      subst ec
      obtain ⟨v2, B2, e2, e3, _⟩ := g.er.get ex
      rw [e1] at e2
      cases e2
      exact fin e3
    · cases e
  | vl x =>
    obtain ⟨v', q', C1, C2, e0, _, r1, r2⟩ := r
    cases e0
    obtain ⟨d, mm⟩ := x
    cases d with
    | ins c' xs =>
      have ec : c' = cc := by simpa [isIns] using e
      subst ec
      exact fin r1
    | _ => simp [isIns] at e
def eMeth (c : Nat) (io : List Bool) (n : Nat) (run : Fi) (fr : Env' → Option (Ar × Env')) (ka : Env' → Option (List Ar × Env')) : Env' → Option (D × M × Env') := fun env => (fr env).bind fun x => if isIns c x.1 x.2 then (ka x.2).bind fun r => callR io n run (x.1 :: r.1) r.2 else none
theorem je_meth {pl : Sem Bool} (F : MetG X.prog X.w X.K X.mg X.base T l cc m n run) (io : List Bool) (hr : Room j X.A) (hl : l ≤ j) (ho : JRv T X o fr) (ha : JCA T X (e :: es) ka)
    (hst : starEach (e :: es) X.env = (false, eval e X.env) :: starEach es X.env := by rfl) (hpl : (backTo pos (starEach es X.env)).any (·.1) = false := by rfl)
    (ht : eval (.Call (.Attribute o m apos) (e :: es) [] pos) X.env = (do
      let ov ← eval o X.env
      standAt apos.atName
      let (f, first) ← holding [ov] (getMethod ov m pl)
      callWith pos f first (backTo pos (starEach (e :: es) X.env)) (backToKw pos (keywordEach [] X.env))) := by rfl) : JE T X (.Call (.Attribute o m apos) (e :: es) [] pos) (eMeth cc io n run fr ka) := by
  obtain ⟨ff, fd, ps, c, me, F0, bd, hmf⟩ := F.ex
  refine je_mk (pe_meth ho c me F0 (hr.mono hl) bd .nil pass0 ha hst hpl ht) fun σ h Q ⟨s, env, A, d, mm, env', o, q, w⟩ => ?_
  obtain ⟨⟨y, env1⟩, e1, q⟩ := Option.bind_eq_some_iff.mp q
  dsimp only at q
  split at q
  · rename_i hi
    obtain ⟨⟨ars, env2⟩, e2, q⟩ := Option.bind_eq_some_iff.mp q
    refine ⟨s, env, A, y, env1, o, e1, fun v s1 h1 A1 B1 g1 r1 => ?_⟩
    obtain ⟨a, dx, fs, rfl, ea, el⟩ := isIns_go g1 r1 hi hmf
    refine ⟨a, dx, fs, rfl, ea, el, s1, env1, A1, ars, env2, g1.own, e2, fun vs s2 h2 A2 B2 g2 r2 => ?_⟩
    simp only [List.append_nil]
    obtain ⟨g3, dis⟩ := g1.two g2
    exact callR_go g3 (argL_cons g2.st r1 dis r2) q w
  · cases q
def eMeth0 (c : Nat) (io : List Bool) (n : Nat) (run : Fi) (fr : Env' → Option (Ar × Env')) : Env' → Option (D × M × Env') := fun env => (fr env).bind fun x => if isIns c x.1 x.2 then callR io n run [x.1] x.2 else none
theorem je_meth0 {pl : Sem Bool} (F : MetG X.prog X.w X.K X.mg X.base T l cc m n run) (io : List Bool) (hr : Room j X.A) (hl : l ≤ j) (ho : JRv T X o fr)
    (ht : eval (.Call (.Attribute o m apos) [] [] pos) X.env = (do
      let ov ← eval o X.env
      standAt apos.atName
      let (f, first) ← holding [ov] (getMethod ov m pl)
      callWith pos f first (backTo pos (starEach [] X.env)) (backToKw pos (keywordEach [] X.env))) := by rfl) : JE T X (.Call (.Attribute o m apos) [] [] pos) (eMeth0 cc io n run fr) := by
  obtain ⟨ff, fd, ps, c, me, F0, bd, hmf⟩ := F.ex
  refine je_mk (pe_meth0 ho c me F0 (hr.mono hl) bd .nil pass0 ht) fun σ h Q ⟨s, env, A, d, mm, env', o, q, w⟩ => ?_
  obtain ⟨⟨y, env1⟩, e1, q⟩ := Option.bind_eq_some_iff.mp q
  dsimp only at q
  split at q
  · rename_i hi
    refine ⟨s, env, A, y, env1, o, e1, fun v s1 h1 A1 B1 g1 r1 => ?_⟩
    obtain ⟨a, dx, fs, rfl, ea, el⟩ := isIns_go g1 r1 hi hmf
    exact ⟨a, dx, fs, rfl, ea, el, callR_go (E := E0) g1 r1 q w⟩
  · cases q
def pMeth (c n : Nat) (run : Fi) (f : VEnv → Option (D × M)) (k : VEnv → Option (List (D × M))) : VEnv → Option (D × M) := fun ve => (f ve).bind fun x => match x.1 with
  | .ins c' _ => if c' = c then (k ve).bind fun r => if r.length + 1 = n then (run (rdL (x :: r))).bind fun y => some (y.1, y.2.1) else none else none
  | _ => none
theorem jp_meth {pl : Sem Bool} (F : MetG X.prog X.w X.K X.mg X.base T l cc m n run) (hr : Room j X.A) (hl : l ≤ j) (ho : JP T X o fp) (ha : JA T X (e :: es) fl)
    (hst : starEach (e :: es) X.env = (false, eval e X.env) :: starEach es X.env := by rfl) (hpl : (backTo pos (starEach es X.env)).any (·.1) = false := by rfl)
    (ht : eval (.Call (.Attribute o m apos) (e :: es) [] pos) X.env = (do
      let ov ← eval o X.env
      standAt apos.atName
      let (f, first) ← holding [ov] (getMethod ov m pl)
      callWith pos f first (backTo pos (starEach (e :: es) X.env)) (backToKw pos (keywordEach [] X.env))) := by rfl) : JP T X (.Call (.Attribute o m apos) (e :: es) [] pos) (pMeth cc n run fp fl) := by
  obtain ⟨ff, fd, ps, c, me, F0, bd, hmf⟩ := F.ex
  obtain ⟨t, a1, a2⟩ := ha
  obtain ⟨u, b1, b2⟩ := ho
  refine ⟨_, pe_meth b1 c me F0 (hr.mono hl) bd .nil pass0 a1 hst hpl ht, fun σ s h ve d mm Q A q0 w => ?_⟩
  obtain ⟨⟨dx, mx⟩, e1, q⟩ := Option.bind_eq_some_iff.mp q0
  dsimp only at q
  split at q
  · rename_i c' xs
    split at q
    · rename_i ec
      subst ec
      obtain ⟨ds, e2, q⟩ := Option.bind_eq_some_iff.mp q
      split at q
      · rename_i hn
        obtain ⟨⟨dz, mz, ps'⟩, e3, q⟩ := Option.bind_eq_some_iff.mp q
        cases q
        refine b2 σ s h ve _ mx _ A e1 fun v s1 h1 B1 G1 => ?_
        obtain ⟨a, dx, vs, rfl, ea, _, _⟩ := ins_at G1.gr.sub G1.rep
        refine ⟨a, dx, _, rfl, ea, zip_none hmf, a2 σ s1 h1 ve ds _ (A.grow G1.gr) e2 fun vs s2 h2 B2 g2 r2 f2 => ?_⟩
        simp only [List.append_nil]
        have x1 : GotE X.K T s h [] σ (.ref a) (.ins c' xs) mx (noEnv σ) s1 h1 [] B1 := (A.gotL G1.gr (ds := [(.ins c' xs, mx)]) ⟨.ref a, [], B1, [], rfl, (List.append_nil _).symm, G1.rep, rfl, rfl⟩ G1.fr).head |> fun ⟨_, _, C1, C2, e4, e5, g5, r5⟩ => by
          cases e4
          obtain ⟨_, rfl⟩ := r5
          rw [List.append_nil] at e5
          subst e5
          exact g5
        exact rd_call (GotL.cons x1 ((A.grow G1.gr).gotL g2 r2 f2)) hn e3 fun v s2 h2 A2 B2 g2 => w v s2 h2 B2 g2.got
      · cases q
    · cases q
  · cases q
def pMeth0 (c n : Nat) (run : Fi) (f : VEnv → Option (D × M)) : VEnv → Option (D × M) := fun ve => (f ve).bind fun x => match x.1 with
  | .ins c' _ => if c' = c then if 1 = n then (run (rdL [x])).bind fun y => some (y.1, y.2.1) else none else none
  | _ => none
theorem jp_meth0 {pl : Sem Bool} (F : MetG X.prog X.w X.K X.mg X.base T l cc m n run) (hr : Room j X.A) (hl : l ≤ j) (ho : JP T X o fp)
    (ht : eval (.Call (.Attribute o m apos) [] [] pos) X.env = (do
      let ov ← eval o X.env
      standAt apos.atName
      let (f, first) ← holding [ov] (getMethod ov m pl)
      callWith pos f first (backTo pos (starEach [] X.env)) (backToKw pos (keywordEach [] X.env))) := by rfl) : JP T X (.Call (.Attribute o m apos) [] [] pos) (pMeth0 cc n run fp) := by
  obtain ⟨ff, fd, ps, c, me, F0, bd, hmf⟩ := F.ex
  obtain ⟨u, b1, b2⟩ := ho
  refine ⟨_, pe_meth0 b1 c me F0 (hr.mono hl) bd .nil pass0 ht, fun σ s h ve d mm Q A q0 w => ?_⟩
  obtain ⟨⟨dx, mx⟩, e1, q⟩ := Option.bind_eq_some_iff.mp q0
  dsimp only at q
  split at q
  · rename_i c' xs
    split at q
    · rename_i ec
      subst ec
      split at q
      · rename_i hn
        obtain ⟨⟨dz, mz, ps'⟩, e3, q⟩ := Option.bind_eq_some_iff.mp q
        cases q
        refine b2 σ s h ve _ mx _ A e1 fun v s1 h1 B1 G1 => ?_
        obtain ⟨a, dx, vs, rfl, ea, _, _⟩ := ins_at G1.gr.sub G1.rep
        refine ⟨a, dx, _, rfl, ea, zip_none hmf, ?_⟩
        exact rd_call (E := E0) (A.gotL G1.gr (ds := [(.ins c' xs, mx)]) (vs := [.ref a]) ⟨.ref a, [], B1, [], rfl, (List.append_nil _).symm, G1.rep, rfl, rfl⟩ G1.fr) hn e3 fun v s2 h2 A2 B2 g2 => w v s2 h2 B2 g2.got
      · cases q
    · cases q
  · cases q
/-! new objects -/
theorem make_core {K : PySem.W.Frag} {s h s1 h1 : Hp} {σ : St} {A A1 B : List Addr} {env1 : Env'} {vs : List V} {dms : List (D × M)} {xa dx : Addr} (g : GotL K T s h A σ vs dms env1 s1 h1 A1 B) (n1 : h1 xa = none) (n2 : h1 dx = none) (ne : dx ≠ xa) :
    GotL K T s h A σ (.ref xa :: vs) ((.ins cc [], .dp) :: dms) env1 s1 (upd (upd h1 dx (.own xa)) xa (.ins (T.cl cc) dx [])) A1 (xa :: B) := by
  have g1 : Gr T s1 h1 s1 (upd h1 dx (.own xa)) := Gr.own g.st.sub n2
  have n1' : upd h1 dx (.own xa) xa = none := by rw [upd_ne ne.symm]; exact n1
  have g2 : Gr T s1 (upd h1 dx (.own xa)) s1 (upd (upd h1 dx (.own xa)) xa (.ins (T.cl cc) dx [])) := Gr.own g1.sub n1'
  have g3 := g1.trans g2
  have old : ∀ b ∈ A1 ++ B, b ≠ xa := fun b hb z => by
    subst z
    obtain ⟨o, eo, _⟩ := (List.mem_append.mp hb).elim (fun z => g.er.mem b z) fun z => g.rp.mem b z
    rw [n1] at eo; cases eo
  obtain ⟨k1, k2, k3⟩ := List.nodup_append.mp g.nd
  refine ⟨g.st.trans (g3.step (A1 ++ B)) g.wh, g3.tab g.tab, g.er.grow g3, ⟨.ref xa, vs, [xa], B, rfl, rfl, ?_, g.rp.grow g3⟩, ?_, fun a ha => ?_, fun a ha => ?_⟩
  · simp only [Rep, Deep]
    exact ⟨xa, dx, [], [], rfl, by rw [List.zip_nil_right]; exact upd_same, Nat.zero_le _, rfl, by simp [DeepL]⟩
  · refine List.nodup_append.mpr ⟨k1, List.nodup_cons.mpr ⟨fun z => old xa (List.mem_append_right _ z) rfl, k2⟩, fun a ha b hb z => ?_⟩
    rcases List.mem_cons.mp hb with rfl | hb
    · exact old a (List.mem_append_left _ ha) z
    · exact k3 a ha b hb z
  · rcases List.mem_append.mp ha with ha | ha
    · exact g.fr a (List.mem_append_left _ ha)
    · rcases List.mem_cons.mp ha with rfl | ha
      · exact g.st.sub.no _ n1
      · exact g.fr a (List.mem_append_right _ ha)
  · rcases List.mem_append.mp ha with ha | ha
    · exact g.wh a (List.mem_append_left _ ha)
    · rcases List.mem_cons.mp ha with rfl | ha
      · exact .inr (g.st.non _ n1)
      · exact g.wh a (List.mem_append_right _ ha)
/-- __init__ of a new object of class c -/
def mkR (c n : Nat) (run : Fi) (ds : List (D × M)) : Option (D × M) := if ds.length + 1 = n then (run ((.ins c [], .dp) :: rdL ds)).bind fun y => match y.1, y.2.2 with
  | .non, p :: _ => some p
  | _, _ => none else none
theorem make_go {K : PySem.W.Frag} {s h s1 h1 : Hp} {σ : St} {A A1 B : List Addr} {env1 : Env'} {vs : List V} {ds : List (D × M)} {z : D × M} {Q : VK} {E : XK} (g : GotL K T s h A σ vs ds env1 s1 h1 A1 B) (q : mkR cc n run ds = some z)
    (w : ∀ v s2 h2 A2 B2, GotE K T s h A σ v z.1 z.2 env1 s2 h2 A2 B2 → Q v h2) : ∀ x dx, h1 x = none → h1 dx = none → dx ≠ x → spG K T n run (.ref x :: vs) (upd (upd h1 dx (.own x)) x (.ins (T.cl cc) dx [])) (fun v H2 => v = .non ∧ Q (.ref x) H2) E := by
  intro x dx n1 n2 ne
  unfold mkR at q
  split at q
  · rename_i hn
    obtain ⟨⟨dz, mz, ps'⟩, e1, q⟩ := Option.bind_eq_some_iff.mp q
    dsimp only at q
    split at q
    · rename_i p pr
      cases q
      obtain ⟨s3, B3, g3⟩ := (g.conv (List.replicate ds.length false))
      rw [convL_rd] at g3
      have g4 := make_core (cc := cc) g3 n1 n2 ne
      refine call_core g4 (by simpa [rdL] using hn) e1 fun v s5 h5 B5 g5 => ?_
      obtain ⟨v', q', C1, C2, e4, rfl, g6, r6⟩ := g5.head
      cases e4
      have hv := g6.rp.sees g6.st.sub
      simp only [Sees] at hv
      subst hv
      refine ⟨rfl, ?_⟩
      obtain ⟨w', q2, C3, C4, e5, rfl, r7, r8⟩ := r6
      cases e5
      have hd : Hd K T s h A σ env1 s5 h5 A1 C3 := g5.hd.less (List.nodup_append.mp (List.nodup_append.mp (List.nodup_append.mp g5.nd).2.1).2.1).1 (fun b hb => List.mem_append_right _ (List.mem_append_left _ hb))
      exact w _ s5 h5 A1 C3 ⟨hd.st, hd.tab, hd.er, r7, hd.nd, hd.fr, hd.wh⟩
    · cases q
  · cases q
def eMake (c n : Nat) (run : Fi) (k : Env' → Option (List (D × M) × Env')) : Env' → Option (D × M × Env') := fun env => (k env).bind fun r => (mkR c n run r.1).bind fun z => some (z.1, z.2, r.2)
theorem je_make {kk : Env' → Option (List (D × M) × Env')} (F : MakG X.prog X.w X.K X.mg X.base T l x cc n run) (hr : Room j X.A) (hl : l + 1 ≤ j) (hg : Gl X x) (ha : JAE T X (e :: es) kk) (hdb : (x == ("__debug__" : Str)) = false := by decide)
    (he : starEach (e :: es) X.env = (false, eval e X.env) :: starEach es X.env := by rfl) (hpl : (backTo pos (starEach es X.env)).any (·.1) = false := by rfl) : JE T X (.Call (.Name x p) (e :: es) [] pos) (eMake cc n run kk) := by
  obtain ⟨ff, fd, ps, M0, hm, F0, bd⟩ := F.ex
  refine je_mk (pe_make M0 F0 (hr.mono hl) hg hm bd .nil pass0 ha hdb he hpl) fun σ h Q ⟨s, env, A, d, m, env', o, q, w⟩ => ?_
  obtain ⟨⟨ds, env1⟩, e1, q⟩ := Option.bind_eq_some_iff.mp q
  obtain ⟨z, e2, q⟩ := Option.bind_eq_some_iff.mp q
  cases q
  refine ⟨s, env, A, ds, _, o, e1, fun vs s1 h1 A1 B1 g1 => ?_⟩
  simp only [List.append_nil]
  exact make_go g1 e2 w
def pMake (c n : Nat) (run : Fi) (k : VEnv → Option (List (D × M))) : VEnv → Option (D × M) := fun ve => (k ve).bind fun r => mkR c n run r
theorem jp_make (F : MakG X.prog X.w X.K X.mg X.base T l x cc n run) (hr : Room j X.A) (hl : l + 1 ≤ j) (hg : Gl X x) (ha : JA T X (e :: es) fl) (hdb : (x == ("__debug__" : Str)) = false := by decide)
    (he : starEach (e :: es) X.env = (false, eval e X.env) :: starEach es X.env := by rfl) (hpl : (backTo pos (starEach es X.env)).any (·.1) = false := by rfl) : JP T X (.Call (.Name x p) (e :: es) [] pos) (pMake cc n run fl) := by
  obtain ⟨ff, fd, ps, M0, hm, F0, bd⟩ := F.ex
  obtain ⟨t, a1, a2⟩ := ha
  refine ⟨_, pe_make M0 F0 (hr.mono hl) hg hm bd .nil pass0 a1 hdb he hpl, fun σ s h ve d mm Q A q w => ?_⟩
  obtain ⟨ds, e1, q⟩ := Option.bind_eq_some_iff.mp q
  refine a2 σ s h ve ds _ A e1 fun vs s1 h1 B g1 r1 f1 => ?_
  simp only [List.append_nil]
  exact make_go (A.gotL g1 r1 f1) q fun v s2 h2 A2 B2 g2 => w v s2 h2 B2 g2.got
/-! fields -/
def pFld (c i : Nat) (f : VEnv → Option (D × M)) : VEnv → Option (D × M) := fun ve => (f ve).bind fun x => match x.1 with
  | .ins c' vs => if c' = c then (vs[i]?).bind fun d => some (d, im d) else none
  | _ => none
theorem jp_fld {ix : Nat} {fd : Str} (C : FldG X.K T cc) (hi : (T.fl cc)[ix]? = some fd) (ho : JP T X o fp) (hb : attributeBase o fd X.env (eval o X.env) = eval o X.env := by rfl) : JP T X (.Attribute o fd pos) (pFld cc ix fp) := by
  obtain ⟨t, a1, a2⟩ := ho
  refine ⟨_, pe_fld a1 hb, fun σ s h ve d m Q A q0 w => ?_⟩
  obtain ⟨⟨dx, mx⟩, e1, q⟩ := Option.bind_eq_some_iff.mp q0
  dsimp only at q
  split at q
  · rename_i c' xs
    split at q
    · rename_i ec
      subst ec
      obtain ⟨d', e2, q⟩ := Option.bind_eq_some_iff.mp q
      cases q
      refine a2 σ s h ve _ mx _ A e1 fun v s1 h1 B1 G1 => ?_
      obtain ⟨g2, r2⟩ := G1.seen
      simp only [Sees] at r2
      obtain ⟨p, dx, vs, rfl, ea, _, er⟩ := r2
      obtain ⟨u, eu, ru⟩ := er.get e2
      exact ⟨p, T.cl c', dx, _, u, rfl, g2.sub.at_ _ _ ea (by intro _ z; cases z), C.cls, C.na fd (List.mem_of_getElem? hi), zip_get C.nd hi eu, w u _ h1 [] (Got.of g2 ru)⟩
    · cases q
  · cases q
end
end G
set_option Elab.async false
set_option linter.all false
set_option maxRecDepth 100000
set_option maxHeartbeats 4000000
/-! G15: built-in types, sorted, isinstance, small dicts, keywords, own == -/
namespace G
open PySem PySem.Spec PyProof.Rows L2
section
variable {X : Cx} {T : Tx} {io : List Bool} {a b c e o i tg : Expr} {es : List Expr} {f k : Env' → Option (D × M × Env')} {fi fp fq : VEnv → Option (D × M)} {fl : VEnv → Option (List (D × M))} {pos p apos cpos : Pos} {x m : Str} {j l n cc : Nat} {run : Fi}
/-! built-in types as functions -/
theorem jp_callTy {id : String} {g : List D → Option (D × M)} (oc : OC T X (.type id) g) (hg : Gl X x) (hm : X.mg x = none) (hv : bootBuiltins x = some (.type id)) (ha : JA T X (e :: es) fl)
    (hn : x ≠ "__name__" := by decide) (hdb : (x == ("__debug__" : Str)) = false := by decide) (h1 : starEach (e :: es) X.env = (false, eval e X.env) :: starEach es X.env := by rfl)
    (h2 : (backTo pos (starEach es X.env)).any (·.1) = false := by rfl) : JP T X (.Call (.Name x p) (e :: es) [] pos) (pCB g fl) := by
  obtain ⟨r, o1, o2⟩ := oc
  obtain ⟨ta, a1, a2⟩ := ha
  exact ⟨_, pe_callTy o1 hg hm hv a1 hn hdb h1 h2, args_go a2 o2⟩
theorem je_callTy {id : String} {g : List D → Option (D × M)} {kk : Env' → Option (List (D × M) × Env')} (oc : OC T X (.type id) g) (hg : Gl X x) (hm : X.mg x = none) (hv : bootBuiltins x = some (.type id)) (ha : JAE T X (e :: es) kk)
    (hn : x ≠ "__name__" := by decide) (hdb : (x == ("__debug__" : Str)) = false := by decide) (h1 : starEach (e :: es) X.env = (false, eval e X.env) :: starEach es X.env := by rfl)
    (h2 : (backTo pos (starEach es X.env)).any (·.1) = false := by rfl) : JE T X (.Call (.Name x p) (e :: es) [] pos) (eCB g kk) := by
  obtain ⟨r, o1, o2⟩ := oc
  exact je_mk (pe_callTy o1 hg hm hv ha hn hdb h1 h2) fun σ h Q => eCB_go o2 σ h Q
/-! x.bit_length() -/
def pBits (f : VEnv → Option (D × M)) : VEnv → Option (D × M) := fun ve => (f ve).bind fun x => match x.1 with
  | .int i => some (.int (Builtin.Int.intBits i : Nat), .dp)
  | _ => none
theorem jp_bits (ho : JP T X o fp) (hbase : attributeBase o "bit_length" X.env (eval o X.env) = eval o X.env := by rfl) (hline : (apos.endLine == pos.line) = true := by rfl) : JP T X (.Call (.Attribute o "bit_length" apos) [] [] pos) (pBits fp) := by
  obtain ⟨t, a1, a2⟩ := ho
  refine ⟨_, pe_bits a1 hbase hline, fun σ s h ve d m Q A q w => ?_⟩
  obtain ⟨⟨dx, mx⟩, e1, q⟩ := Option.bind_eq_some_iff.mp q
  refine a2 σ s h ve dx mx _ A e1 fun v s1 h1 B G1 => ?_
  obtain ⟨g1, r1⟩ := G1.seen
  dsimp only at q
  split at q
  · rename_i ii
    cases q
    simp only [Sees] at r1
    exact ⟨ii, r1, w _ _ h1 [] ((got_int g1.sub).pre g1)⟩
  · cases q
/-! list(range(..)) -/
def pLr (f : VEnv → Option (List D)) : VEnv → Option (D × M) := fun ve => (f ve).bind fun ds => if ds.length ≤ lim then some (.lst ds, .dp) else none
theorem rgV_map (i k : Int) : ∃ ns : List Int, rgV i k = ns.map V.int ∧ rgD i k = ns.map D.int := ⟨(List.range (k - i).toNat).map fun j => i + (j : Nat), by unfold rgV; rw [List.map_map]; rfl, by unfold rgD; rw [List.map_map]; rfl⟩
theorem got_rg {K : PySem.W.Frag} {s h : Hp} {q : Addr} {i k : Int} (e : Sub s h) (n : h q = none) : Got K T s h (.ref q) (.lst (rgD i k)) .dp s (upd h q (.lst (rgV i k))) [q] := by
  obtain ⟨ns, e1, e2⟩ := rgV_map i k
  rw [e1, e2]
  exact got_ints e n
theorem jp_listRg1 {p2 pos2 : Pos} (hc : X.calm = true) (hg : Gl X "list") (hm : X.mg "list" = none) (hg2 : Gl X "range") (hm2 : X.mg "range" = none) (ha : JP T X a fp) (na : starEach [a] X.env = (false, eval a X.env) :: starEach [] X.env := by rfl)
    (nb : starEach [Expr.Call (.Name "range" p2) [a] [] pos2] X.env = (false, eval (.Call (.Name "range" p2) [a] [] pos2) X.env) :: starEach [] X.env := by rfl) : JP T X (.Call (.Name "list" p) [.Call (.Name "range" p2) [a] [] pos2] [] pos) (pLr (iRg1 fp)) := by
  obtain ⟨t, a1, a2⟩ := ha
  refine ⟨_, pe_listRg hc hg hm (prg_1 hg2 hm2 a1 na) nb, fun σ s h ve d m Q A q w => ?_⟩
  obtain ⟨ds, e0, q⟩ := Option.bind_eq_some_iff.mp q
  unfold iRg1 at e0
  obtain ⟨⟨dx, mx⟩, e1, e0⟩ := Option.bind_eq_some_iff.mp e0
  refine a2 σ s h ve dx mx _ A e1 fun v s1 h1 B G1 => ?_
  obtain ⟨g1, r1⟩ := G1.seen
  dsimp only at e0
  split at e0
  · rename_i jj
    split at e0
    · rename_i hb
      cases e0
      simp only [Sees] at r1
      replace hb := bd62_b hb
      split at q
      · rename_i hl
        cases q
        rw [rgD_length] at hl
        have hl' : (jj - 0).toNat ≤ sizeLine := by rw [← lim_eq]; exact hl
        refine ⟨jj, r1, ⟨by decide, by decide, hb.1, hb.2, hl'⟩, fun q hq => w _ _ _ [q] ((got_rg g1.sub hq).pre g1)⟩
      · cases q
    · cases e0
  · cases e0
theorem jp_listRg2 {p2 pos2 : Pos} (hc : X.calm = true) (hg : Gl X "list") (hm : X.mg "list" = none) (hg2 : Gl X "range") (hm2 : X.mg "range" = none) (ha : JP T X a fp) (hb : JP T X b fq) (na : starEach [a, b] X.env = (false, eval a X.env) :: starEach [b] X.env := by rfl)
    (nb : starEach [b] X.env = (false, eval b X.env) :: starEach [] X.env := by rfl) (hp : (backTo pos2 (starEach [b] X.env)).any (·.1) = false := by rfl)
    (nc : starEach [Expr.Call (.Name "range" p2) [a, b] [] pos2] X.env = (false, eval (.Call (.Name "range" p2) [a, b] [] pos2) X.env) :: starEach [] X.env := by rfl) : JP T X (.Call (.Name "list" p) [.Call (.Name "range" p2) [a, b] [] pos2] [] pos) (pLr (iRg2 fp fq)) := by
  obtain ⟨t, a1, a2⟩ := ha
  obtain ⟨u, b1, b2⟩ := hb
  refine ⟨_, pe_listRg hc hg hm (prg_2 hg2 hm2 a1 b1 na nb hp) nc, fun σ s h ve d m Q A q w => ?_⟩
  obtain ⟨ds, e0, q⟩ := Option.bind_eq_some_iff.mp q
  unfold iRg2 at e0
  obtain ⟨⟨dx, mx⟩, e1, ea⟩ := Option.bind_eq_some_iff.mp e0
  obtain ⟨⟨dy, my⟩, e2, eb⟩ := Option.bind_eq_some_iff.mp ea
  refine a2 σ s h ve dx mx _ A e1 fun v s1 h1 B G1 => ?_
  obtain ⟨g1, r1⟩ := G1.seen
  refine b2 σ _ h1 ve dy my _ (A.grow g1) e2 fun v2 s2 h2 B2 G2 => ?_
  obtain ⟨g2, r2⟩ := G2.seen
  dsimp only at eb
  split at eb
  · rename_i ii jj
    split at eb
    · rename_i hb
      cases eb
      simp only [Sees] at r1 r2
      replace hb := and62 hb
      split at q
      · rename_i hl
        cases q
        rw [rgD_length] at hl
        have hl' : (jj - ii).toNat ≤ sizeLine := by rw [← lim_eq]; exact hl
        refine ⟨ii, jj, r1, r2, ⟨hb.1.1, hb.1.2, hb.2.1, hb.2.2, hl'⟩, fun q hq => w _ _ _ [q] ((got_rg g2.sub hq).pre (g1.trans g2))⟩
      · cases q
    · cases eb
  · cases eb
/-! sorted: ints, pairs of ints -/
def toPairs : List D → Option (List (Int × Int))
  | [] => some []
  | .tup [.int i, .int j] :: ds => (toPairs ds).bind fun r => some ((i, j) :: r)
  | _ => none
def pD (x : Int × Int) : D := .tup [.int x.1, .int x.2]
theorem toPairs_map : ∀ ps : List (Int × Int), toPairs (ps.map pD) = some ps
  | [] => rfl
  | (i, j) :: ps => by
    show (toPairs (ps.map pD)).bind _ = _
    rw [toPairs_map ps]
    rfl
theorem toPairs_eq : ∀ {ds : List D} {ps : List (Int × Int)}, toPairs ds = some ps → ds = ps.map pD
  | [], ps, h => by cases h; rfl
  | d :: ds, ps, h => by
    unfold toPairs at h
    split at h
    · rename_i e; cases e
    · rename_i i j ds' e
      cases e
      obtain ⟨r, e1, h⟩ := Option.bind_eq_some_iff.mp h
      cases h
      rw [toPairs_eq e1]
      rfl
    · cases h
def pLe (x y : Int × Int) : Prop := x.1 < y.1 ∨ (x.1 = y.1 ∧ x.2 ≤ y.2)
instance (x y : Int × Int) : Decidable (pLe x y) := by unfold pLe; infer_instance
def insP (x : Int × Int) : List (Int × Int) → List (Int × Int)
  | [] => [x]
  | y :: l => if pLe x y then x :: y :: l else y :: insP x l
def psort : List (Int × Int) → List (Int × Int)
  | [] => []
  | x :: l => insP x (psort l)
theorem insP_perm (x : Int × Int) : ∀ l, (insP x l).Perm (x :: l)
  | [] => List.Perm.refl _
  | y :: l => by
    unfold insP
    split
    · exact List.Perm.refl _
    · exact (List.Perm.cons y (insP_perm x l)).trans (List.Perm.swap x y l)
theorem psort_perm : ∀ l, (psort l).Perm l
  | [] => List.Perm.refl _
  | x :: l => (insP_perm x _).trans (List.Perm.cons x (psort_perm l))
theorem pLe_total (x y : Int × Int) : pLe x y ∨ pLe y x := by unfold pLe; omega
theorem pLe_trans {x y z : Int × Int} (a : pLe x y) (b : pLe y z) : pLe x z := by unfold pLe at *; omega
theorem insP_sorted (x : Int × Int) : ∀ l, l.Pairwise pLe → (insP x l).Pairwise pLe
  | [], _ => List.pairwise_singleton _ _
  | y :: l, h => by
    obtain ⟨h1, h2⟩ := List.pairwise_cons.mp h
    unfold insP
    split
    · rename_i hxy
      refine List.pairwise_cons.mpr ⟨fun z hz => ?_, h⟩
      rcases List.mem_cons.mp hz with rfl | hz
      · exact hxy
      · exact pLe_trans hxy (h1 z hz)
    · rename_i hxy
      refine List.pairwise_cons.mpr ⟨fun z hz => ?_, insP_sorted x l h2⟩
      rcases List.mem_cons.mp ((insP_perm x l).mem_iff.mp hz) with rfl | hz
      · exact (pLe_total _ _).resolve_left hxy
      · exact h1 z hz
theorem psort_sorted : ∀ l, (psort l).Pairwise pLe
  | [] => List.Pairwise.nil
  | x :: l => insP_sorted x _ (psort_sorted l)
theorem psort_uniq {l m : List (Int × Int)} (h1 : l.Pairwise pLe) (h2 : m.Pairwise pLe) (p : l.Perm m) : l = m := p.eq_of_pairwise (fun a b _ _ h1 h2 => by
  unfold pLe at h1 h2
  exact Prod.ext (by omega) (by omega)) h1 h2
def gSorted : List D → Option (D × M)
  | [.lst ds] => match toInts ds with
    | some ns => some (.lst ((isort ns).map D.int), .dp)
    | none => (toPairs ds).bind fun ps => some (.lst ((psort ps).map pD), .dp)
  | _ => none
theorem sees_pD {K : PySem.W.Frag} {s : Hp} {v : V} {x : Int × Int} (r : Sees K T s v (pD x)) : ∃ t, v = .ref t ∧ s t = some (.tup [.int x.1, .int x.2]) := by
  unfold pD at r
  simp only [Sees, SeesL] at r
  obtain ⟨p, vs, rfl, r1, v1, q1, rfl, rfl, v2, q2, rfl, rfl, rfl⟩ := r
  exact ⟨p, rfl, r1⟩
theorem oc_sorted : OC T X (.builtin "sorted") gSorted := by
  refine ⟨_, CallR.or cr_sortedI cr_sortedPO, fun s h xs ds d m Q e tb r q w => ?_⟩
  unfold gSorted at q
  split at q
  · rename_i ds0
    obtain ⟨v, rfl, rv⟩ := sees1 r
    simp only [Sees] at rv
    obtain ⟨p, vs, rfl, e2, e3⟩ := rv
    have e2' : h p = some (.lst vs) := e.at_ _ _ e2 (by intro _ z; cases z)
    split at q
    · rename_i ns ens
      cases q
      have ed := toInts_eq ens
      subst ed
      have ev := seesL_ints_inv ns e3
      subst ev
      refine .inl ⟨p, ns, rfl, SqL.of e2', fun ns' q' hp hs hq => ?_⟩
      have en : ns' = isort ns := sorted_uniq hs (isort_sorted ns) (hp.trans (isort_perm ns).symm)
      subst en
      exact w _ _ _ [q'] (got_ints e hq)
    · obtain ⟨ps, eps, q⟩ := Option.bind_eq_some_iff.mp q
      cases q
      have ed := toPairs_eq eps
      subst ed
      let kf : V → Int × Int := fun v => match v with
        | .ref t => match h t with
          | some (.tup [.int i, .int j]) => (i, j)
          | _ => (0, 0)
        | _ => (0, 0)
      have kv : ∀ (v : V) (x : Int × Int), Sees X.K T s v (pD x) → kf v = x ∧ ∃ t, v = .ref t ∧ h t = some (.tup [.int x.1, .int x.2]) := fun v x r => by
        obtain ⟨t, rfl, et⟩ := sees_pD r
        have et' : h t = some (.tup [.int x.1, .int x.2]) := e.at_ _ _ et (by intro _ z; cases z)
        refine ⟨?_, t, rfl, et'⟩
        show (match h t with
          | some (.tup [.int i, .int j]) => (i, j)
          | _ => (0, 0)) = x
        rw [et']
      have km : vs.map kf = ps := by
        apply List.ext_getElem?
        intro i
        have hl := SeesL.len _ e3
        rw [List.getElem?_map]
        cases ev : vs[i]? with
        | none =>
          have : vs.length ≤ i := List.getElem?_eq_none_iff.mp ev
          rw [List.getElem?_eq_none (by rw [List.length_map] at hl; omega)]
          rfl
        | some v =>
          obtain ⟨d, e4, e5⟩ := e3.getV ev
          rw [List.getElem?_map] at e4
          cases ep : ps[i]? with
          | none => rw [ep] at e4; cases e4
          | some x =>
            rw [ep] at e4
            cases e4
            rw [Option.map_some, (kv v x e5).1]
      refine .inr ⟨p, vs, kf, rfl, SqL.of e2', fun x hx => ?_, fun ys q' hs hst hq => ?_⟩
      · obtain ⟨i, ei⟩ := List.mem_iff_getElem?.mp hx
        obtain ⟨d, e4, e5⟩ := e3.getV ei
        rw [List.getElem?_map] at e4
        cases ep : ps[i]? with
        | none => rw [ep] at e4; cases e4
        | some z =>
          rw [ep] at e4
          cases e4
          obtain ⟨k1, t, e6, e7⟩ := kv x z e5
          exact ⟨t, e6, by rw [k1]; exact e7⟩
      · have yp : ys.Perm vs := hst.perm
        have es : ys.map kf = psort ps := by
          refine psort_uniq ?_ (psort_sorted ps) ?_
          · refine List.pairwise_map.mpr (hs.imp fun {a b} hab => ?_)
            have := SrtO.lexB_no.mp hab
            unfold pLe
            omega
          · rw [← km]
            exact (yp.map kf).trans (psort_perm _).symm
        have sy : SeesL X.K T s ys ((psort ps).map pD) := by
          rw [← es]
          refine SeesL.of_get (by simp) fun i v d ev ed => ?_
          have hv : v ∈ vs := yp.mem_iff.mp (List.mem_of_getElem? ev)
          obtain ⟨i2, ei⟩ := List.mem_iff_getElem?.mp hv
          obtain ⟨d2, e4, e5⟩ := e3.getV ei
          rw [List.getElem?_map, List.getElem?_map, ev] at ed
          cases ed
          rw [List.getElem?_map] at e4
          cases ep : ps[i2]? with
          | none => rw [ep] at e4; cases e4
          | some z =>
            rw [ep] at e4
            cases e4
            rw [(kv v z e5).1]
            exact e5
        have hi : immL ((psort ps).map pD) = true := by
          generalize psort ps = l
          induction l with
          | nil => rfl
          | cons z l ih => simp [immL, pD, imm, ih]
        have := got_list e hq sy
        unfold lm at this
        rw [if_pos hi] at this
        exact w _ _ _ [q'] this
  · cases q
/-! isinstance -/
def tyN : D → Option String
  | .non => some "NoneType"
  | .bl _ => some "bool"
  | .int _ => some "int"
  | .str _ => some "str"
  | .lst _ => some "list"
  | .scr _ => some "list"
  | .tup _ => some "tuple"
  | .dk _ _ => some "dict"
  | .ins _ _ => none
theorem tyX_of {K : PySem.W.Frag} {s h : Hp} {v : V} {d : D} {n : String} (u : Sub s h) (r : Sees K T s v d) (q : tyN d = some n) : TyX K h v (.type n) := by
  cases d with
  | non => cases q; simp only [Sees] at r; subst r; exact .base .non
  | bl y => cases q; simp only [Sees] at r; subst r; exact .base (.bl y)
  | int y => cases q; simp only [Sees] at r; subst r; exact .base (.int y)
  | str y => cases q; simp only [Sees] at r; subst r; exact .base (.str y)
  | lst ds =>
    cases q
    simp only [Sees] at r
    obtain ⟨p, vs, rfl, e1, _⟩ := r
    exact .base (.lst (u.at_ _ _ e1 (by intro _ z; cases z)))
  | tup ds =>
    cases q
    simp only [Sees] at r
    obtain ⟨p, vs, rfl, e1, _⟩ := r
    exact .base (.tup (sqT_ext u e1))
  | dk ks ds =>
    cases q
    simp only [Sees] at r
    obtain ⟨p, vs, rfl, e1, _⟩ := r
    rcases rd_ext u (by intro _ z; cases z) e1 with z | ⟨ob, z⟩
    · exact .base (.dK z)
    · exact .fDict z
  | ins c ds => cases q
  | scr ns =>
    cases q
    simp only [Sees] at r
    obtain ⟨p, rfl, e1⟩ := r
    rcases sqL_ext u e1 with (z | ⟨ob, z⟩) | ⟨o, its, n, e2, e3, _⟩
    · exact .base (.lst z)
    · exact .base (.frz z)
    · exact .kList e2 e3
def pIsi (t : String) (f : VEnv → Option (D × M)) : VEnv → Option (D × M) := fun ve => (f ve).bind fun x => (tyN x.1).bind fun n => (kitB n t).bind fun r => some (.bl r, .dp)
theorem jp_isi {t : String} {x : Str} {q1 : Pos} (hg : Gl X "isinstance") (hm : X.mg "isinstance" = none) (hgx : Gl X x) (hmx : X.mg x = none) (hvx : bootBuiltins x = some (.type t)) (ha : JP T X a fp) (hnx : x ≠ "__name__" := by decide) (hdx : (x == ("__debug__" : Str)) = false := by decide)
    (h1 : starEach [a, .Name x q1] X.env = (false, eval a X.env) :: starEach [.Name x q1] X.env := by rfl) (h3 : starEach [Expr.Name x q1] X.env = (false, eval (.Name x q1) X.env) :: starEach [] X.env := by rfl) (h2 : (backTo pos (starEach [Expr.Name x q1] X.env)).any (·.1) = false := by rfl)
    (hv : bootBuiltins "isinstance" = some (.builtin "isinstance") := by decide +kernel) : JP T X (.Call (.Name "isinstance" p) [a, .Name x q1] [] pos) (pIsi t fp) := by
  obtain ⟨ta, a1, a2⟩ := ha
  refine ⟨_, pe_callB call_isi hg hm hv (pa_cons a1 (pa_cons (pe_bltn (v := .ty t) hgx hmx hvx rfl hnx hdx) pa_nil h3) h1) (by decide) (by decide) h1 h2, fun σ s h ve d m Q A q w => ?_⟩
  obtain ⟨⟨dx, mx⟩, e1, q⟩ := Option.bind_eq_some_iff.mp q
  obtain ⟨n, e2, q⟩ := Option.bind_eq_some_iff.mp q
  obtain ⟨r, e3, q⟩ := Option.bind_eq_some_iff.mp q
  cases q
  refine a2 σ s h ve dx mx _ A e1 fun v s1 h1 B G1 => ?_
  obtain ⟨g1, r1⟩ := G1.seen
  exact ⟨v, .ty t, .type n, .type t, r, rfl, .ty t, tyX_of g1.sub r1 e2, kit_ty e3, w _ _ h1 [] ((got_bl g1.sub).pre g1)⟩
/-- what isinstance says of class c -/
structure IsiC (K : PySem.W.Frag) (T : Tx) (c : Nat) : Prop where
  cl : Cls K (T.cl c)
  ha : PySem.W.findIn K (.ref (T.cl c)) "__class__" = some (some (.builtin "object.__class__"))
  hn : PySem.W.specialIn K (.builtin "object.__class__") "__get__" = some (some (.builtin "getset_descriptor.__get__"))
  htk : PySem.W.takesIn K (.builtin "object.__class__") = some true
  hm : PySem.W.mroIn K (T.cl c) (.type "object") = some true
  me : PySem.W.kitOne K (.ref (T.cl c)) (.ref (T.cl c)) = some true
  bt : ∀ n ∈ ["NoneType", "bool", "int", "str", "list", "tuple", "dict"], PySem.W.kitOne K (.type n) (.ref (T.cl c)) = some false
def isiC (c : Nat) : D → Option Bool
  | .ins c' _ => if c' = c then some true else none
  | _ => some false
def pIsC (c : Nat) (f : VEnv → Option (D × M)) : VEnv → Option (D × M) := fun ve => (f ve).bind fun x => (isiC c x.1).bind fun r => some (.bl r, .dp)
theorem jp_isC {x : Str} {q1 : Pos} (C : IsiC X.K T cc) (hg : Gl X "isinstance") (hm : X.mg "isinstance" = none) (hgx : Gl X x) (hmx : X.mg x = some (.ref (T.cl cc))) (ha : JP T X a fp) (hdx : (x == ("__debug__" : Str)) = false := by decide)
    (h1 : starEach [a, .Name x q1] X.env = (false, eval a X.env) :: starEach [.Name x q1] X.env := by rfl) (h3 : starEach [Expr.Name x q1] X.env = (false, eval (.Name x q1) X.env) :: starEach [] X.env := by rfl) (h2 : (backTo pos (starEach [Expr.Name x q1] X.env)).any (·.1) = false := by rfl)
    (hv : bootBuiltins "isinstance" = some (.builtin "isinstance") := by decide +kernel) : JP T X (.Call (.Name "isinstance" p) [a, .Name x q1] [] pos) (pIsC cc fp) := by
  obtain ⟨ta, a1, a2⟩ := ha
  refine ⟨_, pe_callB call_isi hg hm hv (pa_cons a1 (pa_cons (pe_glob (v := .ref (T.cl cc)) hgx hmx rfl hdx) pa_nil h3) h1) (by decide) (by decide) h1 h2, fun σ s h ve d m Q A q w => ?_⟩
  obtain ⟨⟨dx, mx⟩, e1, q⟩ := Option.bind_eq_some_iff.mp q
  obtain ⟨r, e3, q⟩ := Option.bind_eq_some_iff.mp q
  cases q
  refine a2 σ s h ve dx mx _ A e1 fun v s1 h1 B G1 => ?_
  obtain ⟨g1, r1⟩ := G1.seen
  have bt : ∀ n, tyN dx = some n → isiC cc dx = some false → ∃ t, TyX X.K h1 v t ∧ PySem.W.kitOne X.K t (.ref (T.cl cc)) = some false := fun n hn _ => ⟨_, tyX_of g1.sub r1 hn, C.bt n (by
    cases dx <;> simp [tyN] at hn <;> subst hn <;> decide)⟩
  have fin : ∃ t, TyX X.K h1 v t ∧ PySem.W.kitOne X.K t (.ref (T.cl cc)) = some r := by
    cases dx with
    | ins c' ds =>
      simp only [isiC] at e3
      split at e3
      · rename_i ec
        cases e3
        subst ec
        simp only [Sees] at r1
        obtain ⟨p, dx, vs, rfl, e4, _, _⟩ := r1
        exact ⟨_, .base (.ins (g1.sub.at_ _ _ e4 (by intro _ z; cases z)) C.cl C.ha C.hn C.htk C.hm), C.me⟩
      · cases e3
    | _ => cases e3; exact bt _ rfl rfl
  obtain ⟨t, ty, kt⟩ := fin
  exact ⟨v, .ref (T.cl cc), t, _, r, rfl, .own _, ty, kt, w _ _ h1 [] ((got_bl g1.sub).pre g1)⟩
/-! a test by a value that is known to be a bool -/
/-! a dict display with one pair -/
def tDict1 (tk tv : TE) : TE := fun σ H Q => ∀ p, H p = none → tk σ (upd H p (.dK [])) fun y H1 => tv σ H1 fun v H2 => ∃ kk, y = kV kk ∧ H2 p = some (.dK []) ∧ Q (.ref p) (upd H2 p (.dK [(kk, v)]))
theorem pe_dict1 {tk tv : TE} (hk : PE X a tk) (hv : PE X b tv) : PE X (.Dict [some a] [b] pos) (tDict1 tk tv) := by
  refine ⟨fun pins s σ H Q I h => ?_⟩
  have I1 : Inv X pins σ (upd H s.heap.objs.size (.dK [])) { s with heap := s.heap.push { cls := .type "dict", data := .dict #[] } } :=
    I.laid (a := s.heap.objs.size) (o := .dK []) (t' := s.toks) (fun _ _ q => Heap.get?_push_of_some _ q) (Nat.le_refl _) (dk_empty s.heap I.big)
  have hp := h s.heap.objs.size (I.hok.fresh (Nat.le_refl _))
  refine wpAny_Dict_pairs (knd := mixKind X.prog X.w) (pairs := [(eval a X.env, do let x ← eval b X.env; standAt pos; pure x)]) rfl (by simp) (by simp) ?_
  refine evalPairs_cons ?_
  refine thn (hk.run pins _ σ _ _ I1 hp) fun u s1 ⟨y, H1, I2, r1, q1⟩ => ?_
  refine wpAny_bind (thn (hv.run pins s1 σ H1 _ I2 q1) fun u2 s2 ⟨v, H2, I3, r2, kk, ey, e3, q2⟩ => ?_)
  refine wpAny_bind (wpAny_standAt (wpAny_pure ?_))
  refine evalPairs_nil ?_
  subst ey
  obtain ⟨z, hd, vs, rel, dd⟩ := dk_of I3.hok e3
  cases rel
  refine ⟨[(kk, u2)], ⟨kV_is r1, rfl, trivial⟩, dd, fun h' dd' sb => ?_⟩
  have he : ∃ q, h'.get? s.heap.objs.size = some q := let ⟨q, _, _, hq, _⟩ := dd'; ⟨q, hq⟩
  exact ⟨.ref s.heap.objs.size, _, d_write I3 (by rw [e3]; exact True.intro) sb he (dk_new (by show 1 ≤ sizeLine; decide) hd (.cons ⟨rfl, r2⟩ .nil) dd'), rfl, q2⟩
end
end G
set_option Elab.async false
set_option linter.all false
set_option maxRecDepth 100000
set_option maxHeartbeats 4000000
/-! G16: dicts, fields, keywords, own ==, name = [comprehension] -/
namespace G
open PySem PySem.Spec PyProof.Rows L2
section
variable {X : Cx} {T : Tx} {io : List Bool} {a b c e o i tg : Expr} {es : List Expr} {f k : Env' → Option (D × M × Env')} {fi fp fq : VEnv → Option (D × M)} {fl : VEnv → Option (List (D × M))} {pos p apos cpos : Pos} {x m : Str} {j l n cc : Nat} {run : Fi}
/-! {k: v} -/
def pDict1 (f g : VEnv → Option (D × M)) : VEnv → Option (D × M) := fun ve => (f ve).bind fun x => (g ve).bind fun y => (isKey x.1).bind fun k => some (.dk [k] [y.1], if y.2 = .dp then .dp else .o1)
theorem jp_dict1 (ha : JP T X a fp) (hb : JP T X b fq) : JP T X (.Dict [some a] [b] pos) (pDict1 fp fq) := by
  obtain ⟨ta, a1, a2⟩ := ha
  obtain ⟨tb, b1, b2⟩ := hb
  refine ⟨_, pe_dict1 a1 b1, fun σ s h ve d m Q A q w => ?_⟩
  obtain ⟨⟨dx, mx⟩, e1, q⟩ := Option.bind_eq_some_iff.mp q
  obtain ⟨⟨dy, my⟩, e2, q⟩ := Option.bind_eq_some_iff.mp q
  obtain ⟨kk, e3, q⟩ := Option.bind_eq_some_iff.mp q
  cases q
  intro p np
  have g0 : Gr T s h s (upd h p (.dK [])) := Gr.own A.sub np
  refine a2 σ s _ ve dx mx _ (A.grow g0) e1 fun y s1 h1 B1 G1 => ?_
  obtain ⟨g1, r1⟩ := G1.seen
  refine b2 σ _ h1 ve dy my _ ((A.grow g0).grow g1) e2 fun v s2 h2 B2 G2 => ?_
  have sp1 : shr s1 h1 B1 p = none := grow_none g1 (o := .dK []) (upd_same) trivial (A.sub.no p np)
  have gg : Gr T s h s2 h2 := (g0.trans g1).trans G2.gr
  have e4 : h2 p = some (.dK []) := (g1.trans G2.gr).hh.at_ p _ upd_same (by intro _ z; cases z)
  have s2p : s2 p = none := grow_none (g1.trans G2.gr) (o := .dK []) upd_same trivial (A.sub.no p np)
  have nB : p ∉ B2 := fun z => by
    have := G2.fr.nw p z
    rw [g1.hh.at_ p _ upd_same (by intro _ z; cases z)] at this
    cases this
  have fB : Fresh h s2 B2 := ⟨G2.fr.nd, fun b hb => (g0.trans g1).non (G2.fr.nw b hb), G2.fr.ns⟩
  refine ⟨kk, key_sees e3 r1, e4, ?_⟩
  by_cases hm : my = .dp
  · subst hm
    have g3 := gg.put (o' := .dK [(kk, v)]) np e4 trivial s2p
    refine w _ s2 _ (p :: B2) ⟨g3, ?_, List.nodup_cons.mpr ⟨nB, fB.nd⟩, fun b hb => ?_, fun b hb => ?_⟩
    · simp only [if_true, Rep, Deep]
      refine ⟨p, [v], B2, rfl, upd_same, rfl, rfl, DeepL.one (Deep.put (show Deep X.K T h2 v dy B2 from G2.rep) e4 trivial nB)⟩
    · rcases List.mem_cons.mp hb with rfl | hb
      · exact np
      · exact fB.nw b hb
    · rcases List.mem_cons.mp hb with rfl | hb
      · exact s2p
      · exact fB.ns b hb
  · have g3 := (gg.shr fB)
    have s3p : shr s2 h2 B2 p = none := shr_none s2p e4 trivial nB
    have g4 := g3.put (o' := .dK [(kk, v)]) np e4 trivial s3p
    refine w _ _ _ [p] ⟨g4, ?_, by simp, fun b hb => ?_, fun b hb => ?_⟩
    · simp only [if_neg hm]
      exact ⟨p, rfl, rfl, [v], upd_same, rfl, SeesL.one (G2.rep.shr G2.gr.sub fun _ hb => hb)⟩
    · rw [List.mem_singleton.mp hb]; exact np
    · rw [List.mem_singleton.mp hb]; exact s3p
/-! d[k] = v on a slot -/
def hasK (ks : List Key) (x : Key) : Prop := x ∈ ks
instance hasKDec (ks : List Key) (x : Key) : Decidable (hasK ks x) := decidable_of_iff ((ks.any fun k => decide (k = x)) = true) (by simp [hasK])
def updV : List Key → List D → Key → D → List D
  | k :: ks, d :: ds, x, y => (if k = x then y else d) :: updV ks ds x y
  | _, ds, _, _ => ds
def putD (ks : List Key) (ds : List D) (x : Key) (y : D) : List Key × List D := if hasK ks x then (ks, updV ks ds x y) else (ks ++ [x], ds ++ [y])
def updW : List Key → List V → Key → V → List V
  | k :: ks, d :: ds, x, y => (if k = x then y else d) :: updW ks ds x y
  | _, ds, _, _ => ds
theorem putK_zip {ks : List Key} {vs : List V} (hl : ks.length = vs.length) (x : Key) (y : V) : putK (ks.zip vs) x y = if hasK ks x then ks.zip (updW ks vs x y) else (ks ++ [x]).zip (vs ++ [y]) := by
  have any : ((ks.zip vs).any fun kv => decide (kv.1 = x)) = decide (hasK ks x) := by
    induction ks generalizing vs with
    | nil => simp [hasK]
    | cons k ks ih =>
      cases vs with
      | nil => simp at hl
      | cons v vs =>
        have eh : hasK (k :: ks) x ↔ x = k ∨ hasK ks x := by simp [hasK]
        simp only [List.zip_cons_cons, List.any_cons, ih (by simpa using hl), eh]
        by_cases h1 : k = x
        · simp [h1]
        · simp [h1, Ne.symm h1]
  have mp : (ks.zip vs).map (fun kv => if kv.1 = x then (kv.1, y) else kv) = ks.zip (updW ks vs x y) := by
    clear any
    induction ks generalizing vs with
    | nil => simp
    | cons k ks ih =>
      cases vs with
      | nil => simp at hl
      | cons v vs =>
        simp only [List.zip_cons_cons, List.map_cons, ih (by simpa using hl), updW]
        by_cases h1 : k = x <;> simp [h1]
  unfold putK
  rw [any, mp]
  by_cases h : hasK ks x
  · simp [h]
  · simp only [h, decide_false, Bool.false_eq_true, if_false]
    rw [List.zip_append hl]
    rfl
theorem updW_len : ∀ (ks : List Key) (vs : List V) (x : Key) (y : V), (updW ks vs x y).length = vs.length
  | [], _, _, _ => rfl
  | _ :: _, [], _, _ => rfl
  | k :: ks, v :: vs, x, y => by simp only [updW, List.length_cons, updW_len ks vs x y]
theorem SeesL.updW {K : PySem.W.Frag} {h : Hp} {x : Key} {y : V} {dy : D} (hy : Sees K T h y dy) : ∀ {ks : List Key} {vs : List V} {ds : List D}, SeesL K T h vs ds → SeesL K T h (G.updW ks vs x y) (updV ks ds x dy)
  | [], _, _, r => r
  | k :: ks, _, [], r => by
    simp only [SeesL] at r
    subst r
    simp [G.updW, updV, SeesL]
  | k :: ks, _, d :: ds, r => by
    simp only [SeesL] at r
    obtain ⟨v, q, rfl, r1, r2⟩ := r
    simp only [G.updW, updV, SeesL]
    refine ⟨_, _, rfl, ?_, SeesL.updW hy r2⟩
    split
    · exact hy
    · exact r1
/-- an immutable value into a dict that is all ours -/
theorem DeepL.updW {K : PySem.W.Frag} {h : Hp} {x : Key} {y : V} {dy : D} (hy : Deep K T h y dy []) : ∀ {ks : List Key} {vs : List V} {ds : List D} {C : List Addr}, DeepL K T h vs ds C → ∃ C2, C2.Sublist C ∧ DeepL K T h (G.updW ks vs x y) (updV ks ds x dy) C2
  | [], _, _, C, r => ⟨C, List.Sublist.refl _, r⟩
  | k :: ks, _, [], C, r => by
    simp only [DeepL] at r
    obtain ⟨rfl, rfl⟩ := r
    exact ⟨[], List.Sublist.refl _, by simp [G.updW, updV, DeepL]⟩
  | k :: ks, _, d :: ds, _, r => by
    simp only [DeepL] at r
    obtain ⟨v, q, B1, B2, rfl, rfl, r1, r2⟩ := r
    obtain ⟨C2, sb, r3⟩ := DeepL.updW hy r2
    by_cases hk : k = x
    · refine ⟨C2, sb.trans (List.sublist_append_right _ _), ?_⟩
      simp only [G.updW, updV, if_pos hk, DeepL]
      exact ⟨y, _, [], C2, rfl, rfl, hy, r3⟩
    · refine ⟨B1 ++ C2, List.Sublist.append (List.Sublist.refl _) sb, ?_⟩
      simp only [G.updW, updV, if_neg hk, DeepL]
      exact ⟨v, _, B1, C2, rfl, rfl, r1, r3⟩
def putDM (ks : List Key) (ds : List D) (k : Option Key) (x : D × M) (mx : M) : Option (D × M) := k.bind fun kk => if ks.length < lim then match mx with
  | .sh => none
  | .o1 => some (.dk (putD ks ds kk x.1).1 (putD ks ds kk x.1).2, .o1)
  | .dp => some (.dk (putD ks ds kk x.1).1 (putD ks ds kk x.1).2, if x.2 = .dp ∧ (¬ hasK ks kk ∨ imm x.1 = true) then .dp else .o1) else none
theorem putD_go {K : PySem.W.Frag} {s h s1 h1 : Hp} {A A1 B : List Addr} {σ : St} {env : Env'} {v y : V} {ks : List Key} {xs : List D} {mx : M} {kk : Key} {x z : D × M} (g : GotL K T s h A σ [v, y] [(.dk ks xs, mx), x] env s1 h1 A1 B) (q : putDM ks xs (some kk) x mx = some z) :
    ∃ p vs, v = .ref p ∧ h1 p = some (.dK (ks.zip vs)) ∧ (ks.zip vs).length < sizeLine ∧ ∃ s2 B2, GotE K T s h A σ v z.1 z.2 env s2 (upd h1 p (.dK (putK (ks.zip vs) kk y))) A1 B2 := by
  have hh := g.hd
  obtain ⟨v', q', B0, B1, e1, rfl, r0, r1⟩ := g.rp
  cases e1
  obtain ⟨y', q', B2, B3, e1, rfl, r2, r3⟩ := r1
  cases e1
  obtain ⟨_, rfl⟩ := r3
  rw [List.append_nil] at hh g
  have fin : ∀ {s2 h2 : Hp} {d : D} {m : M} {B' : List Addr} {v : V}, Hd K T s h A σ env s2 h2 A1 B' → Rep K T s2 h2 v d m B' → GotE K T s h A σ v d m env s2 h2 A1 B' := fun H R => ⟨H.st, H.tab, H.er, R, H.nd, H.fr, H.wh⟩
  simp only [putDM, Option.bind_some] at q
  split at q
  · rename_i hlim
    cases mx with
    | sh => cases q
    | dp =>
      simp only [Option.some.injEq] at q
      simp only [Rep, Deep] at r0
      obtain ⟨p, vs, C, rfl, e2, hl, rfl, e3⟩ := r0
      have hlz : (ks.zip vs).length < sizeLine := by rw [List.length_zip, ← lim_eq]; omega
      refine ⟨p, vs, rfl, e2, hlz, ?_⟩
      obtain ⟨n1, n2, n3⟩ := List.nodup_append.mp hh.nd
      have n2' : (p :: (C ++ B2)).Nodup := by simpa using n2
      obtain ⟨np, n4⟩ := List.nodup_cons.mp n2'
      obtain ⟨n5, n6, n7⟩ := List.nodup_append.mp n4
      rw [putK_zip hl]
      by_cases hc : x.2 = .dp ∧ (¬ hasK ks kk ∨ imm x.1 = true)
      · rw [if_pos hc] at q
        subst q
        have hx : Deep K T h1 y x.1 B2 := by
          have := r2
          rw [hc.1] at this
          exact this
        by_cases hk : hasK ks kk
        · rw [if_pos hk]
          have hi : imm x.1 = true := hc.2.resolve_left (fun z => z hk)
          have hB : B2 = [] := Deep.nil _ hi hx
          subst hB
          obtain ⟨C2, sb, r3⟩ := DeepL.updW (x := kk) (ks := ks) hx e3
          have np2 : p ∉ C2 := fun z => np (List.mem_append_left _ (sb.mem z))
          have H2 := hh.change (o' := .dK (ks.zip (updW ks vs kk y))) (S := []) (B' := p :: C2) (by simp) e2 trivial trivial (by simp) (by simp) (fun b hb => by
            rcases List.mem_cons.mp hb with rfl | hb
            · simp
            · simp [sb.mem hb]) (by simp) (List.nodup_cons.mpr ⟨np2, List.Nodup.sublist sb n5⟩)
          refine ⟨_, _, fin H2 ?_⟩
          simp only [putD, if_pos hk, Rep, Deep]
          exact ⟨p, _, C2, rfl, upd_same, by rw [updW_len]; exact hl, rfl, r3.put e2 trivial np2⟩
        · rw [if_neg hk]
          have H2 := hh.change (o' := .dK ((ks ++ [kk]).zip (vs ++ [y]))) (S := []) (B' := p :: (C ++ B2)) (by simp) e2 trivial trivial (by simp) (by simp) (fun b hb => by simpa using hb) (by simp) n2'
          refine ⟨_, _, fin H2 ?_⟩
          simp only [putD, if_neg hk, Rep, Deep]
          exact ⟨p, _, C ++ B2, rfl, upd_same, by simp [hl], rfl, (e3.put e2 trivial (fun z => np (List.mem_append_left _ z))).app (DeepL.one (Deep.put hx e2 trivial (fun z => np (List.mem_append_right _ z))))⟩
      · rw [if_neg hc] at q
        subst q
        have S1 := DeepL.shr (s := s1) (C := C ++ B2) _ e3 (fun b hb => List.mem_append_left _ hb)
        have S2 := r2.shr g.st.sub (C := C ++ B2) (fun b hb => List.mem_append_right _ hb)
        by_cases hk : hasK ks kk
        · rw [if_pos hk]
          have H2 := hh.change (o' := .dK (ks.zip (updW ks vs kk y))) (S := C ++ B2) (B' := [p]) (by simp) e2 trivial trivial (fun b hb => by simpa using Or.inr (List.mem_append.mp hb)) np (by simp) (by simpa using np) (by simp)
          refine ⟨_, _, fin H2 ?_⟩
          simp only [putD, if_pos hk]
          exact ⟨p, rfl, rfl, _, upd_same, by rw [updW_len]; exact hl, S1.updW S2⟩
        · rw [if_neg hk]
          have H2 := hh.change (o' := .dK ((ks ++ [kk]).zip (vs ++ [y]))) (S := C ++ B2) (B' := [p]) (by simp) e2 trivial trivial (fun b hb => by simpa using Or.inr (List.mem_append.mp hb)) np (by simp) (by simpa using np) (by simp)
          refine ⟨_, _, fin H2 ?_⟩
          simp only [putD, if_neg hk]
          exact ⟨p, rfl, rfl, _, upd_same, by simp [hl], S1.app (SeesL.one S2)⟩
    | o1 =>
      simp only [Option.some.injEq] at q
      subst q
      simp only [Rep] at r0
      obtain ⟨p, rfl, rfl, vs, e2, hl, e3⟩ := r0
      have hlz : (ks.zip vs).length < sizeLine := by rw [List.length_zip, ← lim_eq]; omega
      refine ⟨p, vs, rfl, e2, hlz, ?_⟩
      obtain ⟨n1, n2, n3⟩ := List.nodup_append.mp hh.nd
      have n2' : (p :: B2).Nodup := by simpa using n2
      obtain ⟨np, n4⟩ := List.nodup_cons.mp n2'
      rw [putK_zip hl]
      have S1 := SeesL.ext (sub_shr (B := B2) g.st.sub) _ e3
      have S2 := r2.shr g.st.sub (C := B2) (fun b hb => hb)
      by_cases hk : hasK ks kk
      · rw [if_pos hk]
        have H2 := hh.change (o' := .dK (ks.zip (updW ks vs kk y))) (S := B2) (B' := [p]) (by simp) e2 trivial trivial (fun b hb => by simp [hb]) np (by simp) (by simpa using np) (by simp)
        refine ⟨_, _, fin H2 ?_⟩
        simp only [putD, if_pos hk]
        exact ⟨p, rfl, rfl, _, upd_same, by rw [updW_len]; exact hl, S1.updW S2⟩
      · rw [if_neg hk]
        have H2 := hh.change (o' := .dK ((ks ++ [kk]).zip (vs ++ [y]))) (S := B2) (B' := [p]) (by simp) e2 trivial trivial (fun b hb => by simp [hb]) np (by simp) (by simpa using np) (by simp)
        refine ⟨_, _, fin H2 ?_⟩
        simp only [putD, if_neg hk]
        exact ⟨p, rfl, rfl, _, upd_same, by simp [hl], S1.app (SeesL.one S2)⟩
  · cases q
def gSetD (j : Nat) (fi : VEnv → Option (D × M)) : D × M → Env' → Option Env' := fun x env => (fi (vw env)).bind fun iv => match env[j]? with
  | some (some (.dk ks xs, mx)) => (putDM ks xs (isKey iv.1) x mx).bind fun z => some (env.set j (some z))
  | _ => none
theorem jgo_setD {spos : Pos} (hu : X.A.units + 1 < cLine) (hN : X.N[j]? = some x) (hi : JP T X i fi) (hv : Vis X.env.scope x := by first | exact Or.inl rfl | exact Or.inr (Or.inl rfl) | exact Or.inr (Or.inr rfl)) (hd : (x == ("__debug__" : Str)) = false := by decide) (hcd : (x == ("__classdict__" : Str)) = false := by decide)
    (ha : ∀ v, assign (.Subscript (.Name x p) i spos) X.env v = (do
      let ov ← holding [v] (eval (.Name x p) X.env)
      let iv ← holding [v, ov] (eval i X.env)
      standAt spos
      holding [v, ov, iv] (setItem ov iv v)
      release [v, ov, iv] []) := by intro _; rfl) : JGO T X io (.Subscript (.Name x p) i spos) (gSetD j fi) := by
  obtain ⟨ti, i1, i2⟩ := hi
  refine ⟨fun pins sx σ H v u Q I r ⟨s, d, m, env, A, B, env', g0, rp, q, w⟩ => ?_⟩
  refine (pg_sub (pe_var hN hv hd hcd) i1 (set_dict hu) ha).run pins sx σ H v u Q I r ?_
  have g := g0.gotE rp
  obtain ⟨⟨di, mi⟩, e1, q⟩ := Option.bind_eq_some_iff.mp q
  dsimp only at q
  split at q
  · rename_i ks xs mx ej
    obtain ⟨z, e2, q⟩ := Option.bind_eq_some_iff.mp q
    cases q
    obtain ⟨kk, ek⟩ : ∃ kk, isKey di = some kk := by
      unfold putDM at e2
      cases hk : isKey di with
      | none => rw [hk] at e2; simp at e2
      | some k => exact ⟨k, rfl⟩
    rw [ek] at e2
    obtain ⟨vj, Bj, ev, _, _⟩ := g.own.er.get ej
    refine ⟨vj, ev, i2 σ H H (vw env) _ mi _ g.view e1 fun iv s' h' Bi Gi => ?_⟩
    obtain ⟨gg, ri⟩ := Gi.seen
    have eiv := key_sees ek ri
    subst eiv
    have g2 := g.grow (Gr.own_of g.st.sub gg)
    obtain ⟨v2, A2, B2, ev2, g3⟩ := g2.one.takeC ej
    rw [ev] at ev2
    cases ev2
    obtain ⟨p0, ws, rfl, e3, e4, s3, B3, g4⟩ := putD_go g3 e2
    refine ⟨p0, _, rfl, .inl ⟨_, kk, e3, rfl, e4, rfl⟩, ?_⟩
    obtain ⟨A5, g5⟩ := g4.put (get_hole ej) ev
    rw [set_set_none] at g5
    exact w σ s3 _ A5 g5 Pin.rfl'
  · cases q
end
end G
set_option Elab.async false
set_option linter.all false
set_option maxRecDepth 100000
set_option maxHeartbeats 4000000
/-! G17: fields, keywords, own ==, name = [comprehension] -/
namespace G
open PySem PySem.Spec PyProof.Rows L2
section
variable {X : Cx} {T : Tx} {io : List Bool} {a b c e o i tg : Expr} {es : List Expr} {f k : Env' → Option (D × M × Env')} {fi fp fq : VEnv → Option (D × M)} {fl : VEnv → Option (List (D × M))} {pos p apos cpos : Pos} {x m : Str} {j l n cc : Nat} {run : Fi}
/-! self.f = v -/
def setFD (n i : Nat) (c : Nat) (xs : List D) (x : D × M) (mx : M) : Option (D × M) := if i < n then
    if i < xs.length then (inM mx x.2).bind fun m => some (.ins c (xs.set i x.1), m)
    else if i = xs.length then (inM mx x.2).bind fun m => some (.ins c (xs ++ [x.1]), m) else none
  else none
theorem putF_zip {fl : List Str} (nd : fl.Nodup) : ∀ {vs : List V} {i : Nat} {f : Str} (y : V), fl[i]? = some f → putF f y (fl.zip vs) = if i < vs.length then fl.zip (vs.set i y) else if i = vs.length then fl.zip (vs ++ [y]) else putF f y (fl.zip vs) := by
  induction fl with
  | nil => intro vs i f y e; simp at e
  | cons g fl ih =>
    intro vs i f y e
    obtain ⟨n1, n2⟩ := List.nodup_cons.mp nd
    cases vs with
    | nil =>
      cases i with
      | zero =>
        simp at e
        subst e
        simp [putF]
      | succ i => simp
    | cons v vs =>
      cases i with
      | zero =>
        simp at e
        subst e
        simp [putF]
      | succ i =>
        have e' : fl[i]? = some f := by simpa using e
        have hne : g ≠ f := fun z => n1 (z ▸ List.mem_of_getElem? e')
        simp only [List.zip_cons_cons, putF, if_neg hne, List.length_cons, List.set_cons_succ, List.cons_append, Nat.add_lt_add_iff_right, Nat.add_right_cancel_iff]
        rw [ih n2 y e']
        split
        · rfl
        · split <;> rfl
theorem setFD_go {K : PySem.W.Frag} {s h s1 h1 : Hp} {A A1 B : List Addr} {σ : St} {env : Env'} {v y : V} {c i : Nat} {xs : List D} {mx : M} {x z : D × M} (g : GotL K T s h A σ [v, y] [(.ins c xs, mx), x] env s1 h1 A1 B) (q : setFD (T.fl c).length i c xs x mx = some z) :
    ∃ p dx vs vs', v = .ref p ∧ h1 p = some (.ins (T.cl c) dx ((T.fl c).zip vs)) ∧ vs.length ≤ (T.fl c).length ∧ vs' = (if i < vs.length then vs.set i y else vs ++ [y]) ∧ (i < vs.length ∨ i = vs.length) ∧ ∃ s2 B2, GotE K T s h A σ v z.1 z.2 env s2 (upd h1 p (.ins (T.cl c) dx ((T.fl c).zip vs'))) A1 B2 := by
  have hh := g.hd
  obtain ⟨v', q', B0, B1, e1, rfl, r0, r1⟩ := g.rp
  cases e1
  obtain ⟨y', q', B2, B3, e1, rfl, r2, r3⟩ := r1
  cases e1
  obtain ⟨_, rfl⟩ := r3
  rw [List.append_nil] at hh g
  have fin : ∀ {s2 h2 : Hp} {d : D} {m : M} {B' : List Addr} {v : V}, Hd K T s h A σ env s2 h2 A1 B' → Rep K T s2 h2 v d m B' → GotE K T s h A σ v d m env s2 h2 A1 B' := fun H R => ⟨H.st, H.tab, H.er, R, H.nd, H.fr, H.wh⟩
  unfold setFD at q
  split at q
  · rename_i hin
    cases mx with
    | sh => simp only [inM, Option.bind_none, ite_self] at q; cases q
    | dp =>
      simp only [Rep, Deep] at r0
      obtain ⟨p, dx, vs, C, rfl, e2, hle, rfl, e3⟩ := r0
      have hl := DeepL.len _ e3
      obtain ⟨n1, n2, n3⟩ := List.nodup_append.mp hh.nd
      have n2' : (p :: (C ++ B2)).Nodup := by simpa using n2
      obtain ⟨np, n4⟩ := List.nodup_cons.mp n2'
      obtain ⟨n5, n6, n7⟩ := List.nodup_append.mp n4
      refine ⟨p, dx, vs, _, rfl, e2, hle, rfl, ?_⟩
      by_cases hm : x.2 = .dp
      · have hx : Deep K T h1 y x.1 B2 := by have := r2; rw [hm] at this; exact this
        split at q
        · rename_i hk
          simp only [inM, if_pos hm, Option.bind_some, Option.some.injEq] at q
          subst q
          obtain ⟨u, C1, Ck, C2, ey, rfl, dy, dr, ds⟩ := e3.erase (List.getElem?_eq_getElem hk)
          have sbC : ∀ b, b ∈ C1 ++ (B2 ++ C2) → b ∈ (C1 ++ (Ck ++ C2)) ++ B2 := fun b hb => by
            simp only [List.mem_append] at hb ⊢
            rcases hb with hb | hb | hb
            · exact .inl (.inl hb)
            · exact .inr hb
            · exact .inl (.inr (.inr hb))
          have ndC : (C1 ++ (B2 ++ C2)).Nodup := by
            have sb : ((C1 ++ C2) ++ B2).Sublist ((C1 ++ (Ck ++ C2)) ++ B2) := List.Sublist.append (List.Sublist.append (List.Sublist.refl _) (List.sublist_append_right _ _)) (List.Sublist.refl _)
            exact (perm_mid C1 B2 C2).nodup_iff.mpr (List.Nodup.sublist sb n4)
          have np2 : p ∉ C1 ++ (B2 ++ C2) := fun z => np (sbC p z)
          have H2 := hh.change (o' := .ins (T.cl c) dx ((T.fl c).zip (vs.set i y))) (S := []) (B' := p :: (C1 ++ (B2 ++ C2))) (by simp) e2 trivial trivial (by simp) (by simp) (fun b hb => by
            rcases List.mem_cons.mp hb with rfl | hb
            · simp
            · have := sbC b hb
              simp only [List.mem_append, List.mem_cons] at this ⊢
              rcases this with z | z
              · exact .inl (.inr z)
              · exact .inr z) (by simp) (List.nodup_cons.mpr ⟨np2, ndC⟩)
          refine ⟨.inl (by omega), ?_⟩
          rw [if_pos (by omega)]
          refine ⟨_, _, fin H2 ?_⟩
          simp only [Rep, Deep]
          exact ⟨p, dx, _, C1 ++ (B2 ++ C2), rfl, upd_same, by simpa using hle, rfl, (ds hx).put e2 trivial np2⟩
        · rename_i hk
          split at q
          · rename_i hk2
            simp only [inM, if_pos hm, Option.bind_some, Option.some.injEq] at q
            subst q
            have H2 := hh.change (o' := .ins (T.cl c) dx ((T.fl c).zip (vs ++ [y]))) (S := []) (B' := p :: (C ++ B2)) (by simp) e2 trivial trivial (by simp) (by simp) (fun b hb => by simpa using hb) (by simp) n2'
            refine ⟨.inr (by omega), ?_⟩
            rw [if_neg (by omega)]
            refine ⟨_, _, fin H2 ?_⟩
            simp only [Rep, Deep]
            exact ⟨p, dx, _, C ++ B2, rfl, upd_same, by simp; omega, rfl, (e3.put e2 trivial (fun z => np (List.mem_append_left _ z))).app (DeepL.one (Deep.put hx e2 trivial (fun z => np (List.mem_append_right _ z))))⟩
          · cases q
      · have S1 := DeepL.shr (s := s1) (C := C ++ B2) _ e3 (fun b hb => List.mem_append_left _ hb)
        have S2 := r2.shr g.st.sub (C := C ++ B2) (fun b hb => List.mem_append_right _ hb)
        have H0 : ∀ o' : HO, Mu o' → Hd K T s h A σ env (shr s1 h1 (C ++ B2)) (upd h1 p o') A1 [p] := fun o' mu' => hh.change (by simp) e2 trivial mu' (fun b hb => by simpa using Or.inr (List.mem_append.mp hb)) np (by simp) (by simpa using np) (by simp)
        split at q
        · rename_i hk
          simp only [inM, if_neg hm, Option.bind_some, Option.some.injEq] at q
          subst q
          refine ⟨.inl (by omega), ?_⟩
          rw [if_pos (by omega)]
          refine ⟨_, _, fin (H0 (.ins (T.cl c) dx ((T.fl c).zip (vs.set i y))) trivial) ?_⟩
          exact ⟨p, rfl, rfl, dx, _, upd_same, by simpa using hle, S1.set S2⟩
        · rename_i hk
          split at q
          · rename_i hk2
            simp only [inM, if_neg hm, Option.bind_some, Option.some.injEq] at q
            subst q
            refine ⟨.inr (by omega), ?_⟩
            rw [if_neg (by omega)]
            refine ⟨_, _, fin (H0 (.ins (T.cl c) dx ((T.fl c).zip (vs ++ [y]))) trivial) ?_⟩
            exact ⟨p, rfl, rfl, dx, _, upd_same, by simp; omega, S1.app (SeesL.one S2)⟩
          · cases q
    | o1 =>
      simp only [Rep] at r0
      obtain ⟨p, rfl, rfl, dx, vs, e2, hle, e3⟩ := r0
      have hl := SeesL.len _ e3
      obtain ⟨n1, n2, n3⟩ := List.nodup_append.mp hh.nd
      have n2' : (p :: B2).Nodup := by simpa using n2
      obtain ⟨np, n4⟩ := List.nodup_cons.mp n2'
      refine ⟨p, dx, vs, _, rfl, e2, hle, rfl, ?_⟩
      have S1 := SeesL.ext (sub_shr (B := B2) g.st.sub) _ e3
      have S2 := r2.shr g.st.sub (C := B2) (fun b hb => hb)
      have H0 : ∀ o' : HO, Mu o' → Hd K T s h A σ env (shr s1 h1 B2) (upd h1 p o') A1 [p] := fun o' mu' => hh.change (by simp) e2 trivial mu' (fun b hb => by simp [hb]) np (by simp) (by simpa using np) (by simp)
      split at q
      · rename_i hk
        simp only [inM, Option.bind_some, Option.some.injEq] at q
        subst q
        refine ⟨.inl (by omega), ?_⟩
        rw [if_pos (by omega)]
        refine ⟨_, _, fin (H0 (.ins (T.cl c) dx ((T.fl c).zip (vs.set i y))) trivial) ?_⟩
        exact ⟨p, rfl, rfl, dx, _, upd_same, by simpa using hle, S1.set S2⟩
      · rename_i hk
        split at q
        · rename_i hk2
          simp only [inM, Option.bind_some, Option.some.injEq] at q
          subst q
          refine ⟨.inr (by omega), ?_⟩
          rw [if_neg (by omega)]
          refine ⟨_, _, fin (H0 (.ins (T.cl c) dx ((T.fl c).zip (vs ++ [y]))) trivial) ?_⟩
          exact ⟨p, rfl, rfl, dx, _, upd_same, by simp; omega, S1.app (SeesL.one S2)⟩
        · cases q
  · cases q
def sFldS (n j c i : Nat) (f : Env' → Option (D × M × Env')) : Sf := fun env => (f env).bind fun x => match x.2.2[j]? with
  | some (some (.ins c' xs, mx)) => if c' = c then (setFD n i c xs (x.1, x.2.1) mx).bind fun z => some (.nx, x.2.2.set j (some z)) else none
  | _ => none
theorem js_fld {ix nf : Nat} {fd : Str} {pos' : Pos} (C : FldG X.K T cc) (hnf : (T.fl cc).length = nf) (hi : (T.fl cc)[ix]? = some fd) (hN : X.N[j]? = some x) (he : JE T X e f) (hv : Vis X.env.scope x := by first | exact Or.inl rfl | exact Or.inr (Or.inl rfl) | exact Or.inr (Or.inr rfl)) (hd : (x == ("__debug__" : Str)) = false := by decide) (hcd : (x == ("__classdict__" : Str)) = false := by decide)
    (hs : swapsWith e (some (.Attribute (.Name x p) fd pos')) pos.line X.env = pure false := by rfl) : JS T X io (.Assign [.Attribute (.Name x p) fd pos'] e pos) (sFldS nf j cc ix f) := by
  subst hnf
  refine js_mk (ps_fld (pe_var hN hv hd hcd) he hs) fun E σ h ⟨s, env, A, fl, env', o, q, w⟩ => ?_
  obtain ⟨⟨d, m, env1⟩, e1, q⟩ := Option.bind_eq_some_iff.mp q
  refine ⟨s, env, A, d, m, env1, o, e1, fun y s1 h1 A1 B1 g1 => ?_⟩
  dsimp only at q
  split at q
  · rename_i c' xs mx ej
    split at q
    · rename_i ec
      subst ec
      obtain ⟨z, e2, q⟩ := Option.bind_eq_some_iff.mp q
      cases q
      obtain ⟨v, A2, B2, ev, g2⟩ := g1.one.takeC ej
      obtain ⟨p0, dx, vs, vs', rfl, e3, e4, rfl, e5, s3, B3, g3⟩ := setFD_go g2 e2
      refine ⟨.ref p0, ev, p0, T.cl c', dx, _, rfl, e3, C.cls, C.na fd (List.mem_of_getElem? hi), ?_, ?_⟩
      · rw [List.length_zip]
        have := C.few
        omega
      · rw [putF_zip C.nd y hi]
        obtain ⟨A5, g5⟩ := g3.put (get_hole ej) ev
        rw [set_set_none] at g5
        rcases e5 with e5 | e5
        · rw [if_pos e5] at g5 ⊢
          exact w σ s3 _ A5 g5 Pin.rfl'
        · rw [if_neg (by omega)] at g5 ⊢
          rw [if_pos e5]
          exact w σ s3 _ A5 g5 Pin.rfl'
    · cases q
  · cases q
/-! name = [comprehension] -/
theorem js_setLcV {st : Stmt} {i : Nat} {t : TE} (h : PS X st (tAsg t (gName i))) (r : RdP X.K T t fp) : JS T X io st (sSet io i (eV fp)) := js_mk h fun E σ h q => sSet_go (fun σ h Q ⟨s, env, A, d, m, env', o, q, w⟩ => by
  obtain ⟨⟨d', m'⟩, e1, q⟩ := Option.bind_eq_some_iff.mp q
  dsimp only at q
  split at q
  · rename_i hm
    subst hm
    cases q
    refine r σ h h (vw env) _ _ Q o.at e1 fun v s' h' B g => ?_
    obtain ⟨s2, g2⟩ := GotE.of_view o g
    exact w v s2 h' A B g2
  · cases q) E σ h q
theorem js_setLcS {st : Stmt} {i : Nat} {t : TE} (h : PS X st (tAsg t (gName i))) (r : RdP X.K T t fp) : JS T X io st (sSet io i (eS fp)) := js_mk h fun E σ h q => sSet_go (fun σ h Q ⟨s, env, A, d, m, env', o, q, w⟩ => by
  obtain ⟨⟨d', m'⟩, e1, q⟩ := Option.bind_eq_some_iff.mp q
  cases q
  exact r σ _ h (shv env) _ _ Q o.ats e1 fun v s' h' B g => w v s' h' A B (GotE.of_shared o g)) E σ h q
/-! own == -/
/-- the own __eq__ of class c -/
structure EqG' (P : Program) (w : World) (K : PySem.W.Frag) (mg : Str → Option Value) (base : Heap) (T : Tx) (k : Nat) (c : Nat) (run : Fi) : Prop where
  ex : ∃ f fd ps, FnOk P w K mg base CX0 k f fd ps (spG K T 2 run) ∧ PySem.W.findIn K (.ref (T.cl c)) "__eq__" = some (some (.ref f)) ∧ PySem.W.isFn K (.ref f) = true ∧ Binds K fd ps []
  bt : ∀ n ∈ ["NoneType", "bool", "int", "str", "list", "tuple", "dict"], PySem.W.subIn K (.type n) (.ref (T.cl c)) = some false
def gEqI (c : Nat) (run : Fi) (a b : D) : Option (D × M) := match a with
  | .ins c' _ => if c' = c then match b with
      | .ins c2 _ => if c2 = c then (run [(a, im a), (b, im b)]).bind fun y => match y.1 with
          | .bl r => some (.bl r, .dp)
          | _ => none else none
      | _ => (run [(a, im a), (b, im b)]).bind fun y => match y.1 with
          | .bl r => some (.bl r, .dp)
          | _ => none
    else none
  | _ => none
def rEqI (c : Nat) (T : Tx) (K : PySem.W.Frag) (run : Fi) : R2 := fun x y H Q => ∃ a dx fs, x = .ref a ∧ H a = some (.ins (T.cl c) dx fs) ∧ ((∃ b dx fs, y = .ref b ∧ H b = some (.ins (T.cl c) dx fs)) ∨ ∃ n, n ∈ ["NoneType", "bool", "int", "str", "list", "tuple", "dict"] ∧ TyX K H y (.type n)) ∧ spG K T 2 run [x, y] H (fun v H' => ∃ r, v = .bl r ∧ Q v H') E0
theorem op_eqI (F : EqG' X.prog X.w X.K X.mg X.base T l cc run) (hr : Room l X.A) : OpR X (compareOp .Eq) (rEqI cc T X.K run) := by
  intro pins s σ H x y v u Q I rx ry hq
  obtain ⟨a, dx, fs, rfl, ha, hy, sp⟩ := hq
  obtain ⟨ff, fd, ps, F0, hs, hf, hb⟩ := F.ex
  show wpAny (model X.prog X.w) X.A (richCompare .Eq v u) (EP X pins σ Q) X.xe s
  obtain rfl : v = Value.ref a := rx
  obtain ⟨mA, J, _⟩ := ins_get I.hok ha
  obtain ⟨od, J, _⟩ := J.look
  obtain ⟨m, hF⟩ := I.fr
  have fin : ∀ tb, PySem.W.Looks (model X.prog X.w) s.heap (typeOf u) tb → PySem.W.notFirst X.K (T.cl cc) tb = true → wpAny (model X.prog X.w) X.A (richCompare .Eq (.ref a) u) (EP X pins σ Q) X.xe s := fun tb lk nf => by
    refine PySem.W.cmp_K (op := .Eq) (tb := tb) hr.units0 hF I.ok.mod.kin J lk nf hs hf ?_
    refine thn (run_fn (us := [.ref a, u]) (vs := [.ref a, y]) F0 hr hb .nil pass0 I (.cons rfl (.cons ry .nil)) sp) fun w s' hw => ?_
    obtain ⟨z, H', I', rz, r, rfl, q⟩ := hw
    obtain rfl : w = Value.bool r := rz
    exact ⟨.bl r, H', I', rfl, q⟩
  rcases hy with ⟨b, dx', fs', rfl, hb'⟩ | ⟨n, hn, ty⟩
  · obtain rfl : u = Value.ref b := ry
    obtain ⟨mB, J', _⟩ := ins_get I.hok hb'
    obtain ⟨od', J', _⟩ := J'.look
    exact fin _ J'.type (by simp [PySem.W.notFirst])
  · obtain ⟨P, Z, p, _⟩ := kit_of I ry ty
    exact fin _ (Z.ty _ _ I.kIn p) (by simp [PySem.W.notFirst, F.bt n hn])
theorem o2_eqI (F : EqG' X.prog X.w X.K X.mg X.base T l cc run) (hr : Room j X.A) (hl : l ≤ j) : O2 T X (compareOp .Eq) (gEqI cc run) := by
  refine ⟨_, op_eqI F (hr.mono hl), fun s h x y a b d m Q e tb ra rb q w => ?_⟩
  unfold gEqI at q
  split at q
  · rename_i c' xs
    split at q
    · rename_i ec
      subst ec
      have core : ∀ {r : Bool} {mm : M} {ps : List (D × M)}, run [(.ins c' xs, im (.ins c' xs)), (b, im b)] = some (.bl r, mm, ps) → (∀ v s' h' B, Got X.K T s h v (.bl r) .dp s' h' B → Q v h') → spG X.K T 2 run [x, y] h (fun v H' => ∃ r, v = .bl r ∧ Q v H') E0 := fun {r mm ps} eq w => by
        have o : Own X.K T s h [] [] [] := ⟨e, tb, ⟨rfl, rfl⟩, List.nodup_nil, fun _ ha => by cases ha⟩
        have g : GotL X.K T s h [] [] [x, y] [(.ins c' xs, im (.ins c' xs)), (b, im b)] [] s h [] [] := (Hd.nil o).got ⟨x, [y], [], [], rfl, rfl, ra.rep e, y, [], [], [], rfl, rfl, rb.rep e, rfl, rfl⟩
        refine call_core g rfl eq fun v s2 h2 B2 g2 => ?_
        obtain ⟨v', q', C1, C2, e4, rfl, g5, r5⟩ := g2.head
        cases e4
        have sv := g5.rp.sees g5.st.sub
        simp only [Sees] at sv
        subst sv
        have gg := g5.got.gr
        exact ⟨r, rfl, w _ s2 h2 [] ((got_bl gg.sub).pre gg)⟩
      simp only [Sees] at ra
      obtain ⟨p, dx, vs, rfl, e2, _, e3⟩ := id ra
      have e2' := e.at_ _ _ e2 (by intro _ z; cases z)
      split at q
      · rename_i c2 ys
        split at q
        · rename_i ec
          subst ec
          obtain ⟨⟨dz, mz, pz⟩, e5, q⟩ := Option.bind_eq_some_iff.mp q
          dsimp only at q
          split at q
          · cases q
            have rb' := rb
            simp only [Sees] at rb'
            obtain ⟨p2, dx2, vs2, rfl, e6, _, _⟩ := rb'
            exact ⟨p, dx, _, rfl, e2', .inl ⟨p2, dx2, _, rfl, e.at_ _ _ e6 (by intro _ z; cases z)⟩, core e5 w⟩
          · cases q
        · cases q
      · rename_i nb
        obtain ⟨⟨dz, mz, pz⟩, e5, q⟩ := Option.bind_eq_some_iff.mp q
        dsimp only at q
        split at q
        · cases q
          refine ⟨p, dx, _, rfl, e2', .inr ?_, core e5 w⟩
          cases hb : tyN b with
          | none => cases b <;> simp [tyN] at hb; exact absurd rfl (nb _ _)
          | some n => exact ⟨n, by cases b <;> simp [tyN] at hb <;> subst hb <;> decide, tyX_of e rb hb⟩
        · cases q
    · cases q
  · cases q
end
end G
set_option Elab.async false
set_option linter.all false
set_option maxRecDepth 100000
set_option maxHeartbeats 4000000
/-! G18: calls with keywords alone -/
namespace G
open PySem PySem.Spec PyProof.Rows L2
/-- the keywords' values in the parameters' order -/
def permL {α : Type} (perm : List Nat) (ws : List α) : List α := perm.filterMap fun i => ws[i]?
theorem permL_map {α β : Type} (f : α → β) (perm : List Nat) (ws : List α) : permL perm (ws.map f) = (permL perm ws).map f := by
  unfold permL
  rw [List.map_filterMap]
  congr 1
  funext i
  rw [List.getElem?_map]
theorem paired_at {α β : Type} {R : α → β → Prop} : ∀ {xs : List α} {ys : List β} {i : Nat}, Paired R xs ys → (xs[i]? = none ∧ ys[i]? = none) ∨ ∃ x y, xs[i]? = some x ∧ ys[i]? = some y ∧ R x y
  | _, _, _, .nil => .inl ⟨rfl, rfl⟩
  | _, _, 0, .cons r t => .inr ⟨_, _, rfl, rfl, r⟩
  | _, _, i + 1, .cons r t => by simpa using paired_at (i := i) t
theorem permL_vals {vs : List V} {us : List Value} (r : Vals vs us) : ∀ perm : List Nat, Vals (permL perm vs) (permL perm us)
  | [] => .nil
  | i :: perm => by
    unfold permL
    rw [List.filterMap_cons, List.filterMap_cons]
    rcases paired_at (i := i) r with ⟨e1, e2⟩ | ⟨x, y, e1, e2, rr⟩
    · rw [e1, e2]; exact permL_vals r perm
    · rw [e1, e2]; exact .cons rr (permL_vals r perm)
theorem permL_sees {K : PySem.W.Frag} {T : Tx} {s : Hp} {vs : List V} {ds : List D} (r : SeesL K T s vs ds) : ∀ perm : List Nat, SeesL K T s (permL perm vs) (permL perm ds)
  | [] => by simp [permL, SeesL]
  | i :: perm => by
    unfold permL
    rw [List.filterMap_cons, List.filterMap_cons]
    cases e : ds[i]? with
    | none =>
      have : vs[i]? = none := by
        rw [List.getElem?_eq_none_iff] at e ⊢
        rw [SeesL.len _ r]; exact e
      rw [this]
      exact permL_sees r perm
    | some d =>
      obtain ⟨v, e1, e2⟩ := r.get e
      rw [e1]
      simp only [SeesL]
      exact ⟨v, _, rfl, e2, permL_sees r perm⟩
/-- a def that may be called by its name with these keywords alone -/
structure CalK (P : Program) (w : World) (K : PySem.W.Frag) (mg : Str → Option Value) (base : Heap) (T : Tx) (k : Nat) (x : Str) (n : Nat) (ks : List Str) (perm : List Nat) (run : Fi) : Prop where
  ex : ∃ f fd ps, FnOk P w K mg base CX0 k f fd ps (spG K T n run) ∧ mg x = some (.ref f) ∧ PySem.W.keepIn K (.ref f) = true ∧ ∀ (s : Shared) (ws : List Value), ws.length = ks.length → BindsTo s fd ⟨[], ks.zip ws⟩ (ps.zip (permL perm ws))
structure MakK (P : Program) (w : World) (K : PySem.W.Frag) (mg : Str → Option Value) (base : Heap) (T : Tx) (k : Nat) (x : Str) (c : Nat) (n : Nat) (ks : List Str) (perm : List Nat) (run : Fi) : Prop where
  ex : ∃ f fd ps, Mk K (T.cl c) f ∧ mg x = some (.ref (T.cl c)) ∧ FnOk P w K mg base CX0 k f fd ps (spG K T n run) ∧ ∀ (s : Shared) (u : Value) (ws : List Value), ws.length = ks.length → BindsTo s fd ⟨[u], ks.zip ws⟩ (ps.zip (u :: permL perm ws))
theorem kb_of {K : PySem.W.Frag} {fd : FuncData} {ps ks : List Str} {perm : List Nat} (h : ∀ (s : Shared) (ws : List Value), ws.length = ks.length → BindsTo s fd ⟨[], ks.zip ws⟩ (ps.zip (permL perm ws))) : KBn K fd ps 0 ks (fun _ ws => permL perm ws) (fun _ zs => permL perm zs) :=
  ⟨fun s us ws _ l1 l2 => by rw [List.length_eq_zero_iff.mp l1]; exact h s ws l2, fun _ r => permL_vals r perm⟩
section
variable {X : Cx} {T : Tx} {fl : VEnv → Option (List (D × M))} {pos p : Pos} {x : Str} {j l n cc : Nat} {run : Fi} {ks : List Str} {perm : List Nat} {kws : List Keyword}
theorem pe_callK0 {CX : CXT} {k : Nat} {f : Addr} {fd : FuncData} {ps : List Str} {sp : Sp} {E : XK} {tk : TA} {g : List Value → List Value → List Value} {gV : List V → List V → List V} (F : FnOk X.prog X.w X.K X.mg X.base CX k f fd ps sp) (hr : Room k X.A) (hg : Gl X x) (hm : X.mg x = some (.ref f)) (hk : PySem.W.keepIn X.K (.ref f) = true) (hb : KBn X.K fd ps 0 ks g gV) (hx : Passes CX X E)
    (hkw : PK X kws tk) (hall : (backToKw pos (keywordEach kws X.env)).all (·.1.isSome) = true := by rfl) (hks : (backToKw pos (keywordEach kws X.env)).filterMap (·.1) = ks := by rfl)
    (hdb : (x == ("__debug__" : Str)) = false := by decide) (hpl : ((backTo pos (starEach [] X.env)).any (·.1) || (backToKw pos (keywordEach kws X.env)).any (·.1.isNone)) = false := by rfl) :
    PE X (.Call (.Name x p) [] kws pos) (tCallN 0 ks.length sp gV E tNil tk) := by
  refine ⟨fun pins s σ H Q I h => ?_⟩
  refine wpAny_Call_Name_kw (ld_glob I hg hm ?_ hdb)
  refine PySem.W.callWith_KW0 (h₀ := X.base) I.ok.mod.kin hk hall ?_ hpl
  refine thn (hkw.run pos pins s σ H _ I h) fun ws s2 ⟨zs, H2, I2, rz, l1, l2, q2⟩ => ⟨I2.kIn, ?_⟩
  rw [hks]
  exact run_fnN (us := []) (vs := []) F hr hb hx I2 .nil rz rfl l2 q2
/-- values seen, as the arguments of a call that only reads -/
theorem rd_sees {K : PySem.W.Frag} {s h s1 h1 : Hp} {σ : St} {A A1 : List Addr} {env1 : Env'} {vs : List V} {ds : List D} {ps' : List (D × M)} {d : D} {m : M} {Q : VK} {E : XK} (g : Go K T s h A σ env1 s1 h1 A1) (r : SeesL K T s1 vs ds) (hn : ds.length = n) (q : run (ds.map fun d => (d, im d)) = some (d, m, ps'))
    (w : ∀ v s2 h2 A2 B2, GotE K T s h A σ v d m env1 s2 h2 A2 B2 → Q v h2) : spG K T n run vs h1 Q E := by
  have g2 : GotL K T s h A σ vs (ds.map fun d => (d, im d)) env1 s1 h1 A1 [] := ⟨g.st, g.own.tab, g.own.er, SeesL.repL g.own.sub _ r, by rw [List.append_nil]; exact g.own.nd, fun a ha => g.own.fr a (by simpa using ha), fun a ha => g.wh a (by simpa using ha)⟩
  refine call_core g2 (by rw [List.length_map]; exact hn) q fun v s4 h4 B4 g4 => ?_
  obtain ⟨v', q', C1, C2, e4, rfl, g5, r5⟩ := g4.head
  cases e4
  exact w v s4 h4 A1 C1 g5
def pCallK (n nk : Nat) (perm : List Nat) (run : Fi) (k : VEnv → Option (List (D × M))) : VEnv → Option (D × M) := fun ve => (k ve).bind fun r => if r.length = nk ∧ (permL perm r).length = n then (run (rdL (permL perm r))).bind fun y => some (y.1, y.2.1) else none
theorem jp_callK {nk : Nat} (F : CalK X.prog X.w X.K X.mg X.base T l x n ks perm run) (hr : Room j X.A) (hl : l ≤ j) (hg : Gl X x) (hkw : JK T X kws fl) (hnk : ks.length = nk := by rfl) (hall : (backToKw pos (keywordEach kws X.env)).all (·.1.isSome) = true := by rfl) (hks : (backToKw pos (keywordEach kws X.env)).filterMap (·.1) = ks := by rfl)
    (hdb : (x == ("__debug__" : Str)) = false := by decide) (hpl : ((backTo pos (starEach [] X.env)).any (·.1) || (backToKw pos (keywordEach kws X.env)).any (·.1.isNone)) = false := by rfl) :
    JP T X (.Call (.Name x p) [] kws pos) (pCallK n nk perm run fl) := by
  obtain ⟨ff, fd, ps, F0, hm, kp, bd⟩ := F.ex
  obtain ⟨t, a1, a2⟩ := hkw
  subst hnk
  refine ⟨_, pe_callK0 F0 (hr.mono hl) hg hm kp (kb_of bd) pass0 a1 hall hks hdb hpl, fun σ s h ve d m Q A q w => ?_⟩
  obtain ⟨ds, e1, q⟩ := Option.bind_eq_some_iff.mp q
  split at q
  · rename_i hn
    obtain ⟨⟨dz, mz, ps'⟩, e2, q⟩ := Option.bind_eq_some_iff.mp q
    cases q
    refine a2 σ s h ve ds _ A e1 fun vs s1 h1 B g1 r1 f1 => ⟨rfl, by rw [r1.len]; exact hn.1, ?_⟩
    obtain ⟨g2, r2⟩ := (A.gotL g1 r1 f1).seen
    have r3 := permL_sees r2 perm
    refine rd_sees g2 r3 (by rw [permL_map, List.length_map]; exact hn.2) (by rw [permL_map, List.map_map]; exact e2) fun v s2 h2 A2 B2 g2 => w v s2 h2 B2 g2.got
  · cases q
def pMakeK (c n nk : Nat) (perm : List Nat) (run : Fi) (k : VEnv → Option (List (D × M))) : VEnv → Option (D × M) := fun ve => (k ve).bind fun r => if r.length = nk then mkR c n run (rdL (permL perm r)) else none
theorem jp_makeK {nk : Nat} (F : MakK X.prog X.w X.K X.mg X.base T l x cc n ks perm run) (hr : Room j X.A) (hl : l + 1 ≤ j) (hg : Gl X x) (hkw : JK T X kws fl) (hnk : ks.length = nk := by rfl) (hall : (backToKw pos (keywordEach kws X.env)).all (·.1.isSome) = true := by rfl) (hks : (backToKw pos (keywordEach kws X.env)).filterMap (·.1) = ks := by rfl)
    (hdb : (x == ("__debug__" : Str)) = false := by decide) (hpl : ((backTo pos (starEach [] X.env)).any (·.1) || (backToKw pos (keywordEach kws X.env)).any (·.1.isNone)) = false := by rfl) :
    JP T X (.Call (.Name x p) [] kws pos) (pMakeK cc n nk perm run fl) := by
  obtain ⟨ff, fd, ps, M0, hm, F0, bd⟩ := F.ex
  obtain ⟨t, a1, a2⟩ := hkw
  subst hnk
  have kb : KBn X.K fd ps 1 ks (fun us ws => us ++ permL perm ws) (fun vs zs => vs ++ permL perm zs) := ⟨fun s us ws _ l1 l2 => by
    obtain ⟨u, rfl⟩ := List.length_eq_one_iff.mp l1
    exact bd s u ws l2, fun r1 r2 => r1.append (permL_vals r2 perm)⟩
  refine ⟨_, pe_makeK0 M0 F0 (hr.mono hl) hg hm kb pass0 a1 hall hks hdb hpl, fun σ s h ve d m Q A q w => ?_⟩
  obtain ⟨ds, e1, q⟩ := Option.bind_eq_some_iff.mp q
  split at q
  · rename_i hn
    refine a2 σ s h ve ds _ A e1 fun vs s1 h1 B g1 r1 f1 => ⟨rfl, by rw [r1.len]; exact hn, ?_⟩
    obtain ⟨g2, r2⟩ := (A.gotL g1 r1 f1).seen
    have r3 := permL_sees r2 perm
    have g3 : GotL X.K T s h [] σ (permL perm vs) (rdL (permL perm ds)) (noEnv σ) _ h1 [] [] := ⟨g2.st, g2.own.tab, g2.own.er, by
      have := SeesL.repL g2.own.sub _ r3
      rw [permL_map, List.map_map] at this
      exact this, by simp, fun a ha => by simp at ha, fun a ha => by simp at ha⟩
    exact make_go g3 q fun v s2 h2 A2 B2 g2 => w v s2 h2 B2 g2.got
  · cases q
end
end G
set_option Elab.async false
set_option linter.all false
set_option maxRecDepth 100000
set_option maxHeartbeats 4000000
/-! G19: leaves that find their own way; small things for derivations -/
namespace G
open PySem PySem.Spec PyProof.Rows L2
section
variable {X : Cx} {T : Tx} {io : List Bool} {a b c e o i tg : Expr} {es : List Expr} {f k : Env' → Option (D × M × Env')} {fi fp fq : VEnv → Option (D × M)} {fl : VEnv → Option (List (D × M))} {pos p apos cpos : Pos} {x m : Str} {j l n cc : Nat} {run : Fi}
/-- of the views, where the answer is all new; otherwise of what is shared -/
def eB (f : VEnv → Option (D × M)) : Env' → Option (D × M × Env') := fun env => match eV f env with
  | some r => some r
  | none => eS f env
theorem je_b (h : JP T X e fp) : JE T X e (eB fp) := by
  obtain ⟨t, a1, a2⟩ := h
  refine je_mk a1 fun σ h Q ⟨s, env, A, d, m, env', o, q, w⟩ => ?_
  unfold eB at q
  split at q
  · rename_i r er
    cases q
    obtain ⟨⟨d', m'⟩, e1, er⟩ := Option.bind_eq_some_iff.mp er
    dsimp only at er
    split at er
    · rename_i hm
      subst hm
      cases er
      refine a2 σ h h (vw env) _ _ Q o.at e1 fun v s' h' B g => ?_
      obtain ⟨s2, g2⟩ := GotE.of_view o g
      exact w v s2 h' A B g2
    · cases er
  · obtain ⟨⟨d', m'⟩, e1, q⟩ := Option.bind_eq_some_iff.mp q
    cases q
    exact a2 σ _ h (shv env) _ _ Q o.ats e1 fun v s' h' B g => w v s' h' A B (GotE.of_shared o g)
/-- a name: a copy of what is shared or holds no list; what is ours moves out of its slot -/
def eMv (j : Nat) : Env' → Option (D × M × Env') := fun env => match env[j]? with
  | some (some (d, m)) => if imm d = true then some (d, .dp, env) else match m with
    | .sh => some (d, .sh, env)
    | _ => some (d, m, env.set j none)
  | _ => none
theorem copy_go {K : PySem.W.Frag} {s h : Hp} {σ : St} {env : Env'} {A : List Addr} {d : D} {mm : M} (o : Own K T s h σ env A) (ex : env[j]? = some (some (d, mm))) (hi : imm d = true ∨ mm = .sh) : ∃ v, σ[j]? = some (some v) ∧ GotE K T s h A σ v d (im d) env (shr s h []) h A [] := by
  obtain ⟨v, B, e1, e2, _⟩ := o.er.get ex
  refine ⟨v, e1, GotE.of_shared o (Got.of (Gr.refl (shr_sub o.sub)) ?_)⟩
  rcases hi with hi | rfl
  · exact Deep.shr d (Sees.deep d hi (e2.sees o.sub)) (fun b hb => by cases hb)
  · exact e2.2.ext (sub_shr o.sub) d
theorem je_mv (hN : X.N[j]? = some x := by rfl) (hv : Vis X.env.scope x := by first | exact Or.inl rfl | exact Or.inr (Or.inl rfl) | exact Or.inr (Or.inr rfl)) (hd : (x == ("__debug__" : Str)) = false := by decide) (hcd : (x == ("__classdict__" : Str)) = false := by decide) : JE T X (.Name x p) (eMv j) := by
  refine je_mk (pe_var hN hv hd hcd) fun σ h Q ⟨s, env, A, d, m, env', o, q, w⟩ => ?_
  unfold eMv at q
  split at q
  · rename_i d' m' ex
    split at q
    · rename_i hi
      cases q
      obtain ⟨v, e1, g⟩ := copy_go o ex (.inl hi)
      rw [im, if_pos hi] at g
      exact ⟨v, e1, w v _ h A [] g⟩
    · rename_i hi
      split at q
      · cases q
        obtain ⟨v, e1, g⟩ := copy_go o ex (.inr rfl)
        rw [im, if_neg hi] at g
        exact ⟨v, e1, w v _ h A [] g⟩
      · cases q
        obtain ⟨v, A0, B, eσ, g0⟩ := GotE.take (Go.refl o) ex
        exact ⟨v, eσ, w v s h A0 B g0⟩
  · cases q
/-- .. what is ours is shared from then on -/
def eCp (j : Nat) : Env' → Option (D × M × Env') := fun env => (frz j env).bind fun e => match e[j]? with
  | some (some (d, m)) => some (d, m, e)
  | _ => none
theorem je_cp (hN : X.N[j]? = some x := by rfl) (hv : Vis X.env.scope x := by first | exact Or.inl rfl | exact Or.inr (Or.inl rfl) | exact Or.inr (Or.inr rfl)) (hd : (x == ("__debug__" : Str)) = false := by decide) (hcd : (x == ("__classdict__" : Str)) = false := by decide) : JE T X (.Name x p) (eCp j) := by
  refine je_mk (pe_var hN hv hd hcd) fun σ h Q ⟨s, env, A, d, m, env', o, q, w⟩ => ?_
  obtain ⟨env1, e1, q⟩ := Option.bind_eq_some_iff.mp q
  split at q
  · rename_i d' m' ex
    cases q
    obtain ⟨s2, A2, g⟩ := (Go.refl o).frz e1
    have hm : m = im d := by
      unfold frz at e1
      split at e1
      · rename_i dm eq
        cases e1
        have hl := (List.getElem?_eq_some_iff.mp eq).1
        rw [List.getElem?_set_self hl] at ex
        cases ex
        rfl
      · cases e1
    subst hm
    have hi : imm d = true ∨ im d = .sh := by
      unfold im
      split
      · rename_i z; exact .inl z
      · exact .inr rfl
    obtain ⟨v, e2, g2⟩ := copy_go g.own ex hi
    exact ⟨v, e2, w v _ h A2 [] (GotE.pre g g2)⟩
  · cases q
/-- name = [comprehension] -/
theorem js_lcB {st : Stmt} {i : Nat} {t : TE} (h : PS X st (tAsg t (gName i))) (r : RdP X.K T t fp) : JS T X io st (sSet io i (eB fp)) := js_mk h fun E σ h q => sSet_go (fun σ h Q ⟨s, env, A, d, m, env', o, q, w⟩ => by
  unfold eB at q
  split at q
  · rename_i rr er
    cases q
    obtain ⟨⟨d', m'⟩, e1, er⟩ := Option.bind_eq_some_iff.mp er
    dsimp only at er
    split at er
    · rename_i hm
      subst hm
      cases er
      refine r σ h h (vw env) _ _ Q o.at e1 fun v s' h' B g => ?_
      obtain ⟨s2, g2⟩ := GotE.of_view o g
      exact w v s2 h' A B g2
    · cases er
  · obtain ⟨⟨d', m'⟩, e1, q⟩ := Option.bind_eq_some_iff.mp q
    cases q
    exact r σ _ h (shv env) _ _ Q o.ats e1 fun v s' h' B g => w v s' h' A B (GotE.of_shared o g)) E σ h q
theorem js_lc {y : Str} {py : Pos} {elt iter : Expr} {ifs : List Expr} {scope : Scope} {own : List (Str × Nat)} {ii : VEnv → Option (List D)} {g : D → VEnv → Option VEnv} {ft : VEnv → Option Bool} {fe : VEnv → Option (D × M)} {spos : Pos} {j : Nat} (hc : X.calm = true) (hN : X.N.Nodup) (hy : X.N[j]? = some y) (hyl : X.env.scope.names.lookup y = some .local)
    (hsw : swapsWith (.ListComp elt [⟨tg, iter, ifs, 0⟩] scope pos) (some (.Name y py)) spos.line X.env = pure true) (hi : JI T X tg iter ii) (ok : BlkOk X.N X.env.scope scope own)
    (hg : ∀ (s : Shared) (H : Hp) (C : Addr) (cl : List (Str × Addr)) (fp : List Addr), JG T (X.blk s H scope (compEnvC scope cl C X.env) fp) tg (own.map (·.2)) g)
    (ht : ∀ (s : Shared) (H : Hp) (C : Addr) (cl : List (Str × Addr)) (fp : List Addr), JTs T (X.blk s H scope (compEnvC scope cl C X.env) fp) ifs ft)
    (he : ∀ (s : Shared) (H : Hp) (C : Addr) (cl : List (Str × Addr)) (fp : List Addr), JP T (X.blk s H scope (compEnvC scope cl C X.env) fp) elt fe) (hs : ∀ x, foldedSetIterable iter X.env x = pure x := by intro _; rfl) :
    JS T X io (.Assign [.Name y py] (.ListComp elt [⟨tg, iter, ifs, 0⟩] scope pos) spos) (sSet io j (eB (pComp (own.map (·.2)) ii g ft fe))) := by
  obtain ⟨wi, i1, i2⟩ := hi
  exact js_lcB (ps_setLc (g := tG X.K T (own.map fun (x : Str × Nat) => x.2) g) (tt := tT X.K T ft) (te := tP X.K T fe) (own := own) hc hN hy hyl hsw i1 ok hg ht (fun s H C cl fp => (he s H C cl fp).pe) hs) (comp_rd i2)
end
theorem hu1 {k : Nat} {A : Around} (r : Room k A) : A.units + 1 < cLine := by have := r.un; omega
theorem hu64 {k : Nat} {A : Around} (r : Room k A) : A.units + 64 < cLine := by have := r.un; omega
theorem hu65 {k : Nat} {A : Around} (r : Room k A) : A.units + 65 < cLine := by have := r.un; omega
end G
set_option Elab.async false
set_option linter.all false
set_option maxRecDepth 100000
set_option maxHeartbeats 4000000
/-! G20: tuples of ints by their order -/
namespace G
open PySem PySem.Spec PyProof.Rows L2
/-- the answer for two rows of ints: lt the order of two unlike items, z that of the lengths -/
def lexG (lt : Int → Int → Bool) (z : Bool) (ns ms : List Int) : Bool := Ob.lexAt (fun j => decide (ns.getD j 0 = ms.getD j 0)) (fun j => lt (ns.getD j 0) (ms.getD j 0)) z 0 (min ns.length ms.length)
def rTup (K : PySem.W.Frag) (lt : Int → Int → Bool) (zz : Nat → Nat → Bool) : R2 := fun x y H Q => ∃ (a b : Addr) (ns ms : List Int), x = .ref a ∧ y = .ref b ∧ SqT K H a (ns.map V.int) ∧ SqT K H b (ms.map V.int) ∧ Q (.bl (lexG lt (zz ns.length ms.length) ns ms)) H
section
variable {X : Cx} {T : Tx}
theorem int_parts {its : List Value} {ns : List Int} (i1 : PyProof.Rows.IntsAre its ns) : its.toArray.size = ns.length ∧ ∀ j (h1 : j < its.toArray.size), ∃ t, its.toArray[j] = .int (ns.getD j 0) t :=
  ⟨by rw [List.size_toArray]; exact i1.length, fun j h1 => PyProof.Rows.IntsAre.int_at i1 _ _ (by simp at h1; simp [h1])⟩
theorem eq_at {A : Around} {s : Shared} {x y : Value} {i k : Int} (h1 : ∃ t, x = .int i t) (h2 : ∃ t, y = .int k t) : SeqAt.EqAt A s x y (decide (i = k)) := by
  obtain ⟨t, rfl⟩ := h1
  obtain ⟨t', rfl⟩ := h2
  have z : (i == k) = decide (i = k) := by
    by_cases q : i = k
    · rw [decide_eq_true q]; exact beq_iff_eq.mpr q
    · rw [decide_eq_false q]; exact beq_eq_false_iff_ne.mpr q
  rw [← z]
  exact SeqAt.EqAt.int_int _ _ _ _
theorem op_geT (hu : X.A.units < cLine) : OpR X (compareOp .GtE) (rTup X.K (fun i k => decide (k ≤ i)) fun n m => decide (n ≥ m)) := by
  intro pins s σ H x y v u Q I rx ry h
  obtain ⟨a, b, ns, ms, rfl, rfl, ha, hb, q⟩ := h
  cases rx
  cases ry
  obtain ⟨its, r1, p1, _⟩ := I.tuple ha
  obtain ⟨its2, r2, p2, _⟩ := I.tuple hb
  obtain ⟨e1, at1⟩ := int_parts (Vals.ints r1)
  obtain ⟨e2, at2⟩ := int_parts (Vals.ints r2)
  have R := Ob.RcOp.tuples_ge (A := X.A) (s := s) (e := fun j => decide (ns.getD j 0 = ms.getD j 0)) (r := fun j => decide (ms.getD j 0 ≤ ns.getD j 0)) p1 p2 hu (fun j h1 h2 => eq_at (at1 j h1) (at2 j h2)) (fun j h1 h2 _ => by
    obtain ⟨t, et⟩ := at1 j h1
    obtain ⟨t', et'⟩ := at2 j h2
    rw [et, et']
    exact Ob.RcOp.ge_int _ _ _ _)
  rw [e1, e2] at R
  have z : wpAny (model X.prog X.w) X.A (compareOp .GtE (.ref a) (.ref b)) (EP X pins σ Q) X.xe s := R X.prog X.w X.xe (EP X pins σ Q) ⟨.bl _, H, I, rfl, q⟩
  exact z
theorem seesL_toInts {K : PySem.W.Frag} {s : Hp} {vs : List V} {ds : List D} {ns : List Int} (r : SeesL K T s vs ds) (e : toInts ds = some ns) : vs = ns.map V.int := by
  have := toInts_eq e
  subst this
  exact seesL_ints_inv ns r
def gGeX : D → D → Option (D × M)
  | .tup xs, .tup ys => (toInts xs).bind fun ns => (toInts ys).bind fun ms => some (.bl (lexG (fun i k => decide (k ≤ i)) (decide (ns.length ≥ ms.length)) ns ms), .dp)
  | a, b => gGe a b
theorem op_or2 {F : Value → Value → Sem Value} {r r' : R2} (h : OpR X F r) (h' : OpR X F r') : OpR X F (fun x y H Q => r x y H Q ∨ r' x y H Q) := by
  intro pins s σ H x y v u Q I rx ry hq
  rcases hq with hq | hq
  · exact h pins s σ H x y v u Q I rx ry hq
  · exact h' pins s σ H x y v u Q I rx ry hq
theorem o2_geX (hu : X.A.units < cLine) : O2 T X (compareOp .GtE) gGeX := by
  obtain ⟨r1, o1, o2⟩ := o2_ge (T := T) (X := X)
  refine ⟨_, op_or2 (op_geT hu) o1, fun s h x y a b d m Q e tb ra rb q w => ?_⟩
  unfold gGeX at q
  split at q
  · obtain ⟨ns, e1, q⟩ := Option.bind_eq_some_iff.mp q
    obtain ⟨ms, e2, q⟩ := Option.bind_eq_some_iff.mp q
    cases q
    simp only [Sees] at ra rb
    obtain ⟨p, vs, rfl, r1, r2⟩ := ra
    obtain ⟨p', vs', rfl, r1', r2'⟩ := rb
    have := seesL_toInts r2 e1
    subst this
    have := seesL_toInts r2' e2
    subst this
    exact .inl ⟨p, p', ns, ms, rfl, rfl, (sqT_ext e r1).sq, (sqT_ext e r1').sq, w _ s h [] (got_bl e)⟩
  · exact .inr (o2 s h x y a b d m Q e tb ra rb q w)
end
theorem hu0 {k : Nat} {A : Around} (r : Room k A) : A.units < cLine := by have := r.un; omega
end G
set_option Elab.async false
set_option linter.all false
set_option maxRecDepth 100000
set_option maxHeartbeats 4000000
/-! G21: what the written part gives, for heads -/
namespace G
open PySem PySem.Spec PyProof.Rows L2
/-- a def of the module -/
structure TopDef (K : PySem.W.Frag) (mg : Str → Option Value) (x : Str) (st : Stmt) : Prop where
  ex : ∃ f fd, Fun K x x st f fd ∧ mg x = some (.ref f)
/-- a method of the class at C -/
structure TopMeth (K : PySem.W.Frag) (C : Addr) (m qual : Str) (st : Stmt) : Prop where
  ex : ∃ f fd, Fun K m qual st f fd ∧ Meth K C m f
structure TopCls (K : PySem.W.Frag) (mg : Str → Option Value) (C : Addr) (x : Str) : Prop where
  cls : Cls K C
  mgC : mg x = some (.ref C)
  makes : PySem.W.makesIn K C = true
  kp : PySem.W.keepIn K (.ref C) = true
structure EqNo (K : PySem.W.Frag) (C : Addr) : Prop where
  no : ∀ n ∈ ["NoneType", "bool", "int", "str", "list", "tuple", "dict"], PySem.W.subIn K (.type n) (.ref C) = some false
section
variable {K : PySem.W.Frag} {mg : Str → Option Value} {h : Heap}
theorem topDef_mk {x : Str} {st : Stmt} {f : Addr} {oc : Value} {od an : Option Addr} {osl : Array (Option Value)} {kV doc pm cdv ct : Value} (X : K.In h) (G : h.Ns mainGlobals mg) (a : PySem.W.nsIn K mainGlobals x = some (some (.ref f)))
    (l : K.lookup f = some ⟨oc, od, .func (PySem.W.fnOf x x (defArgs st) (defBody st) (defScope st) .none kV doc pm an cdv ct), osl⟩) (c : PySem.W.codeIn K cdv x = true) (k : PySem.W.keepIn K (.ref f) = true) : TopDef K mg x st := ⟨f, _, fun_mk l c k, PySem.W.mg_of X G a⟩
theorem topMeth_mk {C : Addr} {xc m qual : Str} {st : Stmt} {f : Addr} {oc : Value} {od an : Option Addr} {osl : Array (Option Value)} {kV doc pm cdv ct : Value} (Q : TopCls K mg C xc) (a : PySem.W.findIn K (.ref C) m = some (some (.ref f))) (i : PySem.W.isFn K (.ref f) = true)
    (l : K.lookup f = some ⟨oc, od, .func (PySem.W.fnOf m qual (defArgs st) (defBody st) (defScope st) .none kV doc pm an cdv ct), osl⟩) (c : PySem.W.codeIn K cdv qual = true) (k : PySem.W.keepIn K (.ref f) = true) : TopMeth K C m qual st := ⟨f, _, fun_mk l c k, a, i, k⟩
theorem topCls_mk {C : Addr} {x : Str} (X : K.In h) (G : h.Ns mainGlobals mg) (a : PySem.W.nsIn K mainGlobals x = some (some (.ref C))) (pg : PySem.W.plainGet K C Str.empty = true) (hd : PySem.W.hasDictIn K C = true) (po : PySem.W.plainOver K C = true)
    (sa : PySem.W.findIn K (.ref C) "__setattr__" = some (some (.builtin "object.__setattr__"))) (mk : PySem.W.makesIn K C = true) (kc : PySem.W.keepIn K (.ref C) = true) : TopCls K mg C x := ⟨⟨pg, hd, po, sa⟩, PySem.W.mg_of X G a, mk, kc⟩
/-- seven facts as one -/
theorem seven {p : String → Prop} (a : p "NoneType") (b : p "bool") (c : p "int") (d : p "str") (e : p "list") (f : p "tuple") (g : p "dict") : ∀ n ∈ ["NoneType", "bool", "int", "str", "list", "tuple", "dict"], p n := by
  intro n hn
  simp only [List.mem_cons, List.not_mem_nil, or_false] at hn
  rcases hn with rfl | rfl | rfl | rfl | rfl | rfl | rfl <;> assumption
theorem eqNo_mk {C : Addr} {xc : Str} (Q : TopCls K mg C xc) (a : PySem.W.subIn K (.type "NoneType") (.ref C) = some false) (b : PySem.W.subIn K (.type "bool") (.ref C) = some false) (c : PySem.W.subIn K (.type "int") (.ref C) = some false) (d : PySem.W.subIn K (.type "str") (.ref C) = some false)
    (e : PySem.W.subIn K (.type "list") (.ref C) = some false) (f : PySem.W.subIn K (.type "tuple") (.ref C) = some false) (g : PySem.W.subIn K (.type "dict") (.ref C) = some false) : EqNo K C := ⟨seven a b c d e f g⟩
/-- isinstance of class C -/
structure TopIsi (K : PySem.W.Frag) (C : Addr) : Prop where
  ha : PySem.W.findIn K (.ref C) "__class__" = some (some (.builtin "object.__class__"))
  hn : PySem.W.specialIn K (.builtin "object.__class__") "__get__" = some (some (.builtin "getset_descriptor.__get__"))
  htk : PySem.W.takesIn K (.builtin "object.__class__") = some true
  hm : PySem.W.mroIn K C (.type "object") = some true
  me : PySem.W.kitOne K (.ref C) (.ref C) = some true
  bt : ∀ n ∈ ["NoneType", "bool", "int", "str", "list", "tuple", "dict"], PySem.W.kitOne K (.type n) (.ref C) = some false
theorem kitOne_self (v : Value) : PySem.W.kitOne K v v = some true := by
  unfold PySem.W.kitOne
  rw [if_pos (by simp)]
theorem kitOne_no {C : Addr} {n : String} (ic : PySem.W.isClsIn K C = true) (tc : PySem.W.typeIn K (.ref C) = some (.type "type")) (a : PySem.W.subIn K (.type n) (.ref C) = some false) : PySem.W.kitOne K (.type n) (.ref C) = some false := by
  unfold PySem.W.kitOne PySem.W.kitCls
  rw [if_neg (by simp)]
  have ic' : (PySem.W.clsIn K C).isSome = true := ic
  show (if ((PySem.W.clsIn K C).isSome && PySem.W.typeIn K (.ref C) == some (.type "type")) = true then PySem.W.subIn K (.type n) (.ref C) else none) = some false
  rw [ic', tc]
  simpa using a
theorem topIsi_mk {C : Addr} {xc : Str} (Q : TopCls K mg C xc) (ha : PySem.W.findIn K (.ref C) "__class__" = some (some (.builtin "object.__class__"))) (hn : PySem.W.specialIn K (.builtin "object.__class__") "__get__" = some (some (.builtin "getset_descriptor.__get__")))
    (htk : PySem.W.takesIn K (.builtin "object.__class__") = some true) (hm : PySem.W.mroIn K C (.type "object") = some true) (ic : PySem.W.isClsIn K C = true) (tc : PySem.W.typeIn K (.ref C) = some (.type "type"))
    (a : PySem.W.subIn K (.type "NoneType") (.ref C) = some false) (b : PySem.W.subIn K (.type "bool") (.ref C) = some false) (c : PySem.W.subIn K (.type "int") (.ref C) = some false) (d : PySem.W.subIn K (.type "str") (.ref C) = some false)
    (e : PySem.W.subIn K (.type "list") (.ref C) = some false) (f : PySem.W.subIn K (.type "tuple") (.ref C) = some false) (g : PySem.W.subIn K (.type "dict") (.ref C) = some false) : TopIsi K C :=
  ⟨ha, hn, htk, hm, kitOne_self _, seven (kitOne_no ic tc a) (kitOne_no ic tc b) (kitOne_no ic tc c) (kitOne_no ic tc d) (kitOne_no ic tc e) (kitOne_no ic tc f) (kitOne_no ic tc g)⟩
theorem TopIsi.isi {T : Tx} {c : Nat} (I : TopIsi K (T.cl c)) (cl : Cls K (T.cl c)) : IsiC K T c := ⟨cl, I.ha, I.hn, I.htk, I.hm, I.me, I.bt⟩
variable {x qual : Str} {st : Stmt} {f : Addr} {fd : FuncData} {ps ks : List Str} {perm : List Nat}
theorem _root_.L2.Fun.bind1 {p : Str} (F : Fun K x qual st f fd) (h : ∀ (kV doc pm : Value) (an : Option Addr) (cdv ct v : Value), bindArgs (PySem.W.fnOf x qual (defArgs st) (defBody st) (defScope st) .none kV doc pm an cdv ct) ⟨[v], []⟩ = pure [(p, v)]) (s : Shared) (v : Value) : BindsTo s fd ⟨[v], []⟩ [(p, v)] := by
  obtain ⟨oc, od, kV, doc, pm, an, cdv, ct, osl, rfl, lk, hcd⟩ := F.ex
  exact .of_eq (h kV doc pm an cdv ct v)
theorem _root_.L2.Fun.kb (F : Fun K x qual st f fd) (h : ∀ (kV doc pm : Value) (an : Option Addr) (cdv ct : Value) (ws : List Value), ws.length = ks.length → bindArgs (PySem.W.fnOf x qual (defArgs st) (defBody st) (defScope st) .none kV doc pm an cdv ct) ⟨[], ks.zip ws⟩ = pure (ps.zip (permL perm ws))) (s : Shared) (ws : List Value) (hl : ws.length = ks.length) : BindsTo s fd ⟨[], ks.zip ws⟩ (ps.zip (permL perm ws)) := by
  obtain ⟨oc, od, kV, doc, pm, an, cdv, ct, osl, rfl, lk, hcd⟩ := F.ex
  exact .of_eq (h kV doc pm an cdv ct ws hl)
theorem _root_.L2.Fun.kb1 (F : Fun K x qual st f fd) (h : ∀ (kV doc pm : Value) (an : Option Addr) (cdv ct u : Value) (ws : List Value), ws.length = ks.length → bindArgs (PySem.W.fnOf x qual (defArgs st) (defBody st) (defScope st) .none kV doc pm an cdv ct) ⟨[u], ks.zip ws⟩ = pure (ps.zip (u :: permL perm ws))) (s : Shared) (u : Value) (ws : List Value) (hl : ws.length = ks.length) : BindsTo s fd ⟨[u], ks.zip ws⟩ (ps.zip (u :: permL perm ws)) := by
  obtain ⟨oc, od, kV, doc, pm, an, cdv, ct, osl, rfl, lk, hcd⟩ := F.ex
  exact .of_eq (h kV doc pm an cdv ct u ws hl)
/-- the law's def at a script -/
theorem law_in {T : Tx} {H : Hp} {a : Addr} {ns : List Int} {run : Fi} {m : M} {ps : List (D × M)} {Q : VK} {E : XK} (hT : T.tabs = []) (hS : SqL K H a (ns.map V.int)) (e : run [(.scr ns, .sh)] = some (.bl true, m, ps)) (k : ∀ H', Q (.bl true) H') : spG K T 1 run [.ref a] H Q E := by
  refine ⟨H, [(.scr ns, .sh)], [], _, m, ps, rfl, ⟨Sub.rfl', ?_, ⟨some (.ref a), [], [], [], rfl, rfl, ⟨.ref a, rfl, rfl, ?_⟩, rfl, rfl⟩, List.nodup_nil, fun _ ha => by cases ha⟩, e, fun v s' h' A' B g => ?_⟩
  · unfold Tabs
    rw [hT]
    exact fun q hq => by cases hq
  · simp only [Sees]
    exact ⟨a, rfl, hS⟩
  · have r := g.rp.sees g.st.sub
    simp only [Sees] at r
    subst r
    exact k h'
end
end G
set_option Elab.async false
set_option linter.all false
set_option maxRecDepth 100000
set_option maxHeartbeats 4000000
/-! G22: equality of plain data, told in Lean -/
namespace G
open PySem PySem.Spec
mutual
/-- no bool, text, dict, instance in it -/
def pl : D → Bool
  | .non => true
  | .int _ => true
  | .lst xs => plL xs
  | .tup xs => plL xs
  | _ => false
def plL : List D → Bool
  | [] => true
  | d :: ds => pl d && plL ds
end
mutual
def dpt : D → Nat
  | .lst xs => dptL xs + 1
  | .tup xs => dptL xs + 1
  | _ => 0
def dptL : List D → Nat
  | [] => 0
  | d :: ds => max (dpt d) (dptL ds)
end
mutual
theorem pl_lay : ∀ d : D, pl d = true → (py d).canLay0 = true
  | .non, _ => rfl
  | .int _, _ => rfl
  | .lst xs, h => by
    simp only [pl] at h
    simp only [py, PyData.canLay0]
    exact plL_lay xs h
  | .tup xs, h => by
    simp only [pl] at h
    simp only [py, PyData.canLay0]
    exact plL_lay xs h
  | .bl _, h => by simp [pl] at h
  | .str _, h => by simp [pl] at h
  | .dk _ _, h => by simp [pl] at h
  | .ins _ _, h => by simp [pl] at h
  | .scr _, h => by simp [pl] at h
theorem plL_lay : ∀ ds : List D, plL ds = true → PyData.canLayAll0 (pyL ds) = true
  | [], _ => rfl
  | d :: ds, h => by
    simp only [plL, Bool.and_eq_true] at h
    simp only [pyL, PyData.canLayAll0, pl_lay d h.1, plL_lay ds h.2, Bool.and_self]
end
mutual
theorem dpt_py : ∀ d : D, pl d = true → (py d).depth = dpt d
  | .non, _ => rfl
  | .int _, _ => rfl
  | .lst xs, h => by
    simp only [pl] at h
    simp only [py, PyData.depth, dpt, dptL_py xs h]
  | .tup xs, h => by
    simp only [pl] at h
    simp only [py, PyData.depth, dpt, dptL_py xs h]
  | .bl _, h => by simp [pl] at h
  | .str _, h => by simp [pl] at h
  | .dk _ _, h => by simp [pl] at h
  | .ins _ _, h => by simp [pl] at h
  | .scr _, h => by simp [pl] at h
theorem dptL_py : ∀ ds : List D, plL ds = true → PyData.depthAll (pyL ds) = dptL ds
  | [], _ => rfl
  | d :: ds, h => by
    simp only [plL, Bool.and_eq_true] at h
    simp only [pyL, PyData.depthAll, dptL, dpt_py d h.1, dptL_py ds h.2]
end
theorem eqOk_pl {d : D} (h : pl d = true) (hd : dpt d ≤ 64) : eqOk d = true := by
  unfold eqOk SeqAt.shaped
  rw [pl_lay d h, dpt_py d h]
  simpa using hd
mutual
theorem eqv_pl : ∀ a b : D, pl a = true → pl b = true → (PyData.eqv (py a) (py b) = true ↔ a = b)
  | .non, .non, _, _ => by simp [py, PyData.eqv]
  | .non, .int _, _, _ => by simp [py, PyData.eqv]
  | .non, .lst _, _, _ => by simp [py, PyData.eqv]
  | .non, .tup _, _, _ => by simp [py, PyData.eqv]
  | .int _, .non, _, _ => by simp [py, PyData.eqv]
  | .int i, .int j, _, _ => by simp [py, PyData.eqv]
  | .int _, .lst _, _, _ => by simp [py, PyData.eqv]
  | .int _, .tup _, _, _ => by simp [py, PyData.eqv]
  | .lst _, .non, _, _ => by simp [py, PyData.eqv]
  | .lst _, .int _, _, _ => by simp [py, PyData.eqv]
  | .lst xs, .lst ys, h1, h2 => by
    simp only [pl] at h1 h2
    simp only [py, PyData.eqv, D.lst.injEq]
    exact eqvL_pl xs ys h1 h2
  | .lst _, .tup _, _, _ => by simp [py, PyData.eqv]
  | .tup _, .non, _, _ => by simp [py, PyData.eqv]
  | .tup _, .int _, _, _ => by simp [py, PyData.eqv]
  | .tup _, .lst _, _, _ => by simp [py, PyData.eqv]
  | .tup xs, .tup ys, h1, h2 => by
    simp only [pl] at h1 h2
    simp only [py, PyData.eqv, D.tup.injEq]
    exact eqvL_pl xs ys h1 h2
  | .bl _, _, h, _ => by simp [pl] at h
  | .str _, _, h, _ => by simp [pl] at h
  | .dk _ _, _, h, _ => by simp [pl] at h
  | .ins _ _, _, h, _ => by simp [pl] at h
  | .scr _, _, h, _ => by simp [pl] at h
  | .non, .bl _, _, h => by simp [pl] at h
  | .non, .str _, _, h => by simp [pl] at h
  | .non, .dk _ _, _, h => by simp [pl] at h
  | .non, .ins _ _, _, h => by simp [pl] at h
  | .non, .scr _, _, h => by simp [pl] at h
  | .int _, .bl _, _, h => by simp [pl] at h
  | .int _, .str _, _, h => by simp [pl] at h
  | .int _, .dk _ _, _, h => by simp [pl] at h
  | .int _, .ins _ _, _, h => by simp [pl] at h
  | .int _, .scr _, _, h => by simp [pl] at h
  | .lst _, .bl _, _, h => by simp [pl] at h
  | .lst _, .str _, _, h => by simp [pl] at h
  | .lst _, .dk _ _, _, h => by simp [pl] at h
  | .lst _, .ins _ _, _, h => by simp [pl] at h
  | .lst _, .scr _, _, h => by simp [pl] at h
  | .tup _, .bl _, _, h => by simp [pl] at h
  | .tup _, .str _, _, h => by simp [pl] at h
  | .tup _, .dk _ _, _, h => by simp [pl] at h
  | .tup _, .ins _ _, _, h => by simp [pl] at h
  | .tup _, .scr _, _, h => by simp [pl] at h
theorem eqvL_pl : ∀ xs ys : List D, plL xs = true → plL ys = true → (PyData.eqvAll (pyL xs) (pyL ys) = true ↔ xs = ys)
  | [], [], _, _ => by simp [pyL, PyData.eqvAll]
  | [], _ :: _, _, _ => by simp [pyL, PyData.eqvAll]
  | _ :: _, [], _, _ => by simp [pyL, PyData.eqvAll]
  | x :: xs, y :: ys, h1, h2 => by
    simp only [plL, Bool.and_eq_true] at h1 h2
    simp only [pyL, PyData.eqvAll, Bool.and_eq_true, eqv_pl x y h1.1 h2.1, eqvL_pl xs ys h1.2 h2.2, List.cons.injEq]
end
/-- data of a Lean type: injective, plain, not deep -/
class Enc (α : Type) where
  en : α → D
  inj : ∀ a b, en a = en b → a = b
  pln : ∀ a, pl (en a) = true
  dep : Nat
  hdep : ∀ a, dpt (en a) ≤ dep
instance : Enc Int := ⟨.int, fun _ _ h => by simpa using h, fun _ => rfl, 0, fun _ => Nat.le_refl _⟩
theorem plL_map {α : Type} [Enc α] : ∀ xs : List α, plL (xs.map Enc.en) = true
  | [] => rfl
  | x :: xs => by simp only [List.map_cons, plL, Enc.pln, plL_map xs, Bool.and_self]
theorem dptL_map {α : Type} [Enc α] : ∀ xs : List α, dptL (xs.map Enc.en) ≤ Enc.dep α
  | [] => Nat.zero_le _
  | x :: xs => by
    simp only [List.map_cons, dptL]
    exact Nat.max_le.mpr ⟨Enc.hdep x, dptL_map xs⟩
theorem map_en_inj {α : Type} [Enc α] : ∀ xs ys : List α, xs.map Enc.en = ys.map Enc.en → xs = ys
  | [], [], _ => rfl
  | [], _ :: _, h => by simp at h
  | _ :: _, [], h => by simp at h
  | x :: xs, y :: ys, h => by
    simp only [List.map_cons, List.cons.injEq] at h
    rw [Enc.inj x y h.1, map_en_inj xs ys h.2]
instance {α : Type} [Enc α] : Enc (List α) := ⟨fun xs => .lst (xs.map Enc.en), fun a b h => map_en_inj a b (by simpa using h), fun xs => by simp only [pl]; exact plL_map xs, Enc.dep α + 1, fun xs => by simp only [dpt]; have := dptL_map xs; omega⟩
instance encPair : Enc (Int × Int) := ⟨pD, fun a b h => by
  unfold pD at h
  simp at h
  exact Prod.ext h.1 h.2, fun a => by simp [pD, pl, plL], 1, fun a => by simp [pD, dpt, dptL]⟩
theorem gEq_en {α : Type} [Enc α] [DecidableEq α] (a b : α) (h : Enc.dep α ≤ 64 := by decide) : gEq (Enc.en a) (Enc.en b) = some (.bl (decide (a = b)), .dp) := by
  have o : ∀ x : α, eqOk (Enc.en x) = true := fun x => eqOk_pl (Enc.pln x) (Nat.le_trans (Enc.hdep x) h)
  unfold gEq
  rw [o a, o b]
  have : PyData.eqv (py (Enc.en a)) (py (Enc.en b)) = decide (a = b) := by
    rw [Bool.eq_iff_iff, eqv_pl _ _ (Enc.pln a) (Enc.pln b), decide_eq_true_eq]
    exact ⟨Enc.inj a b, fun h => h ▸ rfl⟩
  simp [this]
theorem gNe_en {α : Type} [Enc α] [DecidableEq α] (a b : α) (h : Enc.dep α ≤ 64 := by decide) : gNe (Enc.en a) (Enc.en b) = some (.bl (decide (a ≠ b)), .dp) := by
  have o : ∀ x : α, eqOk (Enc.en x) = true := fun x => eqOk_pl (Enc.pln x) (Nat.le_trans (Enc.hdep x) h)
  unfold gNe
  rw [o a, o b]
  have : PyData.eqv (py (Enc.en a)) (py (Enc.en b)) = decide (a = b) := by
    rw [Bool.eq_iff_iff, eqv_pl _ _ (Enc.pln a) (Enc.pln b), decide_eq_true_eq]
    exact ⟨Enc.inj a b, fun h => h ▸ rfl⟩
  simp [this]
theorem gEq_int (a b : Int) : gEq (.int a) (.int b) = some (.bl (decide (a = b)), .dp) := gEq_en a b
theorem gNe_int (a b : Int) : gNe (.int a) (.int b) = some (.bl (decide (a ≠ b)), .dp) := gNe_en a b
theorem gEq_ints (a b : List Int) : gEq (.lst (a.map .int)) (.lst (b.map .int)) = some (.bl (decide (a = b)), .dp) := gEq_en a b
theorem gNe_ints (a b : List Int) : gNe (.lst (a.map .int)) (.lst (b.map .int)) = some (.bl (decide (a ≠ b)), .dp) := gNe_en a b
theorem gEq_pairs (a b : List (Int × Int)) : gEq (.lst (a.map pD)) (.lst (b.map pD)) = some (.bl (decide (a = b)), .dp) := gEq_en a b
theorem gNe_pairs (a b : List (Int × Int)) : gNe (.lst (a.map pD)) (.lst (b.map pD)) = some (.bl (decide (a ≠ b)), .dp) := gNe_en a b
theorem gNe_nil {ds : List D} (h : plL ds = true) (hd : dptL ds ≤ 63) : gNe (.lst ds) (.lst []) = some (.bl (decide (ds ≠ [])), .dp) := by
  have o1 : eqOk (.lst ds) = true := eqOk_pl (by simpa only [pl] using h) (by simp only [dpt]; omega)
  have o2 : eqOk (.lst []) = true := eqOk_pl rfl (by decide)
  unfold gNe
  rw [o1, o2]
  have : PyData.eqv (py (.lst ds)) (py (.lst [])) = decide (ds = []) := by
    rw [Bool.eq_iff_iff, eqv_pl _ _ (by simpa only [pl] using h) rfl, decide_eq_true_eq, D.lst.injEq]
  simp [this]
/-! ### loops over Lean data -/
section
variable {α S : Type} {g : D × M → Env' → Option Env'} {b : Sf} {t : Env' → Option (Bool × Env')} {en : α → D} {R : S → Env' → Prop} {f : S → α → S}
theorem forL_rel (h : ∀ s x e, R s e → ∃ e1 e2, g (en x, im (en x)) e = some e1 ∧ b e1 = some (.nx, e2) ∧ R (f s x) e2) : ∀ (xs : List α) (s : S) (e : Env'), R s e → ∃ e', forL g b (xs.map en) e = some (.nx, e') ∧ R (xs.foldl f s) e'
  | [], s, e, r => ⟨e, rfl, r⟩
  | x :: xs, s, e, r => by
    obtain ⟨e1, e2, h1, h2, h3⟩ := h s x e r
    obtain ⟨e', h4, h5⟩ := forL_rel h xs (f s x) e2 h3
    refine ⟨e', ?_, h5⟩
    simp only [List.map_cons, forL, h1, h2, Option.bind_some]
    exact h4
/-- with what is known of the items -/
theorem forL_mem {P : α → Prop} (h : ∀ s x e, P x → R s e → ∃ e1 e2, g (en x, im (en x)) e = some e1 ∧ b e1 = some (.nx, e2) ∧ R (f s x) e2) : ∀ (xs : List α) (s : S) (e : Env'), (∀ x ∈ xs, P x) → R s e → ∃ e', forL g b (xs.map en) e = some (.nx, e') ∧ R (xs.foldl f s) e'
  | [], s, e, _, r => ⟨e, rfl, r⟩
  | x :: xs, s, e, m, r => by
    obtain ⟨e1, e2, h1, h2, h3⟩ := h s x e (m x List.mem_cons_self) r
    obtain ⟨e', h4, h5⟩ := forL_mem h xs (f s x) e2 (fun y hy => m y (List.mem_cons_of_mem _ hy)) h3
    refine ⟨e', ?_, h5⟩
    simp only [List.map_cons, forL, h1, h2, Option.bind_some]
    exact h4
/-- the invariant by the items gone through -/
theorem forL_inv {ds : List D} {I : Nat → Env' → Prop} (h : ∀ i d e, ds[i]? = some d → I i e → ∃ e1 e2, g (d, im d) e = some e1 ∧ b e1 = some (.nx, e2) ∧ I (i + 1) e2) (e : Env') (r : I 0 e) : ∃ e', forL g b ds e = some (.nx, e') ∧ I ds.length e' := by
  have go : ∀ (xs : List D) (k : Nat) (e : Env'), ds.drop k = xs → k ≤ ds.length → I k e → ∃ e', forL g b xs e = some (.nx, e') ∧ I ds.length e' := by
    intro xs
    induction xs with
    | nil =>
      intro k e hd hk r
      have : k = ds.length := by
        have := congrArg List.length hd
        simp at this
        omega
      subst this
      exact ⟨e, rfl, r⟩
    | cons x xs ih =>
      intro k e hd hk r
      have hk2 : k < ds.length := by
        have := congrArg List.length hd
        simp at this
        omega
      have hx : ds[k]? = some x := by
        have h0 := List.getElem_cons_drop hk2
        rw [hd] at h0
        rw [List.getElem?_eq_getElem hk2]
        exact congrArg some (List.cons.inj h0).1
      have hd2 : ds.drop (k + 1) = xs := by
        have h0 := List.getElem_cons_drop hk2
        rw [hd] at h0
        exact (List.cons.inj h0).2
      obtain ⟨e1, e2, h1, h2, h3⟩ := h k x e hx r
      obtain ⟨e', h4, h5⟩ := ih (k + 1) e2 hd2 hk2 h3
      refine ⟨e', ?_, h5⟩
      simp only [forL, h1, h2, Option.bind_some]
      exact h4
  exact go ds 0 e rfl (Nat.zero_le _) r
/-- while: a measure -/
theorem whL_inv {I : Nat → Env' → Prop} {F : Fl → Env' → Prop} (h : ∀ m e, I m e → ∃ z e1, t e = some (z, e1) ∧ (z = false → F .nx e1) ∧ (z = true → ∃ fl e2, b e1 = some (fl, e2) ∧ match fl with
    | .nx => ∃ m', m' < m ∧ I m' e2
    | .ct => ∃ m', m' < m ∧ I m' e2
    | .bk => F .nx e2
    | .rt d k => F (.rt d k) e2)) : ∀ (m : Nat) (e : Env'), I m e → ∃ fl e', whL t b (m + 1) e = some (fl, e') ∧ F fl e' := by
  intro m
  induction m using Nat.strongRecOn with
  | ind m ih =>
    intro e r
    obtain ⟨z, e1, h1, h2, h3⟩ := h m e r
    cases z with
    | false => exact ⟨.nx, e1, by simp [whL, h1], h2 rfl⟩
    | true =>
      obtain ⟨fl, e2, h4, h5⟩ := h3 rfl
      cases fl with
      | nx =>
        obtain ⟨m', hm, r'⟩ := h5
        obtain ⟨fl, e', h6, h7⟩ := ih m' hm e2 r'
        refine ⟨fl, e', ?_, h7⟩
        have h8 := whL_le h6 (show m' + 1 ≤ m by omega)
        simp only [whL, h1, h4, Option.bind_some, if_true]
        exact h8
      | ct =>
        obtain ⟨m', hm, r'⟩ := h5
        obtain ⟨fl, e', h6, h7⟩ := ih m' hm e2 r'
        refine ⟨fl, e', ?_, h7⟩
        have h8 := whL_le h6 (show m' + 1 ≤ m by omega)
        simp only [whL, h1, h4, Option.bind_some, if_true]
        exact h8
      | bk => exact ⟨.nx, e2, by simp [whL, h1, h4], h5⟩
      | rt d k => exact ⟨.rt d k, e2, by simp [whL, h1, h4], h5⟩
/-- .. as a statement -/
theorem sWhile_inv {I : Nat → Env' → Prop} {F : Fl → Env' → Prop} (h : ∀ m e, I m e → ∃ z e1, t e = some (z, e1) ∧ (z = false → F .nx e1) ∧ (z = true → ∃ fl e2, b e1 = some (fl, e2) ∧ match fl with
    | .nx => ∃ m', m' < m ∧ I m' e2
    | .ct => ∃ m', m' < m ∧ I m' e2
    | .bk => F .nx e2
    | .rt d k => F (.rt d k) e2)) (m : Nat) (e : Env') (hm : m < fuel) (r : I m e) : ∃ fl e', sWhile t b e = some (fl, e') ∧ F fl e' := by
  obtain ⟨fl, e', h1, h2⟩ := whL_inv h m e r
  exact ⟨fl, e', sWhile_eq h1 hm, h2⟩
end
theorem im_int (i : Int) : im (.int i) = .dp := rfl
theorem gIn_ints (a : Int) (ns : List Int) : gIn (.int a) (.lst (ns.map .int)) = some (.bl (decide (a ∈ ns)), .dp) := by
  have o1 : eqOk (.int a) = true := eqOk_pl rfl (Nat.zero_le _)
  have o2 : eqOk (.lst (ns.map .int)) = true := eqOk_pl (d := .lst (ns.map Enc.en)) (by simp only [pl]; exact plL_map ns) (by simp only [dpt]; have := dptL_map ns; have e : Enc.dep Int = 0 := rfl; omega)
  unfold gIn inB
  simp only [o1, o2, Bool.and_self, if_true, Option.bind_some]
  congr 3
  induction ns with
  | nil => simp [pyL]
  | cons n ns ih =>
    have o3 : eqOk (.lst (ns.map .int)) = true := eqOk_pl (d := .lst (ns.map Enc.en)) (by simp only [pl]; exact plL_map ns) (by simp only [dpt]; have := dptL_map ns; have e : Enc.dep Int = 0 := rfl; omega)
    have ih' := ih o3
    simp only [py] at ih'
    simp only [List.map_cons, pyL, py, List.any_cons, ih', PyData.eqv, List.mem_cons]
    by_cases h1 : n = a
    · subst h1; simp
    · have h2 : ¬ a = n := fun z => h1 z.symm
      simp [h1, h2]
theorem gNotIn_ints (a : Int) (ns : List Int) : gNotIn (.int a) (.lst (ns.map .int)) = some (.bl (!decide (a ∈ ns)), .dp) := by
  have := gIn_ints a ns
  unfold gIn at this
  unfold gNotIn
  obtain ⟨c, e1, e2⟩ := Option.bind_eq_some_iff.mp this
  rw [e1]
  simp at e2
  simp [e2]
/-! ### comprehensions over Lean data -/
theorem compL_go {α : Type} {en : α → D} {out : α → D × M} {p : α → Bool} {g : D → VEnv → Option VEnv} {t : VEnv → Option Bool} {e : VEnv → Option (D × M)} {ve : VEnv} : ∀ {xs : List α}, (∀ x ∈ xs, ∃ ve', g (en x) ve = some ve' ∧ t ve' = some (p x) ∧ (p x = true → e ve' = some (out x))) → compL g t e ve (xs.map en) = some ((xs.filter p).map out)
  | [], _ => rfl
  | x :: xs, h => by
    obtain ⟨ve', h1, h2, h3⟩ := h x List.mem_cons_self
    have ih := compL_go (xs := xs) fun y hy => h y (List.mem_cons_of_mem _ hy)
    simp only [List.map_cons, compL, h1, h2, Option.bind_some]
    cases hp : p x with
    | true => simp [h3 hp, ih, hp]
    | false => simp [ih, hp]
theorem compL_all {α : Type} {en : α → D} {out : α → D × M} {g : D → VEnv → Option VEnv} {e : VEnv → Option (D × M)} {ve : VEnv} {xs : List α} (h : ∀ x ∈ xs, ∃ ve', g (en x) ve = some ve' ∧ e ve' = some (out x)) : compL g bYes e ve (xs.map en) = some (xs.map out) := by
  have := compL_go (p := fun _ => true) (t := bYes) (en := en) (out := out) (g := g) (e := e) (ve := ve) (xs := xs) fun x hx => by
    obtain ⟨ve', h1, h2⟩ := h x hx
    exact ⟨ve', h1, rfl, fun _ => h2⟩
  rw [List.filter_eq_self.mpr (fun _ _ => rfl)] at this
  exact this
theorem gSorted_ints (ns : List Int) : gSorted [.lst (ns.map .int)] = some (.lst ((isort ns).map .int), .dp) := by simp [gSorted, toInts_map]
theorem gSorted_pairs (ps : List (Int × Int)) : gSorted [.lst (ps.map pD)] = some (.lst ((psort ps).map pD), .dp) := by
  cases ps with
  | nil => rfl
  | cons p ps =>
    have h : toInts ((p :: ps).map pD) = none := rfl
    simp only [gSorted, h, toPairs_map, Option.bind_some]
theorem gNe_ints_nil (ls : List Int) : gNe (.lst (ls.map .int)) (.lst []) = some (.bl (decide (ls ≠ [])), .dp) := gNe_ints ls []
theorem allDp_map {α : Type} {out : α → D × M} {xs : List α} (h : ∀ x ∈ xs, (out x).2 = .dp) : allDp (xs.map out) = true := by
  unfold allDp
  rw [List.all_map, List.all_eq_true]
  intro x hx
  simpa using h x hx
theorem perm_erase {α : Type} : ∀ (l : List α) (i : Nat) (h : i < l.length), (l[i] :: l.eraseIdx i).Perm l
  | [], _, h => by simp at h
  | x :: l, 0, _ => List.Perm.refl _
  | x :: l, i + 1, h => by
    have := perm_erase l i (by simpa using h)
    simp only [List.getElem_cons_succ, List.eraseIdx_cons_succ]
    exact (List.Perm.swap _ _ _).trans (List.Perm.cons x this)
theorem pComp_eq {vs : List Nat} {i : VEnv → Option (List D)} {g : D → VEnv → Option VEnv} {t : VEnv → Option Bool} {e : VEnv → Option (D × M)} {ve : VEnv} {ds : List D} {r : List (D × M)} (h1 : i ve = some ds) (h2 : ds.length ≤ lim) (h3 : compL g t e (wipeV ve vs) ds = some r) : pComp vs i g t e ve = some (.lst (r.map (·.1)), dm r) := by
  unfold pComp
  rw [h1]
  show (if ds.length ≤ lim then _ else _) = _
  rw [if_pos h2, h3]
  rfl
theorem le_lim {n : Nat} (h : n ≤ 16777216) : n ≤ lim := h
end G
set_option Elab.async false
set_option linter.all false
set_option maxRecDepth 100000
set_option maxHeartbeats 4000000
/-! G23: closed runs by the kernel; small helps for statements -/
namespace G
open PySem PySem.Spec L2
def eqKey : Key → Key → Bool := fun a b => decide (a = b)
mutual
/-- equality, by the kernel -/
def eqD : D → D → Bool
  | .non, .non => true
  | .bl a, .bl b => a == b
  | .int a, .int b => decide (a = b)
  | .str a, .str b => decide (a = b)
  | .lst a, .lst b => eqDs a b
  | .tup a, .tup b => eqDs a b
  | .dk k a, .dk l b => decide (k = l) && eqDs a b
  | .ins c a, .ins d b => decide (c = d) && eqDs a b
  | .scr a, .scr b => decide (a = b)
  | _, _ => false
def eqDs : List D → List D → Bool
  | [], [] => true
  | a :: l, b :: m => eqD a b && eqDs l m
  | _, _ => false
end
mutual
theorem eqD_ok : ∀ a b : D, eqD a b = true → a = b
  | .non, b, h => by cases b <;> simp_all [eqD]
  | .bl a, b, h => by cases b <;> simp_all [eqD]
  | .int a, b, h => by cases b <;> simp_all [eqD]
  | .str a, b, h => by cases b <;> simp_all [eqD]
  | .lst a, b, h => by
    cases b with
    | lst b => simp only [eqD] at h; rw [eqDs_ok a b h]
    | _ => simp [eqD] at h
  | .tup a, b, h => by
    cases b with
    | tup b => simp only [eqD] at h; rw [eqDs_ok a b h]
    | _ => simp [eqD] at h
  | .dk k a, b, h => by
    cases b with
    | dk l b =>
      simp only [eqD, Bool.and_eq_true, decide_eq_true_eq] at h
      rw [h.1, eqDs_ok a b h.2]
    | _ => simp [eqD] at h
  | .ins k a, b, h => by
    cases b with
    | ins l b =>
      simp only [eqD, Bool.and_eq_true, decide_eq_true_eq] at h
      rw [h.1, eqDs_ok a b h.2]
    | _ => simp [eqD] at h
  | .scr a, b, h => by cases b <;> simp_all [eqD]
theorem eqDs_ok : ∀ a b : List D, eqDs a b = true → a = b
  | [], b, h => by cases b <;> simp_all [eqDs]
  | a :: l, [], h => by simp [eqDs] at h
  | a :: l, b :: m, h => by
    simp only [eqDs, Bool.and_eq_true] at h
    rw [eqD_ok a b h.1, eqDs_ok l m h.2]
end
def eqP (a b : D × M) : Bool := eqD a.1 b.1 && decide (a.2 = b.2)
theorem eqP_ok {a b : D × M} (h : eqP a b = true) : a = b := by
  simp only [eqP, Bool.and_eq_true, decide_eq_true_eq] at h
  exact Prod.ext (eqD_ok _ _ h.1) h.2
def eqPs : List (D × M) → List (D × M) → Bool
  | [], [] => true
  | a :: l, b :: m => eqP a b && eqPs l m
  | _, _ => false
theorem eqPs_ok : ∀ {a b : List (D × M)}, eqPs a b = true → a = b
  | [], b, h => by cases b <;> simp_all [eqPs]
  | a :: l, [], h => by simp [eqPs] at h
  | a :: l, b :: m, h => by
    simp only [eqPs, Bool.and_eq_true] at h
    rw [eqP_ok h.1, eqPs_ok h.2]
def eqR : Option (D × M × List (D × M)) → Option (D × M × List (D × M)) → Bool
  | some (a, m, l), some (b, n, k) => eqD a b && decide (m = n) && eqPs l k
  | _, _ => false
/-- a closed run: (h by decide +kernel) -/
theorem run_is {x y : Option (D × M × List (D × M))} (h : eqR x y = true) : x = y := by
  cases x with
  | none => simp [eqR] at h
  | some x =>
    cases y with
    | none => simp [eqR] at h
    | some y =>
      obtain ⟨a, m, l⟩ := x
      obtain ⟨b, n, k⟩ := y
      simp only [eqR, Bool.and_eq_true, decide_eq_true_eq] at h
      rw [eqD_ok _ _ h.1.1, h.1.2, eqPs_ok h.2]
def eqO : Option (D × M) → Option (D × M) → Bool
  | none, none => true
  | some a, some b => eqP a b
  | _, _ => false
theorem eqO_ok : ∀ {a b : Option (D × M)}, eqO a b = true → a = b
  | none, none, _ => rfl
  | some a, some b, h => by rw [eqP_ok h]
  | none, some _, h => by simp [eqO] at h
  | some _, none, h => by simp [eqO] at h
def eqE : Env' → Env' → Bool
  | [], [] => true
  | a :: l, b :: m => eqO a b && eqE l m
  | _, _ => false
theorem eqE_ok : ∀ {a b : Env'}, eqE a b = true → a = b
  | [], b, h => by cases b <;> simp_all [eqE]
  | a :: l, [], h => by simp [eqE] at h
  | a :: l, b :: m, h => by
    simp only [eqE, Bool.and_eq_true] at h
    rw [eqO_ok h.1, eqE_ok h.2]
def eqNx : Option (Fl × Env') → Env' → Bool
  | some (.nx, e), f => eqE e f
  | _, _ => false
/-- a closed statement that goes on -/
theorem nx_is {x : Option (Fl × Env')} {f : Env'} (h : eqNx x f = true) : x = some (.nx, f) := by
  cases x with
  | none => simp [eqNx] at h
  | some x =>
    obtain ⟨fl, e⟩ := x
    cases fl with
    | nx => simp only [eqNx] at h; rw [eqE_ok h]
    | _ => simp [eqNx] at h
def isNx : Option (Fl × Env') → Bool
  | some (.nx, _) => true
  | _ => false
theorem nx_ex {x : Option (Fl × Env')} (h : isNx x = true) : ∃ f, x = some (.nx, f) := by
  cases x with
  | none => simp [isNx] at h
  | some x =>
    obtain ⟨fl, e⟩ := x
    cases fl with
    | nx => exact ⟨e, rfl⟩
    | _ => simp [isNx] at h
/-! ### statements piece by piece -/
theorem sSeq_nx {a b : Sf} {e e1 : Env'} (h : a e = some (.nx, e1)) : sSeq a b e = b e1 := by
  unfold sSeq
  rw [h]
  rfl
theorem sSeq_rt {a b : Sf} {e e1 : Env'} {d : D} {m : M} (h : a e = some (.rt d m, e1)) : sSeq a b e = some (.rt d m, e1) := by
  unfold sSeq
  rw [h]
  rfl
theorem sFor_of {i : Env' → Option (List D × Env')} {g : D × M → Env' → Option Env'} {b : Sf} {e e1 : Env'} {ds : List D} {r : Option (Fl × Env')} (h : i e = some (ds, e1)) (q : forL g b ds e1 = r) : sFor i g b e = r := by
  unfold sFor
  rw [h]
  exact q
theorem sIf_t {t : Env' → Option (Bool × Env')} {a b : Sf} {e e1 : Env'} (h : t e = some (true, e1)) : sIf t a b e = a e1 := by
  unfold sIf
  rw [h]
  rfl
theorem sIf_f {t : Env' → Option (Bool × Env')} {a b : Sf} {e e1 : Env'} (h : t e = some (false, e1)) : sIf t a b e = b e1 := by
  unfold sIf
  rw [h]
  rfl
theorem iRg2_of {f k : VEnv → Option (D × M)} {ve : VEnv} {i j : Int} {m m' : M} (h1 : f ve = some (.int i, m)) (h2 : k ve = some (.int j, m')) (h3 : bd62 i = true) (h4 : bd62 j = true) : iRg2 f k ve = some (rgD i j) := by
  unfold iRg2
  rw [h1, h2]
  show (if bd62 i && bd62 j then some (rgD i j) else none) = _
  rw [h3, h4]
  rfl
theorem iRg1_of {f : VEnv → Option (D × M)} {ve : VEnv} {j : Int} {m : M} (h1 : f ve = some (.int j, m)) (h4 : bd62 j = true) : iRg1 f ve = some (rgD 0 j) := by
  unfold iRg1
  rw [h1]
  show (if bd62 j then some (rgD 0 j) else none) = _
  rw [h4]
  rfl
theorem bd_nat {k : Nat} (h : k ≤ 1000000) : bd62 (k : Int) = true := bd62_of (by omega)
theorem rgD_map (a b : Int) : rgD a b = (List.range (b - a).toNat).map fun i : Nat => D.int (a + (i : Int)) := rfl
theorem gEq_bl (a b : Bool) : gEq (.bl a) (.bl b) = some (.bl (a == b), .dp) := by
  cases a <;> cases b <;> rfl
end G
set_option Elab.async false
set_option linter.all false
set_option maxRecDepth 100000
set_option maxHeartbeats 4000000

/-! L81: the run-functions of the defs -/
namespace L81
open PySem L2 G

/-- is_whole(value); names: 0 value -/
def b_is_whole : Sf := (sRet (eB (pAnd (pIsi "int" (pVar 0)) (pNot (pIsi "bool" (pVar 0))))))
def r_is_whole : Fi := runG [false] 0 b_is_whole
/-- is_between(value, low, high); names: 0 value, 1 low, 2 high -/
def b_is_between : Sf := (sSeq (sIf (tV (bNot (bTru (pCalG 1 r_is_whole (aCons (pVar 0) aNil)))))
(sRet (eB (pC (.bl false))))
sNext)
(sRet (eB (pAnd (pOr (p2 gIs (pVar 1) (pC .non)) (p2 gGeX (pVar 0) (pVar 1))) (pOr (p2 gIs (pVar 2) (pC .non)) (p2 gLe (pVar 0) (pVar 2)))))))
def r_is_between : Fi := runG [false, false, false] 0 b_is_between
/-- check_number(number, low, high); names: 0 number, 1 low, 2 high -/
def b_check_number : Sf := (sIf (tV (bNot (bTru (pCalG 3 r_is_between (aCons (pVar 0) (aCons (pVar 1) (aCons (pVar 2) aNil)))))))
sNever
sNext)
def r_check_number : Fi := runG [false, false, false] 0 b_check_number
/-- Tree.size(self); names: 0 self -/
def b_Tree_size : Sf := (sRet (eB (p2 gAdd (pCB gLen (aCons (pFld 0 0 (pVar 0)) aNil)) (pC (.int 1)))))
def r_Tree_size : Fi := runG [false] 0 b_Tree_size
/-- Tree.links(self); names: 0 self -/
def b_Tree_links : Sf := (sRet (eB (pCB gList (aCons (pFld 0 0 (pVar 0)) aNil))))
def r_Tree_links : Fi := runG [false] 0 b_Tree_links
/-- Tree.__eq__(self, other); names: 0 self, 1 other -/
def b_Tree_eq : Sf := (sSeq (sIf (tV (bNot (bTru (pIsC 0 (pVar 1)))))
(sRet (eB (pC (.bl false))))
sNext)
(sRet (eB (p2 gEq (pFld 0 0 (pVar 0)) (pFld 0 0 (pVar 1))))))
def r_Tree_eq : Fi := runG [false, false] 0 b_Tree_eq
/-- is_link(size, value); names: 0 size, 1 value -/
def b_is_link : Sf := (sSeq (sIf (tV (bOr (bNot (bTru (pIsi "tuple" (pVar 1)))) (bOr (tOf (p2 gNe (pCB gLen (aCons (pVar 1) aNil)) (pC (.int 2)))) (bNot (bTru (pCalG 3 r_is_between (aCons (p2 gIx (pVar 1) (pC (.int 1))) (aCons (pC (.int 1)) (aCons (p2 gSub (pVar 0) (pC (.int 1))) aNil)))))))))
(sRet (eB (pC (.bl false))))
sNext)
(sRet (eB (pCalG 3 r_is_between (aCons (p2 gIx (pVar 1) (pC (.int 0))) (aCons (pC (.int 0)) (aCons (p2 gSub (p2 gIx (pVar 1) (pC (.int 1))) (pC (.int 1))) aNil)))))))
def r_is_link : Fi := runG [false, false] 0 b_is_link
/-- reached_from(links, start); names: 0 links, 1 start, 2 found, 3 order, 4 at, 5 low, 6 high, 7 one, 8 other -/
def b_reached_from_1 : Sf := (sIf (tV (bAnd (tOf (p2 gEq (pVar 7) (p2 gIx (pVar 3) (pVar 4)))) (tOf (p2 gNotIn (pVar 8) (pVar 2)))))
(sSeq (sAsg (eCp 7) (gSetD 2 (pVar 8)))
(sExpr (eMut 3 gAppend (eCons (eCp 8) eNil))))
sNext)
def b_reached_from_2 : Sf := (sFor (iLstE (eLst (eCons (eTup (eCons (eCp 5) (eCons (eCp 6) eNil))) (eCons (eTup (eCons (eCp 6) (eCons (eCp 5) eNil))) eNil)))) (goTup 2 (goC (putS [false, false] 7) (goC (putS [false, false] 8) goN))) b_reached_from_1)
def t_reached_from_1 : Env' → Option (Bool × Env') := (tV (tOf (p2 gLt (pVar 4) (pCB gLen (aCons (pVar 3) aNil)))))
def b_reached_from_3 : Sf := (sSeq (sFor (iLstE (eCp 0)) (goTup 2 (goC (putS [false, false] 5) (goC (putS [false, false] 6) goN))) b_reached_from_2)
(sSet [false, false] 4 (eB (p2 gAdd (pVar 4) (pC (.int 1))))))
def b_reached_from : Sf := (sSeq (sPar3 [false, false] 2 3 4 (eCons (eB (pDict1 (pVar 1) (pC .non))) (eCons (eLst (eCons (eMv 1) eNil)) (eCons (eB (pC (.int 0))) eNil))))
(sSeq (sWhile t_reached_from_1 b_reached_from_3)
(sRet (eMv 2))))
def r_reached_from : Fi := runG [false, false] 7 b_reached_from
/-- check_tree(tree); names: 0 tree -/
def b_check_tree : Sf := (sIf (tV (bNot (bTru (pIsC 0 (pVar 0)))))
sNever
sNext)
def r_check_tree : Fi := runG [false] 0 b_check_tree
/-- path_between(links, one, other); names: 0 links, 1 one, 2 other, 3 back, 4 found, 5 spot -/
def t_path_between_1 : Env' → Option (Bool × Env') := (tV (bAnd (tOf (p2 gIsNot (pVar 5) (pC .non))) (tOf (p2 gNe (pVar 5) (pVar 1)))))
def b_path_between_1 : Sf := (sSeq (sExpr (eMut 4 gAppend (eCons (eCp 5) eNil)))
(sSet [false, false, false] 5 (eB (p2 gIx (pVar 3) (pVar 5)))))
def b_path_between : Sf := (sSeq (sPar [false, false, false] 3 4 (eCons (eB (pCalG 2 r_reached_from (aCons (pVar 0) (aCons (pVar 1) aNil)))) (eCons (eB (pLst aNil)) eNil)))
(sSeq (sSet [false, false, false] 5 (eB (p2 gIx (pVar 3) (pVar 2))))
(sSeq (sWhile t_path_between_1 b_path_between_1)
(sRet (eB (pCB gSorted (aCons (pVar 4) aNil)))))))
def r_path_between : Fi := runG [false, false, false] 3 b_path_between
/-- between(tree, one, other); names: 0 tree, 1 one, 2 other -/
def b_between : Sf := (sSeq (sExpr (eB (pCalG 1 r_check_tree (aCons (pVar 0) aNil))))
(sSeq (sExpr (eB (pCalG 3 r_check_number (aCons (pVar 1) (aCons (pC (.int 0)) (aCons (p2 gSub (pMeth0 0 1 r_Tree_size (pVar 0)) (pC (.int 1))) aNil))))))
(sSeq (sExpr (eB (pCalG 3 r_check_number (aCons (pVar 2) (aCons (pC (.int 0)) (aCons (p2 gSub (pMeth0 0 1 r_Tree_size (pVar 0)) (pC (.int 1))) aNil))))))
(sRet (eB (pCalG 3 r_path_between (aCons (pMeth0 0 1 r_Tree_links (pVar 0)) (aCons (pVar 1) (aCons (pVar 2) aNil)))))))))
def r_between : Fi := runG [false, false, false] 0 b_between
/-- _law_hash(_law_seed, _law_index); names: 0 _law_seed, 1 _law_index, 2 _law_mixed -/
def b_l_hash : Sf := (sSeq (sSet [false, false] 2 (eB (p2 gMod (pCB gInt (aCons (p2 gAdd (p2 gAdd (p2 gAdd (p2 gMul (pVar 0) (pC (.int 1140671))) (p2 gMul (p2 gMul (pC (.int 27644437)) (pVar 1)) (pVar 1))) (p2 gMul (pC (.int 131)) (pVar 1))) (pC (.int 19))) aNil)) (pC (.int 2147483629)))))
(sSeq (sSet [false, false] 2 (eB (p2 gMod (pCB gInt (aCons (p2 gAdd (p2 gAdd (p2 gMul (pVar 2) (pVar 2)) (p2 gMul (pC (.int 62089)) (pVar 1))) (pC (.int 32416187))) aNil)) (pC (.int 2147483587)))))
(sRet (eB (p2 gMod (pCB gInt (aCons (p2 gMul (pVar 2) (pC (.int 48271))) aNil)) (pC (.int 2147483647)))))))
def r_l_hash : Fi := runG [false, false] 1 b_l_hash
/-- _law_random(_law_generator_here, _law_bound); names: 0 _law_generator_here, 1 _law_bound, 2 _law_drawn, 3 _law_turn -/
def b_l_random_1 : Sf := (sSeq (sAsg (eB (p2 gAdd (p2 gIx (pVar 0) (pC (.int 2))) (pC (.int 1)))) (gSetL 0 (pC (.int 2))))
(sSet [true, false] 2 (eB (p2 gAdd (p2 gMul (pVar 2) (pC (.int 2147483587))) (pCalG 2 r_l_hash (aCons (p2 gIx (pVar 0) (pC (.int 1))) (aCons (p2 gIx (pVar 0) (pC (.int 2))) aNil)))))))
def b_l_random : Sf := (sSeq (sIf (tV (tOf (p2 gGt (p2 gIx (pVar 0) (pC (.int 0))) (pC (.int 0)))))
(sSeq (sSet [true, false] 2 (eB (p2 gMod (pCB gInt (aCons (p2 gIx (pVar 0) (pC (.int 0))) aNil)) (pVar 1))))
(sSeq (sAsg (eB (p2 gFdiv (p2 gIx (pVar 0) (pC (.int 0))) (pVar 1))) (gSetL 0 (pC (.int 0))))
(sRet (eMv 2))))
sNext)
(sSeq (sSet [true, false] 2 (eB (pC (.int 0))))
(sSeq (sFor (iRg1E (eB (p2 gAdd (pC (.int 1)) (p2 gFdiv (pBits (pVar 1)) (pC (.int 30)))))) (putS [true, false] 3) b_l_random_1)
(sRet (eB (p2 gMod (pCB gInt (aCons (pVar 2) aNil)) (pVar 1)))))))
def r_l_random : Fi := runG [true, false] 2 b_l_random
/-- _law_cell(_law_script, _law_index); names: 0 _law_script, 1 _law_index -/
def b_l_cell : Sf := (sSeq (sIf (tV (tOf (p2 gLt (pVar 1) (pCB gLen (aCons (pVar 0) aNil)))))
(sRet (eB (p2 gIx (pVar 0) (pVar 1))))
sNext)
(sRet (eB (p2 gMod (pCB gSum (aCons (pSl (pVar 0) oNone (oSome (pC (.int 1)))) aNil)) (pC (.int 1000003))))))
def r_l_cell : Fi := runG [false, false] 0 b_l_cell
/-- _law_generator(_law_script, _law_index); names: 0 _law_script, 1 _law_index, 2 _law_seed -/
def b_l_generator : Sf := (sSeq (sSet [false, false] 2 (eB (pCalG 2 r_l_cell (aCons (pVar 0) (aCons (pVar 1) aNil)))))
(sRet (eLst (eCons (eB (p2 gMod (pCB gInt (aCons (pCB gMax (aCons (p2 gSub (pVar 2) (p2 gPow (pC (.int 10)) (pC (.int 18)))) (aCons (pC (.int 0)) aNil))) aNil)) (p2 gPow (p2 gPow (pC (.int 10)) (pC (.int 60))) (pC (.int 10))))) (eCons (eB (p2 gMod (pCB gInt (aCons (pVar 2) aNil)) (pC (.int 2147483647)))) (eCons (eB (p2 gMul (pC (.int 1000)) (pVar 1))) eNil))))))
def r_l_generator : Fi := runG [false, false] 1 b_l_generator
/-- _law_links(_law_generator_here, _law_most); names: 0 _law_generator_here, 1 _law_most, 2 _law_size, 3 _law_kind, 4 _law_found, 5 _law_number, 6 _law_other, 7 _law_names, 8 _law_left, 9 _law_one -/
def b_l_links_1 : Sf := (sSeq (sSet [true, false] 6 (eIf (tV (tOf (p2 gEq (pVar 3) (pC (.int 0))))) (eB (p2 gSub (pVar 5) (pC (.int 1)))) (eCall [true, false] 2 r_l_random (caC (rSl 0) (caC (rVl (eCp 5)) caN)))))
(sExpr (eMut 4 gAppend (eCons (eTup (eCons (eCp 6) (eCons (eCp 5) eNil))) eNil))))
def t_l_links_1 : Env' → Option (Bool × Env') := (tV (tOf (p2 gNe (pVar 8) (pLst aNil))))
def b_l_links_2 : Sf := (sExpr (eMut 7 gAppend (eCons (eMut 8 gPopAt (eCons (eIf (tV (tOf (p2 gGt (pVar 3) (pC (.int 1))))) (eCall [true, false] 2 r_l_random (caC (rSl 0) (caC (rVl (eB (pCB gLen (aCons (pVar 8) aNil)))) caN))) (eB (pC (.int 0)))) eNil)) eNil)))
def c_l_links_1 : VEnv → Option (D × M) := (pComp [9, 6] (iLst (pVar 4)) (gTupD 2 (gsC (gSet 9) (gsC (gSet 6) gsN))) bYes (pTup (aCons (pCB gMin (aCons (p2 gIx (pVar 7) (pVar 9)) (aCons (p2 gIx (pVar 7) (pVar 6)) aNil))) (aCons (pCB gMax (aCons (p2 gIx (pVar 7) (pVar 9)) (aCons (p2 gIx (pVar 7) (pVar 6)) aNil))) aNil))))
def b_l_links : Sf := (sSeq (sPar [true, false] 2 3 (eCons (e2 gAdd (eB (pC (.int 1))) (eCall [true, false] 2 r_l_random (caC (rSl 0) (caC (rVl (eMv 1)) caN)))) (eCons (eCall [true, false] 2 r_l_random (caC (rSl 0) (caC (rVl (eB (pC (.int 4)))) caN))) eNil)))
(sSeq (sSet [true, false] 4 (eB (pLst aNil)))
(sSeq (sFor (iRg2E (eB (pC (.int 1))) (eCp 2)) (putS [true, false] 5) b_l_links_1)
(sSeq (sAsg (eTup (eCons (eB (pLst aNil)) (eCons (eB (pLr (iRg1 (pVar 2)))) eNil))) (goTup 2 (goC (putS [true, false] 7) (goC (putS [true, false] 8) goN))))
(sSeq (sWhile t_l_links_1 b_l_links_2)
(sRet (eB (pCB gSorted (aCons c_l_links_1 aNil)))))))))
def r_l_links : Fi := runG [true, false] 8 b_l_links
/-- _law_path(_law_links_here, _law_one, _law_other); names: 0 _law_links_here, 1 _law_one, 2 _law_other, 3 _law_ways, 4 _law_way, 5 _law_spot, 6 _law_low, 7 _law_high, 8 _law_fresh -/
def b_l_path_1 : Sf := (sIf (tV (tOf (p2 gIn (pVar 5) (pLst (aCons (pVar 6) (aCons (pVar 7) aNil))))))
(sSeq (sSet [false, false, false] 8 (eB (p2 gSub (p2 gAdd (pVar 6) (pVar 7)) (pVar 5))))
(sIf (tV (tOf (p2 gNotIn (pVar 8) (pVar 4))))
(sExpr (eMut 3 gAppend (eCons (eB (p2 gAdd (pVar 4) (pLst (aCons (pVar 8) aNil)))) eNil)))
sNext))
sNext)
def t_l_path_1 : Env' → Option (Bool × Env') := (tV (tOf (p2 gNe (pVar 3) (pLst aNil))))
def b_l_path_2 : Sf := (sSeq (sSet [false, false, false] 4 (eMut0 3 gPop))
(sSeq (sSet [false, false, false] 5 (eB (p2 gIx (pVar 4) (p2 gSub (pCB gLen (aCons (pVar 4) aNil)) (pC (.int 1))))))
(sSeq (sIf (tV (tOf (p2 gEq (pVar 5) (pVar 2))))
(sRet (eB (pCB gSorted (aCons (pSl (pVar 4) (oSome (pC (.int 1))) (oSome (p2 gSub (pCB gLen (aCons (pVar 4) aNil)) (pC (.int 1))))) aNil))))
sNext)
(sFor (iLstE (eCp 0)) (goTup 2 (goC (putS [false, false, false] 6) (goC (putS [false, false, false] 7) goN))) b_l_path_1))))
def b_l_path : Sf := (sSeq (sSet [false, false, false] 3 (eLst (eCons (eLst (eCons (eMv 1) eNil)) eNil)))
(sSeq (sWhile t_l_path_1 b_l_path_2)
(sRet (eB (pLst aNil)))))
def r_l_path : Fi := runG [false, false, false] 6 b_l_path
/-- is_tree_list(value); names: 0 value, 1 link, 2 at -/
def c_is_tree_list_1 : VEnv → Option (D × M) := (pComp [1] (iLst (pVar 0)) (gSet 1) (bNot (bTru (pCalG 2 r_is_link (aCons (p2 gAdd (pCB gLen (aCons (pVar 0) aNil)) (pC (.int 1))) (aCons (pVar 1) aNil))))) (pVar 1))
def c_is_tree_list_2 : VEnv → Option (D × M) := (pComp [2] (iRg2 (pC (.int 1)) (pCB gLen (aCons (pVar 0) aNil))) (gSet 2) (tOf (p2 gGeX (p2 gIx (pVar 0) (p2 gSub (pVar 2) (pC (.int 1)))) (p2 gIx (pVar 0) (pVar 2)))) (pVar 2))
def b_is_tree_list : Sf := (sSeq (sIf (tV (bOr (bNot (bTru (pIsi "list" (pVar 0)))) (tOf (p2 gGeX (pCB gLen (aCons (pVar 0) aNil)) (pC (.int 8))))))
(sRet (eB (pC (.bl false))))
sNext)
(sSeq (sIf (tV (tOf (p2 gNe c_is_tree_list_1 (pLst aNil))))
(sRet (eB (pC (.bl false))))
sNext)
(sSeq (sIf (tV (tOf (p2 gNe c_is_tree_list_2 (pLst aNil))))
(sRet (eB (pC (.bl false))))
sNext)
(sRet (eB (p2 gEq (pCB gLen (aCons (pCalG 2 r_reached_from (aCons (pVar 0) (aCons (pC (.int 0)) aNil))) aNil)) (p2 gAdd (pCB gLen (aCons (pVar 0) aNil)) (pC (.int 1)))))))))
def r_is_tree_list : Fi := runG [false] 2 b_is_tree_list
/-- Tree.__init__(self, links); names: 0 self, 1 links -/
def b_Tree_init : Sf := (sSeq (sIf (tV (bNot (bTru (pCalG 1 r_is_tree_list (aCons (pVar 1) aNil)))))
sNever
sNext)
(sFldS 1 0 0 0 (eB (pCB gList (aCons (pVar 1) aNil)))))
def r_Tree_init : Fi := runG [true, false] 0 b_Tree_init
/-- chain(size); names: 0 size, 1 number -/
def c_chain_1 : VEnv → Option (D × M) := (pComp [1] (iRg1 (p2 gSub (pVar 0) (pC (.int 1)))) (gSet 1) bYes (pTup (aCons (pVar 1) (aCons (p2 gAdd (pVar 1) (pC (.int 1))) aNil))))
def b_chain : Sf := (sSeq (sExpr (eB (pCalG 3 r_check_number (aCons (pVar 0) (aCons (pC (.int 1)) (aCons (pC (.int 8)) aNil))))))
(sRet (eB (pMake 0 2 r_Tree_init (aCons c_chain_1 aNil)))))
def r_chain : Fi := runG [false] 1 b_chain
/-- _law_tree_right(_law_links_here); names: 0 _law_links_here, 1 _law_given, 2 _law_tree, 3 _law_size, 4 _law_one, 5 _law_other, 6 _law_told, 7 _law_link, 8 _law_number -/
def c_l_tree_right_1 : VEnv → Option (D × M) := (pComp [7] (iLst (pVar 0)) (gSet 7) bYes (pVar 7))
def b_l_tree_right_1 : Sf := (sSeq (sSet [false] 6 (eB (pCalG 3 r_between (aCons (pVar 2) (aCons (pVar 4) (aCons (pVar 5) aNil))))))
(sSeq (sIf (tV (bOr (tOf (p2 gNe (pVar 6) (pCalG 3 r_l_path (aCons (pVar 0) (aCons (pVar 4) (aCons (pVar 5) aNil)))))) (tOf (p2 gNe (pCallK 3 3 [2, 1, 0] r_between (aCons (pVar 5) (aCons (pVar 4) (aCons (pVar 2) aNil)))) (pVar 6)))))
(sRet (eB (pC (.bl false))))
sNext)
(sSeq (sExpr (eMut 6 gAppend (eCons (eCp 4) eNil)))
(sIf (tV (tOf (p2 gNe (pCalG 3 r_between (aCons (pVar 2) (aCons (pVar 4) (aCons (pVar 5) aNil)))) (pCalG 3 r_l_path (aCons (pVar 0) (aCons (pVar 4) (aCons (pVar 5) aNil)))))))
(sRet (eB (pC (.bl false))))
sNext))))
def b_l_tree_right_2 : Sf := (sFor (iRg1E (eCp 3)) (putS [false] 5) b_l_tree_right_1)
def c_l_tree_right_2 : VEnv → Option (D × M) := (pComp [8] (iRg1 (p2 gSub (pVar 3) (pC (.int 1)))) (gSet 8) bYes (pTup (aCons (pVar 8) (aCons (p2 gAdd (pVar 8) (pC (.int 1))) aNil))))
def b_l_tree_right : Sf := (sSeq (sSet [false] 1 (eB c_l_tree_right_1))
(sSeq (sPar [false] 2 3 (eCons (eB (pMake 0 2 r_Tree_init (aCons (pVar 1) aNil))) (eCons (eB (p2 gAdd (pCB gLen (aCons (pVar 0) aNil)) (pC (.int 1)))) eNil)))
(sSeq (sIf (tV (bOr (tOf (p2 gNe (pMeth0 0 1 r_Tree_size (pVar 2)) (pVar 3))) (bOr (tOf (p2 gNe (pMeth0 0 1 r_Tree_links (pVar 2)) (pVar 0))) (tOf (p2 gNe (pVar 1) (pVar 0))))))
(sRet (eB (pC (.bl false))))
sNext)
(sSeq (sExpr (eMut 1 gAppend (eCons (eB (pC .non)) eNil)))
(sSeq (sExpr (eTmp (eB (pMeth0 0 1 r_Tree_links (pVar 2))) gAppend (eCons (eB (pC (.int 7))) eNil)))
(sSeq (sIf (tV (bOr (tOf (p2 gNe (pMeth0 0 1 r_Tree_links (pVar 2)) (pVar 0))) (bOr (tOf (p2 gIsNot (p2 (gEqI 0 r_Tree_eq) (pMakeK 0 2 1 [0] r_Tree_init (aCons (pCB gList (aCons (pVar 0) aNil)) aNil)) (pVar 2)) (pC (.bl true)))) (tOf (p2 gIsNot (p2 (gEqI 0 r_Tree_eq) (pVar 2) (pVar 0)) (pC (.bl false)))))))
(sRet (eB (pC (.bl false))))
sNext)
(sSeq (sFor (iRg1E (eCp 3)) (putS [false] 4) b_l_tree_right_2)
(sRet (eB (p2 gEq (p2 (gEqI 0 r_Tree_eq) (pCalG 1 r_chain (aCons (pVar 3) aNil)) (pVar 2)) (p2 gEq (pVar 0) c_l_tree_right_2)))))))))))
def r_l_tree_right : Fi := runG [false] 8 b_l_tree_right
/-- law(_law_script); names: 0 _law_script, 1 _law_index, 2 _law_size, 3 _law_number -/
def b_law_1 : Sf := (sIf (tNotE (tTruE (eCall [false] 1 r_l_tree_right (caC (rVl (eCall [true, false] 2 r_l_links (caC (rVl (eB (pCalG 2 r_l_generator (aCons (pVar 0) (aCons (pVar 1) aNil))))) (caC (rVl (eB (pC (.int 8)))) caN)))) caN))))
(sRet (eB (pC (.bl false))))
sNext)
def c_law_1 : VEnv → Option (D × M) := (pComp [3] (iRg1 (p2 gSub (pVar 2) (pC (.int 1)))) (gSet 3) bYes (pTup (aCons (pVar 3) (aCons (p2 gAdd (pVar 3) (pC (.int 1))) aNil))))
def b_law_2 : Sf := (sSeq (sIf (tV (bOr (tOf (p2 gNe (pMeth0 0 1 r_Tree_links (pCalG 1 r_chain (aCons (pVar 2) aNil))) c_law_1)) (tOf (p2 gNe (pMeth0 0 1 r_Tree_size (pCallK 1 1 [0] r_chain (aCons (pVar 2) aNil))) (pVar 2)))))
(sRet (eB (pC (.bl false))))
sNext)
(sIf (tV (tOf (p2 gNe (pCalG 3 r_between (aCons (pCalG 1 r_chain (aCons (pVar 2) aNil)) (aCons (p2 gSub (pVar 2) (pC (.int 1))) (aCons (pC (.int 0)) aNil)))) (pLr (iRg2 (pC (.int 1)) (p2 gSub (pVar 2) (pC (.int 1))))))))
(sRet (eB (pC (.bl false))))
sNext))
def b_law : Sf := (sSeq (sFor (iRg1E (eB (pC (.int 3)))) (putS [false] 1) b_law_1)
(sSeq (sFor (iRg2E (eB (pC (.int 1))) (eB (pC (.int 9)))) (putS [false] 2) b_law_2)
(sRet (eB (pAnd (p2 gEq (pCalG 3 r_between (aCons (pMake 0 2 r_Tree_init (aCons (pLst (aCons (pTup (aCons (pC (.int 0)) (aCons (pC (.int 7)) aNil))) (aCons (pTup (aCons (pC (.int 1)) (aCons (pC (.int 7)) aNil))) (aCons (pTup (aCons (pC (.int 2)) (aCons (pC (.int 7)) aNil))) (aCons (pTup (aCons (pC (.int 3)) (aCons (pC (.int 7)) aNil))) (aCons (pTup (aCons (pC (.int 4)) (aCons (pC (.int 7)) aNil))) (aCons (pTup (aCons (pC (.int 5)) (aCons (pC (.int 7)) aNil))) (aCons (pTup (aCons (pC (.int 6)) (aCons (pC (.int 7)) aNil))) aNil)))))))) aNil)) (aCons (pC (.int 2)) (aCons (pC (.int 6)) aNil)))) (pLst (aCons (pC (.int 7)) aNil))) (p2 gEq (pMeth0 0 1 r_Tree_size (pMake 0 2 r_Tree_init (aCons (pLst aNil) aNil))) (pC (.int 1))))))))
def r_law : Fi := runG [false] 3 b_law
end L81
set_option Elab.async false
set_option linter.all false
set_option maxRecDepth 100000
set_option maxHeartbeats 4000000
namespace L81
open PySem G
theorem kb_int_int : L2.kitB "int" "int" = some true := by decide +kernel
theorem kb_int_bool : L2.kitB "int" "bool" = some false := by decide +kernel
theorem kb_tup_tup : L2.kitB "tuple" "tuple" = some true := by decide +kernel
theorem kb_lst_lst : L2.kitB "list" "list" = some true := by decide +kernel
theorem kb_dk_lst : L2.kitB "dict" "list" = some false := by decide +kernel
theorem at_0 {α : Type} (a : α) (l : List α) : L2.atI (a :: l) 0 = some a := by simp [L2.atI, L2.ixN]
theorem at_1 {α : Type} (a b : α) (l : List α) : L2.atI (a :: b :: l) 1 = some b := by
  have : (1 : Int) < (l.length : Int) + 1 + 1 := by omega
  simp [L2.atI, L2.ixN, this]
theorem at_2 {α : Type} (a b c : α) (l : List α) : L2.atI (a :: b :: c :: l) 2 = some c := by
  have : (2 : Int) < (l.length : Int) + 1 + 1 + 1 := by omega
  simp [L2.atI, L2.ixN, this]
theorem fm (a : Int) {b : Int} (h : 0 < b) : 0 ≤ Int.fmod a b ∧ Int.fmod a b < b := ⟨Int.fmod_nonneg_of_pos a h, Int.fmod_lt_of_pos a h⟩
theorem e_is_whole (i : Int) : r_is_whole [(.int i, .dp)] = some (.bl true, .dp, [(.int i, .dp)]) := by
  simp [iRg1, iRg2, iLst, pLr, runG, outP, im, imm, immL, eB, eV, eS, eMv, eCp, frz, eNil, eCons, eLst, eTup, e2, e1, eCB, eIf, eMut, eMut0, eOn, isLst, eTmp, eCall, callR, takeA, convL, putA, rSl, rVl, caN, caC, eMake, mkR, rdL, sSeq, sIf, sRet, sRetN, sExpr, sSet, putS, sPar, sPar3, sAsg, goTup, goC, goN, unTup, sFor, iLstE, iRg1E, iRg2E, iS, sNext, sNever, tV, tAndE, tOrE, tNotE, tTruE, tOfE, asBE, bAnd, bOr, bNot, bTru, tOf, asB, p2, p1, pC, pVar, pAnd, pOr, pNot, pIf, pChain, pCalG, pCallK, permL, pMake, pMakeK, pMeth, pMeth0, pFld, pIsi, pIsC, isiC, tyN, pCB, gLen, gList, gInt, gAdd, gSub, gI, gC, gLt, gLe, gGt, gGe, gGeX, gIs, gIsNot, isB, aNil, aCons, vw, shv, tru, kb_int_int, kb_int_bool, kb_tup_tup, kb_lst_lst, kb_dk_lst, gMod, gFdiv, gMul, gPow, gIx, gSetL, setAtD, inM, gMax, gMin, toInts, maxL, minL, gEq_int, gNe_int, im_int, pLst, pTup, lim, dm, allDp, at_0, at_1, at_2, bd62, r_is_whole, b_is_whole]
theorem e_is_between (i a b : Int) : r_is_between [(.int i, .dp), (.int a, .dp), (.int b, .dp)] = some (.bl (decide (a ≤ i) && decide (i ≤ b)), .dp, [(.int i, .dp), (.int a, .dp), (.int b, .dp)]) := by
  by_cases h1 : a ≤ i <;> by_cases h2 : i ≤ b <;> simp [iRg1, iRg2, iLst, pLr, runG, outP, im, imm, immL, eB, eV, eS, eMv, eCp, frz, eNil, eCons, eLst, eTup, e2, e1, eCB, eIf, eMut, eMut0, eOn, isLst, eTmp, eCall, callR, takeA, convL, putA, rSl, rVl, caN, caC, eMake, mkR, rdL, sSeq, sIf, sRet, sRetN, sExpr, sSet, putS, sPar, sPar3, sAsg, goTup, goC, goN, unTup, sFor, iLstE, iRg1E, iRg2E, iS, sNext, sNever, tV, tAndE, tOrE, tNotE, tTruE, tOfE, asBE, bAnd, bOr, bNot, bTru, tOf, asB, p2, p1, pC, pVar, pAnd, pOr, pNot, pIf, pChain, pCalG, pCallK, permL, pMake, pMakeK, pMeth, pMeth0, pFld, pIsi, pIsC, isiC, tyN, pCB, gLen, gList, gInt, gAdd, gSub, gI, gC, gLt, gLe, gGt, gGe, gGeX, gIs, gIsNot, isB, aNil, aCons, vw, shv, tru, kb_int_int, kb_int_bool, kb_tup_tup, kb_lst_lst, kb_dk_lst, gMod, gFdiv, gMul, gPow, gIx, gSetL, setAtD, inM, gMax, gMin, toInts, maxL, minL, gEq_int, gNe_int, im_int, pLst, pTup, lim, dm, allDp, at_0, at_1, at_2, bd62, r_is_between, b_is_between, e_is_whole, h1, h2]
theorem e_check_number (i a b : Int) (h1 : a ≤ i) (h2 : i ≤ b) : r_check_number [(.int i, .dp), (.int a, .dp), (.int b, .dp)] = some (.non, .dp, [(.int i, .dp), (.int a, .dp), (.int b, .dp)]) := by
  simp [iRg1, iRg2, iLst, pLr, runG, outP, im, imm, immL, eB, eV, eS, eMv, eCp, frz, eNil, eCons, eLst, eTup, e2, e1, eCB, eIf, eMut, eMut0, eOn, isLst, eTmp, eCall, callR, takeA, convL, putA, rSl, rVl, caN, caC, eMake, mkR, rdL, sSeq, sIf, sRet, sRetN, sExpr, sSet, putS, sPar, sPar3, sAsg, goTup, goC, goN, unTup, sFor, iLstE, iRg1E, iRg2E, iS, sNext, sNever, tV, tAndE, tOrE, tNotE, tTruE, tOfE, asBE, bAnd, bOr, bNot, bTru, tOf, asB, p2, p1, pC, pVar, pAnd, pOr, pNot, pIf, pChain, pCalG, pCallK, permL, pMake, pMakeK, pMeth, pMeth0, pFld, pIsi, pIsC, isiC, tyN, pCB, gLen, gList, gInt, gAdd, gSub, gI, gC, gLt, gLe, gGt, gGe, gGeX, gIs, gIsNot, isB, aNil, aCons, vw, shv, tru, kb_int_int, kb_int_bool, kb_tup_tup, kb_lst_lst, kb_dk_lst, gMod, gFdiv, gMul, gPow, gIx, gSetL, setAtD, inM, gMax, gMin, toInts, maxL, minL, gEq_int, gNe_int, im_int, pLst, pTup, lim, dm, allDp, at_0, at_1, at_2, bd62, r_check_number, b_check_number, e_is_between, h1, h2]
theorem sm {i : Int} (h0 : 0 ≤ i) (h : i < 2 ^ 62) : small64 i = true := by
  simp only [small64, Bool.and_eq_true, decide_eq_true_eq]
  omega
theorem sm_const : small64 1140671 = true ∧ small64 27644437 = true ∧ small64 131 = true ∧ small64 62089 = true ∧ small64 48271 = true ∧ small64 2147483587 = true ∧ small64 1000 = true := by decide
def hashF (s i : Int) : Int :=
  let m1 := Int.fmod (s * 1140671 + 27644437 * i * i + 131 * i + 19) 2147483629
  let m2 := Int.fmod (m1 * m1 + 62089 * i + 32416187) 2147483587
  Int.fmod (m2 * 48271) 2147483647
theorem e_hash (s i : Int) (h0 : 0 ≤ i) (h : i < 2 ^ 62) : r_l_hash [(.int s, .dp), (.int i, .dp)] = some (.int (hashF s i), .dp, [(.int s, .dp), (.int i, .dp)]) := by
  obtain ⟨c1, c2, c3, c4, c5, c6, c7⟩ := sm_const
  have hi := sm h0 h
  have b1 := fm (s * 1140671 + 27644437 * i * i + 131 * i + 19) (b := 2147483629) (by decide)
  have hm := sm b1.1 (by omega)
  simp [iRg1, iRg2, iLst, pLr, runG, outP, im, imm, immL, eB, eV, eS, eMv, eCp, frz, eNil, eCons, eLst, eTup, e2, e1, eCB, eIf, eMut, eMut0, eOn, isLst, eTmp, eCall, callR, takeA, convL, putA, rSl, rVl, caN, caC, eMake, mkR, rdL, sSeq, sIf, sRet, sRetN, sExpr, sSet, putS, sPar, sPar3, sAsg, goTup, goC, goN, unTup, sFor, iLstE, iRg1E, iRg2E, iS, sNext, sNever, tV, tAndE, tOrE, tNotE, tTruE, tOfE, asBE, bAnd, bOr, bNot, bTru, tOf, asB, p2, p1, pC, pVar, pAnd, pOr, pNot, pIf, pChain, pCalG, pCallK, permL, pMake, pMakeK, pMeth, pMeth0, pFld, pIsi, pIsC, isiC, tyN, pCB, gLen, gList, gInt, gAdd, gSub, gI, gC, gLt, gLe, gGt, gGe, gGeX, gIs, gIsNot, isB, aNil, aCons, vw, shv, tru, kb_int_int, kb_int_bool, kb_tup_tup, kb_lst_lst, kb_dk_lst, gMod, gFdiv, gMul, gPow, gIx, gSetL, setAtD, inM, gMax, gMin, toInts, maxL, minL, gEq_int, gNe_int, im_int, pLst, pTup, lim, dm, allDp, at_0, at_1, at_2, bd62, r_l_hash, b_l_hash, c1, c2, c3, c4, c5, hi, hm, hashF]
/-- a generator behind at most k draws -/
def Gn (g : D × M) (k : Nat) : Prop := ∃ g0 g1 g2 : Int, g = (.lst [.int g0, .int g1, .int g2], .dp) ∧ 0 ≤ g2 ∧ g2 ≤ 100000 + k
theorem e_random (g : D × M) (k : Nat) (b : Int) (hg : Gn g k) (hk : k ≤ 1000000000) (h0 : 0 < b) (hb : b < 1000000) : ∃ (r : Int) (g' : D × M), r_l_random [g, (.int b, .dp)] = some (.int r, .dp, [g', (.int b, .dp)]) ∧ 0 ≤ r ∧ r < b ∧ Gn g' (k + 1) := by
  obtain ⟨g0, g1, g2, rfl, hg0, hg1⟩ := hg
  obtain ⟨c1, c2, c3, c4, c5, c6, c7⟩ := sm_const
  have hb0 : b ≠ 0 := by omega
  have hb1 : b.natAbs < 1073741824 := by omega
  by_cases hp : 0 < g0
  · have f1 := fm g0 h0
    have e : r_l_random [(.lst [.int g0, .int g1, .int g2], .dp), (.int b, .dp)] = some (.int (Int.fmod g0 b), .dp, [(.lst [.int (Int.fdiv g0 b), .int g1, .int g2], .dp), (.int b, .dp)]) := by simp [iRg1, iRg2, iLst, pLr, runG, outP, im, imm, immL, eB, eV, eS, eMv, eCp, frz, eNil, eCons, eLst, eTup, e2, e1, eCB, eIf, eMut, eMut0, eOn, isLst, eTmp, eCall, callR, takeA, convL, putA, rSl, rVl, caN, caC, eMake, mkR, rdL, sSeq, sIf, sRet, sRetN, sExpr, sSet, putS, sPar, sPar3, sAsg, goTup, goC, goN, unTup, sFor, iLstE, iRg1E, iRg2E, iS, sNext, sNever, tV, tAndE, tOrE, tNotE, tTruE, tOfE, asBE, bAnd, bOr, bNot, bTru, tOf, asB, p2, p1, pC, pVar, pAnd, pOr, pNot, pIf, pChain, pCalG, pCallK, permL, pMake, pMakeK, pMeth, pMeth0, pFld, pIsi, pIsC, isiC, tyN, pCB, gLen, gList, gInt, gAdd, gSub, gI, gC, gLt, gLe, gGt, gGe, gGeX, gIs, gIsNot, isB, aNil, aCons, vw, shv, tru, kb_int_int, kb_int_bool, kb_tup_tup, kb_lst_lst, kb_dk_lst, gMod, gFdiv, gMul, gPow, gIx, gSetL, setAtD, inM, gMax, gMin, toInts, maxL, minL, gEq_int, gNe_int, im_int, pLst, pTup, lim, dm, allDp, at_0, at_1, at_2, bd62, r_l_random, b_l_random, b_l_random_1, hp, hb0, hb1, L2.ixN]
    exact ⟨_, _, e, f1.1, f1.2, ⟨_, _, _, rfl, hg0, by omega⟩⟩
  · have hbits : Int.fdiv (Builtin.Int.intBits b : Int) 30 = 0 := by
      have hb2 : Builtin.Int.intBits b ≤ 20 := intBits_le_iff.mpr (by omega)
      rw [Int.fdiv_eq_ediv_of_nonneg _ (by decide)]
      omega
    have eh := e_hash g1 (g2 + 1) (by omega) (by omega)
    have e : r_l_random [(.lst [.int g0, .int g1, .int g2], .dp), (.int b, .dp)] = some (.int (Int.fmod (0 * 2147483587 + hashF g1 (g2 + 1)) b), .dp, [(.lst [.int g0, .int g1, .int (g2 + 1)], .dp), (.int b, .dp)]) := by
      simp [iRg1, iRg2, iLst, pLr, runG, outP, im, imm, immL, eB, eV, eS, eMv, eCp, frz, eNil, eCons, eLst, eTup, e2, e1, eCB, eIf, eMut, eMut0, eOn, isLst, eTmp, eCall, callR, takeA, convL, putA, rSl, rVl, caN, caC, eMake, mkR, rdL, sSeq, sIf, sRet, sRetN, sExpr, sSet, putS, sPar, sPar3, sAsg, goTup, goC, goN, unTup, sFor, iLstE, iRg1E, iRg2E, iS, sNext, sNever, tV, tAndE, tOrE, tNotE, tTruE, tOfE, asBE, bAnd, bOr, bNot, bTru, tOf, asB, p2, p1, pC, pVar, pAnd, pOr, pNot, pIf, pChain, pCalG, pCallK, permL, pMake, pMakeK, pMeth, pMeth0, pFld, pIsi, pIsC, isiC, tyN, pCB, gLen, gList, gInt, gAdd, gSub, gI, gC, gLt, gLe, gGt, gGe, gGeX, gIs, gIsNot, isB, aNil, aCons, vw, shv, tru, kb_int_int, kb_int_bool, kb_tup_tup, kb_lst_lst, kb_dk_lst, gMod, gFdiv, gMul, gPow, gIx, gSetL, setAtD, inM, gMax, gMin, toInts, maxL, minL, gEq_int, gNe_int, im_int, pLst, pTup, lim, dm, allDp, at_0, at_1, at_2, bd62, r_l_random, b_l_random, b_l_random_1, hp, hb0, hb1, L2.ixN, pBits, hbits, eh, c6, rgD, forL]
    have f1 := fm (0 * 2147483587 + hashF g1 (g2 + 1)) h0
    exact ⟨_, _, e, f1.1, f1.2, ⟨_, _, _, rfl, by omega, by omega⟩⟩
theorem toInts_cut (ns : List Int) (lo hi : Option Int) : toInts ((cutL ns lo hi).map D.int) = some (cutL ns lo hi) := toInts_map _
theorem e_cell (ns : List Int) (i : Int) (h0 : 0 ≤ i) : ∃ c, r_l_cell [(.scr ns, .sh), (.int i, .dp)] = some (.int c, .dp, [(.scr ns, .sh), (.int i, .dp)]) := by
  by_cases h : i < (ns.length : Int)
  · have hl : i.toNat < ns.length := by omega
    have ea : L2.atI ns i = some ns[i.toNat] := by
      simp [L2.atI, L2.ixN, h0, h]
    exact ⟨ns[i.toNat], by simp [iRg1, iRg2, iLst, pLr, runG, outP, im, imm, immL, eB, eV, eS, eMv, eCp, frz, eNil, eCons, eLst, eTup, e2, e1, eCB, eIf, eMut, eMut0, eOn, isLst, eTmp, eCall, callR, takeA, convL, putA, rSl, rVl, caN, caC, eMake, mkR, rdL, sSeq, sIf, sRet, sRetN, sExpr, sSet, putS, sPar, sPar3, sAsg, goTup, goC, goN, unTup, sFor, iLstE, iRg1E, iRg2E, iS, sNext, sNever, tV, tAndE, tOrE, tNotE, tTruE, tOfE, asBE, bAnd, bOr, bNot, bTru, tOf, asB, p2, p1, pC, pVar, pAnd, pOr, pNot, pIf, pChain, pCalG, pCallK, permL, pMake, pMakeK, pMeth, pMeth0, pFld, pIsi, pIsC, isiC, tyN, pCB, gLen, gList, gInt, gAdd, gSub, gI, gC, gLt, gLe, gGt, gGe, gGeX, gIs, gIsNot, isB, aNil, aCons, vw, shv, tru, kb_int_int, kb_int_bool, kb_tup_tup, kb_lst_lst, kb_dk_lst, gMod, gFdiv, gMul, gPow, gIx, gSetL, setAtD, inM, gMax, gMin, toInts, maxL, minL, gEq_int, gNe_int, im_int, pLst, pTup, lim, dm, allDp, at_0, at_1, at_2, bd62, r_l_cell, b_l_cell, h, ea]⟩
  · refine ⟨Int.fmod (cutL ns none (some 1)).sum 1000003, ?_⟩
    simp [iRg1, iRg2, iLst, pLr, runG, outP, im, imm, immL, eB, eV, eS, eMv, eCp, frz, eNil, eCons, eLst, eTup, e2, e1, eCB, eIf, eMut, eMut0, eOn, isLst, eTmp, eCall, callR, takeA, convL, putA, rSl, rVl, caN, caC, eMake, mkR, rdL, sSeq, sIf, sRet, sRetN, sExpr, sSet, putS, sPar, sPar3, sAsg, goTup, goC, goN, unTup, sFor, iLstE, iRg1E, iRg2E, iS, sNext, sNever, tV, tAndE, tOrE, tNotE, tTruE, tOfE, asBE, bAnd, bOr, bNot, bTru, tOf, asB, p2, p1, pC, pVar, pAnd, pOr, pNot, pIf, pChain, pCalG, pCallK, permL, pMake, pMakeK, pMeth, pMeth0, pFld, pIsi, pIsC, isiC, tyN, pCB, gLen, gList, gInt, gAdd, gSub, gI, gC, gLt, gLe, gGt, gGe, gGeX, gIs, gIsNot, isB, aNil, aCons, vw, shv, tru, kb_int_int, kb_int_bool, kb_tup_tup, kb_lst_lst, kb_dk_lst, gMod, gFdiv, gMul, gPow, gIx, gSetL, setAtD, inM, gMax, gMin, toInts, maxL, minL, gEq_int, gNe_int, im_int, pLst, pTup, lim, dm, allDp, at_0, at_1, at_2, bd62, r_l_cell, b_l_cell, h, pSl, oNone, oSome, gSl, gSum, toInts_cut]
theorem Gn.mono {g : D × M} {k l : Nat} (h : Gn g k) (hl : k ≤ l) : Gn g l := by
  obtain ⟨a, b, c, e, h0, h1⟩ := h
  exact ⟨a, b, c, e, h0, by omega⟩
theorem gPow_at {a b r : Int} (h : (decide (0 ≤ b) && decide ((Builtin.Int.intBits a : Int) * b ≤ 2 ^ 27)) = true) (e : a ^ b.toNat = r) : gPow (.int a) (.int b) = some (.int r, .dp) := by
  subst e
  exact if_pos h
theorem e_generator (ns : List Int) (i : Int) (h0 : 0 ≤ i) (h1 : i ≤ 100) : ∃ g : D, r_l_generator [(.scr ns, .sh), (.int i, .dp)] = some (g, .dp, [(.scr ns, .sh), (.int i, .dp)]) ∧ Gn (g, .dp) 0 := by
  obtain ⟨c, ec⟩ := e_cell ns i h0
  obtain ⟨c1, c2, c3, c4, c5, c6, c7⟩ := sm_const
  have q1 : gPow (.int 10) (.int 18) = some (.int (10 ^ 18), .dp) := gPow_at (by decide +kernel) rfl
  have q2 : gPow (.int 10) (.int 60) = some (.int (10 ^ 60), .dp) := gPow_at (by decide +kernel) rfl
  have q3 : gPow (.int (10 ^ 60)) (.int 10) = some (.int (10 ^ 600), .dp) := gPow_at (by decide +kernel) (by decide +kernel)
  generalize (10 ^ 18 : Int) = P1 at q1
  generalize e2 : (10 ^ 60 : Int) = P2 at q2 q3
  have hP : (10 ^ 600 : Int) ≠ 0 := by decide +kernel
  generalize (10 ^ 600 : Int) = P3 at q3 hP
  have e : ∃ a b : Int, r_l_generator [(.scr ns, .sh), (.int i, .dp)] = some (.lst [.int a, .int b, .int (1000 * i)], .dp, [(.scr ns, .sh), (.int i, .dp)]) := by
    by_cases hc : c - P1 < 0
    · (simp [iRg1, iRg2, iLst, pLr, runG, outP, im, imm, immL, eB, eV, eS, eMv, eCp, frz, eNil, eCons, eLst, eTup, e2, e1, eCB, eIf, eMut, eMut0, eOn, isLst, eTmp, eCall, callR, takeA, convL, putA, rSl, rVl, caN, caC, eMake, mkR, rdL, sSeq, sIf, sRet, sRetN, sExpr, sSet, putS, sPar, sPar3, sAsg, goTup, goC, goN, unTup, sFor, iLstE, iRg1E, iRg2E, iS, sNext, sNever, tV, tAndE, tOrE, tNotE, tTruE, tOfE, asBE, bAnd, bOr, bNot, bTru, tOf, asB, p2, p1, pC, pVar, pAnd, pOr, pNot, pIf, pChain, pCalG, pCallK, permL, pMake, pMakeK, pMeth, pMeth0, pFld, pIsi, pIsC, isiC, tyN, pCB, gLen, gList, gInt, gAdd, gSub, gI, gC, gLt, gLe, gGt, gGe, gGeX, gIs, gIsNot, isB, aNil, aCons, vw, shv, tru, kb_int_int, kb_int_bool, kb_tup_tup, kb_lst_lst, kb_dk_lst, gMod, gFdiv, gMul, gIx, gSetL, setAtD, inM, gMax, gMin, toInts, maxL, minL, gEq_int, gNe_int, im_int, pLst, pTup, lim, dm, allDp, at_0, at_1, at_2, bd62, r_l_generator, b_l_generator, ec, q1, q2, q3, hP, hc, c7])
    · (simp [iRg1, iRg2, iLst, pLr, runG, outP, im, imm, immL, eB, eV, eS, eMv, eCp, frz, eNil, eCons, eLst, eTup, e2, e1, eCB, eIf, eMut, eMut0, eOn, isLst, eTmp, eCall, callR, takeA, convL, putA, rSl, rVl, caN, caC, eMake, mkR, rdL, sSeq, sIf, sRet, sRetN, sExpr, sSet, putS, sPar, sPar3, sAsg, goTup, goC, goN, unTup, sFor, iLstE, iRg1E, iRg2E, iS, sNext, sNever, tV, tAndE, tOrE, tNotE, tTruE, tOfE, asBE, bAnd, bOr, bNot, bTru, tOf, asB, p2, p1, pC, pVar, pAnd, pOr, pNot, pIf, pChain, pCalG, pCallK, permL, pMake, pMakeK, pMeth, pMeth0, pFld, pIsi, pIsC, isiC, tyN, pCB, gLen, gList, gInt, gAdd, gSub, gI, gC, gLt, gLe, gGt, gGe, gGeX, gIs, gIsNot, isB, aNil, aCons, vw, shv, tru, kb_int_int, kb_int_bool, kb_tup_tup, kb_lst_lst, kb_dk_lst, gMod, gFdiv, gMul, gIx, gSetL, setAtD, inM, gMax, gMin, toInts, maxL, minL, gEq_int, gNe_int, im_int, pLst, pTup, lim, dm, allDp, at_0, at_1, at_2, bd62, r_l_generator, b_l_generator, ec, q1, q2, q3, hP, hc, c7])
  obtain ⟨a, b, e⟩ := e
  exact ⟨_, e, _, _, _, rfl, by omega, by omega⟩
end L81
set_option Elab.async false
set_option linter.all false
set_option maxRecDepth 100000
set_option maxHeartbeats 4000000
namespace L81
open PySem G
theorem append_pD (fs : List (Int × Int)) (a b : Int) : fs.map pD ++ [.tup [.int a, .int b]] = (fs ++ [(a, b)]).map pD := by simp [pD]
theorem st_links_1 (g : D × M) (k : Nat) (m n kd i : Int) (fs : List (Int × Int)) (x6 : Option (D × M)) (hg : Gn g k) (hk : k ≤ 1000000000) (hi : 1 ≤ i) (hi2 : i < 1000000) (hl : fs.length < lim) :
    ∃ (o : Int) (g' : D × M), b_l_links_1 [some g, some (.int m, .dp), some (.int n, .dp), some (.int kd, .dp), some (.lst (fs.map pD), .dp), some (.int i, .dp), x6, none, none, none] =
      some (.nx, [some g', some (.int m, .dp), some (.int n, .dp), some (.int kd, .dp), some (.lst ((fs ++ [(o, i)]).map pD), .dp), some (.int i, .dp), some (.int o, .dp), none, none, none]) ∧ 0 ≤ o ∧ o < i ∧ Gn g' (k + 1) := by
  have hl' : fs.length < 16777216 := hl
  by_cases hkd : kd = 0
  · refine ⟨i - 1, g, ?_, by omega, by omega, hg.mono (by omega)⟩
    subst hkd
    simp [iRg1, iRg2, iLst, pLr, runG, outP, im, imm, immL, eB, eV, eS, eMv, eCp, frz, eNil, eCons, eLst, eTup, e2, e1, eCB, eIf, eMut, eMut0, eOn, isLst, eTmp, eCall, callR, takeA, convL, putA, rSl, rVl, caN, caC, eMake, mkR, rdL, sSeq, sIf, sRet, sRetN, sExpr, sSet, putS, sPar, sPar3, sAsg, goTup, goC, goN, unTup, sFor, iLstE, iRg1E, iRg2E, iS, sNext, sNever, tV, tAndE, tOrE, tNotE, tTruE, tOfE, asBE, bAnd, bOr, bNot, bTru, tOf, asB, p2, p1, pC, pVar, pAnd, pOr, pNot, pIf, pChain, pCalG, pCallK, permL, pMake, pMakeK, pMeth, pMeth0, pFld, pIsi, pIsC, isiC, tyN, pCB, gLen, gList, gInt, gAdd, gSub, gI, gC, gLt, gLe, gGt, gGe, gGeX, gIs, gIsNot, isB, aNil, aCons, vw, shv, tru, kb_int_int, kb_int_bool, kb_tup_tup, kb_lst_lst, kb_dk_lst, gMod, gFdiv, gMul, gPow, gIx, gSetL, setAtD, inM, gMax, gMin, toInts, maxL, minL, gEq_int, gNe_int, im_int, pLst, pTup, lim, dm, allDp, at_0, at_1, at_2, bd62, b_l_links_1, gAppend, hl', pD]
  · obtain ⟨r, g', e, h1, h2, h3⟩ := e_random g k i hg hk (by omega) hi2
    refine ⟨r, g', ?_, h1, h2, h3⟩
    simp [iRg1, iRg2, iLst, pLr, runG, outP, im, imm, immL, eB, eV, eS, eMv, eCp, frz, eNil, eCons, eLst, eTup, e2, e1, eCB, eIf, eMut, eMut0, eOn, isLst, eTmp, eCall, callR, takeA, convL, putA, rSl, rVl, caN, caC, eMake, mkR, rdL, sSeq, sIf, sRet, sRetN, sExpr, sSet, putS, sPar, sPar3, sAsg, goTup, goC, goN, unTup, sFor, iLstE, iRg1E, iRg2E, iS, sNext, sNever, tV, tAndE, tOrE, tNotE, tTruE, tOfE, asBE, bAnd, bOr, bNot, bTru, tOf, asB, p2, p1, pC, pVar, pAnd, pOr, pNot, pIf, pChain, pCalG, pCallK, permL, pMake, pMakeK, pMeth, pMeth0, pFld, pIsi, pIsC, isiC, tyN, pCB, gLen, gList, gInt, gAdd, gSub, gI, gC, gLt, gLe, gGt, gGe, gGeX, gIs, gIsNot, isB, aNil, aCons, vw, shv, tru, kb_int_int, kb_int_bool, kb_tup_tup, kb_lst_lst, kb_dk_lst, gMod, gFdiv, gMul, gPow, gIx, gSetL, setAtD, inM, gMax, gMin, toInts, maxL, minL, gEq_int, gNe_int, im_int, pLst, pTup, lim, dm, allDp, at_0, at_1, at_2, bd62, b_l_links_1, gAppend, hl', hkd, e, pD]
/-- the links of the unnamed tree: the j-th hangs j + 1 at something less -/
def Hang (fs : List (Int × Int)) : Prop := ∀ (t : Nat) (p : Int × Int), fs[t]? = some p → p.2 = (t : Int) + 1 ∧ 0 ≤ p.1 ∧ p.1 < p.2
theorem Hang.snoc {fs : List (Int × Int)} {o : Int} (h : Hang fs) (h0 : 0 ≤ o) (h1 : o < (fs.length : Int) + 1) : Hang (fs ++ [(o, (fs.length : Int) + 1)]) := by
  intro t p e
  by_cases ht : t < fs.length
  · rw [List.getElem?_append_left ht] at e
    exact h t p e
  · have hl := (List.getElem?_eq_some_iff.mp e).1
    simp at hl
    have : t = fs.length := by omega
    subst this
    rw [List.getElem?_append_right (Nat.le_refl _)] at e
    simp at e
    subst e
    exact ⟨rfl, h0, h1⟩
def en1 (g : D × M) (m n kd : Int) (fs : List (Int × Int)) (x5 x6 : Option (D × M)) : Env' := [some g, some (.int m, .dp), some (.int n, .dp), some (.int kd, .dp), some (.lst (fs.map pD), .dp), x5, x6, none, none, none]
theorem lp_links_1 (g : D × M) (k : Nat) (m n kd : Int) (x5 x6 : Option (D × M)) (hg : Gn g k) (hk : k ≤ 1000) (hn : 1 ≤ n) (hn2 : n ≤ 1000) :
    ∃ g' fs y5 y6, forL (putS [true, false] 5) b_l_links_1 (rgD 1 n) (en1 g m n kd [] x5 x6) = some (.nx, en1 g' m n kd fs y5 y6) ∧ Gn g' (k + (n - 1).toNat) ∧ fs.length = (n - 1).toNat ∧ Hang fs := by
  obtain ⟨e', h1, g', fs, y5, y6, h2, h3, h4, h5⟩ := forL_inv (g := putS [true, false] 5) (b := b_l_links_1) (ds := rgD 1 n)
    (I := fun j e => ∃ g' fs y5 y6, e = en1 g' m n kd fs y5 y6 ∧ Gn g' (k + j) ∧ fs.length = j ∧ Hang fs)
    (fun j d e hd ⟨g', fs, y5, y6, he, hg', hl, hh⟩ => by
      have hj : j < (n - 1).toNat := by
        have := (List.getElem?_eq_some_iff.mp hd).1
        rwa [rgD_length] at this
      rw [rgD_get hj] at hd
      cases hd
      subst he
      obtain ⟨o, g2, e2, h0, hlt, hg2⟩ := st_links_1 g' (k + j) m n kd (1 + (j : Int)) fs y6 hg' (by omega) (by omega) (by omega) (by unfold lim; omega)
      refine ⟨en1 g' m n kd fs (some (.int (1 + (j : Int)), .dp)) y6, _, ?_, e2, g2, fs ++ [(o, 1 + (j : Int))], _, _, rfl, hg2, by simp [hl], ?_⟩
      · simp [putS, en1, im_int]
      · have : (1 + (j : Int)) = (fs.length : Int) + 1 := by omega
        rw [this]
        exact hh.snoc h0 (by omega))
    (en1 g m n kd [] x5 x6) ⟨g, [], x5, x6, rfl, hg.mono (by omega), rfl, fun t p e => by simp at e⟩
  subst h2
  rw [rgD_length] at h3 h4
  exact ⟨g', fs, y5, y6, h1, h3, h4, h5⟩
def en2 (g : D × M) (m n kd : Int) (fs : List (Int × Int)) (x5 x6 : Option (D × M)) (ns ls : List Int) : Env' := [some g, some (.int m, .dp), some (.int n, .dp), some (.int kd, .dp), some (.lst (fs.map pD), .dp), x5, x6, some (.lst (ns.map .int), .dp), some (.lst (ls.map .int), .dp), none]
theorem map_erase {α β : Type} (f : α → β) : ∀ (ls : List α) (i : Nat), (ls.map f).eraseIdx i = (ls.eraseIdx i).map f
  | [], i => by simp
  | _ :: _, 0 => by simp
  | x :: ls, i + 1 => by simp [map_erase f ls i]
theorem popAt_ints (ls : List Int) (i : Int) (h0 : 0 ≤ i) (h1 : i < (ls.length : Int)) (hb : ls.length ≤ 1000) (m : M) : gPopAt (.lst (ls.map .int), .dp) [(.int i, m)] = some ((.int (ls.getD i.toNat 0), .dp), (.lst ((ls.eraseIdx i.toNat).map .int), .dp)) := by
  have hlt : i.toNat < ls.length := by omega
  have e1 : seqIndex? i (ls.map D.int).length = some i.toNat := by
    rw [List.length_map]
    have h2 : ¬ i < 0 := by omega
    simp [seqIndex?, h2, h0, h1]
  have e2 : (ls.map D.int)[i.toNat]? = some (.int (ls.getD i.toNat 0)) := by
    rw [List.getElem?_map, List.getElem?_eq_getElem hlt, List.getD_eq_getElem?_getD, List.getElem?_eq_getElem hlt]
    rfl
  have e3 : bd62 i = true := by
    simp only [bd62, Bool.and_eq_true, decide_eq_true_eq]
    omega
  simp only [gPopAt, e3, if_true, e1, e2, Option.bind_some, outM, map_erase]
theorem st_links_2 (g : D × M) (k : Nat) (m n kd : Int) (fs : List (Int × Int)) (x5 x6 : Option (D × M)) (ns ls : List Int) (hg : Gn g k) (hk : k ≤ 1000) (hn : ns.length ≤ 1000) (hl : ls.length ≤ 1000) (hne : ls ≠ []) :
    ∃ (i : Nat) (g' : D × M), b_l_links_2 (en2 g m n kd fs x5 x6 ns ls) = some (.nx, en2 g' m n kd fs x5 x6 (ns ++ [ls.getD i 0]) (ls.eraseIdx i)) ∧ i < ls.length ∧ Gn g' (k + 1) := by
  have hpos : 0 < ls.length := List.length_pos_iff.mpr hne
  have hnl : ns.length < 16777216 := by omega
  by_cases hkd : 1 < kd
  · obtain ⟨r, g', e, h1, h2, h3⟩ := e_random g k (ls.length : Int) hg (by omega) (by omega) (by omega)
    refine ⟨r.toNat, g', ?_, by omega, h3⟩
    have ep := popAt_ints ls r h1 h2 hl .dp
    simp [iRg1, iRg2, iLst, pLr, runG, outP, im, imm, immL, eB, eV, eS, eMv, eCp, frz, eNil, eCons, eLst, eTup, e2, e1, eCB, eIf, eMut, eMut0, eOn, isLst, eTmp, eCall, callR, takeA, convL, putA, rSl, rVl, caN, caC, eMake, mkR, rdL, sSeq, sIf, sRet, sRetN, sExpr, sSet, putS, sPar, sPar3, sAsg, goTup, goC, goN, unTup, sFor, iLstE, iRg1E, iRg2E, iS, sNext, sNever, tV, tAndE, tOrE, tNotE, tTruE, tOfE, asBE, bAnd, bOr, bNot, bTru, tOf, asB, p2, p1, pC, pVar, pAnd, pOr, pNot, pIf, pChain, pCalG, pCallK, permL, pMake, pMakeK, pMeth, pMeth0, pFld, pIsi, pIsC, isiC, tyN, pCB, gLen, gList, gInt, gAdd, gSub, gI, gC, gLt, gLe, gGt, gGe, gGeX, gIs, gIsNot, isB, aNil, aCons, vw, shv, tru, kb_int_int, kb_int_bool, kb_tup_tup, kb_lst_lst, kb_dk_lst, gMod, gFdiv, gMul, gPow, gIx, gSetL, setAtD, inM, gMax, gMin, toInts, maxL, minL, gEq_int, gNe_int, im_int, pLst, pTup, lim, dm, allDp, at_0, at_1, at_2, bd62, b_l_links_2, en2, gAppend, hkd, e, ep, hnl]
  · refine ⟨0, g, ?_, hpos, hg.mono (by omega)⟩
    have ep := popAt_ints ls 0 (by omega) (by omega) hl .dp
    simp [iRg1, iRg2, iLst, pLr, runG, outP, im, imm, immL, eB, eV, eS, eMv, eCp, frz, eNil, eCons, eLst, eTup, e2, e1, eCB, eIf, eMut, eMut0, eOn, isLst, eTmp, eCall, callR, takeA, convL, putA, rSl, rVl, caN, caC, eMake, mkR, rdL, sSeq, sIf, sRet, sRetN, sExpr, sSet, putS, sPar, sPar3, sAsg, goTup, goC, goN, unTup, sFor, iLstE, iRg1E, iRg2E, iS, sNext, sNever, tV, tAndE, tOrE, tNotE, tTruE, tOfE, asBE, bAnd, bOr, bNot, bTru, tOf, asB, p2, p1, pC, pVar, pAnd, pOr, pNot, pIf, pChain, pCalG, pCallK, permL, pMake, pMakeK, pMeth, pMeth0, pFld, pIsi, pIsC, isiC, tyN, pCB, gLen, gList, gInt, gAdd, gSub, gI, gC, gLt, gLe, gGt, gGe, gGeX, gIs, gIsNot, isB, aNil, aCons, vw, shv, tru, kb_int_int, kb_int_bool, kb_tup_tup, kb_lst_lst, kb_dk_lst, gMod, gFdiv, gMul, gPow, gIx, gSetL, setAtD, inM, gMax, gMin, toInts, maxL, minL, gEq_int, gNe_int, im_int, pLst, pTup, lim, dm, allDp, at_0, at_1, at_2, bd62, b_l_links_2, en2, gAppend, hkd, ep, hnl]
theorem lp_links_2 (g : D × M) (k : Nat) (m n kd : Int) (fs : List (Int × Int)) (x5 x6 : Option (D × M)) (ls0 : List Int) (hg : Gn g k) (hk : k ≤ 100) (hl : ls0.length ≤ 500) :
    ∃ g' ns, sWhile t_l_links_1 b_l_links_2 (en2 g m n kd fs x5 x6 [] ls0) = some (.nx, en2 g' m n kd fs x5 x6 ns []) ∧ Gn g' (k + ls0.length) ∧ ns.Perm ls0 := by
  obtain ⟨fl, e', h1, rfl, g', ns, h2, h3, h4⟩ := sWhile_inv (t := t_l_links_1) (b := b_l_links_2)
    (I := fun mm e => ∃ g' ns ls, e = en2 g' m n kd fs x5 x6 ns ls ∧ Gn g' (k + ns.length) ∧ (ns ++ ls).Perm ls0 ∧ mm = ls.length)
    (F := fun fl e => fl = .nx ∧ ∃ g' ns, e = en2 g' m n kd fs x5 x6 ns [] ∧ Gn g' (k + ns.length) ∧ ns.Perm ls0)
    (fun mm e ⟨g', ns, ls, he, hg', hp, hm⟩ => by
      have hlen : ns.length + ls.length = ls0.length := by rw [← hp.length_eq, List.length_append]
      refine ⟨decide (ls ≠ []), e, ?_, fun hz => ?_, fun hz => ?_⟩
      · subst he
        simp [iRg1, iRg2, iLst, pLr, runG, outP, im, imm, immL, eB, eV, eS, eMv, eCp, frz, eNil, eCons, eLst, eTup, e2, e1, eCB, eIf, eMut, eMut0, eOn, isLst, eTmp, eCall, callR, takeA, convL, putA, rSl, rVl, caN, caC, eMake, mkR, rdL, sSeq, sIf, sRet, sRetN, sExpr, sSet, putS, sPar, sPar3, sAsg, goTup, goC, goN, unTup, sFor, iLstE, iRg1E, iRg2E, iS, sNext, sNever, tV, tAndE, tOrE, tNotE, tTruE, tOfE, asBE, bAnd, bOr, bNot, bTru, tOf, asB, p2, p1, pC, pVar, pAnd, pOr, pNot, pIf, pChain, pCalG, pCallK, permL, pMake, pMakeK, pMeth, pMeth0, pFld, pIsi, pIsC, isiC, tyN, pCB, gLen, gList, gInt, gAdd, gSub, gI, gC, gLt, gLe, gGt, gGe, gGeX, gIs, gIsNot, isB, aNil, aCons, vw, shv, tru, kb_int_int, kb_int_bool, kb_tup_tup, kb_lst_lst, kb_dk_lst, gMod, gFdiv, gMul, gPow, gIx, gSetL, setAtD, inM, gMax, gMin, toInts, maxL, minL, gEq_int, gNe_int, im_int, pLst, pTup, lim, dm, allDp, at_0, at_1, at_2, bd62, t_l_links_1, en2, gNe_ints_nil]
      · have : ls = [] := by simpa using hz
        subst this
        exact ⟨rfl, g', ns, he, hg', by simpa using hp⟩
      · have hne : ls ≠ [] := by simpa using hz
        obtain ⟨i, g2, e2, hi, hg2⟩ := st_links_2 g' (k + ns.length) m n kd fs x5 x6 ns ls hg' (by omega) (by omega) (by omega) hne
        subst he
        refine ⟨.nx, _, e2, (ls.eraseIdx i).length, ?_, g2, ns ++ [ls.getD i 0], ls.eraseIdx i, rfl, by simpa [Nat.add_assoc] using hg2, ?_, rfl⟩
        · rw [List.length_eraseIdx_of_lt hi]; omega
        · refine List.Perm.trans ?_ hp
          rw [List.append_assoc]
          refine List.Perm.append_left _ ?_
          have := perm_erase ls i hi
          rw [List.getD_eq_getElem?_getD, List.getElem?_eq_getElem hi]
          exact this)
    ls0.length (en2 g m n kd fs x5 x6 [] ls0) (by unfold fuel; omega) ⟨g, [], ls0, rfl, hg, by simp, rfl⟩
  subst h2
  rw [h4.length_eq] at h3
  exact ⟨g', ns, h1, h3, h4⟩
/-- the links, named anew, in order -/
def named (ns : List Int) (p : Int × Int) : Int × Int := let a := ns.getD p.1.toNat 0; let b := ns.getD p.2.toNat 0; (if b < a then b else a, if b > a then b else a)
def linksOf (fs : List (Int × Int)) (ns : List Int) : List (Int × Int) := psort (fs.map (named ns))
theorem at_int (ns : List Int) (i : Int) (h0 : 0 ≤ i) (h1 : i < (ns.length : Int)) : L2.atI (ns.map D.int) i = some (.int (ns.getD i.toNat 0)) := by
  have hlt : i.toNat < ns.length := by omega
  unfold L2.atI L2.ixN
  rw [List.length_map, if_pos h0, if_pos h1]
  show (ns.map D.int)[i.toNat]? = _
  rw [List.getElem?_map, List.getElem?_eq_getElem hlt, List.getD_eq_getElem?_getD, List.getElem?_eq_getElem hlt]
  rfl
theorem rgD_ints (n : Int) (h : 0 ≤ n) : rgD 0 n = ((List.range n.toNat).map fun (i : Nat) => (i : Int)).map D.int := by
  unfold rgD
  rw [Int.sub_zero, List.map_map]
  apply List.map_congr_left
  intro i _
  show D.int (0 + (i : Int)) = D.int i
  rw [Int.zero_add]
theorem e_comp_links (g m n kd : Option D) (fs : List (Int × Int)) (ns : List Int) (x5 x6 x8 : Option D) (hf : ∀ p ∈ fs, 0 ≤ p.1 ∧ p.1 < (ns.length : Int) ∧ 0 ≤ p.2 ∧ p.2 < (ns.length : Int)) (hl : fs.length ≤ 1000) :
    c_l_links_1 [g, m, n, kd, some (.lst (fs.map pD)), x5, x6, some (.lst (ns.map .int)), x8, none] = some (.lst ((fs.map (named ns)).map pD), .dp) := by
  have hc : ∀ p ∈ fs, ∃ ve', gTupD 2 (gsC (gSet 9) (gsC (gSet 6) gsN)) (pD p) [g, m, n, kd, some (.lst (fs.map pD)), x5, none, some (.lst (ns.map .int)), x8, none] = some ve' ∧
      (pTup (aCons (pCB gMin (aCons (p2 gIx (pVar 7) (pVar 9)) (aCons (p2 gIx (pVar 7) (pVar 6)) aNil))) (aCons (pCB gMax (aCons (p2 gIx (pVar 7) (pVar 9)) (aCons (p2 gIx (pVar 7) (pVar 6)) aNil))) aNil))) ve' = some (pD (named ns p), .dp) := by
    intro p hp
    obtain ⟨h1, h2, h3, h4⟩ := hf p hp
    refine ⟨_, by simp [gTupD, gsC, gSet, gsN, pD]; rfl, ?_⟩
    have a1 := at_int ns p.1 h1 h2
    have a2 := at_int ns p.2 h3 h4
    simp [iRg1, iRg2, iLst, pLr, runG, outP, im, imm, immL, eB, eV, eS, eMv, eCp, frz, eNil, eCons, eLst, eTup, e2, e1, eCB, eIf, eMut, eMut0, eOn, isLst, eTmp, eCall, callR, takeA, convL, putA, rSl, rVl, caN, caC, eMake, mkR, rdL, sSeq, sIf, sRet, sRetN, sExpr, sSet, putS, sPar, sPar3, sAsg, goTup, goC, goN, unTup, sFor, iLstE, iRg1E, iRg2E, iS, sNext, sNever, tV, tAndE, tOrE, tNotE, tTruE, tOfE, asBE, bAnd, bOr, bNot, bTru, tOf, asB, p2, p1, pC, pVar, pAnd, pOr, pNot, pIf, pChain, pCalG, pCallK, permL, pMake, pMakeK, pMeth, pMeth0, pFld, pIsi, pIsC, isiC, tyN, pCB, gLen, gList, gInt, gAdd, gSub, gI, gC, gLt, gLe, gGt, gGe, gGeX, gIs, gIsNot, isB, aNil, aCons, vw, shv, tru, kb_int_int, kb_int_bool, kb_tup_tup, kb_lst_lst, kb_dk_lst, gMod, gFdiv, gMul, gPow, gIx, gSetL, setAtD, inM, gMax, gMin, toInts, maxL, minL, gEq_int, gNe_int, im_int, pLst, pTup, lim, dm, allDp, at_0, at_1, at_2, bd62, a1, a2, pD, named]
  have := compL_all (out := fun p => (pD (named ns p), M.dp)) hc
  have hd : allDp (fs.map fun p => (pD (named ns p), M.dp)) = true := allDp_map fun _ _ => rfl
  have hl' : fs.length ≤ 16777216 := by omega
  simp only [c_l_links_1, pComp, iLst, pVar, wipeV]
  simp [this, hl', lim, dm, hd]
theorem e_links (g : D × M) (hg : Gn g 0) : ∃ g' n fs ns, r_l_links [g, (.int 8, .dp)] = some (.lst ((linksOf fs ns).map pD), .dp, [g', (.int 8, .dp)]) ∧ 1 ≤ n ∧ n ≤ 8 ∧ fs.length + 1 = n ∧ Hang fs ∧ ns.Perm ((List.range n).map fun (i : Nat) => (i : Int)) := by
  obtain ⟨n0, g1, w1, n1, n2, hg1⟩ := e_random g 0 8 hg (by omega) (by omega) (by omega)
  obtain ⟨kd, g2, w2, k1, k2, hg2⟩ := e_random g1 1 4 hg1 (by omega) (by omega) (by omega)
  obtain ⟨g3, fs, y5, y6, l1, hg3, hfl, hh⟩ := lp_links_1 g2 2 8 (1 + n0) kd none none hg2 (by omega) (by omega) (by omega)
  obtain ⟨g4, ns, l2, hg4, hp⟩ := lp_links_2 g3 (2 + (1 + n0 - 1).toNat) 8 (1 + n0) kd fs y5 y6 ((List.range (1 + n0).toNat).map fun (i : Nat) => (i : Int)) hg3 (by omega) (by simp; omega)
  have hnl : ns.length = (1 + n0).toNat := by rw [hp.length_eq]; simp
  have e5 := e_comp_links (some g4.1) (some (.int 8)) (some (.int (1 + n0))) (some (.int kd)) fs ns (y5.map (·.1)) (y6.map (·.1)) (some (.lst [])) (fun p hp => by
    obtain ⟨t, et⟩ := List.mem_iff_getElem?.mp hp
    have hb := (List.getElem?_eq_some_iff.mp et).1
    obtain ⟨h1, h2, h3⟩ := hh t p et
    omega) (by omega)
  have er := rgD_ints (1 + n0) (by omega)
  have hr1 : bd62 (1 + n0) = true := by
    simp only [bd62, Bool.and_eq_true, decide_eq_true_eq]
    omega
  have hr2 : (1 + n0).toNat ≤ 16777216 := by omega
  have hr3 : bd62 1 = true := by decide
  refine ⟨g4, (1 + n0).toNat, fs, ns, ?_, by omega, by omega, by omega, hh, hp⟩
  simp only [en1, en2, List.map_nil] at l1 l2
  simp [-List.map_map, iRg1, iRg2, iLst, pLr, runG, outP, im, imm, immL, eB, eV, eS, eMv, eCp, frz, eNil, eCons, eLst, eTup, e2, e1, eCB, eIf, eMut, eMut0, eOn, isLst, eTmp, eCall, callR, takeA, convL, putA, rSl, rVl, caN, caC, eMake, mkR, rdL, sSeq, sIf, sRet, sRetN, sExpr, sSet, putS, sPar, sPar3, sAsg, goTup, goC, goN, unTup, sFor, iLstE, iRg1E, iRg2E, iS, sNext, sNever, tV, tAndE, tOrE, tNotE, tTruE, tOfE, asBE, bAnd, bOr, bNot, bTru, tOf, asB, p2, p1, pC, pVar, pAnd, pOr, pNot, pIf, pChain, pCalG, pCallK, permL, pMake, pMakeK, pMeth, pMeth0, pFld, pIsi, pIsC, isiC, tyN, pCB, gLen, gList, gInt, gAdd, gSub, gI, gC, gLt, gLe, gGt, gGe, gGeX, gIs, gIsNot, isB, aNil, aCons, vw, shv, tru, kb_int_int, kb_int_bool, kb_tup_tup, kb_lst_lst, kb_dk_lst, gMod, gFdiv, gMul, gPow, gIx, gSetL, setAtD, inM, gMax, gMin, toInts, maxL, minL, gEq_int, gNe_int, im_int, pLst, pTup, lim, dm, allDp, at_0, at_1, at_2, r_l_links, b_l_links, w1, w2, l1, l2, e5, er, hr1, hr2, hr3, pLr, gSorted_pairs, linksOf]
end L81
set_option Elab.async false
set_option linter.all false
/-! T1: trees: simple paths are alone -/
namespace Tree0
/-- consecutive ones are linked -/
def Ch (A : Int → Int → Prop) : List Int → Prop
  | [] => True
  | [_] => True
  | x :: y :: l => A x y ∧ Ch A (y :: l)
/-- a tree: each number but one hangs at one of less rank -/
structure Tr (n : Nat) (A : Int → Int → Prop) where
  rank : Int → Nat
  par : Int → Int
  inV : ∀ {x y}, A x y → (0 ≤ x ∧ x < (n : Int)) ∧ 0 ≤ y ∧ y < (n : Int)
  sym : ∀ {x y}, A x y → A y x
  inj : ∀ {x y : Int}, 0 ≤ x → x < (n : Int) → 0 ≤ y → y < (n : Int) → rank x = rank y → x = y
  low : ∀ {x y}, A x y → rank x < rank y → x = par y
  ne : ∀ {x y}, A x y → rank x ≠ rank y
  up : ∀ {y : Int}, 0 ≤ y → y < (n : Int) → rank y ≠ 0 → A (par y) y ∧ rank (par y) < rank y
variable {n : Nat} {A : Int → Int → Prop}
theorem Ch.tail {x : Int} {l : List Int} (h : Ch A (x :: l)) : Ch A l := by
  cases l with
  | nil => trivial
  | cons y l => exact h.2
theorem Ch.snoc : ∀ {l : List Int} {x : Int}, Ch A l → (∀ y, l.getLast? = some y → A y x) → Ch A (l ++ [x])
  | [], x, _, _ => trivial
  | [y], x, _, h => ⟨h y rfl, trivial⟩
  | y :: z :: l, x, hc, h => ⟨hc.1, Ch.snoc (l := z :: l) hc.2 fun w hw => h w (by simpa [List.getLast?_cons_cons] using hw)⟩
theorem Ch.rev (sym : ∀ {x y}, A x y → A y x) : ∀ {l : List Int}, Ch A l → Ch A l.reverse
  | [], _ => trivial
  | x :: l, h => by
    rw [List.reverse_cons]
    refine Ch.snoc (Ch.rev sym h.tail) fun y hy => ?_
    cases l with
    | nil => simp at hy
    | cons z l =>
      simp at hy
      subst hy
      exact sym h.1
/-- once up, always up -/
theorem Tr.asc (T : Tr n A) : ∀ {l : List Int} {x y b : Int}, Ch A (x :: y :: l) → (x :: y :: l).Nodup → T.rank x < T.rank y → (x :: y :: l).getLast? = some b → T.rank x < T.rank b
  | [], x, y, b, _, _, h, e => by
    simp at e
    subst e
    exact h
  | z :: l, x, y, b, hc, nd, h, e => by
    have hyz := hc.2.1
    have hxz : x ≠ z := by
      intro q
      subst q
      simp at nd
    have : T.rank y < T.rank z := by
      rcases Nat.lt_or_ge (T.rank y) (T.rank z) with q | q
      · exact q
      · exfalso
        have hlt : T.rank z < T.rank y := Nat.lt_of_le_of_ne q (Ne.symm (T.ne hyz))
        exact hxz ((T.low hc.1 h).trans (T.low (T.sym hyz) hlt).symm)
    have := T.asc (l := l) (x := y) (y := z) (b := b) hc.2 (List.nodup_cons.mp nd).2 this (by simpa [List.getLast?_cons_cons] using e)
    omega
theorem Tr.first (T : Tr n A) {x y b : Int} {l : List Int} (hc : Ch A (x :: y :: l)) (nd : (x :: y :: l).Nodup) (e : (x :: y :: l).getLast? = some b) (h : T.rank b < T.rank x) : y = T.par x := by
  rcases Nat.lt_or_ge (T.rank x) (T.rank y) with q | q
  · have := T.asc hc nd q e
    omega
  · exact T.low (T.sym hc.1) (Nat.lt_of_le_of_ne q (Ne.symm (T.ne hc.1)))
theorem one_of {a : Int} {p : List Int} (nd : (a :: p).Nodup) (e : (a :: p).getLast? = some a) : p = [] := by
  cases p with
  | nil => rfl
  | cons y l =>
    exfalso
    rw [List.getLast?_cons_cons] at e
    exact (List.nodup_cons.mp nd).1 (List.mem_of_getLast? e)
theorem Tr.uniq (T : Tr n A) : ∀ (k : Nat) (p q : List Int) (a b : Int), p.length ≤ k → (∀ x ∈ p, 0 ≤ x ∧ x < (n : Int)) → Ch A p → Ch A q → p.Nodup → q.Nodup → p.head? = some a → q.head? = some a → p.getLast? = some b → q.getLast? = some b → p = q := by
  intro k
  induction k with
  | zero =>
    intro p q a b hk _ _ _ _ _ h1 _ _ _
    have : p = [] := List.length_eq_zero_iff.mp (by omega)
    subst this
    simp at h1
  | succ k ih =>
    -- the first number of greater rank
    have main : ∀ (p q : List Int) (a b : Int), p.length ≤ k + 1 → (∀ x ∈ p, 0 ≤ x ∧ x < (n : Int)) → Ch A p → Ch A q → p.Nodup → q.Nodup → p.head? = some a → q.head? = some a → p.getLast? = some b → q.getLast? = some b → T.rank b < T.rank a → p = q := by
      intro p q a b hk hV cp cq np nq h1 h2 h3 h4 hr
      cases p with
      | nil => simp at h1
      | cons x p =>
        cases q with
        | nil => simp at h2
        | cons x' q =>
          simp at h1 h2
          subst h1 h2
          cases p with
          | nil =>
            simp at h3
            subst h3
            omega
          | cons y p =>
            cases q with
            | nil =>
              simp at h4
              subst h4
              omega
            | cons y' q =>
              have e1 := T.first cp np h3 hr
              have e2 := T.first cq nq h4 hr
              subst e1
              subst e2
              have := ih (_ :: p) (_ :: q) _ b (by simp at hk ⊢; omega) (fun z hz => hV z (List.mem_cons_of_mem _ hz)) cp.2 cq.2 (List.nodup_cons.mp np).2 (List.nodup_cons.mp nq).2 rfl rfl (by simpa [List.getLast?_cons_cons] using h3) (by simpa [List.getLast?_cons_cons] using h4)
              rw [this]
    intro p q a b hk hV cp cq np nq h1 h2 h3 h4
    have ha : a ∈ p := List.mem_of_head? h1
    have hb : b ∈ p := List.mem_of_getLast? h3
    rcases Nat.lt_trichotomy (T.rank b) (T.rank a) with hr | hr | hr
    · exact main p q a b hk hV cp cq np nq h1 h2 h3 h4 hr
    · have hab : b = a := T.inj (hV b hb).1 (hV b hb).2 (hV a ha).1 (hV a ha).2 hr
      subst hab
      cases p with
      | nil => simp at h1
      | cons x p =>
        cases q with
        | nil => simp at h2
        | cons x' q =>
          simp at h1 h2
          subst h1 h2
          rw [one_of np h3, one_of nq h4]
    · have := main p.reverse q.reverse b a (by simpa using hk) (fun z hz => hV z (by simpa using hz)) (cp.rev T.sym) (cq.rev T.sym) ((List.reverse_perm p).nodup_iff.mpr np) ((List.reverse_perm q).nodup_iff.mpr nq) (by simpa using h3) (by simpa using h4) (by simpa using h1) (by simpa using h2) hr
      simpa using congrArg List.reverse this
end Tree0
set_option Elab.async false
set_option linter.all false
set_option maxRecDepth 100000
set_option maxHeartbeats 4000000
namespace L81
open PySem G Tree0
def rk : List Int → Int → Nat
  | [], _ => 0
  | x :: l, v => if x = v then 0 else rk l v + 1
theorem rk_get : ∀ {l : List Int} {i : Nat} {v : Int}, l.Nodup → l[i]? = some v → rk l v = i
  | [], _, _, _, e => by simp at e
  | x :: l, 0, v, _, e => by
    simp at e
    simp [rk, e]
  | x :: l, i + 1, v, nd, e => by
    obtain ⟨n1, n2⟩ := List.nodup_cons.mp nd
    have e' : l[i]? = some v := by simpa using e
    have hne : x ≠ v := fun z => n1 (z ▸ List.mem_of_getElem? e')
    simp [rk, hne, rk_get n2 e']
theorem rk_mem : ∀ {l : List Int} {v : Int}, v ∈ l → l[rk l v]? = some v
  | [], _, h => by simp at h
  | x :: l, v, h => by
    by_cases hx : x = v
    · simp [rk, hx]
    · have : v ∈ l := (List.mem_cons.mp h).resolve_left fun z => hx z.symm
      simp [rk, hx, rk_mem this]
/-- linked by L -/
def Adj (L : List (Int × Int)) (x y : Int) : Prop := (x, y) ∈ L ∨ (y, x) ∈ L
/-- y hangs at x -/
def Hgs (fs : List (Int × Int)) (ns : List Int) (x y : Int) : Prop := ∃ (t : Nat) (o : Int), fs[t]? = some (o, (t : Int) + 1) ∧ ns[o.toNat]? = some x ∧ ns[t + 1]? = some y
section
variable {fs : List (Int × Int)} {ns : List Int} {n : Nat}
theorem adj_iff (hh : Hang fs) (hl : ns.length = fs.length + 1) {x y : Int} : Adj (linksOf fs ns) x y ↔ Hgs fs ns x y ∨ Hgs fs ns y x := by
  have mem : ∀ a b : Int, (a, b) ∈ linksOf fs ns ↔ ∃ p ∈ fs, named ns p = (a, b) := fun a b => by
    unfold linksOf
    rw [(psort_perm _).mem_iff, List.mem_map]
  have get : ∀ i : Nat, i < ns.length → ns[i]? = some (ns.getD i 0) := fun i hi => by
    rw [List.getD_eq_getElem?_getD, List.getElem?_eq_getElem hi]
    rfl
  have one : ∀ a b : Int, (a, b) ∈ linksOf fs ns → Hgs fs ns a b ∨ Hgs fs ns b a := fun a b h => by
    obtain ⟨p, hp, e⟩ := (mem a b).mp h
    obtain ⟨t, et⟩ := List.mem_iff_getElem?.mp hp
    obtain ⟨h1, h2, h3⟩ := hh t p et
    have ht := (List.getElem?_eq_some_iff.mp et).1
    obtain ⟨o, c⟩ := p
    simp only at h1 h2 h3
    subst h1
    have g1 := get o.toNat (by omega)
    have g2 := get (t + 1) (by omega)
    simp only [named, show ((t : Int) + 1).toNat = t + 1 by omega] at e
    have ea : Hgs fs ns (ns.getD o.toNat 0) (ns.getD (t + 1) 0) := ⟨t, o, et, g1, g2⟩
    simp only [Prod.mk.injEq] at e
    obtain ⟨e1, e2⟩ := e
    by_cases hc : ns.getD (t + 1) 0 < ns.getD o.toNat 0
    · rw [if_pos hc] at e1
      rw [if_neg (by omega)] at e2
      subst e1 e2
      exact .inr ea
    · rw [if_neg hc] at e1
      by_cases hd : ns.getD (t + 1) 0 > ns.getD o.toNat 0
      · rw [if_pos hd] at e2
        subst e1 e2
        exact .inl ea
      · rw [if_neg hd] at e2
        subst e1 e2
        have : ns.getD (t + 1) 0 = ns.getD o.toNat 0 := by omega
        rw [this] at ea
        exact .inl ea
  have two : ∀ a b : Int, Hgs fs ns a b → (a, b) ∈ linksOf fs ns ∨ (b, a) ∈ linksOf fs ns := fun a b ⟨t, o, et, e1, e2⟩ => by
    have hp := List.mem_of_getElem? et
    have ea : ns.getD o.toNat 0 = a := by rw [List.getD_eq_getElem?_getD, e1]; rfl
    have eb : ns.getD (t + 1) 0 = b := by rw [List.getD_eq_getElem?_getD, e2]; rfl
    have en : named ns (o, (t : Int) + 1) = (if b < a then b else a, if b > a then b else a) := by
      simp only [named, show ((t : Int) + 1).toNat = t + 1 by omega, ea, eb]
    by_cases hc : b < a
    · right
      refine (mem b a).mpr ⟨_, hp, ?_⟩
      rw [en, if_pos hc, if_neg (by omega)]
    · left
      refine (mem a b).mpr ⟨_, hp, ?_⟩
      rw [en, if_neg hc]
      by_cases hd : b > a
      · rw [if_pos hd]
      · rw [if_neg hd]
        have : a = b := by omega
        rw [this]
  constructor
  · rintro (h | h)
    · exact one x y h
    · exact (one y x h).symm
  · rintro (h | h)
    · exact two x y h
    · exact (two y x h).symm
theorem nodup_range (n : Nat) : ((List.range n).map fun (i : Nat) => (i : Int)).Nodup := by
  have := List.nodup_range (n := n)
  exact List.pairwise_map.mpr (this.imp fun h e => h (Int.ofNat.inj e))
def treeOf (hh : Hang fs) (hn : fs.length + 1 = n) (hp : ns.Perm ((List.range n).map fun (i : Nat) => (i : Int))) : Tr n (Adj (linksOf fs ns)) := by
  have hl : ns.length = n := by rw [hp.length_eq]; simp
  have nd : ns.Nodup := hp.nodup_iff.mpr (nodup_range n)
  have hl2 : ns.length = fs.length + 1 := by omega
  have mem : ∀ v : Int, v ∈ ns ↔ 0 ≤ v ∧ v < (n : Int) := fun v => by
    rw [hp.mem_iff, List.mem_map]
    constructor
    · rintro ⟨i, hi, rfl⟩
      have := List.mem_range.mp hi
      omega
    · intro h
      exact ⟨v.toNat, List.mem_range.mpr (by omega), by omega⟩
  have hrk : ∀ {x y : Int}, Hgs fs ns x y → rk ns x < rk ns y ∧ x = ns.getD (fs.getD (rk ns y - 1) (0, 0)).1.toNat 0 ∧ (x ∈ ns) ∧ y ∈ ns := by
    rintro x y ⟨t, o, et, e1, e2⟩
    obtain ⟨h1, h2, h3⟩ := hh t _ et
    simp only at h2 h3
    have r1 := rk_get nd e1
    have r2 := rk_get nd e2
    refine ⟨by omega, ?_, List.mem_of_getElem? e1, List.mem_of_getElem? e2⟩
    rw [r2, Nat.add_sub_cancel, List.getD_eq_getElem?_getD, List.getD_eq_getElem?_getD, et]
    simp [e1]
  exact {
    rank := rk ns
    par := fun y => ns.getD (fs.getD (rk ns y - 1) (0, 0)).1.toNat 0
    inV := fun {x y} h => by
      rcases (adj_iff hh hl2).mp h with h | h
      · obtain ⟨_, _, h1, h2⟩ := hrk h
        exact ⟨(mem x).mp h1, (mem y).mp h2⟩
      · obtain ⟨_, _, h1, h2⟩ := hrk h
        exact ⟨(mem x).mp h2, (mem y).mp h1⟩
    sym := fun h => h.symm
    inj := fun {x y} h1 h2 h3 h4 e => by
      have a := rk_mem ((mem x).mpr ⟨h1, h2⟩)
      have b := rk_mem ((mem y).mpr ⟨h3, h4⟩)
      rw [e, b] at a
      exact (Option.some.inj a).symm
    low := fun {x y} h hr => by
      rcases (adj_iff hh hl2).mp h with h | h
      · exact (hrk h).2.1
      · have := (hrk h).1
        omega
    ne := fun {x y} h => by
      rcases (adj_iff hh hl2).mp h with h | h
      · have := (hrk h).1
        omega
      · have := (hrk h).1
        omega
    up := fun {y} h1 h2 hr => by
      have b := rk_mem ((mem y).mpr ⟨h1, h2⟩)
      have hb := (List.getElem?_eq_some_iff.mp b).1
      have ht : rk ns y - 1 < fs.length := by omega
      have et := List.getElem?_eq_getElem ht
      obtain ⟨q1, q2, q3⟩ := hh _ _ et
      have eg : fs.getD (rk ns y - 1) (0, 0) = fs[rk ns y - 1] := by rw [List.getD_eq_getElem?_getD, et]; rfl
      have ho : (fs[rk ns y - 1]).1.toNat < ns.length := by omega
      have e1 : ns[(fs[rk ns y - 1]).1.toNat]? = some (ns.getD (fs[rk ns y - 1]).1.toNat 0) := by
        rw [List.getD_eq_getElem?_getD, List.getElem?_eq_getElem ho]; rfl
      have hg : Hgs fs ns (ns.getD (fs[rk ns y - 1]).1.toNat 0) y := ⟨rk ns y - 1, (fs[rk ns y - 1]).1, by rw [et, ← q1], e1, by rw [show rk ns y - 1 + 1 = rk ns y by omega]; exact b⟩
      rw [eg]
      exact ⟨(adj_iff hh hl2).mpr (.inl hg), (hrk hg).1⟩ }
end
end L81
set_option Elab.async false
set_option linter.all false
set_option maxRecDepth 100000
set_option maxHeartbeats 4000000
namespace L81
open PySem G Tree0
def enO : Option Int → D
  | none => .non
  | some i => .int i
abbrev Bs := List (Int × Option Int)
def ks (bs : Bs) : List L2.Key := bs.map fun x => Sum.inl x.1
def vs (bs : Bs) : List D := bs.map fun x => enO x.2
def od (bs : Bs) : List Int := bs.map (·.1)
theorem look_bs : ∀ (bs : Bs) (y : Int), (look (ks bs) (vs bs) (Sum.inl y)).isSome = decide (y ∈ od bs)
  | [], y => rfl
  | (k, v) :: bs, y => by
    have ih := look_bs bs y
    simp only [ks, vs, od, List.map_cons, look] at ih ⊢
    by_cases h : k = y
    · subst h; simp
    · have h1 : ¬ (Sum.inl k : L2.Key) = Sum.inl y := fun z => h (Sum.inl.inj z)
      have h2 : ¬ y = k := fun z => h z.symm
      rw [if_neg h1, ih, Bool.eq_iff_iff]
      simp only [List.mem_cons, h2, false_or]
      exact ⟨fun z => decide_eq_true (of_decide_eq_true z), fun z => decide_eq_true (of_decide_eq_true z)⟩
theorem nin_bs (bs : Bs) (y : Int) : gNotIn (.int y) (.dk (ks bs) (vs bs)) = some (.bl (!decide (y ∈ od bs)), .dp) := by
  simp [gNotIn, inB, isKey, look_bs]
theorem has_bs (bs : Bs) (y : Int) : hasK (ks bs) (Sum.inl y) ↔ y ∈ od bs := by
  simp only [hasK, ks, od, List.mem_map]
  constructor
  · rintro ⟨z, hz, e⟩
    exact ⟨z, hz, Sum.inl.inj e⟩
  · rintro ⟨z, hz, e⟩
    exact ⟨z, hz, congrArg Sum.inl e⟩
theorem put_bs (bs : Bs) (x y : Int) (h : ¬ y ∈ od bs) (hl : bs.length ≤ 1000) : putDM (ks bs) (vs bs) (some (Sum.inl y)) (.int x, .dp) .dp = some (.dk (ks (bs ++ [(y, some x)])) (vs (bs ++ [(y, some x)])), .dp) := by
  have h1 : ¬ hasK (ks bs) (Sum.inl y) := fun z => h ((has_bs bs y).mp z)
  have h2 : (ks bs).length < lim := by simp [ks, lim]; omega
  simp [putDM, h2, putD, h1]
  simp [ks, vs, enO]
theorem at_bs (bs : Bs) (i : Nat) (c : Int) (o : Option Int) (h : bs[i]? = some (c, o)) : L2.atI ((od bs).map D.int) (i : Int) = some (.int c) := by
  have hi := (List.getElem?_eq_some_iff.mp h).1
  have := at_int (od bs) (i : Int) (by omega) (by simp [od]; omega)
  rw [this]
  simp [od, List.getD_eq_getElem?_getD, h]
/-- one direction of one link -/
def stP (c : Int) (bs : Bs) (x y : Int) : Bs := if x = c ∧ ¬ y ∈ od bs then bs ++ [(y, some x)] else bs
def en3 (L : D × M) (s : Int) (bs : Bs) (i : Int) (x5 x6 x7 x8 : Option (D × M)) : Env' := [some L, some (.int s, .dp), some (.dk (ks bs) (vs bs), .dp), some (.lst ((od bs).map .int), .dp), some (.int i, .dp), x5, x6, x7, x8]
theorem st_rf_1 (L : D × M) (s : Int) (bs : Bs) (i : Nat) (c : Int) (o : Option Int) (x y : Int) (x5 x6 : Option (D × M)) (h : bs[i]? = some (c, o)) (hl : bs.length ≤ 1000) :
    b_reached_from_1 (en3 L s bs i x5 x6 (some (.int x, .dp)) (some (.int y, .dp))) = some (.nx, en3 L s (stP c bs x y) i x5 x6 (some (.int x, .dp)) (some (.int y, .dp))) := by
  have ea := at_bs bs i c o h
  have en := nin_bs bs y
  have hl2 : (od bs).length < 16777216 := by simp [od]; omega
  by_cases h1 : x = c
  · by_cases h2 : y ∈ od bs
    · have e0 : stP c bs x y = bs := by simp [stP, h2]
      rw [e0]
      simp [iRg1, iRg2, iLst, pLr, runG, outP, im, imm, immL, eB, eV, eS, eMv, eCp, frz, eNil, eCons, eLst, eTup, e2, e1, eCB, eIf, eMut, eMut0, eOn, isLst, eTmp, eCall, callR, takeA, convL, putA, rSl, rVl, caN, caC, eMake, mkR, rdL, sSeq, sIf, sRet, sRetN, sExpr, sSet, putS, sPar, sPar3, sAsg, goTup, goC, goN, unTup, sFor, iLstE, iRg1E, iRg2E, iS, sNext, sNever, tV, tAndE, tOrE, tNotE, tTruE, tOfE, asBE, bAnd, bOr, bNot, bTru, tOf, asB, p2, p1, pC, pVar, pAnd, pOr, pNot, pIf, pChain, pCalG, pCallK, permL, pMake, pMakeK, pMeth, pMeth0, pFld, pIsi, pIsC, isiC, tyN, pCB, gLen, gList, gInt, gAdd, gSub, gI, gC, gLt, gLe, gGt, gGe, gGeX, gIs, gIsNot, isB, aNil, aCons, vw, shv, tru, kb_int_int, kb_int_bool, kb_tup_tup, kb_lst_lst, kb_dk_lst, gMod, gFdiv, gMul, gPow, gIx, gSetL, setAtD, inM, gMax, gMin, toInts, maxL, minL, gEq_int, gNe_int, im_int, pLst, pTup, lim, dm, allDp, at_0, at_1, at_2, bd62, b_reached_from_1, en3, ea, en, h1, h2]
    · have e0 : stP c bs x y = bs ++ [(y, some x)] := by simp [stP, h1, h2]
      have ep := put_bs bs x y h2 hl
      rw [e0]
      subst h1
      have eo : od (bs ++ [(y, some x)]) = od bs ++ [y] := by simp [od]
      simp [iRg1, iRg2, iLst, pLr, runG, outP, im, imm, immL, eB, eV, eS, eMv, eCp, frz, eNil, eCons, eLst, eTup, e2, e1, eCB, eIf, eMut, eMut0, eOn, isLst, eTmp, eCall, callR, takeA, convL, putA, rSl, rVl, caN, caC, eMake, mkR, rdL, sSeq, sIf, sRet, sRetN, sExpr, sSet, putS, sPar, sPar3, sAsg, goTup, goC, goN, unTup, sFor, iLstE, iRg1E, iRg2E, iS, sNext, sNever, tV, tAndE, tOrE, tNotE, tTruE, tOfE, asBE, bAnd, bOr, bNot, bTru, tOf, asB, p2, p1, pC, pVar, pAnd, pOr, pNot, pIf, pChain, pCalG, pCallK, permL, pMake, pMakeK, pMeth, pMeth0, pFld, pIsi, pIsC, isiC, tyN, pCB, gLen, gList, gInt, gAdd, gSub, gI, gC, gLt, gLe, gGt, gGe, gGeX, gIs, gIsNot, isB, aNil, aCons, vw, shv, tru, kb_int_int, kb_int_bool, kb_tup_tup, kb_lst_lst, kb_dk_lst, gMod, gFdiv, gMul, gPow, gIx, gSetL, setAtD, inM, gMax, gMin, toInts, maxL, minL, gEq_int, gNe_int, im_int, pLst, pTup, lim, dm, allDp, at_0, at_1, at_2, bd62, b_reached_from_1, en3, ea, en, h2, gSetD, isKey, ep, gAppend, hl2, eo]
  · have e0 : stP c bs x y = bs := by simp [stP, h1]
    rw [e0]
    simp [iRg1, iRg2, iLst, pLr, runG, outP, im, imm, immL, eB, eV, eS, eMv, eCp, frz, eNil, eCons, eLst, eTup, e2, e1, eCB, eIf, eMut, eMut0, eOn, isLst, eTmp, eCall, callR, takeA, convL, putA, rSl, rVl, caN, caC, eMake, mkR, rdL, sSeq, sIf, sRet, sRetN, sExpr, sSet, putS, sPar, sPar3, sAsg, goTup, goC, goN, unTup, sFor, iLstE, iRg1E, iRg2E, iS, sNext, sNever, tV, tAndE, tOrE, tNotE, tTruE, tOfE, asBE, bAnd, bOr, bNot, bTru, tOf, asB, p2, p1, pC, pVar, pAnd, pOr, pNot, pIf, pChain, pCalG, pCallK, permL, pMake, pMakeK, pMeth, pMeth0, pFld, pIsi, pIsC, isiC, tyN, pCB, gLen, gList, gInt, gAdd, gSub, gI, gC, gLt, gLe, gGt, gGe, gGeX, gIs, gIsNot, isB, aNil, aCons, vw, shv, tru, kb_int_int, kb_int_bool, kb_tup_tup, kb_lst_lst, kb_dk_lst, gMod, gFdiv, gMul, gPow, gIx, gSetL, setAtD, inM, gMax, gMin, toInts, maxL, minL, gEq_int, gNe_int, im_int, pLst, pTup, lim, dm, allDp, at_0, at_1, at_2, bd62, b_reached_from_1, en3, ea, en, h1]
theorem stP_get {c : Int} {bs : Bs} {x y : Int} {i : Nat} {p : Int × Option Int} (h : bs[i]? = some p) : (stP c bs x y)[i]? = some p := by
  unfold stP
  split
  · rw [List.getElem?_append_left (List.getElem?_eq_some_iff.mp h).1]; exact h
  · exact h
theorem stP_len (c : Int) (bs : Bs) (x y : Int) : (stP c bs x y).length ≤ bs.length + 1 := by
  unfold stP
  split <;> simp
theorem st_rf_2 (L : D × M) (s : Int) (bs : Bs) (i : Nat) (c : Int) (o : Option Int) (lo hi : Int) (x7 x8 : Option (D × M)) (h : bs[i]? = some (c, o)) (hl : bs.length ≤ 900) :
    b_reached_from_2 (en3 L s bs i (some (.int lo, .dp)) (some (.int hi, .dp)) x7 x8) = some (.nx, en3 L s (stP c (stP c bs lo hi) hi lo) i (some (.int lo, .dp)) (some (.int hi, .dp)) (some (.int hi, .dp)) (some (.int lo, .dp))) := by
  have q1 := st_rf_1 L s bs i c o lo hi (some (.int lo, .dp)) (some (.int hi, .dp)) h (by omega)
  have q2 := st_rf_1 L s (stP c bs lo hi) i c o hi lo (some (.int lo, .dp)) (some (.int hi, .dp)) (stP_get h) (by have := stP_len c bs lo hi; omega)
  simp only [en3] at q1 q2
  simp [iRg1, iRg2, iLst, pLr, runG, outP, im, imm, immL, eB, eV, eS, eMv, eCp, frz, eNil, eCons, eLst, eTup, e2, e1, eCB, eIf, eMut, eMut0, eOn, isLst, eTmp, eCall, callR, takeA, convL, putA, rSl, rVl, caN, caC, eMake, mkR, rdL, sSeq, sIf, sRet, sRetN, sExpr, sSet, putS, sPar, sPar3, sAsg, goTup, goC, goN, unTup, sFor, iLstE, iRg1E, iRg2E, iS, sNext, sNever, tV, tAndE, tOrE, tNotE, tTruE, tOfE, asBE, bAnd, bOr, bNot, bTru, tOf, asB, p2, p1, pC, pVar, pAnd, pOr, pNot, pIf, pChain, pCalG, pCallK, permL, pMake, pMakeK, pMeth, pMeth0, pFld, pIsi, pIsC, isiC, tyN, pCB, gLen, gList, gInt, gAdd, gSub, gI, gC, gLt, gLe, gGt, gGe, gGeX, gIs, gIsNot, isB, aNil, aCons, vw, shv, tru, kb_int_int, kb_int_bool, kb_tup_tup, kb_lst_lst, kb_dk_lst, gMod, gFdiv, gMul, gPow, gIx, gSetL, setAtD, inM, gMax, gMin, toInts, maxL, minL, gEq_int, gNe_int, im_int, pLst, pTup, lim, dm, allDp, at_0, at_1, at_2, bd62, b_reached_from_2, en3, forL, q1, q2]
def scan (c : Int) (bs : Bs) (l : Int × Int) : Bs := stP c (stP c bs l.1 l.2) l.2 l.1
theorem scan_get {c : Int} {i : Nat} {p : Int × Option Int} : ∀ {L : List (Int × Int)} {bs : Bs}, bs[i]? = some p → (L.foldl (scan c) bs)[i]? = some p
  | [], _, h => h
  | l :: L, bs, h => scan_get (L := L) (stP_get (stP_get h))
/-- sizes: a link at most doubles nothing -/
theorem scan_len (c : Int) : ∀ (L : List (Int × Int)) (bs : Bs), (L.foldl (scan c) bs).length ≤ bs.length + 2 * L.length
  | [], bs => by simp
  | l :: L, bs => by
    have h1 := scan_len c L (scan c bs l)
    have h2 := stP_len c bs l.1 l.2
    have h3 := stP_len c (stP c bs l.1 l.2) l.2 l.1
    simp only [List.foldl_cons, List.length_cons]
    unfold scan at h1 ⊢
    omega
theorem lp_rf (L : D × M) (s : Int) (i : Nat) (c : Int) (o : Option Int) (k0 : Nat) (hk : k0 ≤ 500) : ∀ (ls : List (Int × Int)) (bs : Bs) (x5 x6 x7 x8 : Option (D × M)), bs[i]? = some (c, o) → bs.length + 2 * ls.length ≤ k0 →
    ∃ y5 y6 y7 y8, forL (goTup 2 (goC (putS [false, false] 5) (goC (putS [false, false] 6) goN))) b_reached_from_2 (ls.map pD) (en3 L s bs i x5 x6 x7 x8) = some (.nx, en3 L s (ls.foldl (scan c) bs) i y5 y6 y7 y8)
  | [], bs, x5, x6, x7, x8, _, _ => ⟨x5, x6, x7, x8, rfl⟩
  | l :: ls, bs, x5, x6, x7, x8, h, hb => by
    obtain ⟨lo, hi⟩ := l
    simp only [List.length_cons] at hb
    have q := st_rf_2 L s bs i c o lo hi x7 x8 h (by omega)
    have h2 : (scan c bs (lo, hi))[i]? = some (c, o) := stP_get (stP_get h)
    have hb2 : (scan c bs (lo, hi)).length + 2 * ls.length ≤ k0 := by
      have := scan_len c [(lo, hi)] bs
      simp at this
      omega
    obtain ⟨y5, y6, y7, y8, ih⟩ := lp_rf L s i c o k0 hk ls (scan c bs (lo, hi)) (some (.int lo, .dp)) (some (.int hi, .dp)) (some (.int hi, .dp)) (some (.int lo, .dp)) h2 hb2
    refine ⟨y5, y6, y7, y8, ?_⟩
    have eg : goTup 2 (goC (putS [false, false] 5) (goC (putS [false, false] 6) goN)) (pD (lo, hi), im (pD (lo, hi))) (en3 L s bs i x5 x6 x7 x8) = some (en3 L s bs i (some (.int lo, .dp)) (some (.int hi, .dp)) x7 x8) := by
      simp [iRg1, iRg2, iLst, pLr, runG, outP, im, imm, immL, eB, eV, eS, eMv, eCp, frz, eNil, eCons, eLst, eTup, e2, e1, eCB, eIf, eMut, eMut0, eOn, isLst, eTmp, eCall, callR, takeA, convL, putA, rSl, rVl, caN, caC, eMake, mkR, rdL, sSeq, sIf, sRet, sRetN, sExpr, sSet, putS, sPar, sPar3, sAsg, goTup, goC, goN, unTup, sFor, iLstE, iRg1E, iRg2E, iS, sNext, sNever, tV, tAndE, tOrE, tNotE, tTruE, tOfE, asBE, bAnd, bOr, bNot, bTru, tOf, asB, p2, p1, pC, pVar, pAnd, pOr, pNot, pIf, pChain, pCalG, pCallK, permL, pMake, pMakeK, pMeth, pMeth0, pFld, pIsi, pIsC, isiC, tyN, pCB, gLen, gList, gInt, gAdd, gSub, gI, gC, gLt, gLe, gGt, gGe, gGeX, gIs, gIsNot, isB, aNil, aCons, vw, shv, tru, kb_int_int, kb_int_bool, kb_tup_tup, kb_lst_lst, kb_dk_lst, gMod, gFdiv, gMul, gPow, gIx, gSetL, setAtD, inM, gMax, gMin, toInts, maxL, minL, gEq_int, gNe_int, im_int, pLst, pTup, lim, dm, allDp, at_0, at_1, at_2, bd62, pD, en3]
    simp only [List.map_cons, forL, eg, q, Option.bind_some, List.foldl_cons]
    exact ih
theorem st_rf_3 (ls : List (Int × Int)) (s : Int) (bs : Bs) (i : Nat) (c : Int) (o : Option Int) (x5 x6 x7 x8 : Option (D × M)) (h : bs[i]? = some (c, o)) (hb : bs.length + 2 * ls.length ≤ 500) :
    ∃ y5 y6 y7 y8, b_reached_from_3 (en3 (.lst (ls.map pD), .sh) s bs i x5 x6 x7 x8) = some (.nx, en3 (.lst (ls.map pD), .sh) s (ls.foldl (scan c) bs) (i + 1 : Nat) y5 y6 y7 y8) := by
  obtain ⟨y5, y6, y7, y8, q⟩ := lp_rf (.lst (ls.map pD), .sh) s i c o 500 (by omega) ls bs x5 x6 x7 x8 h hb
  refine ⟨y5, y6, y7, y8, ?_⟩
  simp only [en3] at q
  simp [-List.map_map, iRg1, iRg2, iLst, pLr, runG, outP, im, imm, immL, eB, eV, eS, eMv, eCp, frz, eNil, eCons, eLst, eTup, e2, e1, eCB, eIf, eMut, eMut0, eOn, isLst, eTmp, eCall, callR, takeA, convL, putA, rSl, rVl, caN, caC, eMake, mkR, rdL, sSeq, sIf, sRet, sRetN, sExpr, sSet, sPar, sPar3, sAsg, unTup, sFor, iLstE, iRg1E, iRg2E, iS, sNext, sNever, tV, tAndE, tOrE, tNotE, tTruE, tOfE, asBE, bAnd, bOr, bNot, bTru, tOf, asB, p2, p1, pC, pVar, pAnd, pOr, pNot, pIf, pChain, pCalG, pCallK, permL, pMake, pMakeK, pMeth, pMeth0, pFld, pIsi, pIsC, isiC, tyN, pCB, gLen, gList, gInt, gAdd, gSub, gI, gC, gLt, gLe, gGt, gGe, gGeX, gIs, gIsNot, isB, aNil, aCons, vw, shv, tru, kb_int_int, kb_int_bool, kb_tup_tup, kb_lst_lst, kb_dk_lst, gMod, gFdiv, gMul, gPow, gIx, gSetL, setAtD, inM, gMax, gMin, toInts, maxL, minL, gEq_int, gNe_int, im_int, pLst, pTup, lim, dm, allDp, at_0, at_1, at_2, bd62, b_reached_from_3, en3, q]
  simp [putS]
end L81
set_option Elab.async false
set_option linter.all false
set_option maxRecDepth 100000
set_option maxHeartbeats 4000000
namespace L81
open PySem G Tree0
theorem pigeon : ∀ (n : Nat) (l : List Int), l.Nodup → (∀ x ∈ l, 0 ≤ x ∧ x < (n : Int)) → l.length ≤ n
  | 0, l, _, h => by
    cases l with
    | nil => simp
    | cons x l => have := h x List.mem_cons_self; omega
  | n + 1, l, nd, h => by
    by_cases hm : (n : Int) ∈ l
    · obtain ⟨l1, l2, rfl⟩ := List.append_of_mem hm
      have p : (l1 ++ (n : Int) :: l2).Perm ((n : Int) :: (l1 ++ l2)) := List.perm_middle
      obtain ⟨n1, n2⟩ := List.nodup_cons.mp (p.nodup_iff.mp nd)
      have := pigeon n (l1 ++ l2) n2 fun x hx => by
        have h1 := h x (p.mem_iff.mpr (List.mem_cons_of_mem _ hx))
        have h2 : x ≠ n := fun z => n1 (z ▸ hx)
        omega
      rw [p.length_eq, List.length_cons]
      omega
    · have := pigeon n l nd fun x hx => by
        have h1 := h x hx
        have h2 : x ≠ n := fun z => hm (z ▸ hx)
        omega
      omega
/-- what the search has found so far -/
structure Good (A : Int → Int → Prop) (n : Nat) (s : Int) (bs : Bs) : Prop where
  nd : (od bs).Nodup
  hd : bs[0]? = some (s, none)
  bk : ∀ (i : Nat) (x : Int) (o : Option Int), 0 < i → bs[i]? = some (x, o) → ∃ (j : Nat) (c : Int) (oc : Option Int), j < i ∧ bs[j]? = some (c, oc) ∧ o = some c ∧ A c x
  inV : ∀ x ∈ od bs, 0 ≤ x ∧ x < (n : Int)
theorem Good.len {A : Int → Int → Prop} {n : Nat} {s : Int} {bs : Bs} (g : Good A n s bs) : bs.length ≤ n := by
  have := pigeon n (od bs) g.nd g.inV
  simpa [od] using this
section
variable {A : Int → Int → Prop} {n : Nat} {s : Int}
theorem Good.st (hA : ∀ {x y}, A x y → (0 ≤ x ∧ x < (n : Int)) ∧ 0 ≤ y ∧ y < (n : Int)) {bs : Bs} {i : Nat} {c : Int} {o : Option Int} {x y : Int} (g : Good A n s bs) (h : bs[i]? = some (c, o)) (hxy : A x y) : Good A n s (stP c bs x y) := by
  unfold stP
  split
  · rename_i hc
    obtain ⟨rfl, hy⟩ := hc
    have hil := (List.getElem?_eq_some_iff.mp h).1
    have eo : od (bs ++ [(y, some x)]) = od bs ++ [y] := by simp [od]
    refine ⟨?_, ?_, fun k z oz hk hz => ?_, fun z hz => ?_⟩
    · rw [eo]
      exact List.nodup_append.mpr ⟨g.nd, by simp, fun a ha b hb e => by simp at hb; subst hb; subst e; exact hy ha⟩
    · rw [List.getElem?_append_left (by omega)]; exact g.hd
    · by_cases hkl : k < bs.length
      · rw [List.getElem?_append_left hkl] at hz
        obtain ⟨j, c, oc, h1, h2, h3, h4⟩ := g.bk k z oz hk hz
        exact ⟨j, c, oc, h1, by rw [List.getElem?_append_left (by omega)]; exact h2, h3, h4⟩
      · rw [List.getElem?_append_right (by omega)] at hz
        have hk0 : k - bs.length = 0 := by
          have := (List.getElem?_eq_some_iff.mp hz).1
          simpa using this
        rw [hk0] at hz
        simp at hz
        obtain ⟨rfl, rfl⟩ := hz
        exact ⟨i, x, o, by omega, by rw [List.getElem?_append_left hil]; exact h, rfl, hxy⟩
    · rw [eo] at hz
      rcases List.mem_append.mp hz with hz | hz
      · exact g.inV z hz
      · simp at hz
        subst hz
        exact (hA hxy).2
  · exact g
theorem stP_mono {c : Int} {bs : Bs} {x y z : Int} (h : z ∈ od bs) : z ∈ od (stP c bs x y) := by
  unfold stP
  split
  · simp only [od, List.map_append, List.mem_append]
    exact .inl h
  · exact h
theorem stP_has {c : Int} {bs : Bs} {y : Int} : y ∈ od (stP c bs c y) := by
  by_cases h : y ∈ od bs
  · exact stP_mono h
  · unfold stP
    rw [if_pos ⟨rfl, h⟩]
    simp [od]
theorem scan_mono {c : Int} {z : Int} : ∀ {L : List (Int × Int)} {bs : Bs}, z ∈ od bs → z ∈ od (L.foldl (scan c) bs)
  | [], _, h => h
  | l :: L, bs, h => scan_mono (L := L) (stP_mono (stP_mono h))
theorem scan_has {c : Int} : ∀ {L : List (Int × Int)} {bs : Bs} {y : Int}, Adj L c y → y ∈ od (L.foldl (scan c) bs)
  | [], _, _, h => by rcases h with h | h <;> simp at h
  | l :: L, bs, y, h => by
    simp only [List.foldl_cons]
    by_cases h1 : l = (c, y)
    · subst h1
      exact scan_mono (stP_mono stP_has)
    · by_cases h2 : l = (y, c)
      · subst h2
        exact scan_mono stP_has
      · refine scan_has (L := L) ?_
        rcases h with h | h
        · exact .inl ((List.mem_cons.mp h).resolve_left fun z => h1 z.symm)
        · exact .inr ((List.mem_cons.mp h).resolve_left fun z => h2 z.symm)
theorem Good.scan (hA : ∀ {x y}, A x y → (0 ≤ x ∧ x < (n : Int)) ∧ 0 ≤ y ∧ y < (n : Int)) {i : Nat} {c : Int} {o : Option Int} : ∀ {L : List (Int × Int)} {bs : Bs}, (∀ p ∈ L, A p.1 p.2 ∧ A p.2 p.1) → Good A n s bs → bs[i]? = some (c, o) → Good A n s (L.foldl (L81.scan c) bs)
  | [], _, _, g, _ => g
  | l :: L, bs, hL, g, h => by
    simp only [List.foldl_cons]
    have hl := hL l List.mem_cons_self
    exact Good.scan hA (L := L) (fun p hp => hL p (List.mem_cons_of_mem _ hp)) ((g.st hA h hl.1).st hA (stP_get h) hl.2) (stP_get (stP_get h))
end
/-- the search to its end -/
theorem wh_rf {n : Nat} (L : List (Int × Int)) (T : Tr n (Adj L)) (hL : L.length ≤ 100) (hn : n ≤ 100) (s : Int) (h0 : 0 ≤ s) (h1 : s < (n : Int)) :
    ∃ (bs : Bs) (i : Int) (y5 y6 y7 y8 : Option (D × M)), sWhile t_reached_from_1 b_reached_from_3 (en3 (.lst (L.map pD), .sh) s [(s, none)] 0 none none none none) = some (.nx, en3 (.lst (L.map pD), .sh) s bs i y5 y6 y7 y8) ∧ Good (Adj L) n s bs ∧ ∀ x ∈ od bs, ∀ y, Adj L x y → y ∈ od bs := by
  obtain ⟨fl, e', q, rfl, bs, i, y5, y6, y7, y8, rfl, g, cl⟩ := sWhile_inv (t := t_reached_from_1) (b := b_reached_from_3)
    (I := fun m e => ∃ (bs : Bs) (i : Nat) (y5 y6 y7 y8 : Option (D × M)), e = en3 (.lst (L.map pD), .sh) s bs (i : Int) y5 y6 y7 y8 ∧ Good (Adj L) n s bs ∧ i ≤ bs.length ∧ (∀ j x o, j < i → bs[j]? = some (x, o) → ∀ y, Adj L x y → y ∈ od bs) ∧ m = n - i)
    (F := fun fl e => fl = .nx ∧ ∃ (bs : Bs) (i : Int) (y5 y6 y7 y8 : Option (D × M)), e = en3 (.lst (L.map pD), .sh) s bs i y5 y6 y7 y8 ∧ Good (Adj L) n s bs ∧ ∀ x ∈ od bs, ∀ y, Adj L x y → y ∈ od bs)
    (fun m e ⟨bs, i, y5, y6, y7, y8, he, g, hi, cl, hm⟩ => by
      have hbl := g.len
      have hol : ((od bs).map D.int).length = bs.length := by simp [od]
      refine ⟨decide ((i : Int) < (bs.length : Int)), e, ?_, fun hz => ?_, fun hz => ?_⟩
      · subst he
        simp [iRg1, iRg2, iLst, pLr, runG, outP, im, imm, immL, eB, eV, eS, eMv, eCp, frz, eNil, eCons, eLst, eTup, e2, e1, eCB, eIf, eMut, eMut0, eOn, isLst, eTmp, eCall, callR, takeA, convL, putA, rSl, rVl, caN, caC, eMake, mkR, rdL, sSeq, sIf, sRet, sRetN, sExpr, sSet, putS, sPar, sPar3, sAsg, goTup, goC, goN, unTup, sFor, iLstE, iRg1E, iRg2E, iS, sNext, sNever, tV, tAndE, tOrE, tNotE, tTruE, tOfE, asBE, bAnd, bOr, bNot, bTru, tOf, asB, p2, p1, pC, pVar, pAnd, pOr, pNot, pIf, pChain, pCalG, pCallK, permL, pMake, pMakeK, pMeth, pMeth0, pFld, pIsi, pIsC, isiC, tyN, pCB, gLen, gList, gInt, gAdd, gSub, gI, gC, gLt, gLe, gGt, gGe, gGeX, gIs, gIsNot, isB, aNil, aCons, vw, shv, tru, kb_int_int, kb_int_bool, kb_tup_tup, kb_lst_lst, kb_dk_lst, gMod, gFdiv, gMul, gPow, gIx, gSetL, setAtD, inM, gMax, gMin, toInts, maxL, minL, gEq_int, gNe_int, im_int, pLst, pTup, lim, dm, allDp, at_0, at_1, at_2, bd62, t_reached_from_1, en3, od]
      · have hib : i = bs.length := by simp at hz; omega
        refine ⟨rfl, bs, i, y5, y6, y7, y8, he, g, fun x hx y hxy => ?_⟩
        obtain ⟨j, hj⟩ := List.mem_iff_getElem?.mp hx
        have hj2 : ∃ o, bs[j]? = some (x, o) := by
          simp only [od, List.getElem?_map] at hj
          cases hb : bs[j]? with
          | none => rw [hb] at hj; simp at hj
          | some p =>
            rw [hb] at hj
            simp at hj
            exact ⟨p.2, by rw [← hj]⟩
        obtain ⟨o, hj3⟩ := hj2
        exact cl j x o (by have := (List.getElem?_eq_some_iff.mp hj3).1; omega) hj3 y hxy
      · have hib : i < bs.length := by simp at hz; omega
        obtain ⟨c, o, hbi⟩ : ∃ c o, bs[i]? = some (c, o) := ⟨_, _, List.getElem?_eq_getElem hib⟩
        obtain ⟨z5, z6, z7, z8, q3⟩ := st_rf_3 L s bs i c o y5 y6 y7 y8 hbi (by omega)
        subst he
        have gs := g.scan T.inV (L := L) (fun p hp => ⟨.inl hp, .inr hp⟩) hbi
        have hg := scan_get (c := c) (L := L) hbi
        have hgl := (List.getElem?_eq_some_iff.mp hg).1
        refine ⟨.nx, _, q3, n - (i + 1), by omega, _, i + 1, z5, z6, z7, z8, rfl, gs, by omega, fun j x oj hj hx y hxy => ?_, rfl⟩
        by_cases hji : j = i
        · subst hji
          rw [hg] at hx
          cases hx
          exact scan_has hxy
        · have hjb : j < bs.length := by omega
          have hb := List.getElem?_eq_getElem hjb
          have hb2 := scan_get (c := c) (L := L) hb
          rw [hx] at hb2
          rw [← hb2] at hb
          exact scan_mono (cl j x oj (by omega) hb y hxy))
    n _ (by unfold fuel; omega) ⟨[(s, none)], 0, none, none, none, none, rfl, ⟨by simp [od], rfl, fun k x o hk hx => by
      have := (List.getElem?_eq_some_iff.mp hx).1
      simp at this
      omega, fun x hx => by simp [od] at hx; subst hx; exact ⟨h0, h1⟩⟩, by simp, fun j x o hj => by omega, by omega⟩
  exact ⟨bs, i, y5, y6, y7, y8, q, g, cl⟩
theorem e_reached {n : Nat} (L : List (Int × Int)) (T : Tr n (Adj L)) (hL : L.length ≤ 100) (hn : n ≤ 100) (s : Int) (h0 : 0 ≤ s) (h1 : s < (n : Int)) :
    ∃ bs : Bs, r_reached_from [(.lst (L.map pD), .sh), (.int s, .dp)] = some (.dk (ks bs) (vs bs), .dp, [(.lst (L.map pD), .sh), (.int s, .dp)]) ∧ Good (Adj L) n s bs ∧ ∀ x ∈ od bs, ∀ y, Adj L x y → y ∈ od bs := by
  obtain ⟨bs, i, y5, y6, y7, y8, q, g, cl⟩ := wh_rf L T hL hn s h0 h1
  refine ⟨bs, ?_, g, cl⟩
  have a1 : ks [(s, none)] = [Sum.inl s] := rfl
  have a2 : vs [(s, none)] = [.non] := rfl
  have a3 : od [(s, none)] = [s] := rfl
  simp only [en3, a1, a2, a3, List.map_cons, List.map_nil] at q
  simp [iRg1, iRg2, iLst, pLr, runG, outP, im, imm, immL, eB, eV, eS, eMv, eCp, frz, eNil, eCons, eLst, eTup, e2, e1, eCB, eIf, eMut, eMut0, eOn, isLst, eTmp, eCall, callR, takeA, convL, putA, rSl, rVl, caN, caC, eMake, mkR, rdL, sSeq, sIf, sRet, sRetN, sExpr, sSet, putS, sPar, sPar3, sAsg, goTup, goC, goN, unTup, sFor, iLstE, iRg1E, iRg2E, iS, sNext, sNever, tV, tAndE, tOrE, tNotE, tTruE, tOfE, asBE, bAnd, bOr, bNot, bTru, tOf, asB, p2, p1, pC, pVar, pAnd, pOr, pNot, pIf, pChain, pCalG, pCallK, permL, pMake, pMakeK, pMeth, pMeth0, pFld, pIsi, pIsC, isiC, tyN, pCB, gLen, gList, gInt, gAdd, gSub, gI, gC, gLt, gLe, gGt, gGe, gGeX, gIs, gIsNot, isB, aNil, aCons, vw, shv, tru, kb_int_int, kb_int_bool, kb_tup_tup, kb_lst_lst, kb_dk_lst, gMod, gFdiv, gMul, gPow, gIx, gSetL, setAtD, inM, gMax, gMin, toInts, maxL, minL, gEq_int, gNe_int, im_int, pLst, pTup, lim, dm, allDp, at_0, at_1, at_2, bd62, r_reached_from, b_reached_from, pDict1, isKey, q]
/-- all are found -/
theorem all_found {n : Nat} {L : List (Int × Int)} (T : Tr n (Adj L)) {s : Int} {bs : Bs} (g : Good (Adj L) n s bs) (cl : ∀ x ∈ od bs, ∀ y, Adj L x y → y ∈ od bs) (h0 : 0 ≤ s) (h1 : s < (n : Int)) : ∀ v : Int, 0 ≤ v → v < (n : Int) → v ∈ od bs := by
  have hs : s ∈ od bs := by
    have := List.mem_of_getElem? g.hd
    simp only [od, List.mem_map]
    exact ⟨_, this, rfl⟩
  have down : ∀ (k : Nat) (v : Int), T.rank v ≤ k → v ∈ od bs → ∃ r, r ∈ od bs ∧ T.rank r = 0 := by
    intro k
    induction k with
    | zero => intro v hk hv; exact ⟨v, hv, by omega⟩
    | succ k ih =>
      intro v hk hv
      by_cases hr : T.rank v = 0
      · exact ⟨v, hv, hr⟩
      · obtain ⟨a, b⟩ := T.up (g.inV v hv).1 (g.inV v hv).2 hr
        exact ih (T.par v) (by omega) (cl v hv _ (T.sym a))
  obtain ⟨r, hr, hr0⟩ := down (T.rank s) s (Nat.le_refl _) hs
  have upw : ∀ (k : Nat) (v : Int), T.rank v ≤ k → 0 ≤ v → v < (n : Int) → v ∈ od bs := by
    intro k
    induction k with
    | zero =>
      intro v hk ha hb
      have : v = r := T.inj ha hb (g.inV r hr).1 (g.inV r hr).2 (by omega)
      exact this ▸ hr
    | succ k ih =>
      intro v hk ha hb
      by_cases hv : T.rank v = 0
      · have : v = r := T.inj ha hb (g.inV r hr).1 (g.inV r hr).2 (by omega)
        exact this ▸ hr
      · obtain ⟨a, b⟩ := T.up ha hb hv
        have hp := T.inV a
        exact cl _ (ih (T.par v) (by omega) hp.1.1 hp.1.2) v a
  exact fun v ha hb => upw (T.rank v) v (Nat.le_refl _) ha hb
theorem found_len {n : Nat} {L : List (Int × Int)} (T : Tr n (Adj L)) {s : Int} {bs : Bs} (g : Good (Adj L) n s bs) (cl : ∀ x ∈ od bs, ∀ y, Adj L x y → y ∈ od bs) (h0 : 0 ≤ s) (h1 : s < (n : Int)) : bs.length = n := by
  have h2 := g.len
  have hall := all_found T g cl h0 h1
  have h3 : ((List.range n).map fun (i : Nat) => (i : Int)).length ≤ bs.length := by
    have : ∀ (k : Nat) (l m : List Int), l.length ≤ k → l.Nodup → (∀ x ∈ l, x ∈ m) → l.length ≤ m.length := by
      intro k
      induction k with
      | zero => intro l m hk _ _; omega
      | succ k ih =>
        intro l m hk nd hm
        cases l with
        | nil => simp
        | cons x l =>
          obtain ⟨m1, m2, rfl⟩ := List.append_of_mem (hm x List.mem_cons_self)
          obtain ⟨n1, n2⟩ := List.nodup_cons.mp nd
          have := ih l (m1 ++ m2) (by simpa using hk) n2 fun y hy => by
            have h4 := hm y (List.mem_cons_of_mem _ hy)
            have h5 : y ≠ x := fun z => n1 (z ▸ hy)
            simp only [List.mem_append, List.mem_cons] at h4 ⊢
            rcases h4 with h4 | h4 | h4
            · exact .inl h4
            · exact absurd h4 h5
            · exact .inr h4
          simp only [List.length_cons, List.length_append] at this ⊢
          omega
    have := this _ _ (od bs) (Nat.le_refl _) (nodup_range n) fun x hx => by
      obtain ⟨i, hi, rfl⟩ := List.mem_map.mp hx
      have := List.mem_range.mp hi
      exact hall _ (by omega) (by omega)
    simpa [od] using this
  simp at h3
  omega
end L81
set_option Elab.async false
set_option linter.all false
set_option maxRecDepth 100000
set_option maxHeartbeats 4000000
namespace L81
open PySem G Tree0
theorem ge_pair (p q : Int × Int) : gGeX (pD p) (pD q) = some (.bl (decide (pLe q p)), .dp) := by
  obtain ⟨a, b⟩ := p
  obtain ⟨c, d⟩ := q
  have : lexG (fun i k => decide (k ≤ i)) true [a, b] [c, d] = decide (pLe (c, d) (a, b)) := by
    unfold pLe
    by_cases h1 : a = c
    · subst h1
      by_cases h2 : b = d
      · subst h2
        simp [lexG, Ob.lexAt]
      · simp [lexG, Ob.lexAt, h2]
    · have h3 : ¬ c = a := fun z => h1 z.symm
      simp [lexG, Ob.lexAt, h1, h3]
      omega
  simp [gGeX, pD, toInts, this]
theorem e_is_link (m a b : Int) (h0 : 0 ≤ a) (h1 : a < b) (h2 : b < m) : r_is_link [(.int m, .dp), (.tup [.int a, .int b], .dp)] = some (.bl true, .dp, [(.int m, .dp), (.tup [.int a, .int b], .dp)]) := by
  have c1 := e_is_between b 1 (m - 1)
  have c2 := e_is_between a 0 (b - 1)
  have d1 : (1 : Int) ≤ b := by omega
  have d2 : b ≤ m - 1 := by omega
  have d3 : a ≤ b - 1 := by omega
  simp [iRg1, iRg2, iLst, pLr, runG, outP, im, imm, immL, eB, eV, eS, eMv, eCp, frz, eNil, eCons, eLst, eTup, e2, e1, eCB, eIf, eMut, eMut0, eOn, isLst, eTmp, eCall, callR, takeA, convL, putA, rSl, rVl, caN, caC, eMake, mkR, rdL, sSeq, sIf, sRet, sRetN, sExpr, sSet, putS, sPar, sPar3, sAsg, goTup, goC, goN, unTup, sFor, iLstE, iRg1E, iRg2E, iS, sNext, sNever, tV, tAndE, tOrE, tNotE, tTruE, tOfE, asBE, bAnd, bOr, bNot, bTru, tOf, asB, p2, p1, pC, pVar, pAnd, pOr, pNot, pIf, pChain, pCalG, pCallK, permL, pMake, pMakeK, pMeth, pMeth0, pFld, pIsi, pIsC, isiC, tyN, pCB, gLen, gList, gInt, gAdd, gSub, gI, gC, gLt, gLe, gGt, gGe, gGeX, gIs, gIsNot, isB, aNil, aCons, vw, shv, tru, kb_int_int, kb_int_bool, kb_tup_tup, kb_lst_lst, kb_dk_lst, gMod, gFdiv, gMul, gPow, gIx, gSetL, setAtD, inM, gMax, gMin, toInts, maxL, minL, gEq_int, gNe_int, im_int, pLst, pTup, lim, dm, allDp, at_0, at_1, at_2, bd62, r_is_link, b_is_link, c1, c2, d1, d2, d3, h0]
/-- what is_tree_list asks, ahead of the search -/
structure LinkL (n : Nat) (L : List (Int × Int)) : Prop where
  len : L.length + 1 = n
  ok : ∀ p ∈ L, 0 ≤ p.1 ∧ p.1 < p.2 ∧ p.2 < (n : Int)
  srt : L.Pairwise fun p q => ¬ pLe q p
theorem c_tl_1 {n : Nat} {L : List (Int × Int)} (h : LinkL n L) (hn : n ≤ 100) (x2 : Option D) : c_is_tree_list_1 [some (.lst (L.map pD)), none, x2] = some (.lst [], .dp) := by
  have hc : ∀ p ∈ L, ∃ ve', gSet 1 (pD p) [some (.lst (L.map pD)), none, x2] = some ve' ∧ (bNot (bTru (pCalG 2 r_is_link (aCons (p2 gAdd (pCB gLen (aCons (pVar 0) aNil)) (pC (.int 1))) (aCons (pVar 1) aNil))))) ve' = some ((fun _ => false) p) ∧ ((fun _ : Int × Int => false) p = true → (pVar 1) ve' = some ((fun p => (pD p, M.dp)) p)) := by
    intro p hp
    obtain ⟨h1, h2, h3⟩ := h.ok p hp
    have e := e_is_link ((L.length : Int) + 1) p.1 p.2 h1 h2 (by have := h.len; omega)
    refine ⟨_, rfl, ?_, fun z => by cases z⟩
    simp [iRg1, iRg2, iLst, pLr, runG, outP, im, imm, immL, eB, eV, eS, eMv, eCp, frz, eNil, eCons, eLst, eTup, e2, e1, eCB, eIf, eMut, eMut0, eOn, isLst, eTmp, eCall, callR, takeA, convL, putA, rSl, rVl, caN, caC, eMake, mkR, rdL, sSeq, sIf, sRet, sRetN, sExpr, sSet, putS, sPar, sPar3, sAsg, goTup, goC, goN, unTup, sFor, iLstE, iRg1E, iRg2E, iS, sNext, sNever, tV, tAndE, tOrE, tNotE, tTruE, tOfE, asBE, bAnd, bOr, bNot, bTru, tOf, asB, p2, p1, pC, pVar, pAnd, pOr, pNot, pIf, pChain, pCalG, pCallK, permL, pMake, pMakeK, pMeth, pMeth0, pFld, pIsi, pIsC, isiC, tyN, pCB, gLen, gList, gInt, gAdd, gSub, gI, gC, gLt, gLe, gGt, gGe, gGeX, gIs, gIsNot, isB, aNil, aCons, vw, shv, tru, kb_int_int, kb_int_bool, kb_tup_tup, kb_lst_lst, kb_dk_lst, gMod, gFdiv, gMul, gPow, gIx, gSetL, setAtD, inM, gMax, gMin, toInts, maxL, minL, gEq_int, gNe_int, im_int, pLst, pTup, lim, dm, allDp, at_0, at_1, at_2, bd62, pD, e]
  have := compL_go hc
  have hf : L.filter (fun _ => false) = [] := List.filter_eq_nil_iff.mpr fun _ _ => by simp
  rw [hf] at this
  have hl : L.length ≤ 16777216 := by have := h.len; omega
  simp only [c_is_tree_list_1, pComp, iLst, pVar, wipeV]
  simp [this, hl, lim, dm, allDp]
theorem at_pD (L : List (Int × Int)) (i : Nat) (p : Int × Int) (z : Int) (hz : z = (i : Int)) (h : L[i]? = some p) : L2.atI (L.map pD) z = some (pD p) := by
  subst hz
  have hi := (List.getElem?_eq_some_iff.mp h).1
  unfold L2.atI L2.ixN
  rw [List.length_map, if_pos (by omega), if_pos (by omega)]
  show (L.map pD)[((i : Nat) : Int).toNat]? = _
  rw [List.getElem?_map, Int.toNat_natCast, h]
  rfl
end L81
set_option Elab.async false
set_option linter.all false
set_option maxRecDepth 100000
set_option maxHeartbeats 4000000
namespace L81
open PySem G Tree0
theorem c_tl_2a {n : Nat} {L : List (Int × Int)} (h : LinkL n L) (hn : n ≤ 100) (x1 : Option D) : ∀ i ∈ List.range ((L.length : Int) - 1).toNat, ∃ ve', gSet 2 ((fun i : Nat => D.int (1 + (i : Int))) i) [some (.lst (L.map pD)), x1, none] = some ve' ∧
      (tOf (p2 gGeX (p2 gIx (pVar 0) (p2 gSub (pVar 2) (pC (.int 1)))) (p2 gIx (pVar 0) (pVar 2)))) ve' = some ((fun _ => false) i) ∧ ((fun _ : Nat => false) i = true → (pVar 2) ve' = some ((fun i : Nat => (D.int (1 + (i : Int)), M.dp)) i)) := by
    have hlen := h.len
    intro i hi
    have hi2 : i + 1 < L.length := by have := List.mem_range.mp hi; omega
    have g1 := List.getElem?_eq_getElem (show i < L.length by omega)
    have g2 := List.getElem?_eq_getElem hi2
    have a1 := at_pD L i L[i] (1 + (i : Int) - 1) (by omega) g1
    have a2 := at_pD L (i + 1) L[i + 1] (1 + (i : Int)) (by omega) g2
    have hs : ¬ pLe L[i + 1] L[i] := (List.pairwise_iff_getElem.mp h.srt) i (i + 1) (by omega) hi2 (by omega)
    have hg := ge_pair L[i] L[i + 1]
    rw [decide_eq_false hs] at hg
    refine ⟨_, rfl, ?_, fun z => by cases z⟩
    simp [iRg1, iRg2, iLst, pLr, runG, outP, im, imm, immL, eB, eV, eS, eMv, eCp, frz, eNil, eCons, eLst, eTup, e2, e1, eCB, eIf, eMut, eMut0, eOn, isLst, eTmp, eCall, callR, takeA, convL, putA, rSl, rVl, caN, caC, eMake, mkR, rdL, sSeq, sIf, sRet, sRetN, sExpr, sSet, putS, sPar, sPar3, sAsg, goTup, goC, goN, unTup, sFor, iLstE, iRg1E, iRg2E, iS, sNext, sNever, tV, tAndE, tOrE, tNotE, tTruE, tOfE, asBE, bAnd, bOr, bNot, bTru, tOf, asB, p2, p1, pC, pVar, pAnd, pOr, pNot, pIf, pChain, pCalG, pCallK, permL, pMake, pMakeK, pMeth, pMeth0, pFld, pIsi, pIsC, isiC, tyN, pCB, gLen, gList, gInt, gAdd, gSub, gI, gC, gLt, gLe, gGt, gGe, gIs, gIsNot, isB, aNil, aCons, vw, shv, tru, kb_int_int, kb_int_bool, kb_tup_tup, kb_lst_lst, kb_dk_lst, gMod, gFdiv, gMul, gPow, gIx, gSetL, setAtD, inM, gMax, gMin, toInts, maxL, minL, gEq_int, gNe_int, im_int, pLst, pTup, lim, dm, allDp, at_0, at_1, at_2, bd62, a1, a2, hg]
theorem gLen_lst (ds : List D) : gLen [.lst ds] = some (.int ds.length, .dp) := rfl
theorem c_tl_2b (L : List (Int × Int)) (hn : L.length ≤ 100) (x1 : Option D) : iRg2 (pC (.int 1)) (pCB gLen (aCons (pVar 0) aNil)) [some (.lst (L.map pD)), x1, none] = some ((List.range ((L.length : Int) - 1).toNat).map fun i : Nat => D.int (1 + (i : Int))) := by
  have e : (pCB gLen (aCons (pVar 0) aNil)) [some (.lst (L.map pD)), x1, none] = some (.int L.length, .dp) := by
    simp [pCB, aCons, aNil, gLen_lst, pVar]
  rw [iRg2_of (i := 1) rfl e (by decide) (bd_nat (by omega)), rgD_map]
theorem pComp_none {α : Type} {en : α → D} {vs : List Nat} {i : VEnv → Option (List D)} {g : D → VEnv → Option VEnv} {t : VEnv → Option Bool} {e : VEnv → Option (D × M)} {ve : VEnv} {xs : List α} {out : α → D × M} (h1 : i ve = some (xs.map en)) (h2 : xs.length ≤ lim) (h : ∀ x ∈ xs, ∃ ve', g (en x) (wipeV ve vs) = some ve' ∧ t ve' = some ((fun _ => false) x) ∧ ((fun _ : α => false) x = true → e ve' = some (out x))) : pComp vs i g t e ve = some (.lst [], .dp) := by
  have := compL_go h
  rw [List.filter_eq_nil_iff.mpr fun _ _ => by simp] at this
  have q := pComp_eq h1 (by rw [List.length_map]; exact h2) this
  exact q
theorem c_tl_2 {n : Nat} {L : List (Int × Int)} (h : LinkL n L) (hn : n ≤ 100) (x1 : Option D) : c_is_tree_list_2 [some (.lst (L.map pD)), x1, none] = some (.lst [], .dp) := by
  have hlen := h.len
  have hll : L.length ≤ 100 := by omega
  have b := c_tl_2b L hll x1
  have a := c_tl_2a h hn x1
  have hl : (List.range ((L.length : Int) - 1).toNat).length ≤ lim := by
    rw [List.length_range]
    exact le_lim (by omega)
  unfold c_is_tree_list_2
  generalize (iRg2 (pC (.int 1)) (pCB gLen (aCons (pVar 0) aNil))) = ii at b ⊢
  generalize (tOf (p2 gGeX (p2 gIx (pVar 0) (p2 gSub (pVar 2) (pC (.int 1)))) (p2 gIx (pVar 0) (pVar 2)))) = tt at a ⊢
  have hw : wipeV [some (.lst (L.map pD)), x1, none] [2] = [some (.lst (L.map pD)), x1, none] := rfl
  rw [← hw] at a
  generalize [some (D.lst (L.map pD)), x1, none] = ve at *
  generalize gSet 2 = gg at *
  generalize pVar 2 = vv at *
  exact pComp_none b hl a
end L81
set_option Elab.async false
set_option linter.all false
/-! T2: trees: simple paths, a depth first search -/
namespace Tree0
variable {n : Nat} {A : Int → Int → Prop}
/-- a simple path -/
structure SP (n : Nat) (A : Int → Int → Prop) (a b : Int) (p : List Int) : Prop where
  hd : p.head? = some a
  lt : p.getLast? = some b
  ch : Ch A p
  nd : p.Nodup
  inV : ∀ x ∈ p, 0 ≤ x ∧ x < (n : Int)
theorem SP.eq (T : Tr n A) {a b : Int} {p q : List Int} (h1 : SP n A a b p) (h2 : SP n A a b q) : p = q :=
  T.uniq p.length p q a b (Nat.le_refl _) h1.inV h1.ch h2.ch h1.nd h2.nd h1.hd h2.hd h1.lt h2.lt
theorem SP.rev (sym : ∀ {x y}, A x y → A y x) {a b : Int} {p : List Int} (h : SP n A a b p) : SP n A b a p.reverse := by
  refine ⟨?_, ?_, h.ch.rev sym, (List.reverse_perm p).nodup_iff.mpr h.nd, fun x hx => h.inV x (by simpa using hx)⟩
  · rw [List.head?_reverse]; exact h.lt
  · rw [List.getLast?_reverse]; exact h.hd
theorem SP.snoc {a b c : Int} {p : List Int} (h : SP n A a b p) (hbc : A b c) (hc : c ∉ p) (hV : 0 ≤ c ∧ c < (n : Int)) : SP n A a c (p ++ [c]) := by
  have hne : p ≠ [] := by intro z; rw [z] at h; simpa using h.hd
  refine ⟨?_, by simp, ?_, ?_, fun x hx => ?_⟩
  · cases p with
    | nil => exact absurd rfl hne
    | cons x p => simpa using h.hd
  · exact h.ch.snoc fun y hy => by rw [h.lt] at hy; cases hy; exact hbc
  · exact List.nodup_append.mpr ⟨h.nd, by simp, fun x hx y hy e => by simp at hy; subst hy; subst e; exact hc hx⟩
  · rcases List.mem_append.mp hx with hx | hx
    · exact h.inV x hx
    · simp at hx; subst hx; exact hV
theorem pig : ∀ (n : Nat) (l : List Int), l.Nodup → (∀ x ∈ l, 0 ≤ x ∧ x < (n : Int)) → l.length ≤ n
  | 0, l, _, h => by
    cases l with
    | nil => simp
    | cons x l => have := h x List.mem_cons_self; omega
  | n + 1, l, nd, h => by
    by_cases hm : (n : Int) ∈ l
    · obtain ⟨l1, l2, rfl⟩ := List.append_of_mem hm
      have p : (l1 ++ (n : Int) :: l2).Perm ((n : Int) :: (l1 ++ l2)) := List.perm_middle
      obtain ⟨n1, n2⟩ := List.nodup_cons.mp (p.nodup_iff.mp nd)
      have := pig n (l1 ++ l2) n2 fun x hx => by
        have h1 := h x (p.mem_iff.mpr (List.mem_cons_of_mem _ hx))
        have h2 : x ≠ n := fun z => n1 (z ▸ hx)
        omega
      rw [p.length_eq, List.length_cons]
      omega
    · have := pig n l nd fun x hx => by
        have h1 := h x hx
        have h2 : x ≠ n := fun z => hm (z ▸ hx)
        omega
      omega
theorem SP.len {a b : Int} {p : List Int} (h : SP n A a b p) : p.length ≤ n := pig n p h.nd h.inV
/-- a way gone on over one link -/
def ext1 (w : List Int) (spot : Int) (l : Int × Int) : List (List Int) := if spot = l.1 ∨ spot = l.2 then (if l.1 + l.2 - spot ∈ w then [] else [w ++ [l.1 + l.2 - spot]]) else []
def exts (L : List (Int × Int)) (w : List Int) (spot : Int) : List (List Int) := L.flatMap (ext1 w spot)
theorem exts_len (L : List (Int × Int)) (w : List Int) (spot : Int) : (exts L w spot).length ≤ L.length := by
  unfold exts
  induction L with
  | nil => simp
  | cons l L ih =>
    have : (ext1 w spot l).length ≤ 1 := by
      unfold ext1
      split
      · split <;> simp
      · simp
    simp only [List.flatMap_cons, List.length_append, List.length_cons]
    omega
theorem mem_exts {L : List (Int × Int)} {w : List Int} {spot : Int} {q : List Int} (h : q ∈ exts L w spot) : ∃ l ∈ L, (spot = l.1 ∨ spot = l.2) ∧ l.1 + l.2 - spot ∉ w ∧ q = w ++ [l.1 + l.2 - spot] := by
  obtain ⟨l, hl, hq⟩ := List.mem_flatMap.mp h
  unfold ext1 at hq
  split at hq
  · rename_i h1
    split at hq
    · simp at hq
    · rename_i h2
      simp at hq
      exact ⟨l, hl, h1, h2, hq⟩
  · simp at hq
/-- the measure of a stack -/
def mea (k : Nat) (st : List (List Int)) : Nat := (st.map fun w => (k + 1) ^ (k + 1 - w.length)).sum
theorem mea_app (k : Nat) (a b : List (List Int)) : mea k (a ++ b) = mea k a + mea k b := by simp [mea]
theorem mea_le (k c : Nat) : ∀ (st : List (List Int)), (∀ w ∈ st, (k + 1) ^ (k + 1 - w.length) ≤ c) → mea k st ≤ st.length * c
  | [], _ => by simp [mea]
  | w :: st, h => by
    have h1 := mea_le k c st fun v hv => h v (List.mem_cons_of_mem _ hv)
    have h2 := h w List.mem_cons_self
    simp only [mea, List.map_cons, List.sum_cons, List.length_cons] at h1 ⊢
    rw [Nat.add_mul]
    omega
/-- what is on the stack -/
structure Stk (n : Nat) (A : Int → Int → Prop) (a : Int) (P : List Int) (st : List (List Int)) : Prop where
  sp : ∀ w ∈ st, ∃ b, SP n A a b w
  pre : ∃ w ∈ st, w <+: P
theorem mea_exts {L : List (Int × Int)} {a b : Int} {w : List Int} (h : SP n A a b w) (hL : L.length + 1 = n) (hx : ∀ q ∈ exts L w b, ∃ c, SP n A a c q) : mea L.length (exts L w b) < (L.length + 1) ^ (L.length + 1 - w.length) := by
  have hw := h.len
  by_cases he : exts L w b = []
  · rw [he]
    simp only [mea, List.map_nil, List.sum_nil]
    exact Nat.pow_pos (by omega)
  · obtain ⟨q, hq⟩ := List.exists_mem_of_ne_nil _ he
    obtain ⟨c, hc⟩ := hx q hq
    obtain ⟨l, _, _, _, e⟩ := mem_exts hq
    have hql := hc.len
    rw [e, List.length_append] at hql
    simp at hql
    have h1 : mea L.length (exts L w b) ≤ (exts L w b).length * (L.length + 1) ^ (L.length + 1 - (w.length + 1)) := mea_le _ _ _ fun v hv => by
      obtain ⟨l, _, _, _, e⟩ := mem_exts hv
      rw [e, List.length_append]
      exact Nat.le_refl _
    have h2 := exts_len L w b
    have h3 : L.length + 1 - w.length = (L.length + 1 - (w.length + 1)) + 1 := by omega
    rw [h3, Nat.pow_succ]
    have h4 : 0 < (L.length + 1) ^ (L.length + 1 - (w.length + 1)) := Nat.pow_pos (by omega)
    calc mea L.length (exts L w b) ≤ (exts L w b).length * (L.length + 1) ^ (L.length + 1 - (w.length + 1)) := h1
      _ ≤ L.length * (L.length + 1) ^ (L.length + 1 - (w.length + 1)) := Nat.mul_le_mul_right _ h2
      _ < (L.length + 1) ^ (L.length + 1 - (w.length + 1)) * (L.length + 1) := by
        rw [Nat.mul_comm]
        exact Nat.mul_lt_mul_of_pos_left (by omega) h4
/-- one step of the search -/
theorem Stk.step (T : Tr n A) {L : List (Int × Int)} (hA : ∀ x y, A x y ↔ (x, y) ∈ L ∨ (y, x) ∈ L) {a t : Int} {P : List Int} (hP : SP n A a t P) {st : List (List Int)} {w : List Int} {b : Int} (h : Stk n A a P (st ++ [w])) (hw : SP n A a b w) (hne : b ≠ t) : Stk n A a P (st ++ exts L w b) := by
  have hx : ∀ q ∈ exts L w b, ∃ c, SP n A a c q := fun q hq => by
    obtain ⟨l, hl, h1, h2, e⟩ := mem_exts hq
    refine ⟨l.1 + l.2 - b, e ▸ ?_⟩
    have hadj : A b (l.1 + l.2 - b) := by
      refine (hA _ _).mpr ?_
      rcases h1 with h1 | h1
      · left
        have : l = (b, l.1 + l.2 - b) := by
          rw [h1]; exact Prod.ext rfl (by show l.2 = l.1 + l.2 - l.1; omega)
        exact this ▸ hl
      · right
        have : l = (l.1 + l.2 - b, b) := by
          rw [h1]; exact Prod.ext (by show l.1 = l.1 + l.2 - l.2; omega) rfl
        exact this ▸ hl
    exact hw.snoc hadj h2 (T.inV hadj).2
  refine ⟨fun q hq => ?_, ?_⟩
  · rcases List.mem_append.mp hq with hq | hq
    · exact h.sp q (List.mem_append_left _ hq)
    · exact hx q hq
  · obtain ⟨v, hv, hp⟩ := h.pre
    rcases List.mem_append.mp hv with hv | hv
    · exact ⟨v, List.mem_append_left _ hv, hp⟩
    · simp at hv
      subst hv
      obtain ⟨r, hr⟩ := hp
      cases r with
      | nil =>
        exfalso
        simp at hr
        subst hr
        have := hw.lt.symm.trans hP.lt
        exact hne (Option.some.inj this)
      | cons c r =>
        have hbc : A b c := by
          have hc := hP.ch
          rw [← hr] at hc
          clear hr hP h hx
          have : ∀ (l : List Int), l.getLast? = some b → Ch A (l ++ c :: r) → A b c := by
            intro l
            induction l with
            | nil => intro e _; simp at e
            | cons x l ih =>
              intro e hc
              cases l with
              | nil =>
                simp at e
                subst e
                exact hc.1
              | cons y l => exact ih (by simpa [List.getLast?_cons_cons] using e) hc.2
          exact this v hw.lt hc
        have hcv : c ∉ v := by
          have := hP.nd
          rw [← hr] at this
          intro z
          exact (List.nodup_append.mp this).2.2 c z c List.mem_cons_self rfl
        refine ⟨v ++ [c], List.mem_append_right _ ?_, ⟨r, by simpa using hr⟩⟩
        refine List.mem_flatMap.mpr ?_
        rcases (hA _ _).mp hbc with h1 | h1
        · refine ⟨_, h1, ?_⟩
          simp [ext1, show b + c - b = c by omega, hcv]
        · refine ⟨_, h1, ?_⟩
          simp [ext1, show c + b - b = c by omega, hcv]
end Tree0
set_option Elab.async false
set_option linter.all false
set_option maxRecDepth 100000
set_option maxHeartbeats 4000000
namespace L81
open PySem G Tree0
theorem e_is_tree_list {n : Nat} {L : List (Int × Int)} (h : LinkL n L) (hn : n ≤ 8) (h1 : 1 ≤ n) (T : Tr n (Adj L)) : r_is_tree_list [(.lst (L.map pD), .sh)] = some (.bl true, .dp, [(.lst (L.map pD), .sh)]) := by
  have hlen := h.len
  obtain ⟨bs, er, g, cl⟩ := e_reached L T (by omega) (by omega) 0 (by omega) (by omega)
  have hbl := found_len T g cl (by omega) (by omega)
  have k1 := c_tl_1 h (by omega)
  have k2 := c_tl_2 h (by omega)
  have hg : ¬ (8 : Int) ≤ (L.length : Int) := by omega
  have hkl : (ks bs).length = L.length + 1 := by simp [ks]; omega
  have e1' : gNe (.lst []) (.lst []) = some (.bl false, .dp) := gNe_ints [] []
  simp [iRg1, iRg2, iLst, pLr, runG, outP, im, imm, immL, eB, eV, eS, eMv, eCp, frz, eNil, eCons, eLst, eTup, e2, e1, eCB, eIf, eMut, eMut0, eOn, isLst, eTmp, eCall, callR, takeA, convL, putA, rSl, rVl, caN, caC, eMake, mkR, rdL, sSeq, sIf, sRet, sRetN, sExpr, sSet, putS, sPar, sPar3, sAsg, goTup, goC, goN, unTup, sFor, iLstE, iRg1E, iRg2E, iS, sNext, sNever, tV, tAndE, tOrE, tNotE, tTruE, tOfE, asBE, bAnd, bOr, bNot, bTru, tOf, asB, p2, p1, pC, pVar, pAnd, pOr, pNot, pIf, pChain, pCalG, pCallK, permL, pMake, pMakeK, pMeth, pMeth0, pFld, pIsi, pIsC, isiC, tyN, pCB, gLen, gList, gInt, gAdd, gSub, gI, gC, gLt, gLe, gGt, gGe, gGeX, gIs, gIsNot, isB, aNil, aCons, vw, shv, tru, kb_int_int, kb_int_bool, kb_tup_tup, kb_lst_lst, kb_dk_lst, gMod, gFdiv, gMul, gPow, gIx, gSetL, setAtD, inM, gMax, gMin, toInts, maxL, minL, gEq_int, gNe_int, im_int, pLst, pTup, lim, dm, allDp, at_0, at_1, at_2, bd62, r_is_tree_list, b_is_tree_list, er, k1, k2, hg, hkl, e1']
/-- the two numbers of a link under their names -/
theorem named_of {fs : List (Int × Int)} {ns : List Int} {n : Nat} (hh : Hang fs) (hn : fs.length + 1 = n) (hp : ns.Perm ((List.range n).map fun (i : Nat) => (i : Int))) {t : Nat} {p : Int × Int} (et : fs[t]? = some p) :
    ∃ a b : Int, rk ns a = p.1.toNat ∧ rk ns b = p.2.toNat ∧ p.1.toNat < p.2.toNat ∧ p.2.toNat = t + 1 ∧ a ≠ b ∧ (0 ≤ a ∧ a < (n : Int)) ∧ (0 ≤ b ∧ b < (n : Int)) ∧ ((named ns p = (a, b) ∧ a < b) ∨ (named ns p = (b, a) ∧ b < a)) := by
  have hl : ns.length = n := by rw [hp.length_eq]; simp
  have nd : ns.Nodup := hp.nodup_iff.mpr (nodup_range n)
  obtain ⟨h1, h2, h3⟩ := hh t p et
  have ht := (List.getElem?_eq_some_iff.mp et).1
  have mem : ∀ v : Int, v ∈ ns → 0 ≤ v ∧ v < (n : Int) := fun v hv => by
    rw [hp.mem_iff, List.mem_map] at hv
    obtain ⟨i, hi, rfl⟩ := hv
    have := List.mem_range.mp hi
    omega
  have g1 : ns[p.1.toNat]? = some (ns.getD p.1.toNat 0) := by
    rw [List.getD_eq_getElem?_getD, List.getElem?_eq_getElem (by omega)]; rfl
  have g2 : ns[p.2.toNat]? = some (ns.getD p.2.toNat 0) := by
    rw [List.getD_eq_getElem?_getD, List.getElem?_eq_getElem (by omega)]; rfl
  have r1 := rk_get nd g1
  have r2 := rk_get nd g2
  have hne : ns.getD p.1.toNat 0 ≠ ns.getD p.2.toNat 0 := fun z => by
    rw [z] at r1
    omega
  refine ⟨_, _, r1, r2, by omega, by omega, hne, mem _ (List.mem_of_getElem? g1), mem _ (List.mem_of_getElem? g2), ?_⟩
  unfold named
  generalize ns.getD p.1.toNat 0 = a at *
  generalize ns.getD p.2.toNat 0 = b at *
  by_cases hc : b < a
  · right
    have hc2 : ¬ b > a := by omega
    simp [hc, hc2]
  · left
    have hc2 : b > a := by omega
    have hc3 : a < b := by omega
    simp [hc, hc2, hc3]
theorem linkL {fs : List (Int × Int)} {ns : List Int} {n : Nat} (hh : Hang fs) (hn : fs.length + 1 = n) (hp : ns.Perm ((List.range n).map fun (i : Nat) => (i : Int))) : LinkL n (linksOf fs ns) := by
  have hpm : (linksOf fs ns).Perm (fs.map (named ns)) := psort_perm _
  refine ⟨by rw [hpm.length_eq, List.length_map]; exact hn, fun p hp' => ?_, ?_⟩
  · rw [hpm.mem_iff, List.mem_map] at hp'
    obtain ⟨q, hq, rfl⟩ := hp'
    obtain ⟨t, et⟩ := List.mem_iff_getElem?.mp hq
    obtain ⟨a, b, _, _, _, _, _, h1, h2, h3⟩ := named_of hh hn hp et
    rcases h3 with ⟨e, h3⟩ | ⟨e, h3⟩
    · rw [e]; exact ⟨h1.1, h3, h2.2⟩
    · rw [e]; exact ⟨h2.1, h3, h1.2⟩
  · have nd : (linksOf fs ns).Nodup := by
      rw [hpm.nodup_iff]
      refine List.pairwise_map.mpr (List.pairwise_iff_getElem.mpr fun i j hi hj hij e => ?_)
      obtain ⟨a, b, r1, r2, r3, r4, _, _, _, h3⟩ := named_of hh hn hp (List.getElem?_eq_getElem hi)
      obtain ⟨a', b', r1', r2', r3', r4', _, _, _, h3'⟩ := named_of hh hn hp (List.getElem?_eq_getElem hj)
      have key : (a = a' ∧ b = b') ∨ (a = b' ∧ b = a') := by
        rcases h3 with ⟨q, _⟩ | ⟨q, _⟩ <;> rcases h3' with ⟨q', _⟩ | ⟨q', _⟩ <;> rw [q, q'] at e <;> simp only [Prod.mk.injEq] at e
        · exact .inl e
        · exact .inr e
        · exact .inr ⟨e.2, e.1⟩
        · exact .inl ⟨e.2, e.1⟩
      rcases key with ⟨e1, e2⟩ | ⟨e1, e2⟩
      · subst e1 e2
        omega
      · subst e1 e2
        omega
    have so := psort_sorted (fs.map (named ns))
    refine List.pairwise_iff_getElem.mpr fun i j hi hj hij hle => ?_
    have h1 := (List.pairwise_iff_getElem.mp so) i j hi hj hij
    have h2 := (List.pairwise_iff_getElem.mp nd) i j hi hj hij
    refine h2 (Prod.ext ?_ ?_)
    · show (psort (fs.map (named ns)))[i].1 = (psort (fs.map (named ns)))[j].1
      unfold linksOf at hle
      unfold pLe at h1 hle
      omega
    · show (psort (fs.map (named ns)))[i].2 = (psort (fs.map (named ns)))[j].2
      unfold linksOf at hle
      unfold pLe at h1 hle
      omega
theorem immL_pD : ∀ L : List (Int × Int), immL (L.map pD) = true
  | [] => rfl
  | l :: L => by simp [immL, pD, imm, immL_pD L]
theorem lm_pD (L : List (Int × Int)) : lm (L.map pD) = .dp := by
  unfold lm
  rw [if_pos (immL_pD L)]
/-- the tree of links -/
def tD (L : List (Int × Int)) : D := .ins 0 [.lst (L.map pD)]
theorem e_Tree_init {n : Nat} {L : List (Int × Int)} (h : LinkL n L) (hn : n ≤ 8) (h1 : 1 ≤ n) (T : Tr n (Adj L)) : r_Tree_init [(.ins 0 [], .dp), (.lst (L.map pD), .sh)] = some (.non, .dp, [(tD L, .dp), (.lst (L.map pD), .sh)]) := by
  have e := e_is_tree_list h hn h1 T
  have el := lm_pD L
  simp [iRg1, iRg2, iLst, pLr, runG, outP, im, imm, immL, eB, eV, eS, eMv, eCp, frz, eNil, eCons, eLst, eTup, e2, e1, eCB, eIf, eMut, eMut0, eOn, isLst, eTmp, eCall, callR, takeA, convL, putA, rSl, rVl, caN, caC, eMake, mkR, rdL, sSeq, sIf, sRet, sRetN, sExpr, sSet, putS, sPar, sPar3, sAsg, goTup, goC, goN, unTup, sFor, iLstE, iRg1E, iRg2E, iS, sNext, sNever, tV, tAndE, tOrE, tNotE, tTruE, tOfE, asBE, bAnd, bOr, bNot, bTru, tOf, asB, p2, p1, pC, pVar, pAnd, pOr, pNot, pIf, pChain, pCalG, pCallK, permL, pMake, pMakeK, pMeth, pMeth0, pFld, pIsi, pIsC, isiC, tyN, pCB, gLen, gList, gInt, gAdd, gSub, gI, gC, gLt, gLe, gGt, gGe, gGeX, gIs, gIsNot, isB, aNil, aCons, vw, shv, tru, kb_int_int, kb_int_bool, kb_tup_tup, kb_lst_lst, kb_dk_lst, gMod, gFdiv, gMul, gPow, gIx, gSetL, setAtD, inM, gMax, gMin, toInts, maxL, minL, gEq_int, gNe_int, im_int, pLst, pTup, lim, dm, allDp, at_0, at_1, at_2, bd62, r_Tree_init, b_Tree_init, e, sFldS, setFD, tD, el]
theorem e_Tree_size (L : List (Int × Int)) : r_Tree_size [(tD L, .sh)] = some (.int ((L.length : Int) + 1), .dp, [(tD L, .sh)]) := by
  simp [iRg1, iRg2, iLst, pLr, runG, outP, im, imm, immL, eB, eV, eS, eMv, eCp, frz, eNil, eCons, eLst, eTup, e2, e1, eCB, eIf, eMut, eMut0, eOn, isLst, eTmp, eCall, callR, takeA, convL, putA, rSl, rVl, caN, caC, eMake, mkR, rdL, sSeq, sIf, sRet, sRetN, sExpr, sSet, putS, sPar, sPar3, sAsg, goTup, goC, goN, unTup, sFor, iLstE, iRg1E, iRg2E, iS, sNext, sNever, tV, tAndE, tOrE, tNotE, tTruE, tOfE, asBE, bAnd, bOr, bNot, bTru, tOf, asB, p2, p1, pC, pVar, pAnd, pOr, pNot, pIf, pChain, pCalG, pCallK, permL, pMake, pMakeK, pMeth, pMeth0, pFld, pIsi, pIsC, isiC, tyN, pCB, gLen, gList, gInt, gAdd, gSub, gI, gC, gLt, gLe, gGt, gGe, gGeX, gIs, gIsNot, isB, aNil, aCons, vw, shv, tru, kb_int_int, kb_int_bool, kb_tup_tup, kb_lst_lst, kb_dk_lst, gMod, gFdiv, gMul, gPow, gIx, gSetL, setAtD, inM, gMax, gMin, toInts, maxL, minL, gEq_int, gNe_int, im_int, pLst, pTup, lim, dm, allDp, at_0, at_1, at_2, bd62, r_Tree_size, b_Tree_size, tD]
theorem e_Tree_links (L : List (Int × Int)) : r_Tree_links [(tD L, .sh)] = some (.lst (L.map pD), .dp, [(tD L, .sh)]) := by
  have el := lm_pD L
  simp [iRg1, iRg2, iLst, pLr, runG, outP, im, imm, immL, eB, eV, eS, eMv, eCp, frz, eNil, eCons, eLst, eTup, e2, e1, eCB, eIf, eMut, eMut0, eOn, isLst, eTmp, eCall, callR, takeA, convL, putA, rSl, rVl, caN, caC, eMake, mkR, rdL, sSeq, sIf, sRet, sRetN, sExpr, sSet, putS, sPar, sPar3, sAsg, goTup, goC, goN, unTup, sFor, iLstE, iRg1E, iRg2E, iS, sNext, sNever, tV, tAndE, tOrE, tNotE, tTruE, tOfE, asBE, bAnd, bOr, bNot, bTru, tOf, asB, p2, p1, pC, pVar, pAnd, pOr, pNot, pIf, pChain, pCalG, pCallK, permL, pMake, pMakeK, pMeth, pMeth0, pFld, pIsi, pIsC, isiC, tyN, pCB, gLen, gList, gInt, gAdd, gSub, gI, gC, gLt, gLe, gGt, gGe, gGeX, gIs, gIsNot, isB, aNil, aCons, vw, shv, tru, kb_int_int, kb_int_bool, kb_tup_tup, kb_lst_lst, kb_dk_lst, gMod, gFdiv, gMul, gPow, gIx, gSetL, setAtD, inM, gMax, gMin, toInts, maxL, minL, gEq_int, gNe_int, im_int, pLst, pTup, lim, dm, allDp, at_0, at_1, at_2, bd62, r_Tree_links, b_Tree_links, tD, el]
end L81
set_option Elab.async false
set_option linter.all false
set_option maxRecDepth 100000
set_option maxHeartbeats 4000000
namespace L81
open PySem G Tree0
theorem look_get : ∀ {bs : Bs} {i : Nat} {x : Int} {o : Option Int}, (od bs).Nodup → bs[i]? = some (x, o) → look (ks bs) (vs bs) (Sum.inl x) = some (enO o)
  | [], _, _, _, _, e => by simp at e
  | (k, v) :: bs, 0, x, o, _, e => by
    simp at e
    obtain ⟨rfl, rfl⟩ := e
    simp [ks, vs, look]
  | (k, v) :: bs, i + 1, x, o, nd, e => by
    simp only [od, List.map_cons, List.nodup_cons] at nd
    have e' : bs[i]? = some (x, o) := by simpa using e
    have hne : ¬ (Sum.inl k : L2.Key) = Sum.inl x := fun z => by
      have := Sum.inl.inj z
      subst this
      exact nd.1 (List.mem_map.mpr ⟨_, List.mem_of_getElem? e', rfl⟩)
    have ih := look_get (bs := bs) nd.2 e'
    simp only [ks, vs, List.map_cons, look, if_neg hne] at ih ⊢
    exact ih
/-- the way back -/
def BkCh (bs : Bs) : List Int → Prop
  | [] => False
  | [x] => ∃ i : Nat, bs[i]? = some (x, none)
  | x :: y :: l => (∃ i : Nat, bs[i]? = some (x, some y)) ∧ BkCh bs (y :: l)
theorem bk_path {A : Int → Int → Prop} {n : Nat} {s : Int} {bs : Bs} (sym : ∀ {x y}, A x y → A y x) (g : Good A n s bs) : ∀ (i : Nat) (x : Int) (o : Option Int), bs[i]? = some (x, o) → ∃ l, SP n A x s l ∧ BkCh bs l ∧ ∀ y ∈ l, ∃ j : Nat, j ≤ i ∧ ∃ oy, bs[j]? = some (y, oy) := by
  intro i
  induction i using Nat.strongRecOn with
  | ind i ih =>
    intro x o e
    by_cases hi : i = 0
    · subst hi
      rw [g.hd] at e
      cases e
      refine ⟨[s], ⟨rfl, rfl, trivial, by simp, fun y hy => ?_⟩, ⟨0, g.hd⟩, fun y hy => ?_⟩
      · simp at hy
        subst hy
        exact g.inV y (by simp only [od, List.mem_map]; exact ⟨_, List.mem_of_getElem? g.hd, rfl⟩)
      · simp at hy
        subst hy
        exact ⟨0, Nat.le_refl _, _, g.hd⟩
    · obtain ⟨j, c, oc, hj, ej, rfl, hA⟩ := g.bk i x o (by omega) e
      obtain ⟨l, h1, h2, h3⟩ := ih j hj c oc ej
      have hx : x ∉ l := fun z => by
        obtain ⟨k, hk, oy, ek⟩ := h3 x z
        have r1 := rk_get (l := od bs) (i := i) (v := x) g.nd (by simp [od, e])
        have r2 := rk_get (l := od bs) (i := k) (v := x) g.nd (by simp [od, ek])
        omega
      have hxV := g.inV x (by simp only [od, List.mem_map]; exact ⟨_, List.mem_of_getElem? e, rfl⟩)
      cases l with
      | nil => exact h2.elim
      | cons d l =>
        have hd := h1.hd
        simp at hd
        subst hd
        refine ⟨x :: d :: l, ⟨rfl, by rw [List.getLast?_cons_cons]; exact h1.lt, ⟨sym hA, h1.ch⟩, List.nodup_cons.mpr ⟨hx, h1.nd⟩, fun y hy => ?_⟩, ⟨⟨i, e⟩, h2⟩, fun y hy => ?_⟩
        · rcases List.mem_cons.mp hy with rfl | hy
          · exact hxV
          · exact h1.inV y hy
        · rcases List.mem_cons.mp hy with rfl | hy
          · exact ⟨i, Nat.le_refl _, _, e⟩
          · obtain ⟨k, hk, r⟩ := h3 y hy
            exact ⟨k, by omega, r⟩
def en4 (L o p : D × M) (bs : Bs) (fs : List Int) (spot : Option Int) : Env' := [some L, some o, some p, some (.dk (ks bs) (vs bs), .dp), some (.lst (fs.map .int), .dp), some (enO spot, .dp)]
theorem im_enO (o : Option Int) : imm (enO o) = true := by cases o <;> rfl
theorem isB_int (i : Int) : isB (.int i) .non = some false := by simp [isB]
theorem st_pb (L p : D × M) (s : Int) (bs : Bs) (fs : List Int) (y : Int) (o : Option Int) {i : Nat} (nd : (od bs).Nodup) (e : bs[i]? = some (y, o)) (hl : fs.length ≤ 1000) : b_path_between_1 (en4 L (.int s, .dp) p bs fs (some y)) = some (.nx, en4 L (.int s, .dp) p bs (fs ++ [y]) o) := by
  have hk := look_get nd e
  have hl' : fs.length < 16777216 := by omega
  have io := im_enO o
  have ey : enO (some y) = .int y := rfl
  simp [iRg1, iRg2, iLst, pLr, runG, outP, im, imm, immL, eB, eV, eS, eMv, eCp, frz, eNil, eCons, eLst, eTup, e2, e1, eCB, eIf, eMut, eMut0, eOn, isLst, eTmp, eCall, callR, takeA, convL, putA, rSl, rVl, caN, caC, eMake, mkR, rdL, sSeq, sIf, sRet, sRetN, sExpr, sSet, putS, sPar, sPar3, sAsg, goTup, goC, goN, unTup, sFor, iLstE, iRg1E, iRg2E, iS, sNext, sNever, tV, tAndE, tOrE, tNotE, tTruE, tOfE, asBE, bAnd, bOr, bNot, bTru, tOf, asB, p2, p1, pC, pVar, pAnd, pOr, pNot, pIf, pChain, pCalG, pCallK, permL, pMake, pMakeK, pMeth, pMeth0, pFld, pIsi, pIsC, isiC, tyN, pCB, gLen, gList, gInt, gAdd, gSub, gI, gC, gLt, gLe, gGt, gGe, gGeX, gIs, gIsNot, isB, aNil, aCons, vw, shv, tru, kb_int_int, kb_int_bool, kb_tup_tup, kb_lst_lst, kb_dk_lst, gMod, gFdiv, gMul, gPow, gIx, gSetL, setAtD, inM, gMax, gMin, toInts, maxL, minL, gEq_int, gNe_int, im_int, pLst, pTup, lim, dm, allDp, at_0, at_1, at_2, bd62, b_path_between_1, en4, gAppend, hl', isKey, hk, io, ey]
theorem t_pb (L p : D × M) (s : Int) (bs : Bs) (fs : List Int) (o : Option Int) : t_path_between_1 (en4 L (.int s, .dp) p bs fs o) = some (decide (o ≠ none ∧ o ≠ some s), en4 L (.int s, .dp) p bs fs o) := by
  cases o with
  | none => simp [iRg1, iRg2, iLst, pLr, runG, outP, im, imm, immL, eB, eV, eS, eMv, eCp, frz, eNil, eCons, eLst, eTup, e2, e1, eCB, eIf, eMut, eMut0, eOn, isLst, eTmp, eCall, callR, takeA, convL, putA, rSl, rVl, caN, caC, eMake, mkR, rdL, sSeq, sIf, sRet, sRetN, sExpr, sSet, putS, sPar, sPar3, sAsg, goTup, goC, goN, unTup, sFor, iLstE, iRg1E, iRg2E, iS, sNext, sNever, tV, tAndE, tOrE, tNotE, tTruE, tOfE, asBE, bAnd, bOr, bNot, bTru, tOf, asB, p2, p1, pC, pVar, pAnd, pOr, pNot, pIf, pChain, pCalG, pCallK, permL, pMake, pMakeK, pMeth, pMeth0, pFld, pIsi, pIsC, isiC, tyN, pCB, gLen, gList, gInt, gAdd, gSub, gI, gC, gLt, gLe, gGt, gGe, gGeX, gIs, gIsNot, isB, aNil, aCons, vw, shv, tru, kb_int_int, kb_int_bool, kb_tup_tup, kb_lst_lst, kb_dk_lst, gMod, gFdiv, gMul, gPow, gIx, gSetL, setAtD, inM, gMax, gMin, toInts, maxL, minL, gEq_int, gNe_int, im_int, pLst, pTup, lim, dm, allDp, at_0, at_1, at_2, bd62, t_path_between_1, en4, enO]
  | some y =>
    by_cases h : y = s
    · simp [iRg1, iRg2, iLst, pLr, runG, outP, im, imm, immL, eB, eV, eS, eMv, eCp, frz, eNil, eCons, eLst, eTup, e2, e1, eCB, eIf, eMut, eMut0, eOn, isLst, eTmp, eCall, callR, takeA, convL, putA, rSl, rVl, caN, caC, eMake, mkR, rdL, sSeq, sIf, sRet, sRetN, sExpr, sSet, putS, sPar, sPar3, sAsg, goTup, goC, goN, unTup, sFor, iLstE, iRg1E, iRg2E, iS, sNext, sNever, tV, tAndE, tOrE, tNotE, tTruE, tOfE, asBE, bAnd, bOr, bNot, bTru, tOf, asB, p2, p1, pC, pVar, pAnd, pOr, pNot, pIf, pChain, pCalG, pCallK, permL, pMake, pMakeK, pMeth, pMeth0, pFld, pIsi, pIsC, isiC, tyN, pCB, gLen, gList, gInt, gAdd, gSub, gI, gC, gLt, gLe, gGt, gGe, gGeX, gIs, gIsNot, isB, aNil, aCons, vw, shv, tru, kb_int_int, kb_int_bool, kb_tup_tup, kb_lst_lst, kb_dk_lst, gMod, gFdiv, gMul, gPow, gIx, gSetL, setAtD, inM, gMax, gMin, toInts, maxL, minL, gEq_int, gNe_int, im_int, pLst, pTup, lim, dm, allDp, at_0, at_1, at_2, bd62, t_path_between_1, en4, enO, isB_int, h]
    · simp [iRg1, iRg2, iLst, pLr, runG, outP, im, imm, immL, eB, eV, eS, eMv, eCp, frz, eNil, eCons, eLst, eTup, e2, e1, eCB, eIf, eMut, eMut0, eOn, isLst, eTmp, eCall, callR, takeA, convL, putA, rSl, rVl, caN, caC, eMake, mkR, rdL, sSeq, sIf, sRet, sRetN, sExpr, sSet, putS, sPar, sPar3, sAsg, goTup, goC, goN, unTup, sFor, iLstE, iRg1E, iRg2E, iS, sNext, sNever, tV, tAndE, tOrE, tNotE, tTruE, tOfE, asBE, bAnd, bOr, bNot, bTru, tOf, asB, p2, p1, pC, pVar, pAnd, pOr, pNot, pIf, pChain, pCalG, pCallK, permL, pMake, pMakeK, pMeth, pMeth0, pFld, pIsi, pIsC, isiC, tyN, pCB, gLen, gList, gInt, gAdd, gSub, gI, gC, gLt, gLe, gGt, gGe, gGeX, gIs, gIsNot, isB, aNil, aCons, vw, shv, tru, kb_int_int, kb_int_bool, kb_tup_tup, kb_lst_lst, kb_dk_lst, gMod, gFdiv, gMul, gPow, gIx, gSetL, setAtD, inM, gMax, gMin, toInts, maxL, minL, gEq_int, gNe_int, im_int, pLst, pTup, lim, dm, allDp, at_0, at_1, at_2, bd62, t_path_between_1, en4, enO, isB_int, h]
theorem wh_pb (L p : D × M) (s : Int) {bs : Bs} (nd : (od bs).Nodup) (rest : List Int) (y0 : Int) (hb : BkCh bs rest) (hnd : rest.Nodup) (hy : rest.head? = some y0) (hs : rest.getLast? = some s) (hl : rest.length ≤ 100) :
    ∃ o, sWhile t_path_between_1 b_path_between_1 (en4 L (.int s, .dp) p bs [] (some y0)) = some (.nx, en4 L (.int s, .dp) p bs rest.dropLast o) := by
  obtain ⟨fl, e', q, rfl, o, rfl⟩ := sWhile_inv (t := t_path_between_1) (b := b_path_between_1)
    (I := fun m e => ∃ fs rs y, e = en4 L (.int s, .dp) p bs fs (some y) ∧ BkCh bs rs ∧ rs.Nodup ∧ rs.head? = some y ∧ rs.getLast? = some s ∧ fs ++ rs.dropLast = rest.dropLast ∧ m = rs.length ∧ fs.length + rs.length ≤ 100)
    (F := fun fl e => fl = .nx ∧ ∃ o, e = en4 L (.int s, .dp) p bs rest.dropLast o)
    (fun m e ⟨fs, rs, y, he, hb, hnd, hy, hs, hf, hm, hl⟩ => by
      refine ⟨_, e, by rw [he]; exact t_pb _ _ _ _ _ _, fun hz => ?_, fun hz => ?_⟩
      · have : y = s := by simpa using hz
        subst this
        refine ⟨rfl, some y, ?_⟩
        cases rs with
        | nil => simp at hy
        | cons x rs =>
          simp at hy
          subst hy
          have := one_of hnd hs
          subst this
          rw [he]
          simp at hf
          rw [hf]
      · have hys : y ≠ s := by simpa using hz
        cases rs with
        | nil => simp at hy
        | cons x rs =>
          simp at hy
          subst hy
          cases rs with
          | nil =>
            simp at hs
            exact absurd hs hys
          | cons z rs =>
            obtain ⟨⟨i, ei⟩, hb2⟩ := hb
            refine ⟨.nx, _, by rw [he]; exact st_pb L p s bs fs x (some z) nd ei (by simp at hl; omega), (z :: rs).length, by rw [hm]; simp, _, z :: rs, z, rfl, hb2, (List.nodup_cons.mp hnd).2, rfl, by simpa [List.getLast?_cons_cons] using hs, ?_, rfl, ?_⟩
            · rw [← hf]
              simp
            · simp at hl ⊢
              omega)
    rest.length _ (by unfold fuel; omega) ⟨[], rest, y0, rfl, hb, hnd, hy, hs, rfl, rfl, by simpa using hl⟩
  exact ⟨o, q⟩
/-- the numbers within a way -/
def mid (p : List Int) : List Int := p.tail.dropLast
theorem mid_rev (p : List Int) : mid p.reverse = (mid p).reverse := by
  unfold mid
  rw [List.tail_reverse, List.dropLast_reverse, List.tail_dropLast]
theorem isort_perm_eq {a b : List Int} (h : a.Perm b) : isort a = isort b := by
  refine List.Perm.eq_of_pairwise (le := (· ≤ ·)) (fun x y _ _ h1 h2 => Int.le_antisymm h1 h2) (isort_sorted a) (isort_sorted b) ?_
  exact (isort_perm a).trans (h.trans (isort_perm b).symm)
theorem e_path_between {n : Nat} (L : List (Int × Int)) (T : Tr n (Adj L)) (hL : L.length ≤ 100) (hn : n ≤ 100) (s t : Int) (h0 : 0 ≤ s) (h1 : s < (n : Int)) (h2 : 0 ≤ t) (h3 : t < (n : Int)) :
    ∃ P, SP n (Adj L) s t P ∧ r_path_between [(.lst (L.map pD), .sh), (.int s, .dp), (.int t, .dp)] = some (.lst ((isort (mid P)).map .int), .dp, [(.lst (L.map pD), .sh), (.int s, .dp), (.int t, .dp)]) := by
  obtain ⟨bs, er, g, cl⟩ := e_reached L T hL hn s h0 h1
  have ht := all_found T g cl h0 h1 t h2 h3
  obtain ⟨i, hi⟩ := List.mem_iff_getElem?.mp ht
  have : ∃ o, bs[i]? = some (t, o) := by
    simp only [od, List.getElem?_map] at hi
    cases hb : bs[i]? with
    | none => rw [hb] at hi; simp at hi
    | some p =>
      rw [hb] at hi
      simp at hi
      exact ⟨p.2, by rw [← hi]⟩
  obtain ⟨o, eo⟩ := this
  obtain ⟨l, sp, hb, _⟩ := bk_path T.sym g i t o eo
  have hlen := sp.len
  have hk := look_get g.nd eo
  have io := im_enO o
  refine ⟨l.reverse, sp.rev T.sym, ?_⟩
  have em : isort (mid l.reverse) = isort (mid l) := by
    rw [mid_rev]
    exact isort_perm_eq (List.reverse_perm _)
  rw [em]
  cases l with
  | nil => exact hb.elim
  | cons x l =>
    have hx := sp.hd
    simp at hx
    subst hx
    cases l with
    | nil =>
      obtain ⟨k, ek⟩ := hb
      have r1 := rk_get (l := od bs) (i := i) (v := x) g.nd (by simp [od, eo])
      have r2 := rk_get (l := od bs) (i := k) (v := x) g.nd (by simp [od, ek])
      have : i = k := by omega
      subst this
      rw [eo] at ek
      cases ek
      have tw := t_pb (.lst (L.map pD), .sh) (.int x, .dp) s bs [] none
      have qw : sWhile t_path_between_1 b_path_between_1 (en4 (.lst (L.map pD), .sh) (.int s, .dp) (.int x, .dp) bs [] none) = some (.nx, en4 (.lst (L.map pD), .sh) (.int s, .dp) (.int x, .dp) bs [] none) := by
        refine sWhile_eq (n := 1) ?_ (by unfold fuel; omega)
        simp [whL, tw]
      have gs := gSorted_ints []
      simp only [en4, List.map_nil, enO] at qw gs hk io
      simp [iRg1, iRg2, iLst, pLr, runG, outP, im, imm, immL, eB, eV, eS, eMv, eCp, frz, eNil, eCons, eLst, eTup, e2, e1, eCB, eIf, eMut, eMut0, eOn, isLst, eTmp, eCall, callR, takeA, convL, putA, rSl, rVl, caN, caC, eMake, mkR, rdL, sSeq, sIf, sRet, sRetN, sExpr, sSet, putS, sPar, sPar3, sAsg, goTup, goC, goN, unTup, sFor, iLstE, iRg1E, iRg2E, iS, sNext, sNever, tV, tAndE, tOrE, tNotE, tTruE, tOfE, asBE, bAnd, bOr, bNot, bTru, tOf, asB, p2, p1, pC, pVar, pAnd, pOr, pNot, pIf, pChain, pCalG, pCallK, permL, pMake, pMakeK, pMeth, pMeth0, pFld, pIsi, pIsC, isiC, tyN, pCB, gLen, gList, gInt, gAdd, gSub, gI, gC, gLt, gLe, gGt, gGe, gGeX, gIs, gIsNot, isB, aNil, aCons, vw, shv, tru, kb_int_int, kb_int_bool, kb_tup_tup, kb_lst_lst, kb_dk_lst, gMod, gFdiv, gMul, gPow, gIx, gSetL, setAtD, inM, gMax, gMin, toInts, maxL, minL, gEq_int, gNe_int, im_int, pLst, pTup, lim, dm, allDp, at_0, at_1, at_2, bd62, r_path_between, b_path_between, er, isKey, hk, io, qw, gs, mid]
    | cons z l =>
      obtain ⟨⟨k, ek⟩, hb2⟩ := hb
      have r1 := rk_get (l := od bs) (i := i) (v := x) g.nd (by simp [od, eo])
      have r2 := rk_get (l := od bs) (i := k) (v := x) g.nd (by simp [od, ek])
      have : i = k := by omega
      subst this
      rw [eo] at ek
      cases ek
      obtain ⟨o', qw⟩ := wh_pb (.lst (L.map pD), .sh) (.int x, .dp) s g.nd (z :: l) z hb2 (List.nodup_cons.mp sp.nd).2 rfl (by have := sp.lt; simpa [List.getLast?_cons_cons] using this) (by simp at hlen ⊢; omega)
      have gs := gSorted_ints (z :: l).dropLast
      have em2 : mid (x :: z :: l) = (z :: l).dropLast := rfl
      rw [em2]
      generalize (z :: l).dropLast = q at *
      simp only [en4, List.map_nil, enO] at qw hk io
      simp [iRg1, iRg2, iLst, pLr, runG, outP, im, imm, immL, eB, eV, eS, eMv, eCp, frz, eNil, eCons, eLst, eTup, e2, e1, eCB, eIf, eMut, eMut0, eOn, isLst, eTmp, eCall, callR, takeA, convL, putA, rSl, rVl, caN, caC, eMake, mkR, rdL, sSeq, sIf, sRet, sRetN, sExpr, sSet, putS, sPar, sPar3, sAsg, goTup, goC, goN, unTup, sFor, iLstE, iRg1E, iRg2E, iS, sNext, sNever, tV, tAndE, tOrE, tNotE, tTruE, tOfE, asBE, bAnd, bOr, bNot, bTru, tOf, asB, p2, p1, pC, pVar, pAnd, pOr, pNot, pIf, pChain, pCalG, pCallK, permL, pMake, pMakeK, pMeth, pMeth0, pFld, pIsi, pIsC, isiC, tyN, pCB, gLen, gList, gInt, gAdd, gSub, gI, gC, gLt, gLe, gGt, gGe, gGeX, gIs, gIsNot, isB, aNil, aCons, vw, shv, tru, kb_int_int, kb_int_bool, kb_tup_tup, kb_lst_lst, kb_dk_lst, gMod, gFdiv, gMul, gPow, gIx, gSetL, setAtD, inM, gMax, gMin, toInts, maxL, minL, gEq_int, gNe_int, im_int, pLst, pTup, lim, dm, allDp, at_0, at_1, at_2, bd62, r_path_between, b_path_between, er, isKey, hk, io, qw, gs]
end L81
set_option Elab.async false
set_option linter.all false
set_option maxRecDepth 100000
set_option maxHeartbeats 4000000
namespace L81
open PySem G Tree0
theorem cut_mid {α : Type} (xs : List α) (h : xs ≠ []) : cutL xs (some 1) (some ((xs.length : Int) - 1)) = xs.tail.dropLast := by
  have hl : 0 < xs.length := List.length_pos_iff.mpr h
  unfold cutL
  have e1 : HT.sIx xs.length 0 (some 1) = 1 := by
    have := HT.sIx_nat xs.length 0 1
    rw [show ((1 : Nat) : Int) = 1 from rfl] at this
    rw [this]; omega
  have e2 : HT.sIx xs.length xs.length (some ((xs.length : Int) - 1)) = xs.length - 1 := by
    have := HT.sIx_nat xs.length xs.length (xs.length - 1)
    rw [show ((xs.length - 1 : Nat) : Int) = (xs.length : Int) - 1 by omega] at this
    rw [this]; omega
  rw [e1, e2, List.dropLast_eq_take, List.length_tail, List.drop_one]
abbrev iD (w : List Int) : D := .lst (w.map .int)
theorem cut_midI (w : List Int) (h : w ≠ []) : cutL (w.map D.int) (some 1) (some ((w.length : Int) - 1)) = (mid w).map D.int := by
  have := cut_mid (w.map D.int) (by simpa using h)
  rw [List.length_map] at this
  rw [this]
  simp [mid]
theorem lm_snoc (w : List Int) (f : Int) : lm (w.map D.int ++ [.int f]) = .dp := by
  have := lm_ints (w ++ [f])
  simpa using this
def en5 (L o p : D × M) (st : List (List Int)) (y4 y5 y6 y7 y8 : Option (D × M)) : Env' := [some L, some o, some p, some (.lst (st.map iD), .dp), y4, y5, y6, y7, y8]
theorem st_path_1 (L o p : D × M) (st : List (List Int)) (w : List Int) (b lo hi : Int) (x8 : Option (D × M)) (hs : st.length < lim) (hw : w.length ≤ 1000) :
    ∃ y8, b_l_path_1 (en5 L o p st (some (iD w, .dp)) (some (.int b, .dp)) (some (.int lo, .dp)) (some (.int hi, .dp)) x8) = some (.nx, en5 L o p (st ++ ext1 w b (lo, hi)) (some (iD w, .dp)) (some (.int b, .dp)) (some (.int lo, .dp)) (some (.int hi, .dp)) y8) := by
  have gi := gIn_ints b [lo, hi]
  have gn := gNotIn_ints (lo + hi - b) w
  have hl := lm_snoc w (lo + hi - b)
  have hs' : st.length < 16777216 := hs
  have hw' : w.length + 1 ≤ 16777216 := by omega
  simp only [List.map_cons, List.map_nil] at gi
  by_cases h1 : b = lo ∨ b = hi
  · have gd : (b ∈ [lo, hi]) = True := by simpa using h1
    by_cases h2 : lo + hi - b ∈ w
    · refine ⟨some (.int (lo + hi - b), .dp), ?_⟩
      have e0 : ext1 w b (lo, hi) = [] := by simp [ext1, h1, h2]
      rw [e0, List.append_nil]
      simp only [gd, h2, decide_true, Bool.not_true] at gi gn
      simp [iRg1, iRg2, iLst, pLr, runG, outP, im, imm, immL, eB, eV, eS, eMv, eCp, frz, eNil, eCons, eLst, eTup, e2, e1, eCB, eIf, eMut, eMut0, eOn, isLst, eTmp, eCall, callR, takeA, convL, putA, rSl, rVl, caN, caC, eMake, mkR, rdL, sSeq, sIf, sRet, sRetN, sExpr, sSet, putS, sPar, sPar3, sAsg, goTup, goC, goN, unTup, sFor, iLstE, iRg1E, iRg2E, iS, sNext, sNever, tV, tAndE, tOrE, tNotE, tTruE, tOfE, asBE, bAnd, bOr, bNot, bTru, tOf, asB, p2, p1, pC, pVar, pAnd, pOr, pNot, pIf, pChain, pCalG, pCallK, permL, pMake, pMakeK, pMeth, pMeth0, pFld, pIsi, pIsC, isiC, tyN, pCB, gLen, gList, gInt, gAdd, gSub, gI, gC, gLt, gLe, gGt, gGe, gGeX, gIs, gIsNot, isB, aNil, aCons, vw, shv, tru, kb_int_int, kb_int_bool, kb_tup_tup, kb_lst_lst, kb_dk_lst, gMod, gFdiv, gMul, gPow, gIx, gSetL, setAtD, inM, gMax, gMin, toInts, maxL, minL, gEq_int, gNe_int, im_int, pLst, pTup, lim, dm, allDp, at_0, at_1, at_2, bd62, b_l_path_1, en5, iD, gi, gn]
    · refine ⟨some (.int (lo + hi - b), .dp), ?_⟩
      have e0 : ext1 w b (lo, hi) = [w ++ [lo + hi - b]] := by simp [ext1, h1, h2]
      rw [e0]
      simp only [gd, h2, decide_true, decide_false, Bool.not_false] at gi gn
      simp [iRg1, iRg2, iLst, pLr, runG, outP, im, imm, immL, eB, eV, eS, eMv, eCp, frz, eNil, eCons, eLst, eTup, e2, e1, eCB, eIf, eMut, eMut0, eOn, isLst, eTmp, eCall, callR, takeA, convL, putA, rSl, rVl, caN, caC, eMake, mkR, rdL, sSeq, sIf, sRet, sRetN, sExpr, sSet, putS, sPar, sPar3, sAsg, goTup, goC, goN, unTup, sFor, iLstE, iRg1E, iRg2E, iS, sNext, sNever, tV, tAndE, tOrE, tNotE, tTruE, tOfE, asBE, bAnd, bOr, bNot, bTru, tOf, asB, p2, p1, pC, pVar, pAnd, pOr, pNot, pIf, pChain, pCalG, pCallK, permL, pMake, pMakeK, pMeth, pMeth0, pFld, pIsi, pIsC, isiC, tyN, pCB, gLen, gList, gInt, gAdd, gSub, gI, gC, gLt, gLe, gGt, gGe, gGeX, gIs, gIsNot, isB, aNil, aCons, vw, shv, tru, kb_int_int, kb_int_bool, kb_tup_tup, kb_lst_lst, kb_dk_lst, gMod, gFdiv, gMul, gPow, gIx, gSetL, setAtD, inM, gMax, gMin, toInts, maxL, minL, gEq_int, gNe_int, im_int, pLst, pTup, lim, dm, allDp, at_0, at_1, at_2, bd62, b_l_path_1, en5, iD, gi, gn, hl, gAppend, hs', hw']
  · refine ⟨x8, ?_⟩
    have gd : (b ∈ [lo, hi]) = False := by simpa using h1
    have e0 : ext1 w b (lo, hi) = [] := by simp [ext1, h1]
    rw [e0, List.append_nil]
    simp only [gd, decide_false] at gi
    simp [iRg1, iRg2, iLst, pLr, runG, outP, im, imm, immL, eB, eV, eS, eMv, eCp, frz, eNil, eCons, eLst, eTup, e2, e1, eCB, eIf, eMut, eMut0, eOn, isLst, eTmp, eCall, callR, takeA, convL, putA, rSl, rVl, caN, caC, eMake, mkR, rdL, sSeq, sIf, sRet, sRetN, sExpr, sSet, putS, sPar, sPar3, sAsg, goTup, goC, goN, unTup, sFor, iLstE, iRg1E, iRg2E, iS, sNext, sNever, tV, tAndE, tOrE, tNotE, tTruE, tOfE, asBE, bAnd, bOr, bNot, bTru, tOf, asB, p2, p1, pC, pVar, pAnd, pOr, pNot, pIf, pChain, pCalG, pCallK, permL, pMake, pMakeK, pMeth, pMeth0, pFld, pIsi, pIsC, isiC, tyN, pCB, gLen, gList, gInt, gAdd, gSub, gI, gC, gLt, gLe, gGt, gGe, gGeX, gIs, gIsNot, isB, aNil, aCons, vw, shv, tru, kb_int_int, kb_int_bool, kb_tup_tup, kb_lst_lst, kb_dk_lst, gMod, gFdiv, gMul, gPow, gIx, gSetL, setAtD, inM, gMax, gMin, toInts, maxL, minL, gEq_int, gNe_int, im_int, pLst, pTup, lim, dm, allDp, at_0, at_1, at_2, bd62, b_l_path_1, en5, iD, gi]
theorem ext1_len (w : List Int) (b : Int) (l : Int × Int) : (ext1 w b l).length ≤ 1 := by
  unfold ext1
  split
  · split <;> simp
  · simp
theorem lp_path (L o p : D × M) (w : List Int) (b : Int) (hw : w.length ≤ 1000) : ∀ (ls : List (Int × Int)) (st : List (List Int)) (x6 x7 x8 : Option (D × M)), st.length + ls.length ≤ 10000000 →
    ∃ y6 y7 y8, forL (goTup 2 (goC (putS [false, false, false] 6) (goC (putS [false, false, false] 7) goN))) b_l_path_1 (ls.map pD) (en5 L o p st (some (iD w, .dp)) (some (.int b, .dp)) x6 x7 x8) = some (.nx, en5 L o p (st ++ exts ls w b) (some (iD w, .dp)) (some (.int b, .dp)) y6 y7 y8)
  | [], st, x6, x7, x8, _ => ⟨x6, x7, x8, by simp [forL, exts]⟩
  | l :: ls, st, x6, x7, x8, h => by
    obtain ⟨lo, hi⟩ := l
    simp only [List.length_cons] at h
    obtain ⟨y8, q⟩ := st_path_1 L o p st w b lo hi x8 (by unfold lim; omega) hw
    have h1 := ext1_len w b (lo, hi)
    obtain ⟨z6, z7, z8, ih⟩ := lp_path L o p w b hw ls (st ++ ext1 w b (lo, hi)) (some (.int lo, .dp)) (some (.int hi, .dp)) y8 (by rw [List.length_append]; omega)
    refine ⟨z6, z7, z8, ?_⟩
    have eg : goTup 2 (goC (putS [false, false, false] 6) (goC (putS [false, false, false] 7) goN)) (pD (lo, hi), im (pD (lo, hi))) (en5 L o p st (some (iD w, .dp)) (some (.int b, .dp)) x6 x7 x8) = some (en5 L o p st (some (iD w, .dp)) (some (.int b, .dp)) (some (.int lo, .dp)) (some (.int hi, .dp)) x8) := by
      simp [iRg1, iRg2, iLst, pLr, runG, outP, im, imm, immL, eB, eV, eS, eMv, eCp, frz, eNil, eCons, eLst, eTup, e2, e1, eCB, eIf, eMut, eMut0, eOn, isLst, eTmp, eCall, callR, takeA, convL, putA, rSl, rVl, caN, caC, eMake, mkR, rdL, sSeq, sIf, sRet, sRetN, sExpr, sSet, putS, sPar, sPar3, sAsg, goTup, goC, goN, unTup, sFor, iLstE, iRg1E, iRg2E, iS, sNext, sNever, tV, tAndE, tOrE, tNotE, tTruE, tOfE, asBE, bAnd, bOr, bNot, bTru, tOf, asB, p2, p1, pC, pVar, pAnd, pOr, pNot, pIf, pChain, pCalG, pCallK, permL, pMake, pMakeK, pMeth, pMeth0, pFld, pIsi, pIsC, isiC, tyN, pCB, gLen, gList, gInt, gAdd, gSub, gI, gC, gLt, gLe, gGt, gGe, gGeX, gIs, gIsNot, isB, aNil, aCons, vw, shv, tru, kb_int_int, kb_int_bool, kb_tup_tup, kb_lst_lst, kb_dk_lst, gMod, gFdiv, gMul, gPow, gIx, gSetL, setAtD, inM, gMax, gMin, toInts, maxL, minL, gEq_int, gNe_int, im_int, pLst, pTup, lim, dm, allDp, at_0, at_1, at_2, bd62, pD, en5]
    simp only [List.map_cons, forL, eg, q, Option.bind_some]
    rw [ih]
    simp [exts]
theorem gPop_st (st : List (List Int)) (w : List Int) : gPop (.lst ((st ++ [w]).map iD), .dp) [] = some ((iD w, .dp), (.lst (st.map iD), .dp)) := by
  simp [gPop, outM]
theorem at_last (w : List Int) (b : Int) (h : w.getLast? = some b) : L2.atI (w.map D.int) ((w.length : Int) - 1) = some (.int b) := by
  have hne : w ≠ [] := by intro z; subst z; simp at h
  have hl : 0 < w.length := List.length_pos_iff.mpr hne
  rw [at_int w _ (by omega) (by omega), List.getD_eq_getElem?_getD, show ((w.length : Int) - 1).toNat = w.length - 1 by omega, ← List.getLast?_eq_getElem?, h]
  rfl
/-- the search ends -/
theorem st_path_end (ls : List (Int × Int)) (s t : Int) (st : List (List Int)) (w : List Int) (y4 y5 y6 y7 y8 : Option (D × M)) (hb : w.getLast? = some t) :
    b_l_path_2 (en5 (.lst (ls.map pD), .sh) (.int s, .dp) (.int t, .dp) (st ++ [w]) y4 y5 y6 y7 y8) = some (.rt (.lst ((isort (mid w)).map .int)) .dp, en5 (.lst (ls.map pD), .sh) (.int s, .dp) (.int t, .dp) st (some (iD w, .dp)) (some (.int t, .dp)) y6 y7 y8) := by
  have hne : w ≠ [] := by intro z; subst z; simp at hb
  have e1 := at_last w t hb
  have e2 := cut_midI w hne
  have e3 := lm_ints (mid w)
  have gs := gSorted_ints (mid w)
  have ep := gPop_st st w
  simp only [List.map_append, List.map_cons, List.map_nil, iD] at ep
  simp [iRg1, iRg2, iLst, pLr, runG, outP, im, imm, immL, eB, eV, eS, eMv, eCp, frz, eNil, eCons, eLst, eTup, e2, e1, eCB, eIf, eMut, eMut0, eOn, isLst, eTmp, eCall, callR, takeA, convL, putA, rSl, rVl, caN, caC, eMake, mkR, rdL, sSeq, sIf, sRet, sRetN, sExpr, sSet, putS, sPar, sPar3, sAsg, goTup, goC, goN, unTup, sFor, iLstE, iRg1E, iRg2E, iS, sNext, sNever, tV, tAndE, tOrE, tNotE, tTruE, tOfE, asBE, bAnd, bOr, bNot, bTru, tOf, asB, p2, p1, pC, pVar, pAnd, pOr, pNot, pIf, pChain, pCalG, pCallK, permL, pMake, pMakeK, pMeth, pMeth0, pFld, pIsi, pIsC, isiC, tyN, pCB, gLen, gList, gInt, gAdd, gSub, gI, gC, gLt, gLe, gGt, gGe, gGeX, gIs, gIsNot, isB, aNil, aCons, vw, shv, tru, kb_int_int, kb_int_bool, kb_tup_tup, kb_lst_lst, kb_dk_lst, gMod, gFdiv, gMul, gPow, gIx, gSetL, setAtD, inM, gMax, gMin, toInts, maxL, minL, gEq_int, gNe_int, im_int, pLst, pTup, lim, dm, allDp, at_0, at_1, at_2, bd62, b_l_path_2, en5, iD, ep, e1, pSl, oSome, gSl, e2, e3, gs]
theorem st_path_on (ls : List (Int × Int)) (s t b : Int) (st : List (List Int)) (w : List Int) (y4 y5 y6 y7 y8 : Option (D × M)) (hb : w.getLast? = some b) (hne : b ≠ t) (hw : w.length ≤ 1000) (hl : st.length + ls.length ≤ 10000000) :
    ∃ y6' y7' y8', b_l_path_2 (en5 (.lst (ls.map pD), .sh) (.int s, .dp) (.int t, .dp) (st ++ [w]) y4 y5 y6 y7 y8) = some (.nx, en5 (.lst (ls.map pD), .sh) (.int s, .dp) (.int t, .dp) (st ++ exts ls w b) (some (iD w, .dp)) (some (.int b, .dp)) y6' y7' y8') := by
  have e1 := at_last w b hb
  have ep := gPop_st st w
  obtain ⟨y6', y7', y8', q⟩ := lp_path (.lst (ls.map pD), .sh) (.int s, .dp) (.int t, .dp) w b hw ls st y6 y7 y8 hl
  refine ⟨y6', y7', y8', ?_⟩
  simp only [List.map_append, List.map_cons, List.map_nil, iD] at ep
  have s1 : sSet [false, false, false] 4 (eMut0 3 gPop) (en5 (.lst (ls.map pD), .sh) (.int s, .dp) (.int t, .dp) (st ++ [w]) y4 y5 y6 y7 y8) = some (.nx, en5 (.lst (ls.map pD), .sh) (.int s, .dp) (.int t, .dp) st (some (iD w, .dp)) y5 y6 y7 y8) := by
    simp [iRg1, iRg2, iLst, pLr, runG, outP, im, imm, immL, eB, eV, eS, eMv, eCp, frz, eNil, eCons, eLst, eTup, e2, e1, eCB, eIf, eMut, eMut0, eOn, isLst, eTmp, eCall, callR, takeA, convL, putA, rSl, rVl, caN, caC, eMake, mkR, rdL, sSeq, sIf, sRet, sRetN, sExpr, sSet, putS, sPar, sPar3, sAsg, goTup, goC, goN, unTup, sFor, iLstE, iRg1E, iRg2E, iS, sNext, sNever, tV, tAndE, tOrE, tNotE, tTruE, tOfE, asBE, bAnd, bOr, bNot, bTru, tOf, asB, p2, p1, pC, pVar, pAnd, pOr, pNot, pIf, pChain, pCalG, pCallK, permL, pMake, pMakeK, pMeth, pMeth0, pFld, pIsi, pIsC, isiC, tyN, pCB, gLen, gList, gInt, gAdd, gSub, gI, gC, gLt, gLe, gGt, gGe, gGeX, gIs, gIsNot, isB, aNil, aCons, vw, shv, tru, kb_int_int, kb_int_bool, kb_tup_tup, kb_lst_lst, kb_dk_lst, gMod, gFdiv, gMul, gPow, gIx, gSetL, setAtD, inM, gMax, gMin, toInts, maxL, minL, gEq_int, gNe_int, im_int, pLst, pTup, lim, dm, allDp, at_0, at_1, at_2, bd62, en5, iD, ep]
  have s2 : sSet [false, false, false] 5 (eB (p2 gIx (pVar 4) (p2 gSub (pCB gLen (aCons (pVar 4) aNil)) (pC (.int 1))))) (en5 (.lst (ls.map pD), .sh) (.int s, .dp) (.int t, .dp) st (some (iD w, .dp)) y5 y6 y7 y8) = some (.nx, en5 (.lst (ls.map pD), .sh) (.int s, .dp) (.int t, .dp) st (some (iD w, .dp)) (some (.int b, .dp)) y6 y7 y8) := by
    simp [iRg1, iRg2, iLst, pLr, runG, outP, im, imm, immL, eB, eV, eS, eMv, eCp, frz, eNil, eCons, eLst, eTup, e2, e1, eCB, eIf, eMut, eMut0, eOn, isLst, eTmp, eCall, callR, takeA, convL, putA, rSl, rVl, caN, caC, eMake, mkR, rdL, sSeq, sIf, sRet, sRetN, sExpr, sSet, putS, sPar, sPar3, sAsg, goTup, goC, goN, unTup, sFor, iLstE, iRg1E, iRg2E, iS, sNext, sNever, tV, tAndE, tOrE, tNotE, tTruE, tOfE, asBE, bAnd, bOr, bNot, bTru, tOf, asB, p2, p1, pC, pVar, pAnd, pOr, pNot, pIf, pChain, pCalG, pCallK, permL, pMake, pMakeK, pMeth, pMeth0, pFld, pIsi, pIsC, isiC, tyN, pCB, gLen, gList, gInt, gAdd, gSub, gI, gC, gLt, gLe, gGt, gGe, gGeX, gIs, gIsNot, isB, aNil, aCons, vw, shv, tru, kb_int_int, kb_int_bool, kb_tup_tup, kb_lst_lst, kb_dk_lst, gMod, gFdiv, gMul, gPow, gIx, gSetL, setAtD, inM, gMax, gMin, toInts, maxL, minL, gEq_int, gNe_int, im_int, pLst, pTup, lim, dm, allDp, at_0, at_1, at_2, bd62, en5, iD, e1]
  unfold b_l_path_2
  rw [sSeq_nx s1, sSeq_nx s2, sSeq_nx (e1 := en5 (.lst (ls.map pD), .sh) (.int s, .dp) (.int t, .dp) st (some (iD w, .dp)) (some (.int b, .dp)) y6 y7 y8) (by simp [iRg1, iRg2, iLst, pLr, runG, outP, im, imm, immL, eB, eV, eS, eMv, eCp, frz, eNil, eCons, eLst, eTup, e2, e1, eCB, eIf, eMut, eMut0, eOn, isLst, eTmp, eCall, callR, takeA, convL, putA, rSl, rVl, caN, caC, eMake, mkR, rdL, sSeq, sIf, sRet, sRetN, sExpr, sSet, putS, sPar, sPar3, sAsg, goTup, goC, goN, unTup, sFor, iLstE, iRg1E, iRg2E, iS, sNext, sNever, tV, tAndE, tOrE, tNotE, tTruE, tOfE, asBE, bAnd, bOr, bNot, bTru, tOf, asB, p2, p1, pC, pVar, pAnd, pOr, pNot, pIf, pChain, pCalG, pCallK, permL, pMake, pMakeK, pMeth, pMeth0, pFld, pIsi, pIsC, isiC, tyN, pCB, gLen, gList, gInt, gAdd, gSub, gI, gC, gLt, gLe, gGt, gGe, gGeX, gIs, gIsNot, isB, aNil, aCons, vw, shv, tru, kb_int_int, kb_int_bool, kb_tup_tup, kb_lst_lst, kb_dk_lst, gMod, gFdiv, gMul, gPow, gIx, gSetL, setAtD, inM, gMax, gMin, toInts, maxL, minL, gEq_int, gNe_int, im_int, pLst, pTup, lim, dm, allDp, at_0, at_1, at_2, bd62, en5, iD, hne])]
  refine sFor_of (e1 := en5 (.lst (ls.map pD), .sh) (.int s, .dp) (.int t, .dp) st (some (iD w, .dp)) (some (.int b, .dp)) y6 y7 y8) (ds := ls.map pD) ?_ q
  simp [iRg1, iRg2, iLst, pLr, runG, outP, im, imm, immL, eB, eV, eS, eMv, eCp, frz, eNil, eCons, eLst, eTup, e2, e1, eCB, eIf, eMut, eMut0, eOn, isLst, eTmp, eCall, callR, takeA, convL, putA, rSl, rVl, caN, caC, eMake, mkR, rdL, sSeq, sIf, sRet, sRetN, sExpr, sSet, putS, sPar, sPar3, sAsg, goTup, goC, goN, unTup, sFor, iLstE, iRg1E, iRg2E, iS, sNext, sNever, tV, tAndE, tOrE, tNotE, tTruE, tOfE, asBE, bAnd, bOr, bNot, bTru, tOf, asB, p2, p1, pC, pVar, pAnd, pOr, pNot, pIf, pChain, pCalG, pCallK, permL, pMake, pMakeK, pMeth, pMeth0, pFld, pIsi, pIsC, isiC, tyN, pCB, gLen, gList, gInt, gAdd, gSub, gI, gC, gLt, gLe, gGt, gGe, gGeX, gIs, gIsNot, isB, aNil, aCons, vw, shv, tru, kb_int_int, kb_int_bool, kb_tup_tup, kb_lst_lst, kb_dk_lst, gMod, gFdiv, gMul, gPow, gIx, gSetL, setAtD, inM, gMax, gMin, toInts, maxL, minL, gEq_int, gNe_int, im_int, pLst, pTup, lim, dm, allDp, at_0, at_1, at_2, bd62, en5, iD]
theorem t_path (L o p : D × M) (st : List (List Int)) (y4 y5 y6 y7 y8 : Option (D × M)) : t_l_path_1 (en5 L o p st y4 y5 y6 y7 y8) = some (decide (st ≠ []), en5 L o p st y4 y5 y6 y7 y8) := by
  have e : gNe (.lst (st.map iD)) (.lst []) = some (.bl (decide (st ≠ [])), .dp) := gNe_en (α := List (List Int)) st []
  simp [iRg1, iRg2, iLst, pLr, runG, outP, im, imm, immL, eB, eV, eS, eMv, eCp, frz, eNil, eCons, eLst, eTup, e2, e1, eCB, eIf, eMut, eMut0, eOn, isLst, eTmp, eCall, callR, takeA, convL, putA, rSl, rVl, caN, caC, eMake, mkR, rdL, sSeq, sIf, sRet, sRetN, sExpr, sSet, putS, sPar, sPar3, sAsg, goTup, goC, goN, unTup, sFor, iLstE, iRg1E, iRg2E, iS, sNext, sNever, tV, tAndE, tOrE, tNotE, tTruE, tOfE, asBE, bAnd, bOr, bNot, bTru, tOf, asB, p2, p1, pC, pVar, pAnd, pOr, pNot, pIf, pChain, pCalG, pCallK, permL, pMake, pMakeK, pMeth, pMeth0, pFld, pIsi, pIsC, isiC, tyN, pCB, gLen, gList, gInt, gAdd, gSub, gI, gC, gLt, gLe, gGt, gGe, gGeX, gIs, gIsNot, isB, aNil, aCons, vw, shv, tru, kb_int_int, kb_int_bool, kb_tup_tup, kb_lst_lst, kb_dk_lst, gMod, gFdiv, gMul, gPow, gIx, gSetL, setAtD, inM, gMax, gMin, toInts, maxL, minL, gEq_int, gNe_int, im_int, pLst, pTup, lim, dm, allDp, at_0, at_1, at_2, bd62, t_l_path_1, en5, e]
theorem len_mea (k : Nat) : ∀ st : List (List Int), st.length ≤ mea k st
  | [] => by simp
  | w :: st => by
    have h := len_mea k st
    have : 0 < (k + 1) ^ (k + 1 - w.length) := Nat.pow_pos (by omega)
    simp only [mea, List.map_cons, List.sum_cons, List.length_cons] at h ⊢
    omega
theorem e_l_path {n : Nat} (L : List (Int × Int)) (T : Tr n (Adj L)) (hL : L.length + 1 = n) (hn : n ≤ 8) (s t : Int) (h0 : 0 ≤ s) (h1 : s < (n : Int)) {P : List Int} (hP : SP n (Adj L) s t P) :
    r_l_path [(.lst (L.map pD), .sh), (.int s, .dp), (.int t, .dp)] = some (.lst ((isort (mid P)).map .int), .dp, [(.lst (L.map pD), .sh), (.int s, .dp), (.int t, .dp)]) := by
  have hm8 : (L.length + 1) ^ (L.length + 1 - 1) ≤ 2097152 := by
    have h8 : L.length + 1 ≤ 8 := by omega
    calc (L.length + 1) ^ (L.length + 1 - 1) ≤ 8 ^ (L.length + 1 - 1) := Nat.pow_le_pow_left h8 _
      _ ≤ 8 ^ 7 := Nat.pow_le_pow_right (by decide) (by omega)
      _ = 2097152 := by decide
  have hsP : ∃ r, P = s :: r := by
    have := hP.hd
    cases P with
    | nil => simp at this
    | cons x r =>
      simp at this
      subst this
      exact ⟨r, rfl⟩
  obtain ⟨r, hr⟩ := hsP
  obtain ⟨fl, e', q, rfl, st, y4, y5, y6, y7, y8, rfl⟩ := sWhile_inv (t := t_l_path_1) (b := b_l_path_2)
    (I := fun m e => ∃ st y4 y5 y6 y7 y8, e = en5 (.lst (L.map pD), .sh) (.int s, .dp) (.int t, .dp) st y4 y5 y6 y7 y8 ∧ Stk n (Adj L) s P st ∧ m = mea L.length st ∧ m ≤ 2097152)
    (F := fun fl e => fl = .rt (.lst ((isort (mid P)).map .int)) .dp ∧ ∃ st y4 y5 y6 y7 y8, e = en5 (.lst (L.map pD), .sh) (.int s, .dp) (.int t, .dp) st y4 y5 y6 y7 y8)
    (fun m e ⟨st, y4, y5, y6, y7, y8, he, hk, hm, hm2⟩ => by
      refine ⟨_, e, by rw [he]; exact t_path _ _ _ _ _ _ _ _ _, fun hz => ?_, fun hz => ?_⟩
      · have : st = [] := by simpa using hz
        obtain ⟨w, hw, _⟩ := hk.pre
        rw [this] at hw
        simp at hw
      · have hne : st ≠ [] := by simpa using hz
        obtain ⟨st', w, rfl⟩ : ∃ st' w, st = st' ++ [w] := ⟨st.dropLast, st.getLast hne, (List.dropLast_concat_getLast hne).symm⟩
        obtain ⟨b, hb⟩ := hk.sp w (List.mem_append_right _ (by simp))
        have hwl := hb.len
        by_cases hbt : b = t
        · subst hbt
          have := hb.eq T hP
          subst this
          exact ⟨.rt (.lst ((isort (mid w)).map .int)) .dp, _, by rw [he]; exact st_path_end L s b st' w y4 y5 y6 y7 y8 hb.lt, rfl, st', _, _, _, _, _, rfl⟩
        · have hlm := len_mea L.length (st' ++ [w])
          rw [List.length_append] at hlm
          obtain ⟨y6', y7', y8', q⟩ := st_path_on L s t b st' w y4 y5 y6 y7 y8 hb.lt hbt (by omega) (by omega)
          have hk2 := hk.step T (fun x y => Iff.rfl) hP hb hbt
          have hlt : mea L.length (st' ++ exts L w b) < m := by
            rw [hm, mea_app, mea_app]
            have := mea_exts hb hL (fun q hq => hk2.sp q (List.mem_append_right _ hq))
            have e9 : mea L.length [w] = (L.length + 1) ^ (L.length + 1 - w.length) := by simp [mea]
            omega
          exact ⟨.nx, _, by rw [he]; exact q, _, hlt, st' ++ exts L w b, _, _, _, _, _, rfl, hk2, rfl, by omega⟩)
    (mea L.length [[s]]) _ (by have : mea L.length [[s]] = (L.length + 1) ^ (L.length + 1 - 1) := by simp [mea]
                               unfold fuel; omega) ⟨[[s]], none, none, none, none, none, rfl, ⟨fun w hw => ⟨s, by
        simp at hw
        subst hw
        exact ⟨rfl, rfl, trivial, by simp, fun x hx => by simp at hx; subst hx; exact ⟨h0, h1⟩⟩⟩, [s], by simp, hr ▸ ⟨r, rfl⟩⟩, rfl, by
        have : mea L.length [[s]] = (L.length + 1) ^ (L.length + 1 - 1) := by simp [mea]
        omega⟩
  simp only [en5, List.map_cons, List.map_nil, iD] at q
  simp [iRg1, iRg2, iLst, pLr, runG, outP, im, imm, immL, eB, eV, eS, eMv, eCp, frz, eNil, eCons, eLst, eTup, e2, e1, eCB, eIf, eMut, eMut0, eOn, isLst, eTmp, eCall, callR, takeA, convL, putA, rSl, rVl, caN, caC, eMake, mkR, rdL, sSeq, sIf, sRet, sRetN, sExpr, sSet, putS, sPar, sPar3, sAsg, goTup, goC, goN, unTup, sFor, iLstE, iRg1E, iRg2E, iS, sNext, sNever, tV, tAndE, tOrE, tNotE, tTruE, tOfE, asBE, bAnd, bOr, bNot, bTru, tOf, asB, p2, p1, pC, pVar, pAnd, pOr, pNot, pIf, pChain, pCalG, pCallK, permL, pMake, pMakeK, pMeth, pMeth0, pFld, pIsi, pIsC, isiC, tyN, pCB, gLen, gList, gInt, gAdd, gSub, gI, gC, gLt, gLe, gGt, gGe, gGeX, gIs, gIsNot, isB, aNil, aCons, vw, shv, tru, kb_int_int, kb_int_bool, kb_tup_tup, kb_lst_lst, kb_dk_lst, gMod, gFdiv, gMul, gPow, gIx, gSetL, setAtD, inM, gMax, gMin, toInts, maxL, minL, gEq_int, gNe_int, im_int, pLst, pTup, lim, dm, allDp, at_0, at_1, at_2, bd62, r_l_path, b_l_path, q]
theorem e_check_tree (L : List (Int × Int)) : r_check_tree [(tD L, .sh)] = some (.non, .dp, [(tD L, .sh)]) := by
  simp [iRg1, iRg2, iLst, pLr, runG, outP, im, imm, immL, eB, eV, eS, eMv, eCp, frz, eNil, eCons, eLst, eTup, e2, e1, eCB, eIf, eMut, eMut0, eOn, isLst, eTmp, eCall, callR, takeA, convL, putA, rSl, rVl, caN, caC, eMake, mkR, rdL, sSeq, sIf, sRet, sRetN, sExpr, sSet, putS, sPar, sPar3, sAsg, goTup, goC, goN, unTup, sFor, iLstE, iRg1E, iRg2E, iS, sNext, sNever, tV, tAndE, tOrE, tNotE, tTruE, tOfE, asBE, bAnd, bOr, bNot, bTru, tOf, asB, p2, p1, pC, pVar, pAnd, pOr, pNot, pIf, pChain, pCalG, pCallK, permL, pMake, pMakeK, pMeth, pMeth0, pFld, pIsi, pIsC, isiC, tyN, pCB, gLen, gList, gInt, gAdd, gSub, gI, gC, gLt, gLe, gGt, gGe, gGeX, gIs, gIsNot, isB, aNil, aCons, vw, shv, tru, kb_int_int, kb_int_bool, kb_tup_tup, kb_lst_lst, kb_dk_lst, gMod, gFdiv, gMul, gPow, gIx, gSetL, setAtD, inM, gMax, gMin, toInts, maxL, minL, gEq_int, gNe_int, im_int, pLst, pTup, lim, dm, allDp, at_0, at_1, at_2, bd62, r_check_tree, b_check_tree, tD]
theorem e_between {n : Nat} (L : List (Int × Int)) (T : Tr n (Adj L)) (hL : L.length + 1 = n) (hn : n ≤ 100) (s t : Int) (h0 : 0 ≤ s) (h1 : s < (n : Int)) (h2 : 0 ≤ t) (h3 : t < (n : Int)) :
    ∃ P, SP n (Adj L) s t P ∧ r_between [(tD L, .sh), (.int s, .dp), (.int t, .dp)] = some (.lst ((isort (mid P)).map .int), .dp, [(tD L, .sh), (.int s, .dp), (.int t, .dp)]) := by
  obtain ⟨P, hP, e⟩ := e_path_between L T (by omega) hn s t h0 h1 h2 h3
  refine ⟨P, hP, ?_⟩
  have c0 := e_check_tree L
  have c1 := e_check_number s 0 (L.length : Int) h0 (by omega)
  have c2 := e_check_number t 0 (L.length : Int) h2 (by omega)
  have c3 := e_Tree_size L
  have c4 := e_Tree_links L
  unfold tD at c0 c3 c4 ⊢
  simp [iRg1, iRg2, iLst, pLr, runG, outP, im, imm, immL, eB, eV, eS, eMv, eCp, frz, eNil, eCons, eLst, eTup, e2, e1, eCB, eIf, eMut, eMut0, eOn, isLst, eTmp, eCall, callR, takeA, convL, putA, rSl, rVl, caN, caC, eMake, mkR, rdL, sSeq, sIf, sRet, sRetN, sExpr, sSet, putS, sPar, sPar3, sAsg, goTup, goC, goN, unTup, sFor, iLstE, iRg1E, iRg2E, iS, sNext, sNever, tV, tAndE, tOrE, tNotE, tTruE, tOfE, asBE, bAnd, bOr, bNot, bTru, tOf, asB, p2, p1, pC, pVar, pAnd, pOr, pNot, pIf, pChain, pCalG, pCallK, permL, pMake, pMakeK, pMeth, pMeth0, pFld, pIsi, pIsC, isiC, tyN, pCB, gLen, gList, gInt, gAdd, gSub, gI, gC, gLt, gLe, gGt, gGe, gGeX, gIs, gIsNot, isB, aNil, aCons, vw, shv, tru, kb_int_int, kb_int_bool, kb_tup_tup, kb_lst_lst, kb_dk_lst, gMod, gFdiv, gMul, gPow, gIx, gSetL, setAtD, inM, gMax, gMin, toInts, maxL, minL, gEq_int, gNe_int, im_int, pLst, pTup, lim, dm, allDp, at_0, at_1, at_2, bd62, r_between, b_between, c0, c1, c2, c3, c4, e]
end L81
set_option Elab.async false
set_option linter.all false
set_option maxRecDepth 100000
set_option maxHeartbeats 4000000
namespace L81
open PySem G Tree0
def chL (n : Nat) : List (Int × Int) := (List.range (n - 1)).map fun (k : Nat) => ((k : Int), (k : Int) + 1)
theorem e_chain {n : Nat} (h1 : 1 ≤ n) (h8 : n ≤ 8) : r_chain [(.int (n : Int), .dp)] = some (tD (chL n), .dp, [(.int (n : Int), .dp)]) := by
  have : n = 1 ∨ n = 2 ∨ n = 3 ∨ n = 4 ∨ n = 5 ∨ n = 6 ∨ n = 7 ∨ n = 8 := by omega
  rcases this with rfl | rfl | rfl | rfl | rfl | rfl | rfl | rfl <;> exact run_is (by decide +kernel)
theorem e_Tree_eq (L L' : List (Int × Int)) : r_Tree_eq [(tD L, .sh), (tD L', .sh)] = some (.bl (decide (L = L')), .dp, [(tD L, .sh), (tD L', .sh)]) := by
  have e := gEq_pairs L L'
  simp [iRg1, iRg2, iLst, pLr, runG, outP, im, imm, immL, eB, eV, eS, eMv, eCp, frz, eNil, eCons, eLst, eTup, e2, e1, eCB, eIf, eMut, eMut0, eOn, isLst, eTmp, eCall, callR, takeA, convL, putA, rSl, rVl, caN, caC, eMake, mkR, rdL, sSeq, sIf, sRet, sRetN, sExpr, sSet, putS, sPar, sPar3, sAsg, goTup, goC, goN, unTup, sFor, iLstE, iRg1E, iRg2E, iS, sNext, sNever, tV, tAndE, tOrE, tNotE, tTruE, tOfE, asBE, bAnd, bOr, bNot, bTru, tOf, asB, p2, p1, pC, pVar, pAnd, pOr, pNot, pIf, pChain, pCalG, pCallK, permL, pMake, pMakeK, pMeth, pMeth0, pFld, pIsi, pIsC, isiC, tyN, pCB, gLen, gList, gInt, gAdd, gSub, gI, gC, gLt, gLe, gGt, gGe, gGeX, gIs, gIsNot, isB, aNil, aCons, vw, shv, tru, kb_int_int, kb_int_bool, kb_tup_tup, kb_lst_lst, kb_dk_lst, gMod, gFdiv, gMul, gPow, gIx, gSetL, setAtD, inM, gMax, gMin, toInts, maxL, minL, gEq_int, gNe_int, im_int, pLst, pTup, lim, dm, allDp, at_0, at_1, at_2, bd62, r_Tree_eq, b_Tree_eq, tD, e]
theorem e_Tree_eqL (L L' : List (Int × Int)) : r_Tree_eq [(tD L, .sh), (.lst (L'.map pD), .sh)] = some (.bl false, .dp, [(tD L, .sh), (.lst (L'.map pD), .sh)]) := by
  simp [iRg1, iRg2, iLst, pLr, runG, outP, im, imm, immL, eB, eV, eS, eMv, eCp, frz, eNil, eCons, eLst, eTup, e2, e1, eCB, eIf, eMut, eMut0, eOn, isLst, eTmp, eCall, callR, takeA, convL, putA, rSl, rVl, caN, caC, eMake, mkR, rdL, sSeq, sIf, sRet, sRetN, sExpr, sSet, putS, sPar, sPar3, sAsg, goTup, goC, goN, unTup, sFor, iLstE, iRg1E, iRg2E, iS, sNext, sNever, tV, tAndE, tOrE, tNotE, tTruE, tOfE, asBE, bAnd, bOr, bNot, bTru, tOf, asB, p2, p1, pC, pVar, pAnd, pOr, pNot, pIf, pChain, pCalG, pCallK, permL, pMake, pMakeK, pMeth, pMeth0, pFld, pIsi, pIsC, isiC, tyN, pCB, gLen, gList, gInt, gAdd, gSub, gI, gC, gLt, gLe, gGt, gGe, gGeX, gIs, gIsNot, isB, aNil, aCons, vw, shv, tru, kb_int_int, kb_int_bool, kb_tup_tup, kb_lst_lst, kb_dk_lst, gMod, gFdiv, gMul, gPow, gIx, gSetL, setAtD, inM, gMax, gMin, toInts, maxL, minL, gEq_int, gNe_int, im_int, pLst, pTup, lim, dm, allDp, at_0, at_1, at_2, bd62, r_Tree_eq, b_Tree_eq, tD]
def en8 (L : List (Int × Int)) (n : Int) (g : D × M) (y4 y5 y6 : Option (D × M)) : Env' := [some (.lst (L.map pD), .sh), some g, some (tD L, .dp), some (.int n, .dp), y4, y5, y6, none, none]
theorem st_tr_1 {n : Nat} (L : List (Int × Int)) (T : Tr n (Adj L)) (hL : L.length + 1 = n) (hn : n ≤ 8) (g : D × M) (s t : Int) (h0 : 0 ≤ s) (h1 : s < (n : Int)) (h2 : 0 ≤ t) (h3 : t < (n : Int)) (y6 : Option (D × M)) :
    ∃ z6, b_l_tree_right_1 (en8 L n g (some (.int s, .dp)) (some (.int t, .dp)) y6) = some (.nx, en8 L n g (some (.int s, .dp)) (some (.int t, .dp)) z6) := by
  obtain ⟨P, hP, e1⟩ := e_between L T hL (by omega) s t h0 h1 h2 h3
  have e2 := e_l_path L T hL hn s t h0 h1 hP
  have hpl := hP.len
  have hl : (isort (mid P)).length < 16777216 := by
    rw [(isort_perm _).length_eq]
    have : (mid P).length ≤ P.length := by simp [mid]; omega
    omega
  generalize isort (mid P) = q at *
  have gn : gNe (.lst (q.map D.int)) (.lst (q.map D.int)) = some (.bl false, .dp) := by
    rw [gNe_ints]; simp
  refine ⟨some (.lst (q.map .int ++ [.int s]), .dp), ?_⟩
  unfold tD at e1
  simp [iRg1, iRg2, iLst, pLr, runG, outP, im, imm, immL, eB, eV, eS, eMv, eCp, frz, eNil, eCons, eLst, eTup, e2, e1, eCB, eIf, eMut, eMut0, eOn, isLst, eTmp, eCall, callR, takeA, convL, putA, rSl, rVl, caN, caC, eMake, mkR, rdL, sSeq, sIf, sRet, sRetN, sExpr, sSet, putS, sPar, sPar3, sAsg, goTup, goC, goN, unTup, sFor, iLstE, iRg1E, iRg2E, iS, sNext, sNever, tV, tAndE, tOrE, tNotE, tTruE, tOfE, asBE, bAnd, bOr, bNot, bTru, tOf, asB, p2, p1, pC, pVar, pAnd, pOr, pNot, pIf, pChain, pCalG, pCallK, permL, pMake, pMakeK, pMeth, pMeth0, pFld, pIsi, pIsC, isiC, tyN, pCB, gLen, gList, gInt, gAdd, gSub, gI, gC, gLt, gLe, gGt, gGe, gGeX, gIs, gIsNot, isB, aNil, aCons, vw, shv, tru, kb_int_int, kb_int_bool, kb_tup_tup, kb_lst_lst, kb_dk_lst, gMod, gFdiv, gMul, gPow, gIx, gSetL, setAtD, inM, gMax, gMin, toInts, maxL, minL, gEq_int, gNe_int, im_int, pLst, pTup, lim, dm, allDp, at_0, at_1, at_2, bd62, b_l_tree_right_1, en8, tD, e1, e2, gn, gAppend, hl]
theorem lp_tr_1 {n : Nat} (L : List (Int × Int)) (T : Tr n (Adj L)) (hL : L.length + 1 = n) (hn : n ≤ 8) (g : D × M) (s : Int) (h0 : 0 ≤ s) (h1 : s < (n : Int)) (y5 y6 : Option (D × M)) :
    ∃ z5 z6, b_l_tree_right_2 (en8 L n g (some (.int s, .dp)) y5 y6) = some (.nx, en8 L n g (some (.int s, .dp)) z5 z6) := by
  obtain ⟨e', q, z5, z6, rfl⟩ := forL_inv (g := putS [false] 5) (b := b_l_tree_right_1) (ds := rgD 0 n)
    (I := fun j e => ∃ z5 z6, e = en8 L n g (some (.int s, .dp)) z5 z6)
    (fun j d e hd ⟨z5, z6, he⟩ => by
      have hj : j < ((n : Int) - 0).toNat := by
        have := (List.getElem?_eq_some_iff.mp hd).1
        rwa [rgD_length] at this
      rw [rgD_get hj] at hd
      cases hd
      obtain ⟨w6, q⟩ := st_tr_1 L T hL hn g s (0 + (j : Int)) h0 h1 (by omega) (by omega) z6
      subst he
      exact ⟨_, _, by simp [putS, en8, im_int], q, _, _, rfl⟩)
    (en8 L n g (some (.int s, .dp)) y5 y6) ⟨_, _, rfl⟩
  refine ⟨z5, z6, ?_⟩
  unfold b_l_tree_right_2
  refine sFor_of ?_ q
  have hb : n < 4611686018427387904 := by omega
  simp [iRg1, iRg2, iLst, pLr, runG, outP, im, imm, immL, eB, eV, eS, eMv, eCp, frz, eNil, eCons, eLst, eTup, e2, e1, eCB, eIf, eMut, eMut0, eOn, isLst, eTmp, eCall, callR, takeA, convL, putA, rSl, rVl, caN, caC, eMake, mkR, rdL, sSeq, sIf, sRet, sRetN, sExpr, sSet, putS, sPar, sPar3, sAsg, goTup, goC, goN, unTup, sFor, iLstE, iRg1E, iRg2E, iS, sNext, sNever, tV, tAndE, tOrE, tNotE, tTruE, tOfE, asBE, bAnd, bOr, bNot, bTru, tOf, asB, p2, p1, pC, pVar, pAnd, pOr, pNot, pIf, pChain, pCalG, pCallK, permL, pMake, pMakeK, pMeth, pMeth0, pFld, pIsi, pIsC, isiC, tyN, pCB, gLen, gList, gInt, gAdd, gSub, gI, gC, gLt, gLe, gGt, gGe, gGeX, gIs, gIsNot, isB, aNil, aCons, vw, shv, tru, kb_int_int, kb_int_bool, kb_tup_tup, kb_lst_lst, kb_dk_lst, gMod, gFdiv, gMul, gPow, gIx, gSetL, setAtD, inM, gMax, gMin, toInts, maxL, minL, gEq_int, gNe_int, im_int, pLst, pTup, lim, dm, allDp, at_0, at_1, at_2, bd62, en8, hb]
theorem lp_tr_2 {n : Nat} (L : List (Int × Int)) (T : Tr n (Adj L)) (hL : L.length + 1 = n) (hn : n ≤ 8) (g : D × M) (y4 y5 y6 : Option (D × M)) :
    ∃ z4 z5 z6, (sFor (iRg1E (eCp 3)) (putS [false] 4) b_l_tree_right_2) (en8 L n g y4 y5 y6) = some (.nx, en8 L n g z4 z5 z6) := by
  obtain ⟨e', q, z4, z5, z6, rfl⟩ := forL_inv (g := putS [false] 4) (b := b_l_tree_right_2) (ds := rgD 0 n)
    (I := fun j e => ∃ z4 z5 z6, e = en8 L n g z4 z5 z6)
    (fun j d e hd ⟨z4, z5, z6, he⟩ => by
      have hj : j < ((n : Int) - 0).toNat := by
        have := (List.getElem?_eq_some_iff.mp hd).1
        rwa [rgD_length] at this
      rw [rgD_get hj] at hd
      cases hd
      obtain ⟨w5, w6, q⟩ := lp_tr_1 L T hL hn g (0 + (j : Int)) (by omega) (by omega) z5 z6
      subst he
      exact ⟨_, _, by simp [putS, en8, im_int], q, _, _, _, rfl⟩)
    (en8 L n g y4 y5 y6) ⟨_, _, _, rfl⟩
  refine ⟨z4, z5, z6, ?_⟩
  refine sFor_of ?_ q
  have hb : n < 4611686018427387904 := by omega
  simp [iRg1, iRg2, iLst, pLr, runG, outP, im, imm, immL, eB, eV, eS, eMv, eCp, frz, eNil, eCons, eLst, eTup, e2, e1, eCB, eIf, eMut, eMut0, eOn, isLst, eTmp, eCall, callR, takeA, convL, putA, rSl, rVl, caN, caC, eMake, mkR, rdL, sSeq, sIf, sRet, sRetN, sExpr, sSet, putS, sPar, sPar3, sAsg, goTup, goC, goN, unTup, sFor, iLstE, iRg1E, iRg2E, iS, sNext, sNever, tV, tAndE, tOrE, tNotE, tTruE, tOfE, asBE, bAnd, bOr, bNot, bTru, tOf, asB, p2, p1, pC, pVar, pAnd, pOr, pNot, pIf, pChain, pCalG, pCallK, permL, pMake, pMakeK, pMeth, pMeth0, pFld, pIsi, pIsC, isiC, tyN, pCB, gLen, gList, gInt, gAdd, gSub, gI, gC, gLt, gLe, gGt, gGe, gGeX, gIs, gIsNot, isB, aNil, aCons, vw, shv, tru, kb_int_int, kb_int_bool, kb_tup_tup, kb_lst_lst, kb_dk_lst, gMod, gFdiv, gMul, gPow, gIx, gSetL, setAtD, inM, gMax, gMin, toInts, maxL, minL, gEq_int, gNe_int, im_int, pLst, pTup, lim, dm, allDp, at_0, at_1, at_2, bd62, en8, hb]
theorem c_tr_1 (L : List (Int × Int)) (hL : L.length ≤ 100) (y1 y2 y3 y4 y5 y6 y8 : Option D) : c_l_tree_right_1 [some (.lst (L.map pD)), y1, y2, y3, y4, y5, y6, none, y8] = some (.lst (L.map pD), .dp) := by
  have hc : ∀ p ∈ L, ∃ ve', gSet 7 (pD p) [some (.lst (L.map pD)), y1, y2, y3, y4, y5, y6, none, y8] = some ve' ∧ (pVar 7) ve' = some (pD p, .dp) := by
    intro p hp
    refine ⟨_, rfl, ?_⟩
    simp [iRg1, iRg2, iLst, pLr, runG, outP, im, imm, immL, eB, eV, eS, eMv, eCp, frz, eNil, eCons, eLst, eTup, e2, e1, eCB, eIf, eMut, eMut0, eOn, isLst, eTmp, eCall, callR, takeA, convL, putA, rSl, rVl, caN, caC, eMake, mkR, rdL, sSeq, sIf, sRet, sRetN, sExpr, sSet, putS, sPar, sPar3, sAsg, goTup, goC, goN, unTup, sFor, iLstE, iRg1E, iRg2E, iS, sNext, sNever, tV, tAndE, tOrE, tNotE, tTruE, tOfE, asBE, bAnd, bOr, bNot, bTru, tOf, asB, p2, p1, pC, pVar, pAnd, pOr, pNot, pIf, pChain, pCalG, pCallK, permL, pMake, pMakeK, pMeth, pMeth0, pFld, pIsi, pIsC, isiC, tyN, pCB, gLen, gList, gInt, gAdd, gSub, gI, gC, gLt, gLe, gGt, gGe, gGeX, gIs, gIsNot, isB, aNil, aCons, vw, shv, tru, kb_int_int, kb_int_bool, kb_tup_tup, kb_lst_lst, kb_dk_lst, gMod, gFdiv, gMul, gPow, gIx, gSetL, setAtD, inM, gMax, gMin, toInts, maxL, minL, gEq_int, gNe_int, im_int, pLst, pTup, lim, dm, allDp, at_0, at_1, at_2, bd62, pD]
  have := compL_all (out := fun p => (pD p, M.dp)) hc
  have hd : allDp (L.map fun p => (pD p, M.dp)) = true := allDp_map fun _ _ => rfl
  have q := pComp_eq (vs := [7]) (i := iLst (pVar 0)) (ve := [some (.lst (L.map pD)), y1, y2, y3, y4, y5, y6, none, y8]) rfl (by rw [List.length_map]; exact le_lim (by omega)) this
  unfold c_l_tree_right_1
  rw [q]
  unfold dm
  rw [if_pos hd]
  simp
theorem c_tr_2 {n : Nat} (hn : n ≤ 100) (y0 y1 y2 y4 y5 y6 y7 : Option D) : c_l_tree_right_2 [y0, y1, y2, some (.int (n : Int)), y4, y5, y6, y7, none] = some (.lst ((chL n).map pD), .dp) := by
  have hc : ∀ i ∈ List.range (n - 1), ∃ ve', gSet 8 ((fun i : Nat => D.int (0 + (i : Int))) i) [y0, y1, y2, some (.int (n : Int)), y4, y5, y6, y7, none] = some ve' ∧ (pTup (aCons (pVar 8) (aCons (p2 gAdd (pVar 8) (pC (.int 1))) aNil))) ve' = some (pD ((i : Int), (i : Int) + 1), .dp) := by
    intro i hi
    refine ⟨_, rfl, ?_⟩
    simp [iRg1, iRg2, iLst, pLr, runG, outP, im, imm, immL, eB, eV, eS, eMv, eCp, frz, eNil, eCons, eLst, eTup, e2, e1, eCB, eIf, eMut, eMut0, eOn, isLst, eTmp, eCall, callR, takeA, convL, putA, rSl, rVl, caN, caC, eMake, mkR, rdL, sSeq, sIf, sRet, sRetN, sExpr, sSet, putS, sPar, sPar3, sAsg, goTup, goC, goN, unTup, sFor, iLstE, iRg1E, iRg2E, iS, sNext, sNever, tV, tAndE, tOrE, tNotE, tTruE, tOfE, asBE, bAnd, bOr, bNot, bTru, tOf, asB, p2, p1, pC, pVar, pAnd, pOr, pNot, pIf, pChain, pCalG, pCallK, permL, pMake, pMakeK, pMeth, pMeth0, pFld, pIsi, pIsC, isiC, tyN, pCB, gLen, gList, gInt, gAdd, gSub, gI, gC, gLt, gLe, gGt, gGe, gGeX, gIs, gIsNot, isB, aNil, aCons, vw, shv, tru, kb_int_int, kb_int_bool, kb_tup_tup, kb_lst_lst, kb_dk_lst, gMod, gFdiv, gMul, gPow, gIx, gSetL, setAtD, inM, gMax, gMin, toInts, maxL, minL, gEq_int, gNe_int, im_int, pLst, pTup, lim, dm, allDp, at_0, at_1, at_2, bd62, pD]
  have := compL_all (out := fun i : Nat => (pD ((i : Int), (i : Int) + 1), M.dp)) hc
  have hd : allDp ((List.range (n - 1)).map fun i : Nat => (pD ((i : Int), (i : Int) + 1), M.dp)) = true := allDp_map fun _ _ => rfl
  have e0 : (p2 gSub (pVar 3) (pC (.int 1))) [y0, y1, y2, some (.int (n : Int)), y4, y5, y6, y7, none] = some (.int ((n : Int) - 1), .dp) := by simp [iRg1, iRg2, iLst, pLr, runG, outP, im, imm, immL, eB, eV, eS, eMv, eCp, frz, eNil, eCons, eLst, eTup, e2, e1, eCB, eIf, eMut, eMut0, eOn, isLst, eTmp, eCall, callR, takeA, convL, putA, rSl, rVl, caN, caC, eMake, mkR, rdL, sSeq, sIf, sRet, sRetN, sExpr, sSet, putS, sPar, sPar3, sAsg, goTup, goC, goN, unTup, sFor, iLstE, iRg1E, iRg2E, iS, sNext, sNever, tV, tAndE, tOrE, tNotE, tTruE, tOfE, asBE, bAnd, bOr, bNot, bTru, tOf, asB, p2, p1, pC, pVar, pAnd, pOr, pNot, pIf, pChain, pCalG, pCallK, permL, pMake, pMakeK, pMeth, pMeth0, pFld, pIsi, pIsC, isiC, tyN, pCB, gLen, gList, gInt, gAdd, gSub, gI, gC, gLt, gLe, gGt, gGe, gGeX, gIs, gIsNot, isB, aNil, aCons, vw, shv, tru, kb_int_int, kb_int_bool, kb_tup_tup, kb_lst_lst, kb_dk_lst, gMod, gFdiv, gMul, gPow, gIx, gSetL, setAtD, inM, gMax, gMin, toInts, maxL, minL, gEq_int, gNe_int, im_int, pLst, pTup, lim, dm, allDp, at_0, at_1, at_2, bd62]
  have e1 : iRg1 (p2 gSub (pVar 3) (pC (.int 1))) [y0, y1, y2, some (.int (n : Int)), y4, y5, y6, y7, none] = some ((List.range (n - 1)).map fun i : Nat => D.int (0 + (i : Int))) := by
    rw [iRg1_of e0 (bd62_of (by omega)), rgD_map, show ((n : Int) - 1 - 0).toNat = n - 1 by omega]
  have q := pComp_eq (vs := [8]) e1 (by rw [List.length_map, List.length_range]; exact le_lim (by omega)) this
  unfold c_l_tree_right_2
  rw [q]
  unfold dm
  rw [if_pos hd]
  simp [chL]
theorem e_tree_right {n : Nat} {L : List (Int × Int)} (h : LinkL n L) (hn : n ≤ 8) (h1 : 1 ≤ n) (T : Tr n (Adj L)) : r_l_tree_right [(.lst (L.map pD), .sh)] = some (.bl true, .dp, [(.lst (L.map pD), .sh)]) := by
  have hL := h.len
  have c1 := c_tr_1 L (by omega) none none none none none none none
  have i1 := e_Tree_init h hn h1 T
  have z1 := e_Tree_size L
  have z2 := e_Tree_links L
  have q1 := gNe_int ((L.length : Int) + 1) ((L.length : Int) + 1)
  have q2 := gNe_pairs L L
  have q3 := e_Tree_eq L L
  have q4 := e_Tree_eqL L L
  have q5 := e_chain h1 hn
  have q6 := e_Tree_eq (chL n) L
  have q7 := gEq_pairs L (chL n)
  have lp := lm_pD L
  have hlen : L.length < 16777216 := by omega
  have hnn : (L.length : Int) + 1 = (n : Int) := by omega
  simp only [ne_eq, not_true, decide_false, decide_true] at q1 q2 q3
  have s1 : sSet [false] 1 (eB c_l_tree_right_1) [some (.lst (L.map pD), .sh), none, none, none, none, none, none, none, none] = some (.nx, [some (.lst (L.map pD), .sh), some (.lst (L.map pD), .dp), none, none, none, none, none, none, none]) := by
    simp [iRg1, iRg2, iLst, pLr, runG, outP, im, imm, immL, eB, eV, eS, eMv, eCp, frz, eNil, eCons, eLst, eTup, e2, e1, eCB, eIf, eMut, eMut0, eOn, isLst, eTmp, eCall, callR, takeA, convL, putA, rSl, rVl, caN, caC, eMake, mkR, rdL, sSeq, sIf, sRet, sRetN, sExpr, sSet, putS, sPar, sPar3, sAsg, goTup, goC, goN, unTup, sFor, iLstE, iRg1E, iRg2E, iS, sNext, sNever, tV, tAndE, tOrE, tNotE, tTruE, tOfE, asBE, bAnd, bOr, bNot, bTru, tOf, asB, p2, p1, pC, pVar, pAnd, pOr, pNot, pIf, pChain, pCalG, pCallK, permL, pMake, pMakeK, pMeth, pMeth0, pFld, pIsi, pIsC, isiC, tyN, pCB, gLen, gList, gInt, gAdd, gSub, gI, gC, gLt, gLe, gGt, gGe, gGeX, gIs, gIsNot, isB, aNil, aCons, vw, shv, tru, kb_int_int, kb_int_bool, kb_tup_tup, kb_lst_lst, kb_dk_lst, gMod, gFdiv, gMul, gPow, gIx, gSetL, setAtD, inM, gMax, gMin, toInts, maxL, minL, gEq_int, gNe_int, im_int, pLst, pTup, lim, dm, allDp, at_0, at_1, at_2, bd62, c1]
  have s2 : sPar [false] 2 3 (eCons (eB (pMake 0 2 r_Tree_init (aCons (pVar 1) aNil))) (eCons (eB (p2 gAdd (pCB gLen (aCons (pVar 0) aNil)) (pC (.int 1)))) eNil)) [some (.lst (L.map pD), .sh), some (.lst (L.map pD), .dp), none, none, none, none, none, none, none] = some (.nx, [some (.lst (L.map pD), .sh), some (.lst (L.map pD), .dp), some (tD L, .dp), some (.int (n : Int), .dp), none, none, none, none, none]) := by
    simp [iRg1, iRg2, iLst, pLr, runG, outP, im, imm, immL, eB, eV, eS, eMv, eCp, frz, eNil, eCons, eLst, eTup, e2, e1, eCB, eIf, eMut, eMut0, eOn, isLst, eTmp, eCall, callR, takeA, convL, putA, rSl, rVl, caN, caC, eMake, mkR, rdL, sSeq, sIf, sRet, sRetN, sExpr, sSet, putS, sPar, sPar3, sAsg, goTup, goC, goN, unTup, sFor, iLstE, iRg1E, iRg2E, iS, sNext, sNever, tV, tAndE, tOrE, tNotE, tTruE, tOfE, asBE, bAnd, bOr, bNot, bTru, tOf, asB, p2, p1, pC, pVar, pAnd, pOr, pNot, pIf, pChain, pCalG, pCallK, permL, pMake, pMakeK, pMeth, pMeth0, pFld, pIsi, pIsC, isiC, tyN, pCB, gLen, gList, gInt, gAdd, gSub, gI, gC, gLt, gLe, gGt, gGe, gGeX, gIs, gIsNot, isB, aNil, aCons, vw, shv, tru, kb_int_int, kb_int_bool, kb_tup_tup, kb_lst_lst, kb_dk_lst, gMod, gFdiv, gMul, gPow, gIx, gSetL, setAtD, inM, gMax, gMin, toInts, maxL, minL, gEq_int, gNe_int, im_int, pLst, pTup, lim, dm, allDp, at_0, at_1, at_2, bd62, i1, hnn]
  have s3 : sIf (tV (bOr (tOf (p2 gNe (pMeth0 0 1 r_Tree_size (pVar 2)) (pVar 3))) (bOr (tOf (p2 gNe (pMeth0 0 1 r_Tree_links (pVar 2)) (pVar 0))) (tOf (p2 gNe (pVar 1) (pVar 0))))))
      (sRet (eB (pC (.bl false)))) sNext [some (.lst (L.map pD), .sh), some (.lst (L.map pD), .dp), some (tD L, .dp), some (.int (n : Int), .dp), none, none, none, none, none] = some (.nx, [some (.lst (L.map pD), .sh), some (.lst (L.map pD), .dp), some (tD L, .dp), some (.int (n : Int), .dp), none, none, none, none, none]) := by
    rw [← hnn]
    unfold tD at z1 z2 ⊢
    simp [iRg1, iRg2, iLst, pLr, runG, outP, im, imm, immL, eB, eV, eS, eMv, eCp, frz, eNil, eCons, eLst, eTup, e2, e1, eCB, eIf, eMut, eMut0, eOn, isLst, eTmp, eCall, callR, takeA, convL, putA, rSl, rVl, caN, caC, eMake, mkR, rdL, sSeq, sIf, sRet, sRetN, sExpr, sSet, putS, sPar, sPar3, sAsg, goTup, goC, goN, unTup, sFor, iLstE, iRg1E, iRg2E, iS, sNext, sNever, tV, tAndE, tOrE, tNotE, tTruE, tOfE, asBE, bAnd, bOr, bNot, bTru, tOf, asB, p2, p1, pC, pVar, pAnd, pOr, pNot, pIf, pChain, pCalG, pCallK, permL, pMake, pMakeK, pMeth, pMeth0, pFld, pIsi, pIsC, isiC, tyN, pCB, gLen, gList, gInt, gAdd, gSub, gI, gC, gLt, gLe, gGt, gGe, gGeX, gIs, gIsNot, isB, aNil, aCons, vw, shv, tru, kb_int_int, kb_int_bool, kb_tup_tup, kb_lst_lst, kb_dk_lst, gMod, gFdiv, gMul, gPow, gIx, gSetL, setAtD, inM, gMax, gMin, toInts, maxL, minL, gEq_int, gNe_int, im_int, pLst, pTup, lim, dm, allDp, at_0, at_1, at_2, bd62, z1, z2, q1, q2]
  have s4 : sExpr (eMut 1 gAppend (eCons (eB (pC .non)) eNil)) [some (.lst (L.map pD), .sh), some (.lst (L.map pD), .dp), some (tD L, .dp), some (.int (n : Int), .dp), none, none, none, none, none] = some (.nx, en8 L n (.lst (L.map pD ++ [.non]), .dp) none none none) := by
    simp [iRg1, iRg2, iLst, pLr, runG, outP, im, imm, immL, eB, eV, eS, eMv, eCp, frz, eNil, eCons, eLst, eTup, e2, e1, eCB, eIf, eMut, eMut0, eOn, isLst, eTmp, eCall, callR, takeA, convL, putA, rSl, rVl, caN, caC, eMake, mkR, rdL, sSeq, sIf, sRet, sRetN, sExpr, sSet, putS, sPar, sPar3, sAsg, goTup, goC, goN, unTup, sFor, iLstE, iRg1E, iRg2E, iS, sNext, sNever, tV, tAndE, tOrE, tNotE, tTruE, tOfE, asBE, bAnd, bOr, bNot, bTru, tOf, asB, p2, p1, pC, pVar, pAnd, pOr, pNot, pIf, pChain, pCalG, pCallK, permL, pMake, pMakeK, pMeth, pMeth0, pFld, pIsi, pIsC, isiC, tyN, pCB, gLen, gList, gInt, gAdd, gSub, gI, gC, gLt, gLe, gGt, gGe, gGeX, gIs, gIsNot, isB, aNil, aCons, vw, shv, tru, kb_int_int, kb_int_bool, kb_tup_tup, kb_lst_lst, kb_dk_lst, gMod, gFdiv, gMul, gPow, gIx, gSetL, setAtD, inM, gMax, gMin, toInts, maxL, minL, gEq_int, gNe_int, im_int, pLst, pTup, lim, dm, allDp, at_0, at_1, at_2, bd62, gAppend, hlen, en8]
  have s5 : sExpr (eTmp (eB (pMeth0 0 1 r_Tree_links (pVar 2))) gAppend (eCons (eB (pC (.int 7))) eNil)) (en8 L n (.lst (L.map pD ++ [.non]), .dp) none none none) = some (.nx, en8 L n (.lst (L.map pD ++ [.non]), .dp) none none none) := by
    unfold tD at z2
    simp [iRg1, iRg2, iLst, pLr, runG, outP, im, imm, immL, eB, eV, eS, eMv, eCp, frz, eNil, eCons, eLst, eTup, e2, e1, eCB, eIf, eMut, eMut0, eOn, isLst, eTmp, eCall, callR, takeA, convL, putA, rSl, rVl, caN, caC, eMake, mkR, rdL, sSeq, sIf, sRet, sRetN, sExpr, sSet, putS, sPar, sPar3, sAsg, goTup, goC, goN, unTup, sFor, iLstE, iRg1E, iRg2E, iS, sNext, sNever, tV, tAndE, tOrE, tNotE, tTruE, tOfE, asBE, bAnd, bOr, bNot, bTru, tOf, asB, p2, p1, pC, pVar, pAnd, pOr, pNot, pIf, pChain, pCalG, pCallK, permL, pMake, pMakeK, pMeth, pMeth0, pFld, pIsi, pIsC, isiC, tyN, pCB, gLen, gList, gInt, gAdd, gSub, gI, gC, gLt, gLe, gGt, gGe, gGeX, gIs, gIsNot, isB, aNil, aCons, vw, shv, tru, kb_int_int, kb_int_bool, kb_tup_tup, kb_lst_lst, kb_dk_lst, gMod, gFdiv, gMul, gPow, gIx, gSetL, setAtD, inM, gMax, gMin, toInts, maxL, minL, gEq_int, gNe_int, im_int, pLst, pTup, lim, dm, allDp, at_0, at_1, at_2, bd62, en8, tD, z2, gAppend, hlen]
  have s6 : sIf (tV (bOr (tOf (p2 gNe (pMeth0 0 1 r_Tree_links (pVar 2)) (pVar 0))) (bOr (tOf (p2 gIsNot (p2 (gEqI 0 r_Tree_eq) (pMakeK 0 2 1 [0] r_Tree_init (aCons (pCB gList (aCons (pVar 0) aNil)) aNil)) (pVar 2)) (pC (.bl true)))) (tOf (p2 gIsNot (p2 (gEqI 0 r_Tree_eq) (pVar 2) (pVar 0)) (pC (.bl false)))))))
      (sRet (eB (pC (.bl false)))) sNext (en8 L n (.lst (L.map pD ++ [.non]), .dp) none none none) = some (.nx, en8 L n (.lst (L.map pD ++ [.non]), .dp) none none none) := by
    unfold tD at z2 q3 q4 i1
    simp [iRg1, iRg2, iLst, pLr, runG, outP, im, imm, immL, eB, eV, eS, eMv, eCp, frz, eNil, eCons, eLst, eTup, e2, e1, eCB, eIf, eMut, eMut0, eOn, isLst, eTmp, eCall, callR, takeA, convL, putA, rSl, rVl, caN, caC, eMake, mkR, rdL, sSeq, sIf, sRet, sRetN, sExpr, sSet, putS, sPar, sPar3, sAsg, goTup, goC, goN, unTup, sFor, iLstE, iRg1E, iRg2E, iS, sNext, sNever, tV, tAndE, tOrE, tNotE, tTruE, tOfE, asBE, bAnd, bOr, bNot, bTru, tOf, asB, p2, p1, pC, pVar, pAnd, pOr, pNot, pIf, pChain, pCalG, pCallK, permL, pMake, pMakeK, pMeth, pMeth0, pFld, pIsi, pIsC, isiC, tyN, pCB, gLen, gList, gInt, gAdd, gSub, gI, gC, gLt, gLe, gGt, gGe, gGeX, gIs, gIsNot, isB, aNil, aCons, vw, shv, tru, kb_int_int, kb_int_bool, kb_tup_tup, kb_lst_lst, kb_dk_lst, gMod, gFdiv, gMul, gPow, gIx, gSetL, setAtD, inM, gMax, gMin, toInts, maxL, minL, gEq_int, gNe_int, im_int, pLst, pTup, lim, dm, allDp, at_0, at_1, at_2, bd62, en8, tD, z2, q2, lp, i1, q3, q4, gEqI]
  obtain ⟨z4, z5, z6, s7⟩ := lp_tr_2 L T hL hn (.lst (L.map pD ++ [.non]), .dp) none none none
  have c2 := c_tr_2 (n := n) (by omega) (some (.lst (L.map pD))) (some (.lst (L.map pD ++ [.non]))) (some (tD L)) (z4.map (·.1)) (z5.map (·.1)) (z6.map (·.1)) none
  have s8 : sRet (eB (p2 gEq (p2 (gEqI 0 r_Tree_eq) (pCalG 1 r_chain (aCons (pVar 3) aNil)) (pVar 2)) (p2 gEq (pVar 0) c_l_tree_right_2))) (en8 L n (.lst (L.map pD ++ [.non]), .dp) z4 z5 z6) = some (.rt (.bl true) .dp, en8 L n (.lst (L.map pD ++ [.non]), .dp) z4 z5 z6) := by
    have qb := gEq_bl (decide (chL n = L)) (decide (L = chL n))
    have qe : (decide (chL n = L) == decide (L = chL n)) = true := by
      by_cases hx : chL n = L
      · simp [hx]
      · have hy : ¬ L = chL n := fun z => hx z.symm
        simp [hx, hy]
    rw [qe] at qb
    generalize decide (chL n = L) = b1 at *
    generalize decide (L = chL n) = b2 at *
    unfold tD at q5 q6 c2
    simp [iRg1, iRg2, iLst, pLr, runG, outP, im, imm, immL, eB, eV, eS, eMv, eCp, frz, eNil, eCons, eLst, eTup, e2, e1, eCB, eIf, eMut, eMut0, eOn, isLst, eTmp, eCall, callR, takeA, convL, putA, rSl, rVl, caN, caC, eMake, mkR, rdL, sSeq, sIf, sRet, sRetN, sExpr, sSet, putS, sPar, sPar3, sAsg, goTup, goC, goN, unTup, sFor, iLstE, iRg1E, iRg2E, iS, sNext, sNever, tV, tAndE, tOrE, tNotE, tTruE, tOfE, asBE, bAnd, bOr, bNot, bTru, tOf, asB, p2, p1, pC, pVar, pAnd, pOr, pNot, pIf, pChain, pCalG, pCallK, permL, pMake, pMakeK, pMeth, pMeth0, pFld, pIsi, pIsC, isiC, tyN, pCB, gLen, gList, gInt, gAdd, gSub, gI, gC, gLt, gLe, gGt, gGe, gGeX, gIs, gIsNot, isB, aNil, aCons, vw, shv, tru, kb_int_int, kb_int_bool, kb_tup_tup, kb_lst_lst, kb_dk_lst, gMod, gFdiv, gMul, gPow, gIx, gSetL, setAtD, inM, gMax, gMin, toInts, maxL, minL, gEq_int, gNe_int, im_int, pLst, pTup, lim, dm, allDp, at_0, at_1, at_2, bd62, en8, tD, q5, q6, q7, c2, gEqI, qb]
  unfold r_l_tree_right runG b_l_tree_right
  simp only [List.map_cons, List.map_nil, List.replicate, List.cons_append, List.nil_append]
  rw [sSeq_nx s1, sSeq_nx s2, sSeq_nx s3, sSeq_nx s4, sSeq_nx s5, sSeq_nx s6, sSeq_nx s7, s8]
  simp [en8, outP, im, imm]
end L81
set_option Elab.async false
set_option linter.all false
set_option maxRecDepth 100000
set_option maxHeartbeats 4000000
namespace L81
open PySem G Tree0
theorem e_law_tree (g : D × M) (hg : Gn g 0) : ∃ (g' : D × M) (L : List (Int × Int)), r_l_links [g, (.int 8, .dp)] = some (.lst (L.map pD), .dp, [g', (.int 8, .dp)]) ∧ r_l_tree_right [(.lst (L.map pD), .sh)] = some (.bl true, .dp, [(.lst (L.map pD), .sh)]) := by
  obtain ⟨g', n, fs, ns, e, h1, h2, h3, h4, h5⟩ := e_links g hg
  exact ⟨g', linksOf fs ns, e, e_tree_right (linkL h4 h3 h5) h2 h1 (treeOf h4 h3 h5)⟩
theorem st_law_1 (ns : List Int) (i : Int) (h0 : 0 ≤ i) (h1 : i ≤ 100) (y2 y3 : Option (D × M)) : b_law_1 [some (.scr ns, .sh), some (.int i, .dp), y2, y3] = some (.nx, [some (.scr ns, .sh), some (.int i, .dp), y2, y3]) := by
  obtain ⟨g, eg, hg⟩ := e_generator ns i h0 h1
  obtain ⟨g', L, e1, e2⟩ := e_law_tree (g, .dp) hg
  simp [iRg1, iRg2, iLst, pLr, runG, outP, im, imm, immL, eB, eV, eS, eMv, eCp, frz, eNil, eCons, eLst, eTup, e2, e1, eCB, eIf, eMut, eMut0, eOn, isLst, eTmp, eCall, callR, takeA, convL, putA, rSl, rVl, caN, caC, eMake, mkR, rdL, sSeq, sIf, sRet, sRetN, sExpr, sSet, putS, sPar, sPar3, sAsg, goTup, goC, goN, unTup, sFor, iLstE, iRg1E, iRg2E, iS, sNext, sNever, tV, tAndE, tOrE, tNotE, tTruE, tOfE, asBE, bAnd, bOr, bNot, bTru, tOf, asB, p2, p1, pC, pVar, pAnd, pOr, pNot, pIf, pChain, pCalG, pCallK, permL, pMake, pMakeK, pMeth, pMeth0, pFld, pIsi, pIsC, isiC, tyN, pCB, gLen, gList, gInt, gAdd, gSub, gI, gC, gLt, gLe, gGt, gGe, gGeX, gIs, gIsNot, isB, aNil, aCons, vw, shv, tru, kb_int_int, kb_int_bool, kb_tup_tup, kb_lst_lst, kb_dk_lst, gMod, gFdiv, gMul, gPow, gIx, gSetL, setAtD, inM, gMax, gMin, toInts, maxL, minL, gEq_int, gNe_int, im_int, pLst, pTup, lim, dm, allDp, at_0, at_1, at_2, bd62, b_law_1, eg, e1, e2]
theorem c_law (n : Nat) (hn : n ≤ 100) (y0 y1 : Option D) : c_law_1 [y0, y1, some (.int (n : Int)), none] = some (.lst ((chL n).map pD), .dp) := by
  have hc : ∀ i ∈ List.range (n - 1), ∃ ve', gSet 3 ((fun i : Nat => D.int (0 + (i : Int))) i) [y0, y1, some (.int (n : Int)), none] = some ve' ∧ (pTup (aCons (pVar 3) (aCons (p2 gAdd (pVar 3) (pC (.int 1))) aNil))) ve' = some (pD ((i : Int), (i : Int) + 1), .dp) := by
    intro i hi
    refine ⟨_, rfl, ?_⟩
    simp [iRg1, iRg2, iLst, pLr, runG, outP, im, imm, immL, eB, eV, eS, eMv, eCp, frz, eNil, eCons, eLst, eTup, e2, e1, eCB, eIf, eMut, eMut0, eOn, isLst, eTmp, eCall, callR, takeA, convL, putA, rSl, rVl, caN, caC, eMake, mkR, rdL, sSeq, sIf, sRet, sRetN, sExpr, sSet, putS, sPar, sPar3, sAsg, goTup, goC, goN, unTup, sFor, iLstE, iRg1E, iRg2E, iS, sNext, sNever, tV, tAndE, tOrE, tNotE, tTruE, tOfE, asBE, bAnd, bOr, bNot, bTru, tOf, asB, p2, p1, pC, pVar, pAnd, pOr, pNot, pIf, pChain, pCalG, pCallK, permL, pMake, pMakeK, pMeth, pMeth0, pFld, pIsi, pIsC, isiC, tyN, pCB, gLen, gList, gInt, gAdd, gSub, gI, gC, gLt, gLe, gGt, gGe, gGeX, gIs, gIsNot, isB, aNil, aCons, vw, shv, tru, kb_int_int, kb_int_bool, kb_tup_tup, kb_lst_lst, kb_dk_lst, gMod, gFdiv, gMul, gPow, gIx, gSetL, setAtD, inM, gMax, gMin, toInts, maxL, minL, gEq_int, gNe_int, im_int, pLst, pTup, lim, dm, allDp, at_0, at_1, at_2, bd62, pD]
  have := compL_all (out := fun i : Nat => (pD ((i : Int), (i : Int) + 1), M.dp)) hc
  have hd : allDp ((List.range (n - 1)).map fun i : Nat => (pD ((i : Int), (i : Int) + 1), M.dp)) = true := allDp_map fun _ _ => rfl
  have e0 : (p2 gSub (pVar 2) (pC (.int 1))) [y0, y1, some (.int (n : Int)), none] = some (.int ((n : Int) - 1), .dp) := by simp [iRg1, iRg2, iLst, pLr, runG, outP, im, imm, immL, eB, eV, eS, eMv, eCp, frz, eNil, eCons, eLst, eTup, e2, e1, eCB, eIf, eMut, eMut0, eOn, isLst, eTmp, eCall, callR, takeA, convL, putA, rSl, rVl, caN, caC, eMake, mkR, rdL, sSeq, sIf, sRet, sRetN, sExpr, sSet, putS, sPar, sPar3, sAsg, goTup, goC, goN, unTup, sFor, iLstE, iRg1E, iRg2E, iS, sNext, sNever, tV, tAndE, tOrE, tNotE, tTruE, tOfE, asBE, bAnd, bOr, bNot, bTru, tOf, asB, p2, p1, pC, pVar, pAnd, pOr, pNot, pIf, pChain, pCalG, pCallK, permL, pMake, pMakeK, pMeth, pMeth0, pFld, pIsi, pIsC, isiC, tyN, pCB, gLen, gList, gInt, gAdd, gSub, gI, gC, gLt, gLe, gGt, gGe, gGeX, gIs, gIsNot, isB, aNil, aCons, vw, shv, tru, kb_int_int, kb_int_bool, kb_tup_tup, kb_lst_lst, kb_dk_lst, gMod, gFdiv, gMul, gPow, gIx, gSetL, setAtD, inM, gMax, gMin, toInts, maxL, minL, gEq_int, gNe_int, im_int, pLst, pTup, lim, dm, allDp, at_0, at_1, at_2, bd62]
  have e1 : iRg1 (p2 gSub (pVar 2) (pC (.int 1))) [y0, y1, some (.int (n : Int)), none] = some ((List.range (n - 1)).map fun i : Nat => D.int (0 + (i : Int))) := by
    rw [iRg1_of e0 (bd62_of (by omega)), rgD_map, show ((n : Int) - 1 - 0).toNat = n - 1 by omega]
  have q := pComp_eq (vs := [3]) e1 (by rw [List.length_map, List.length_range]; exact le_lim (by omega)) this
  unfold c_law_1
  rw [q]
  unfold dm
  rw [if_pos hd]
  simp [chL]
theorem e_between_ch {n : Nat} (h1 : 1 ≤ n) (h8 : n ≤ 8) : r_between [(tD (chL n), .sh), (.int ((n : Int) - 1), .dp), (.int 0, .dp)] = some (.lst (rgD 1 ((n : Int) - 1)), .dp, [(tD (chL n), .sh), (.int ((n : Int) - 1), .dp), (.int 0, .dp)]) := by
  have : n = 1 ∨ n = 2 ∨ n = 3 ∨ n = 4 ∨ n = 5 ∨ n = 6 ∨ n = 7 ∨ n = 8 := by omega
  rcases this with rfl | rfl | rfl | rfl | rfl | rfl | rfl | rfl <;> exact run_is (by decide +kernel)
theorem rgD_ints' (a b : Int) : rgD a b = ((List.range (b - a).toNat).map fun (i : Nat) => a + (i : Int)).map D.int := by
  unfold rgD
  rw [List.map_map]
  rfl
theorem gNe_rg (a b : Int) : gNe (.lst (rgD a b)) (.lst (rgD a b)) = some (.bl false, .dp) := by
  rw [rgD_ints', gNe_ints]
  simp
theorem st_law_2 (ns : List Int) (n : Nat) (h1 : 1 ≤ n) (h8 : n ≤ 8) (y1 : Option (D × M)) : b_law_2 [some (.scr ns, .sh), y1, some (.int (n : Int), .dp), none] = some (.nx, [some (.scr ns, .sh), y1, some (.int (n : Int), .dp), none]) := by
  have c1 := c_law n (by omega) (some (.scr ns)) (y1.map (·.1))
  have e1 := e_chain h1 h8
  have e2 := e_Tree_links (chL n)
  have e3 := e_Tree_size (chL n)
  have hl : ((chL n).length : Int) + 1 = (n : Int) := by
    simp [chL]; omega
  rw [hl] at e3
  have e4 := e_between_ch h1 h8
  have q1 := gNe_pairs (chL n) (chL n)
  have q2 := gNe_int (n : Int) (n : Int)
  have q3 := gNe_rg 1 ((n : Int) - 1)
  simp only [ne_eq, not_true, decide_false] at q1 q2
  have hlr : (rgD 1 ((n : Int) - 1)).length ≤ lim := by
    rw [rgD_length]
    exact le_lim (by omega)
  have r1 : pLr (iRg2 (pC (.int 1)) (p2 gSub (pVar 2) (pC (.int 1)))) [some (.scr ns), y1.map (·.1), some (.int (n : Int)), none] = some (.lst (rgD 1 ((n : Int) - 1)), .dp) := by
    have e0 : (p2 gSub (pVar 2) (pC (.int 1))) [some (.scr ns), y1.map (·.1), some (.int (n : Int)), none] = some (.int ((n : Int) - 1), .dp) := by simp [iRg1, iRg2, iLst, pLr, runG, outP, im, imm, immL, eB, eV, eS, eMv, eCp, frz, eNil, eCons, eLst, eTup, e2, e1, eCB, eIf, eMut, eMut0, eOn, isLst, eTmp, eCall, callR, takeA, convL, putA, rSl, rVl, caN, caC, eMake, mkR, rdL, sSeq, sIf, sRet, sRetN, sExpr, sSet, putS, sPar, sPar3, sAsg, goTup, goC, goN, unTup, sFor, iLstE, iRg1E, iRg2E, iS, sNext, sNever, tV, tAndE, tOrE, tNotE, tTruE, tOfE, asBE, bAnd, bOr, bNot, bTru, tOf, asB, p2, p1, pC, pVar, pAnd, pOr, pNot, pIf, pChain, pCalG, pCallK, permL, pMake, pMakeK, pMeth, pMeth0, pFld, pIsi, pIsC, isiC, tyN, pCB, gLen, gList, gInt, gAdd, gSub, gI, gC, gLt, gLe, gGt, gGe, gGeX, gIs, gIsNot, isB, aNil, aCons, vw, shv, tru, kb_int_int, kb_int_bool, kb_tup_tup, kb_lst_lst, kb_dk_lst, gMod, gFdiv, gMul, gPow, gIx, gSetL, setAtD, inM, gMax, gMin, toInts, maxL, minL, gEq_int, gNe_int, im_int, pLst, pTup, lim, dm, allDp, at_0, at_1, at_2, bd62]
    unfold pLr
    rw [iRg2_of (i := 1) rfl e0 (by decide) (bd62_of (by omega))]
    show (if _ then _ else _) = _
    rw [if_pos hlr]
  generalize rgD 1 ((n : Int) - 1) = rr at *
  generalize (chL n) = cl at *
  generalize hL : pLr (iRg2 (pC (.int 1)) (p2 gSub (pVar 2) (pC (.int 1)))) = lr at r1
  unfold tD at e1 e2 e3 e4
  unfold b_law_2
  rw [hL]
  simp [iRg1, iRg2, iLst, pLr, runG, outP, im, imm, immL, eB, eV, eS, eMv, eCp, frz, eNil, eCons, eLst, eTup, e2, e1, eCB, eIf, eMut, eMut0, eOn, isLst, eTmp, eCall, callR, takeA, convL, putA, rSl, rVl, caN, caC, eMake, mkR, rdL, sSeq, sIf, sRet, sRetN, sExpr, sSet, putS, sPar, sPar3, sAsg, goTup, goC, goN, unTup, sFor, iLstE, iRg1E, iRg2E, iS, sNext, sNever, tV, tAndE, tOrE, tNotE, tTruE, tOfE, asBE, bAnd, bOr, bNot, bTru, tOf, asB, p2, p1, pC, pVar, pAnd, pOr, pNot, pIf, pChain, pCalG, pCallK, permL, pMake, pMakeK, pMeth, pMeth0, pFld, pIsi, pIsC, isiC, tyN, pCB, gLen, gList, gInt, gAdd, gSub, gI, gC, gLt, gLe, gGt, gGe, gGeX, gIs, gIsNot, isB, aNil, aCons, vw, shv, tru, kb_int_int, kb_int_bool, kb_tup_tup, kb_lst_lst, kb_dk_lst, gMod, gFdiv, gMul, gPow, gIx, gSetL, setAtD, inM, gMax, gMin, toInts, maxL, minL, gEq_int, gNe_int, im_int, pLst, pTup, lim, dm, allDp, at_0, at_1, at_2, bd62, c1, e1, e2, e3, e4, q1, q2, q3, r1]
def star : List (Int × Int) := [(0, 7), (1, 7), (2, 7), (3, 7), (4, 7), (5, 7), (6, 7)]
theorem eB_dp {f : VEnv → Option (D × M)} {env : Env'} {d : D} (h : f (vw env) = some (d, .dp)) : eB f env = some (d, .dp, env) := by
  unfold eB eV
  rw [h]
  rfl
theorem sRet_of {f : Env' → Option (D × M × Env')} {env e1 : Env'} {d : D} {m : M} (h : f env = some (d, m, e1)) : sRet f env = some (.rt d m, e1) := by
  unfold sRet
  rw [h]
  rfl
theorem pCalG_of {n : Nat} {run : Fi} {k : VEnv → Option (List (D × M))} {ve : VEnv} {ds ps : List (D × M)} {d : D} {m : M} (h1 : k ve = some ds) (h2 : ds.length = n) (h3 : run (rdL ds) = some (d, m, ps)) : pCalG n run k ve = some (d, m) := by
  unfold pCalG
  rw [h1]
  show (if ds.length = n then _ else _) = _
  rw [if_pos h2, h3]
  rfl
theorem pMake_of {c n : Nat} {run : Fi} {k : VEnv → Option (List (D × M))} {ve : VEnv} {ds : List (D × M)} {x : Option (D × M)} (h1 : k ve = some ds) (h3 : mkR c n run ds = x) : pMake c n run k ve = x := by
  unfold pMake
  rw [h1]
  exact h3
theorem pMeth0_of {c n : Nat} {run : Fi} {f : VEnv → Option (D × M)} {ve : VEnv} {vs : List D} {m0 : M} {x : Option (D × M)} (h1 : f ve = some (.ins c vs, m0)) (h3 : pMeth0 c n run (pC (.ins c vs)) ve = x) : pMeth0 c n run f ve = x := by
  unfold pMeth0 at h3 ⊢
  rw [h1]
  exact h3
theorem law_end (ve : VEnv) : (pAnd (p2 gEq (pCalG 3 r_between (aCons (pMake 0 2 r_Tree_init (aCons (pLst (aCons (pTup (aCons (pC (.int 0)) (aCons (pC (.int 7)) aNil))) (aCons (pTup (aCons (pC (.int 1)) (aCons (pC (.int 7)) aNil))) (aCons (pTup (aCons (pC (.int 2)) (aCons (pC (.int 7)) aNil))) (aCons (pTup (aCons (pC (.int 3)) (aCons (pC (.int 7)) aNil))) (aCons (pTup (aCons (pC (.int 4)) (aCons (pC (.int 7)) aNil))) (aCons (pTup (aCons (pC (.int 5)) (aCons (pC (.int 7)) aNil))) (aCons (pTup (aCons (pC (.int 6)) (aCons (pC (.int 7)) aNil))) aNil)))))))) aNil)) (aCons (pC (.int 2)) (aCons (pC (.int 6)) aNil)))) (pLst (aCons (pC (.int 7)) aNil))) (p2 gEq (pMeth0 0 1 r_Tree_size (pMake 0 2 r_Tree_init (aCons (pLst aNil) aNil))) (pC (.int 1)))) ve = some (.bl true, .dp) := by
  have a1 : (aCons (pLst (aCons (pTup (aCons (pC (.int 0)) (aCons (pC (.int 7)) aNil))) (aCons (pTup (aCons (pC (.int 1)) (aCons (pC (.int 7)) aNil))) (aCons (pTup (aCons (pC (.int 2)) (aCons (pC (.int 7)) aNil))) (aCons (pTup (aCons (pC (.int 3)) (aCons (pC (.int 7)) aNil))) (aCons (pTup (aCons (pC (.int 4)) (aCons (pC (.int 7)) aNil))) (aCons (pTup (aCons (pC (.int 5)) (aCons (pC (.int 7)) aNil))) (aCons (pTup (aCons (pC (.int 6)) (aCons (pC (.int 7)) aNil))) aNil)))))))) aNil) ve = some [(.lst (star.map pD), .dp)] := by
    simp [iRg1, iRg2, iLst, pLr, runG, outP, im, imm, immL, eB, eV, eS, eMv, eCp, frz, eNil, eCons, eLst, eTup, e2, e1, eCB, eIf, eMut, eMut0, eOn, isLst, eTmp, eCall, callR, takeA, convL, putA, rSl, rVl, caN, caC, eMake, mkR, rdL, sSeq, sIf, sRet, sRetN, sExpr, sSet, putS, sPar, sPar3, sAsg, goTup, goC, goN, unTup, sFor, iLstE, iRg1E, iRg2E, iS, sNext, sNever, tV, tAndE, tOrE, tNotE, tTruE, tOfE, asBE, bAnd, bOr, bNot, bTru, tOf, asB, p2, p1, pC, pVar, pAnd, pOr, pNot, pIf, pChain, pCalG, pCallK, permL, pMake, pMakeK, pMeth, pMeth0, pFld, pIsi, pIsC, isiC, tyN, pCB, gLen, gList, gInt, gAdd, gSub, gI, gC, gLt, gLe, gGt, gGe, gGeX, gIs, gIsNot, isB, aNil, aCons, vw, shv, tru, kb_int_int, kb_int_bool, kb_tup_tup, kb_lst_lst, kb_dk_lst, gMod, gFdiv, gMul, gPow, gIx, gSetL, setAtD, inM, gMax, gMin, toInts, maxL, minL, gEq_int, gNe_int, im_int, pLst, pTup, lim, dm, allDp, at_0, at_1, at_2, bd62, star, pD]
  have a2 : mkR 0 2 r_Tree_init [(.lst (star.map pD), .dp)] = some (tD star, .dp) := eqO_ok (by decide +kernel)
  have a3 := pMake_of (c := 0) (n := 2) a1 a2
  have a4 : r_between [(tD star, .sh), (.int 2, .dp), (.int 6, .dp)] = some (.lst [.int 7], .dp, [(tD star, .sh), (.int 2, .dp), (.int 6, .dp)]) := run_is (by decide +kernel)
  generalize pMake 0 2 r_Tree_init (aCons (pLst (aCons (pTup (aCons (pC (.int 0)) (aCons (pC (.int 7)) aNil))) (aCons (pTup (aCons (pC (.int 1)) (aCons (pC (.int 7)) aNil))) (aCons (pTup (aCons (pC (.int 2)) (aCons (pC (.int 7)) aNil))) (aCons (pTup (aCons (pC (.int 3)) (aCons (pC (.int 7)) aNil))) (aCons (pTup (aCons (pC (.int 4)) (aCons (pC (.int 7)) aNil))) (aCons (pTup (aCons (pC (.int 5)) (aCons (pC (.int 7)) aNil))) (aCons (pTup (aCons (pC (.int 6)) (aCons (pC (.int 7)) aNil))) aNil)))))))) aNil) = mm at a3
  have b1 : (aCons (pLst aNil) aNil) ve = some [(.lst [], .dp)] := by
    simp [iRg1, iRg2, iLst, pLr, runG, outP, im, imm, immL, eB, eV, eS, eMv, eCp, frz, eNil, eCons, eLst, eTup, e2, e1, eCB, eIf, eMut, eMut0, eOn, isLst, eTmp, eCall, callR, takeA, convL, putA, rSl, rVl, caN, caC, eMake, mkR, rdL, sSeq, sIf, sRet, sRetN, sExpr, sSet, putS, sPar, sPar3, sAsg, goTup, goC, goN, unTup, sFor, iLstE, iRg1E, iRg2E, iS, sNext, sNever, tV, tAndE, tOrE, tNotE, tTruE, tOfE, asBE, bAnd, bOr, bNot, bTru, tOf, asB, p2, p1, pC, pVar, pAnd, pOr, pNot, pIf, pChain, pCalG, pCallK, permL, pMake, pMakeK, pMeth, pMeth0, pFld, pIsi, pIsC, isiC, tyN, pCB, gLen, gList, gInt, gAdd, gSub, gI, gC, gLt, gLe, gGt, gGe, gGeX, gIs, gIsNot, isB, aNil, aCons, vw, shv, tru, kb_int_int, kb_int_bool, kb_tup_tup, kb_lst_lst, kb_dk_lst, gMod, gFdiv, gMul, gPow, gIx, gSetL, setAtD, inM, gMax, gMin, toInts, maxL, minL, gEq_int, gNe_int, im_int, pLst, pTup, lim, dm, allDp, at_0, at_1, at_2, bd62]
  have b2 : mkR 0 2 r_Tree_init [(.lst [], .dp)] = some (tD [], .dp) := eqO_ok (by decide +kernel)
  have b3 := pMake_of (c := 0) (n := 2) b1 b2
  have b4 := e_Tree_size []
  have b5 := gEq_int 1 1
  have a5 := gEq_ints [7] [7]
  simp only [List.map_cons, List.map_nil, decide_true, List.length_nil] at a5 b5 b4
  have b6 : ((0 : Nat) : Int) + 1 = 1 := rfl
  rw [b6] at b4
  generalize pMake 0 2 r_Tree_init (aCons (pLst aNil) aNil) = m2 at b3
  unfold tD at a3 a4 b3 b4
  simp only [List.map_nil] at b3 b4
  simp [iRg1, iRg2, iLst, pLr, runG, outP, im, imm, immL, eB, eV, eS, eMv, eCp, frz, eNil, eCons, eLst, eTup, e2, e1, eCB, eIf, eMut, eMut0, eOn, isLst, eTmp, eCall, callR, takeA, convL, putA, rSl, rVl, caN, caC, eMake, mkR, rdL, sSeq, sIf, sRet, sRetN, sExpr, sSet, putS, sPar, sPar3, sAsg, goTup, goC, goN, unTup, sFor, iLstE, iRg1E, iRg2E, iS, sNext, sNever, tV, tAndE, tOrE, tNotE, tTruE, tOfE, asBE, bAnd, bOr, bNot, bTru, tOf, asB, p2, p1, pC, pVar, pAnd, pOr, pNot, pIf, pChain, pCalG, pCallK, permL, pMake, pMakeK, pMeth, pMeth0, pFld, pIsi, pIsC, isiC, tyN, pCB, gLen, gList, gInt, gAdd, gSub, gI, gC, gLt, gLe, gGt, gGe, gGeX, gIs, gIsNot, isB, aNil, aCons, vw, shv, tru, kb_int_int, kb_int_bool, kb_tup_tup, kb_lst_lst, kb_dk_lst, gMod, gFdiv, gMul, gPow, gIx, gSetL, setAtD, inM, gMax, gMin, toInts, maxL, minL, gEq_int, gNe_int, im_int, pLst, pTup, lim, dm, allDp, at_0, at_1, at_2, bd62, a3, a4, a5, b3, b4, b5]
theorem law_true (ns : List Int) (hl : ns.length ≤ 63) : ∃ m ps, r_law [(.scr ns, .sh)] = some (.bl true, m, ps) := by
  obtain ⟨e1, q1, y1, rfl⟩ := forL_inv (g := putS [false] 1) (b := b_law_1) (ds := rgD 0 3)
    (I := fun j e => ∃ y1, e = [some (.scr ns, .sh), y1, none, none])
    (fun j d e hd ⟨y1, he⟩ => by
      have hj : j < ((3 : Int) - 0).toNat := by
        have := (List.getElem?_eq_some_iff.mp hd).1
        rwa [rgD_length] at this
      rw [rgD_get hj] at hd
      cases hd
      have q := st_law_1 ns (0 + (j : Int)) (by omega) (by omega) none none
      subst he
      exact ⟨_, _, by simp [putS, im_int], q, _, rfl⟩)
    [some (.scr ns, .sh), none, none, none] ⟨_, rfl⟩
  obtain ⟨e2, q2, y2, rfl⟩ := forL_inv (g := putS [false] 2) (b := b_law_2) (ds := rgD 1 9)
    (I := fun j e => ∃ y2, e = [some (.scr ns, .sh), y1, y2, none])
    (fun j d e hd ⟨y2, he⟩ => by
      have hj : j < ((9 : Int) - 1).toNat := by
        have := (List.getElem?_eq_some_iff.mp hd).1
        rwa [rgD_length] at this
      rw [rgD_get hj] at hd
      cases hd
      have q := st_law_2 ns (1 + j) (by omega) (by omega) y1
      rw [show (((1 + j : Nat)) : Int) = 1 + (j : Int) by omega] at q
      subst he
      exact ⟨_, _, by simp [putS, im_int], q, _, rfl⟩)
    [some (.scr ns, .sh), y1, none, none] ⟨_, rfl⟩
  have s1 : (sFor (iRg1E (eB (pC (.int 3)))) (putS [false] 1) b_law_1) [some (.scr ns, .sh), none, none, none] = some (.nx, [some (.scr ns, .sh), y1, none, none]) := by
    refine sFor_of ?_ q1
    simp [iRg1, iRg2, iLst, pLr, runG, outP, im, imm, immL, eB, eV, eS, eMv, eCp, frz, eNil, eCons, eLst, eTup, e2, e1, eCB, eIf, eMut, eMut0, eOn, isLst, eTmp, eCall, callR, takeA, convL, putA, rSl, rVl, caN, caC, eMake, mkR, rdL, sSeq, sIf, sRet, sRetN, sExpr, sSet, putS, sPar, sPar3, sAsg, goTup, goC, goN, unTup, sFor, iLstE, iRg1E, iRg2E, iS, sNext, sNever, tV, tAndE, tOrE, tNotE, tTruE, tOfE, asBE, bAnd, bOr, bNot, bTru, tOf, asB, p2, p1, pC, pVar, pAnd, pOr, pNot, pIf, pChain, pCalG, pCallK, permL, pMake, pMakeK, pMeth, pMeth0, pFld, pIsi, pIsC, isiC, tyN, pCB, gLen, gList, gInt, gAdd, gSub, gI, gC, gLt, gLe, gGt, gGe, gGeX, gIs, gIsNot, isB, aNil, aCons, vw, shv, tru, kb_int_int, kb_int_bool, kb_tup_tup, kb_lst_lst, kb_dk_lst, gMod, gFdiv, gMul, gPow, gIx, gSetL, setAtD, inM, gMax, gMin, toInts, maxL, minL, gEq_int, gNe_int, im_int, pLst, pTup, lim, dm, allDp, at_0, at_1, at_2, bd62]
  have s2 : (sFor (iRg2E (eB (pC (.int 1))) (eB (pC (.int 9)))) (putS [false] 2) b_law_2) [some (.scr ns, .sh), y1, none, none] = some (.nx, [some (.scr ns, .sh), y1, y2, none]) := by
    refine sFor_of ?_ q2
    simp [iRg1, iRg2, iLst, pLr, runG, outP, im, imm, immL, eB, eV, eS, eMv, eCp, frz, eNil, eCons, eLst, eTup, e2, e1, eCB, eIf, eMut, eMut0, eOn, isLst, eTmp, eCall, callR, takeA, convL, putA, rSl, rVl, caN, caC, eMake, mkR, rdL, sSeq, sIf, sRet, sRetN, sExpr, sSet, putS, sPar, sPar3, sAsg, goTup, goC, goN, unTup, sFor, iLstE, iRg1E, iRg2E, iS, sNext, sNever, tV, tAndE, tOrE, tNotE, tTruE, tOfE, asBE, bAnd, bOr, bNot, bTru, tOf, asB, p2, p1, pC, pVar, pAnd, pOr, pNot, pIf, pChain, pCalG, pCallK, permL, pMake, pMakeK, pMeth, pMeth0, pFld, pIsi, pIsC, isiC, tyN, pCB, gLen, gList, gInt, gAdd, gSub, gI, gC, gLt, gLe, gGt, gGe, gGeX, gIs, gIsNot, isB, aNil, aCons, vw, shv, tru, kb_int_int, kb_int_bool, kb_tup_tup, kb_lst_lst, kb_dk_lst, gMod, gFdiv, gMul, gPow, gIx, gSetL, setAtD, inM, gMax, gMin, toInts, maxL, minL, gEq_int, gNe_int, im_int, pLst, pTup, lim, dm, allDp, at_0, at_1, at_2, bd62]
  have s3 := sRet_of (eB_dp (env := [some (.scr ns, .sh), y1, y2, none]) (law_end (vw [some (.scr ns, .sh), y1, y2, none])))
  refine ⟨.dp, [(.scr ns, .sh)], ?_⟩
  unfold r_law runG b_law
  simp only [List.map_cons, List.map_nil, List.replicate, List.cons_append, List.nil_append]
  rw [sSeq_nx s1, sSeq_nx s2, s3]
  simp [outP, im, imm]
end L81
set_option Elab.async false
set_option linter.all false
set_option maxRecDepth 100000
set_option maxHeartbeats 4000000

/-! L81: the defs run so -/
namespace L81
open PySem L2 G

def top (i : Nat) : Stmt := PySem.Challenge.pw_gapswaps_k81_trees_and_what_is_between.main.body.getD i (.Pass ⟨0, 0, 0, 0⟩)
/-- the tables -/
def tx (tabs : List (Addr × Str)) (cl : Nat → Addr) : Tx := ⟨tabs, cl, fun c => match c with
  | 0 => ["_links"]
  | _ => []⟩
/-- what the text gives -/
structure Facts (K : PySem.W.Frag) (mg : Str → Option Value) (tabs : List (Addr × Str)) (cl : Nat → Addr) : Prop where
  fld_0 : FldG K (tx tabs cl) 0
  g_bool : mg "bool" = none
  g_int : mg "int" = none
  g_isinstance : mg "isinstance" = none
  g_len : mg "len" = none
  g_list : mg "list" = none
  g_max : mg "max" = none
  g_min : mg "min" = none
  g_range : mg "range" = none
  g_sorted : mg "sorted" = none
  g_sum : mg "sum" = none
  g_tuple : mg "tuple" = none
  isi_0 : IsiC K (tx tabs cl) 0
  mg_Tree : mg "Tree" = some (.ref (cl 0))
  c_MOST_KNOTS : ∃ t, mg "MOST_KNOTS" = some (.int 8 t)
section
variable {P : Program} {w : World} {K : PySem.W.Frag} {mg : Str → Option Value} {base : Heap} {tabs : List (Addr × Str)} {cl : Nat → Addr}
abbrev N_is_whole : List Str := ["value"]
theorem sc_is_whole : FnScope N_is_whole ["value"] (defScope (top 6)) := ⟨rfl, rfl, rfl, by decide +kernel, rfl, by decide +kernel, by decide +kernel⟩
theorem ok_is_whole {f : Addr} {fd : FuncData} (F : Fun K "is_whole" "is_whole" (top 6) f fd) (S : Facts K mg tabs cl)  : FnOk P w K mg base CX0 1 f fd ["value"] (spG K (tx tabs cl) 1 r_is_whole) := by
  exact fn_ok F sc_is_whole rfl rfl fun cdv A outer s H E hr =>
(jss_one (js_ret (je_b (jp_and (jp_isi (t := "int") rfl S.g_isinstance rfl S.g_int (by decide +kernel) (jp_var 0)) (jp_one (jp_not (jp_isi (t := "bool") rfl S.g_isinstance rfl S.g_bool (by decide +kernel) (jp_var 0))))))))
abbrev N_is_between : List Str := ["value", "low", "high"]
theorem sc_is_between : FnScope N_is_between ["value", "low", "high"] (defScope (top 7)) := ⟨rfl, rfl, rfl, by decide +kernel, rfl, by decide +kernel, by decide +kernel⟩
theorem ok_is_between {f : Addr} {fd : FuncData} (F : Fun K "is_between" "is_between" (top 7) f fd) (S : Facts K mg tabs cl) (C_is_whole : CalG P w K mg base (tx tabs cl) 1 "is_whole" 1 r_is_whole) : FnOk P w K mg base CX0 2 f fd ["value", "low", "high"] (spG K (tx tabs cl) 3 r_is_between) := by
  exact fn_ok F sc_is_between rfl rfl fun cdv A outer s H E hr =>
(jss_cons (js_if (jte_v (jt_not (jt_val (jp_callG C_is_whole hr (by decide) rfl (ja_cons (jp_var 0) ja_nil)))))
(jss_one (js_ret (je_b jp_bl)))
jss_nil)
(jss_one (js_ret (je_b (jp_and (jp_or (jp_cmp o2_is (jp_var 1) jp_non (nomark _)) (jp_one (jp_cmp (o2_geX (hu0 hr)) (jp_var 0) (jp_var 1) (nomark _)))) (jp_one (jp_or (jp_cmp o2_is (jp_var 2) jp_non (nomark _)) (jp_one (jp_cmp o2_le (jp_var 0) (jp_var 2) (nomark _))))))))))
abbrev N_check_number : List Str := ["number", "low", "high"]
theorem sc_check_number : FnScope N_check_number ["number", "low", "high"] (defScope (top 8)) := ⟨rfl, rfl, rfl, by decide +kernel, rfl, by decide +kernel, by decide +kernel⟩
theorem ok_check_number {f : Addr} {fd : FuncData} (F : Fun K "check_number" "check_number" (top 8) f fd) (S : Facts K mg tabs cl) (C_is_between : CalG P w K mg base (tx tabs cl) 2 "is_between" 3 r_is_between) : FnOk P w K mg base CX0 3 f fd ["number", "low", "high"] (spG K (tx tabs cl) 3 r_check_number) := by
  exact fn_ok F sc_check_number rfl rfl fun cdv A outer s H E hr =>
(jss_one (js_if (jte_v (jt_not (jt_val (jp_callG C_is_between hr (by decide) rfl (ja_cons (jp_var 0) (ja_cons (jp_var 1) (ja_cons (jp_var 2) ja_nil)))))))
jss_never
jss_nil))
abbrev N_Tree_size : List Str := ["self"]
theorem sc_Tree_size : FnScope N_Tree_size ["self"] (defScope (inClass (top 11) 1)) := ⟨rfl, rfl, rfl, by decide +kernel, rfl, by decide +kernel, by decide +kernel⟩
theorem ok_Tree_size {f : Addr} {fd : FuncData} (F : Fun K "size" "Tree.size" (inClass (top 11) 1) f fd) (S : Facts K mg tabs cl)  : FnOk P w K mg base CX0 1 f fd ["self"] (spG K (tx tabs cl) 1 r_Tree_size) := by
  exact fn_ok F sc_Tree_size rfl rfl fun cdv A outer s H E hr =>
(jss_one (js_ret (je_b (jp_bin o2_add (jp_callB oc_len rfl S.g_len (by decide +kernel) (ja_cons (jp_fld (ix := 0) S.fld_0 rfl (jp_var 0)) ja_nil)) jp_int))))
abbrev N_Tree_links : List Str := ["self"]
theorem sc_Tree_links : FnScope N_Tree_links ["self"] (defScope (inClass (top 11) 2)) := ⟨rfl, rfl, rfl, by decide +kernel, rfl, by decide +kernel, by decide +kernel⟩
theorem ok_Tree_links {f : Addr} {fd : FuncData} (F : Fun K "links" "Tree.links" (inClass (top 11) 2) f fd) (S : Facts K mg tabs cl)  : FnOk P w K mg base CX0 1 f fd ["self"] (spG K (tx tabs cl) 1 r_Tree_links) := by
  exact fn_ok F sc_Tree_links rfl rfl fun cdv A outer s H E hr =>
(jss_one (js_ret (je_b (jp_callTy oc_list rfl S.g_list (by decide +kernel) (ja_cons (jp_fld (ix := 0) S.fld_0 rfl (jp_var 0)) ja_nil)))))
abbrev N_Tree_eq : List Str := ["self", "other"]
theorem sc_Tree_eq : FnScope N_Tree_eq ["self", "other"] (defScope (inClass (top 11) 3)) := ⟨rfl, rfl, rfl, by decide +kernel, rfl, by decide +kernel, by decide +kernel⟩
theorem ok_Tree_eq {f : Addr} {fd : FuncData} (F : Fun K "__eq__" "Tree.__eq__" (inClass (top 11) 3) f fd) (S : Facts K mg tabs cl)  : FnOk P w K mg base CX0 1 f fd ["self", "other"] (spG K (tx tabs cl) 2 r_Tree_eq) := by
  exact fn_ok F sc_Tree_eq rfl rfl fun cdv A outer s H E hr =>
(jss_cons (js_if (jte_v (jt_not (jt_val (jp_isC S.isi_0 rfl S.g_isinstance rfl S.mg_Tree (jp_var 1)))))
(jss_one (js_ret (je_b jp_bl)))
jss_nil)
(jss_one (js_ret (je_b (jp_cmp (o2_eq (hu64 hr)) (jp_fld (ix := 0) S.fld_0 rfl (jp_var 0)) (jp_fld (ix := 0) S.fld_0 rfl (jp_var 1)) (nomark _))))))
abbrev N_is_link : List Str := ["size", "value"]
theorem sc_is_link : FnScope N_is_link ["size", "value"] (defScope (top 12)) := ⟨rfl, rfl, rfl, by decide +kernel, rfl, by decide +kernel, by decide +kernel⟩
theorem ok_is_link {f : Addr} {fd : FuncData} (F : Fun K "is_link" "is_link" (top 12) f fd) (S : Facts K mg tabs cl) (C_is_between : CalG P w K mg base (tx tabs cl) 2 "is_between" 3 r_is_between) : FnOk P w K mg base CX0 3 f fd ["size", "value"] (spG K (tx tabs cl) 2 r_is_link) := by
  exact fn_ok F sc_is_link rfl rfl fun cdv A outer s H E hr =>
(jss_cons (js_if (jte_v (jt_w (jw_or (jt_not (jt_val (jp_isi (t := "tuple") rfl S.g_isinstance rfl S.g_tuple (by decide +kernel) (jp_var 1)))) (jw_or (jt_cmp (o2_ne (hu64 hr)) (jp_callB oc_len rfl S.g_len (by decide +kernel) (ja_cons (jp_var 1) ja_nil)) jp_int (nomark _)) (jw_or1 (jt_not (jt_val (jp_callG C_is_between hr (by decide) rfl (ja_cons (jp_ix (ox_ix (hu1 hr)) (jp_var 1) jp_int) (ja_cons jp_int (ja_cons (jp_bin o2_sub (jp_var 0) jp_int) ja_nil)))))))))))
(jss_one (js_ret (je_b jp_bl)))
jss_nil)
(jss_one (js_ret (je_b (jp_callG C_is_between hr (by decide) rfl (ja_cons (jp_ix (ox_ix (hu1 hr)) (jp_var 1) jp_int) (ja_cons jp_int (ja_cons (jp_bin o2_sub (jp_ix (ox_ix (hu1 hr)) (jp_var 1) jp_int) jp_int) ja_nil))))))))
abbrev N_reached_from : List Str := ["links", "start", "found", "order", "at", "low", "high", "one", "other"]
theorem sc_reached_from : FnScope N_reached_from ["links", "start"] (defScope (top 14)) := ⟨rfl, rfl, rfl, by decide +kernel, rfl, by decide +kernel, by decide +kernel⟩
theorem ok_reached_from {f : Addr} {fd : FuncData} (F : Fun K "reached_from" "reached_from" (top 14) f fd) (S : Facts K mg tabs cl)  : FnOk P w K mg base CX0 1 f fd ["links", "start"] (spG K (tx tabs cl) 2 r_reached_from) := by
  exact fn_ok F sc_reached_from rfl rfl fun cdv A outer s H E hr =>
(jss_cons (js_par3 rfl sc_reached_from.nd rfl rfl rfl (by decide) (by decide) (by decide) rfl rfl rfl (jae_cons (je_b (jp_dict1 (jp_var 1) jp_non)) (jae_cons (je_lst (jae_cons (je_mv (j := 1)) jae_nil)) (jae_cons (je_b jp_int) jae_nil))))
(jss_cons (js_while PassesOwn.never (jte_v (jt_cmp o2_lt (jp_var 4) (jp_callB oc_len rfl S.g_len (by decide +kernel) (ja_cons (jp_var 3) ja_nil)) (nomark _)))
(jss_cons (js_for PassesOwn.never rfl (jie_list (je_cp (j := 0))) (jgo_tup rfl (jgos_cons (jgo_name sc_reached_from.nd rfl (by first | exact Or.inl rfl | exact Or.inr rfl)) (jgos_cons (jgo_name sc_reached_from.nd rfl (by first | exact Or.inl rfl | exact Or.inr rfl)) jgos_nil)))
(jss_one (js_for PassesOwn.never rfl (jie_list (je_lst (jae_cons (je_tup (jae_cons (je_cp (j := 5)) (jae_cons (je_cp (j := 6)) jae_nil))) (jae_cons (je_tup (jae_cons (je_cp (j := 6)) (jae_cons (je_cp (j := 5)) jae_nil))) jae_nil)))) (jgo_tup rfl (jgos_cons (jgo_name sc_reached_from.nd rfl (by first | exact Or.inl rfl | exact Or.inr rfl)) (jgos_cons (jgo_name sc_reached_from.nd rfl (by first | exact Or.inl rfl | exact Or.inr rfl)) jgos_nil)))
(jss_one (js_if (jte_v (jt_w (jw_and (jt_cmp (o2_eq (hu64 hr)) (jp_var 7) (jp_ix (ox_ix (hu1 hr)) (jp_var 3) (jp_var 4)) (nomark _)) (jw_and1 (jt_cmp (o2_notIn (hu65 hr)) (jp_var 8) (jp_var 2) (by with_unfolding_all rfl))))))
(jss_cons (js_asg (je_cp (j := 7)) (jgo_setD (j := 2) (hu1 hr) rfl (jp_var 8)))
(jss_one (js_expr (je_mut PySem.F.slot_list_append PySem.F.type_list_append om_append (j := 3) rfl (jae_cons (je_cp (j := 8)) jae_nil)))))
jss_nil)))))
(jss_one (js_set sc_reached_from.nd rfl (by first | exact Or.inl rfl | exact Or.inr rfl) (je_b (jp_bin o2_add (jp_var 4) jp_int))))))
(jss_one (js_ret (je_mv (j := 2))))))
abbrev N_check_tree : List Str := ["tree"]
theorem sc_check_tree : FnScope N_check_tree ["tree"] (defScope (top 15)) := ⟨rfl, rfl, rfl, by decide +kernel, rfl, by decide +kernel, by decide +kernel⟩
theorem ok_check_tree {f : Addr} {fd : FuncData} (F : Fun K "check_tree" "check_tree" (top 15) f fd) (S : Facts K mg tabs cl)  : FnOk P w K mg base CX0 1 f fd ["tree"] (spG K (tx tabs cl) 1 r_check_tree) := by
  exact fn_ok F sc_check_tree rfl rfl fun cdv A outer s H E hr =>
(jss_one (js_if (jte_v (jt_not (jt_val (jp_isC S.isi_0 rfl S.g_isinstance rfl S.mg_Tree (jp_var 0)))))
jss_never
jss_nil))
abbrev N_path_between : List Str := ["links", "one", "other", "back", "found", "spot"]
theorem sc_path_between : FnScope N_path_between ["links", "one", "other"] (defScope (top 17)) := ⟨rfl, rfl, rfl, by decide +kernel, rfl, by decide +kernel, by decide +kernel⟩
theorem ok_path_between {f : Addr} {fd : FuncData} (F : Fun K "path_between" "path_between" (top 17) f fd) (S : Facts K mg tabs cl) (C_reached_from : CalG P w K mg base (tx tabs cl) 1 "reached_from" 2 r_reached_from) : FnOk P w K mg base CX0 2 f fd ["links", "one", "other"] (spG K (tx tabs cl) 3 r_path_between) := by
  exact fn_ok F sc_path_between rfl rfl fun cdv A outer s H E hr =>
(jss_cons (js_par rfl sc_path_between.nd rfl rfl (by decide) rfl rfl (jae_cons (je_b (jp_callG C_reached_from hr (by decide) rfl (ja_cons (jp_var 0) (ja_cons (jp_var 1) ja_nil)))) (jae_cons (je_b (jp_lst ja_nil)) jae_nil)))
(jss_cons (js_set sc_path_between.nd rfl (by first | exact Or.inl rfl | exact Or.inr rfl) (je_b (jp_ix (ox_ix (hu1 hr)) (jp_var 3) (jp_var 2))))
(jss_cons (js_while PassesOwn.never (jte_v (jt_w (jw_and (jt_cmp o2_isNot (jp_var 5) jp_non (nomark _)) (jw_and1 (jt_cmp (o2_ne (hu64 hr)) (jp_var 5) (jp_var 1) (nomark _))))))
(jss_cons (js_expr (je_mut PySem.F.slot_list_append PySem.F.type_list_append om_append (j := 4) rfl (jae_cons (je_cp (j := 5)) jae_nil)))
(jss_one (js_set sc_path_between.nd rfl (by first | exact Or.inl rfl | exact Or.inr rfl) (je_b (jp_ix (ox_ix (hu1 hr)) (jp_var 3) (jp_var 5)))))))
(jss_one (js_ret (je_b (jp_callB oc_sorted rfl S.g_sorted (by decide +kernel) (ja_cons (jp_var 4) ja_nil))))))))
abbrev N_between : List Str := ["tree", "one", "other"]
theorem sc_between : FnScope N_between ["tree", "one", "other"] (defScope (top 18)) := ⟨rfl, rfl, rfl, by decide +kernel, rfl, by decide +kernel, by decide +kernel⟩
theorem ok_between {f : Addr} {fd : FuncData} (F : Fun K "between" "between" (top 18) f fd) (S : Facts K mg tabs cl) (C_check_tree : CalG P w K mg base (tx tabs cl) 1 "check_tree" 1 r_check_tree) (C_check_number : CalG P w K mg base (tx tabs cl) 3 "check_number" 3 r_check_number) (M_Tree_size : MetG P w K mg base (tx tabs cl) 1 0 "size" 1 r_Tree_size) (C_path_between : CalG P w K mg base (tx tabs cl) 2 "path_between" 3 r_path_between) (M_Tree_links : MetG P w K mg base (tx tabs cl) 1 0 "links" 1 r_Tree_links) : FnOk P w K mg base CX0 4 f fd ["tree", "one", "other"] (spG K (tx tabs cl) 3 r_between) := by
  exact fn_ok F sc_between rfl rfl fun cdv A outer s H E hr =>
(jss_cons (js_expr (je_b (jp_callG C_check_tree hr (by decide) rfl (ja_cons (jp_var 0) ja_nil))))
(jss_cons (js_expr (je_b (jp_callG C_check_number hr (by decide) rfl (ja_cons (jp_var 1) (ja_cons jp_int (ja_cons (jp_bin o2_sub (jp_meth0 M_Tree_size hr (by decide) (jp_var 0)) jp_int) ja_nil))))))
(jss_cons (js_expr (je_b (jp_callG C_check_number hr (by decide) rfl (ja_cons (jp_var 2) (ja_cons jp_int (ja_cons (jp_bin o2_sub (jp_meth0 M_Tree_size hr (by decide) (jp_var 0)) jp_int) ja_nil))))))
(jss_one (js_ret (je_b (jp_callG C_path_between hr (by decide) rfl (ja_cons (jp_meth0 M_Tree_links hr (by decide) (jp_var 0)) (ja_cons (jp_var 1) (ja_cons (jp_var 2) ja_nil))))))))))
abbrev N_l_hash : List Str := ["_law_seed", "_law_index", "_law_mixed"]
theorem sc_l_hash : FnScope N_l_hash ["_law_seed", "_law_index"] (defScope (top 20)) := ⟨rfl, rfl, rfl, by decide +kernel, rfl, by decide +kernel, by decide +kernel⟩
theorem ok_l_hash {f : Addr} {fd : FuncData} (F : Fun K "_law_hash" "_law_hash" (top 20) f fd) (S : Facts K mg tabs cl)  : FnOk P w K mg base CX0 1 f fd ["_law_seed", "_law_index"] (spG K (tx tabs cl) 2 r_l_hash) := by
  exact fn_ok F sc_l_hash rfl rfl fun cdv A outer s H E hr =>
(jss_cons (js_set sc_l_hash.nd rfl (by first | exact Or.inl rfl | exact Or.inr rfl) (je_b (jp_bin o2_mod (jp_callTy oc_int rfl S.g_int (by decide +kernel) (ja_cons (jp_bin o2_add (jp_bin o2_add (jp_bin o2_add (jp_bin o2_mul (jp_var 0) jp_int) (jp_bin o2_mul (jp_bin o2_mul jp_int (jp_var 1)) (jp_var 1))) (jp_bin o2_mul jp_int (jp_var 1))) jp_int) ja_nil)) jp_int)))
(jss_cons (js_set sc_l_hash.nd rfl (by first | exact Or.inl rfl | exact Or.inr rfl) (je_b (jp_bin o2_mod (jp_callTy oc_int rfl S.g_int (by decide +kernel) (ja_cons (jp_bin o2_add (jp_bin o2_add (jp_bin o2_mul (jp_var 2) (jp_var 2)) (jp_bin o2_mul jp_int (jp_var 1))) jp_int) ja_nil)) jp_int)))
(jss_one (js_ret (je_b (jp_bin o2_mod (jp_callTy oc_int rfl S.g_int (by decide +kernel) (ja_cons (jp_bin o2_mul (jp_var 2) jp_int) ja_nil)) jp_int))))))
abbrev N_l_random : List Str := ["_law_generator_here", "_law_bound", "_law_drawn", "_law_turn"]
theorem sc_l_random : FnScope N_l_random ["_law_generator_here", "_law_bound"] (defScope (top 21)) := ⟨rfl, rfl, rfl, by decide +kernel, rfl, by decide +kernel, by decide +kernel⟩
theorem ok_l_random {f : Addr} {fd : FuncData} (F : Fun K "_law_random" "_law_random" (top 21) f fd) (S : Facts K mg tabs cl) (C_l_hash : CalG P w K mg base (tx tabs cl) 1 "_law_hash" 2 r_l_hash) : FnOk P w K mg base CX0 2 f fd ["_law_generator_here", "_law_bound"] (spG K (tx tabs cl) 2 r_l_random) := by
  exact fn_ok F sc_l_random rfl rfl fun cdv A outer s H E hr =>
(jss_cons (js_if (jte_v (jt_cmp o2_gt (jp_ix (ox_ix (hu1 hr)) (jp_var 0) jp_int) jp_int (nomark _)))
(jss_cons (js_set sc_l_random.nd rfl (by first | exact Or.inl rfl | exact Or.inr rfl) (je_b (jp_bin o2_mod (jp_callTy oc_int rfl S.g_int (by decide +kernel) (ja_cons (jp_ix (ox_ix (hu1 hr)) (jp_var 0) jp_int) ja_nil)) (jp_var 1))))
(jss_cons (js_asg (je_b (jp_bin o2_fdiv (jp_ix (ox_ix (hu1 hr)) (jp_var 0) jp_int) (jp_var 1))) (jgo_setL (j := 0) rfl jp_int))
(jss_one (js_ret (je_mv (j := 2))))))
jss_nil)
(jss_cons (js_set sc_l_random.nd rfl (by first | exact Or.inl rfl | exact Or.inr rfl) (je_b jp_int))
(jss_cons (js_for PassesOwn.never rfl (jie_range1 rfl S.g_range (je_b (jp_bin o2_add jp_int (jp_bin o2_fdiv (jp_bits (jp_var 1)) jp_int)))) (jgo_name sc_l_random.nd rfl (by first | exact Or.inl rfl | exact Or.inr rfl))
(jss_cons (js_asg (je_b (jp_bin o2_add (jp_ix (ox_ix (hu1 hr)) (jp_var 0) jp_int) jp_int)) (jgo_setL (j := 0) rfl jp_int))
(jss_one (js_set sc_l_random.nd rfl (by first | exact Or.inl rfl | exact Or.inr rfl) (je_b (jp_bin o2_add (jp_bin o2_mul (jp_var 2) jp_int) (jp_callG C_l_hash hr (by decide) rfl (ja_cons (jp_ix (ox_ix (hu1 hr)) (jp_var 0) jp_int) (ja_cons (jp_ix (ox_ix (hu1 hr)) (jp_var 0) jp_int) ja_nil)))))))))
(jss_one (js_ret (je_b (jp_bin o2_mod (jp_callTy oc_int rfl S.g_int (by decide +kernel) (ja_cons (jp_var 2) ja_nil)) (jp_var 1))))))))
abbrev N_l_cell : List Str := ["_law_script", "_law_index"]
theorem sc_l_cell : FnScope N_l_cell ["_law_script", "_law_index"] (defScope (top 22)) := ⟨rfl, rfl, rfl, by decide +kernel, rfl, by decide +kernel, by decide +kernel⟩
theorem ok_l_cell {f : Addr} {fd : FuncData} (F : Fun K "_law_cell" "_law_cell" (top 22) f fd) (S : Facts K mg tabs cl)  : FnOk P w K mg base CX0 1 f fd ["_law_script", "_law_index"] (spG K (tx tabs cl) 2 r_l_cell) := by
  exact fn_ok F sc_l_cell rfl rfl fun cdv A outer s H E hr =>
(jss_cons (js_if (jte_v (jt_cmp o2_lt (jp_var 1) (jp_callB oc_len rfl S.g_len (by decide +kernel) (ja_cons (jp_var 0) ja_nil)) (nomark _)))
(jss_one (js_ret (je_b (jp_ix (ox_ix (hu1 hr)) (jp_var 0) (jp_var 1)))))
jss_nil)
(jss_one (js_ret (je_b (jp_bin o2_mod (jp_callB (oc_sum rfl) rfl S.g_sum (by decide +kernel) (ja_cons (jp_slice (jp_var 0) jo_none (jo_some jp_int)) ja_nil)) jp_int)))))
abbrev N_l_generator : List Str := ["_law_script", "_law_index", "_law_seed"]
theorem sc_l_generator : FnScope N_l_generator ["_law_script", "_law_index"] (defScope (top 23)) := ⟨rfl, rfl, rfl, by decide +kernel, rfl, by decide +kernel, by decide +kernel⟩
theorem ok_l_generator {f : Addr} {fd : FuncData} (F : Fun K "_law_generator" "_law_generator" (top 23) f fd) (S : Facts K mg tabs cl) (C_l_cell : CalG P w K mg base (tx tabs cl) 1 "_law_cell" 2 r_l_cell) : FnOk P w K mg base CX0 2 f fd ["_law_script", "_law_index"] (spG K (tx tabs cl) 2 r_l_generator) := by
  exact fn_ok F sc_l_generator rfl rfl fun cdv A outer s H E hr =>
(jss_cons (js_set sc_l_generator.nd rfl (by first | exact Or.inl rfl | exact Or.inr rfl) (je_b (jp_callG C_l_cell hr (by decide) rfl (ja_cons (jp_var 0) (ja_cons (jp_var 1) ja_nil)))))
(jss_one (js_ret (je_lst (jae_cons (je_b (jp_bin o2_mod (jp_callTy oc_int rfl S.g_int (by decide +kernel) (ja_cons (jp_callB (oc_max rfl) rfl S.g_max (by decide +kernel) (ja_cons (jp_bin o2_sub (jp_var 2) (jp_bin o2_pow jp_int jp_int)) (ja_cons jp_int ja_nil))) ja_nil)) (jp_bin o2_pow (jp_bin o2_pow jp_int jp_int) jp_int))) (jae_cons (je_b (jp_bin o2_mod (jp_callTy oc_int rfl S.g_int (by decide +kernel) (ja_cons (jp_var 2) ja_nil)) jp_int)) (jae_cons (je_b (jp_bin o2_mul jp_int (jp_var 1))) jae_nil)))))))
abbrev N_l_links : List Str := ["_law_generator_here", "_law_most", "_law_size", "_law_kind", "_law_found", "_law_number", "_law_other", "_law_names", "_law_left", "_law_one"]
theorem sc_l_links : FnScope N_l_links ["_law_generator_here", "_law_most"] (defScope (top 24)) := ⟨rfl, rfl, rfl, by decide +kernel, rfl, by decide +kernel, by decide +kernel⟩
theorem ok_l_links {f : Addr} {fd : FuncData} (F : Fun K "_law_links" "_law_links" (top 24) f fd) (S : Facts K mg tabs cl) (C_l_random : CalG P w K mg base (tx tabs cl) 2 "_law_random" 2 r_l_random) : FnOk P w K mg base CX0 3 f fd ["_law_generator_here", "_law_most"] (spG K (tx tabs cl) 2 r_l_links) := by
  exact fn_ok F sc_l_links rfl rfl fun cdv A outer s H E hr =>
(jss_cons (js_par rfl sc_l_links.nd rfl rfl (by decide) rfl rfl (jae_cons (je_bin o2_add (je_b jp_int) (je_call C_l_random [true, false] hr (by decide) rfl (jca_cons (jrv_sl (j := 0) rfl) (jca_cons (jrv_vl (je_mv (j := 1))) jca_nil)))) (jae_cons (je_call C_l_random [true, false] hr (by decide) rfl (jca_cons (jrv_sl (j := 0) rfl) (jca_cons (jrv_vl (je_b jp_int)) jca_nil))) jae_nil)))
(jss_cons (js_set sc_l_links.nd rfl (by first | exact Or.inl rfl | exact Or.inr rfl) (je_b (jp_lst ja_nil)))
(jss_cons (js_for PassesOwn.never rfl (jie_range2 rfl S.g_range (je_b jp_int) (je_cp (j := 2))) (jgo_name sc_l_links.nd rfl (by first | exact Or.inl rfl | exact Or.inr rfl))
(jss_cons (js_set sc_l_links.nd rfl (by first | exact Or.inl rfl | exact Or.inr rfl) (je_if (jte_v (jt_cmp (o2_eq (hu64 hr)) (jp_var 3) jp_int (nomark _))) (je_b (jp_bin o2_sub (jp_var 5) jp_int)) (je_call C_l_random [true, false] hr (by decide) rfl (jca_cons (jrv_sl (j := 0) rfl) (jca_cons (jrv_vl (je_cp (j := 5))) jca_nil)))))
(jss_one (js_expr (je_mut PySem.F.slot_list_append PySem.F.type_list_append om_append (j := 4) rfl (jae_cons (je_tup (jae_cons (je_cp (j := 6)) (jae_cons (je_cp (j := 5)) jae_nil))) jae_nil))))))
(jss_cons (js_asg (je_tup (jae_cons (je_b (jp_lst ja_nil)) (jae_cons (je_b (jp_listRg1 rfl rfl S.g_list rfl S.g_range (jp_var 2))) jae_nil))) (jgo_tup rfl (jgos_cons (jgo_name sc_l_links.nd rfl (by first | exact Or.inl rfl | exact Or.inr rfl)) (jgos_cons (jgo_name sc_l_links.nd rfl (by first | exact Or.inl rfl | exact Or.inr rfl)) jgos_nil))))
(jss_cons (js_while PassesOwn.never (jte_v (jt_cmp (o2_ne (hu64 hr)) (jp_var 8) (jp_lst ja_nil) (nomark _)))
(jss_one (js_expr (je_mut PySem.F.slot_list_append PySem.F.type_list_append om_append (j := 7) rfl (jae_cons (je_mut PySem.F.slot_list_pop PySem.F.type_list_pop om_popAt (j := 8) rfl (jae_cons (je_if (jte_v (jt_cmp o2_gt (jp_var 3) jp_int (nomark _))) (je_call C_l_random [true, false] hr (by decide) rfl (jca_cons (jrv_sl (j := 0) rfl) (jca_cons (jrv_vl (je_b (jp_callB oc_len rfl S.g_len (by decide +kernel) (ja_cons (jp_var 8) ja_nil)))) jca_nil))) (je_b jp_int)) jae_nil)) jae_nil)))))
(jss_one (js_ret (je_b (jp_callB oc_sorted rfl S.g_sorted (by decide +kernel) (ja_cons (jp_comp (own := [("_law_one", 9), ("_law_other", 6)]) rfl sc_l_links.nd (ji_list (jp_var 4)) (blkOk_by (N := N_l_links) (sc := defScope (top 24)) (by decide +kernel)) (fun _ _ _ _ _ => (jg_tup rfl (jgs_cons (jg_name sc_l_links.nd rfl (by first | exact Or.inl rfl | exact Or.inr rfl)) (jgs_cons (jg_name sc_l_links.nd rfl (by first | exact Or.inl rfl | exact Or.inr rfl)) jgs_nil)))) (fun _ _ _ _ _ => jts_nil) (fun _ _ _ _ _ => (jp_tup (ja_cons (jp_callB (oc_min rfl) rfl S.g_min (by decide +kernel) (ja_cons (jp_ix (ox_ix (hu1 hr)) (jp_var 7) (jp_var 9)) (ja_cons (jp_ix (ox_ix (hu1 hr)) (jp_var 7) (jp_var 6)) ja_nil))) (ja_cons (jp_callB (oc_max rfl) rfl S.g_max (by decide +kernel) (ja_cons (jp_ix (ox_ix (hu1 hr)) (jp_var 7) (jp_var 9)) (ja_cons (jp_ix (ox_ix (hu1 hr)) (jp_var 7) (jp_var 6)) ja_nil))) ja_nil))))) ja_nil))))))))))
abbrev N_l_path : List Str := ["_law_links_here", "_law_one", "_law_other", "_law_ways", "_law_way", "_law_spot", "_law_low", "_law_high", "_law_fresh"]
theorem sc_l_path : FnScope N_l_path ["_law_links_here", "_law_one", "_law_other"] (defScope (top 25)) := ⟨rfl, rfl, rfl, by decide +kernel, rfl, by decide +kernel, by decide +kernel⟩
theorem ok_l_path {f : Addr} {fd : FuncData} (F : Fun K "_law_path" "_law_path" (top 25) f fd) (S : Facts K mg tabs cl)  : FnOk P w K mg base CX0 1 f fd ["_law_links_here", "_law_one", "_law_other"] (spG K (tx tabs cl) 3 r_l_path) := by
  exact fn_ok F sc_l_path rfl rfl fun cdv A outer s H E hr =>
(jss_cons (js_set sc_l_path.nd rfl (by first | exact Or.inl rfl | exact Or.inr rfl) (je_lst (jae_cons (je_lst (jae_cons (je_mv (j := 1)) jae_nil)) jae_nil)))
(jss_cons (js_while PassesOwn.never (jte_v (jt_cmp (o2_ne (hu64 hr)) (jp_var 3) (jp_lst ja_nil) (nomark _)))
(jss_cons (js_set sc_l_path.nd rfl (by first | exact Or.inl rfl | exact Or.inr rfl) (je_mut0 PySem.F.slot_list_pop PySem.F.type_list_pop om_pop (j := 3) rfl))
(jss_cons (js_set sc_l_path.nd rfl (by first | exact Or.inl rfl | exact Or.inr rfl) (je_b (jp_ix (ox_ix (hu1 hr)) (jp_var 4) (jp_bin o2_sub (jp_callB oc_len rfl S.g_len (by decide +kernel) (ja_cons (jp_var 4) ja_nil)) jp_int))))
(jss_cons (js_if (jte_v (jt_cmp (o2_eq (hu64 hr)) (jp_var 5) (jp_var 2) (nomark _)))
(jss_one (js_ret (je_b (jp_callB oc_sorted rfl S.g_sorted (by decide +kernel) (ja_cons (jp_slice (jp_var 4) (jo_some jp_int) (jo_some (jp_bin o2_sub (jp_callB oc_len rfl S.g_len (by decide +kernel) (ja_cons (jp_var 4) ja_nil)) jp_int))) ja_nil)))))
jss_nil)
(jss_one (js_for PassesOwn.never rfl (jie_list (je_cp (j := 0))) (jgo_tup rfl (jgos_cons (jgo_name sc_l_path.nd rfl (by first | exact Or.inl rfl | exact Or.inr rfl)) (jgos_cons (jgo_name sc_l_path.nd rfl (by first | exact Or.inl rfl | exact Or.inr rfl)) jgos_nil)))
(jss_one (js_if (jte_v (jt_cmp (o2_in (hu65 hr)) (jp_var 5) (jp_lst (ja_cons (jp_var 6) (ja_cons (jp_var 7) ja_nil))) (by with_unfolding_all rfl)))
(jss_cons (js_set sc_l_path.nd rfl (by first | exact Or.inl rfl | exact Or.inr rfl) (je_b (jp_bin o2_sub (jp_bin o2_add (jp_var 6) (jp_var 7)) (jp_var 5))))
(jss_one (js_if (jte_v (jt_cmp (o2_notIn (hu65 hr)) (jp_var 8) (jp_var 4) (by with_unfolding_all rfl)))
(jss_one (js_expr (je_mut PySem.F.slot_list_append PySem.F.type_list_append om_append (j := 3) rfl (jae_cons (je_b (jp_bin o2_add (jp_var 4) (jp_lst (ja_cons (jp_var 8) ja_nil)))) jae_nil))))
jss_nil)))
jss_nil))))))))
(jss_one (js_ret (je_b (jp_lst ja_nil))))))
abbrev N_is_tree_list : List Str := ["value", "link", "at"]
theorem sc_is_tree_list : FnScope N_is_tree_list ["value"] (defScope (top 13)) := ⟨rfl, rfl, rfl, by decide +kernel, rfl, by decide +kernel, by decide +kernel⟩
theorem ok_is_tree_list {f : Addr} {fd : FuncData} (F : Fun K "is_tree_list" "is_tree_list" (top 13) f fd) (S : Facts K mg tabs cl) (C_is_link : CalG P w K mg base (tx tabs cl) 3 "is_link" 2 r_is_link) (C_reached_from : CalG P w K mg base (tx tabs cl) 1 "reached_from" 2 r_reached_from) : FnOk P w K mg base CX0 4 f fd ["value"] (spG K (tx tabs cl) 1 r_is_tree_list) := by
  obtain ⟨_, c_MOST_KNOTS⟩ := S.c_MOST_KNOTS
  exact fn_ok F sc_is_tree_list rfl rfl fun cdv A outer s H E hr =>
(jss_cons (js_if (jte_v (jt_w (jw_or (jt_not (jt_val (jp_isi (t := "list") rfl S.g_isinstance rfl S.g_list (by decide +kernel) (jp_var 0)))) (jw_or1 (jt_cmp (o2_geX (hu0 hr)) (jp_callB oc_len rfl S.g_len (by decide +kernel) (ja_cons (jp_var 0) ja_nil)) (jp_gint rfl c_MOST_KNOTS) (nomark _))))))
(jss_one (js_ret (je_b jp_bl)))
jss_nil)
(jss_cons (js_if (jte_v (jt_cmp (o2_ne (hu64 hr)) (jp_comp (own := [("link", 1)]) rfl sc_is_tree_list.nd (ji_list (jp_var 0)) (blkOk_by (N := N_is_tree_list) (sc := defScope (top 13)) (by decide +kernel)) (fun _ _ _ _ _ => (jg_name sc_is_tree_list.nd rfl (by first | exact Or.inl rfl | exact Or.inr rfl))) (fun _ _ _ _ _ => (jts_one (jt_not (jt_val (jp_callG C_is_link hr (by decide) rfl (ja_cons (jp_bin o2_add (jp_callB oc_len rfl S.g_len (by decide +kernel) (ja_cons (jp_var 0) ja_nil)) jp_int) (ja_cons (jp_var 1) ja_nil))))))) (fun _ _ _ _ _ => (jp_var 1))) (jp_lst ja_nil) (nomark _)))
(jss_one (js_ret (je_b jp_bl)))
jss_nil)
(jss_cons (js_if (jte_v (jt_cmp (o2_ne (hu64 hr)) (jp_comp (own := [("at", 2)]) rfl sc_is_tree_list.nd (ji_range2 rfl S.g_range jp_int (jp_callB oc_len rfl S.g_len (by decide +kernel) (ja_cons (jp_var 0) ja_nil))) (blkOk_by (N := N_is_tree_list) (sc := defScope (top 13)) (by decide +kernel)) (fun _ _ _ _ _ => (jg_name sc_is_tree_list.nd rfl (by first | exact Or.inl rfl | exact Or.inr rfl))) (fun _ _ _ _ _ => (jts_one (jt_cmp (o2_geX (hu0 hr)) (jp_ix (ox_ix (hu1 hr)) (jp_var 0) (jp_bin o2_sub (jp_var 2) jp_int)) (jp_ix (ox_ix (hu1 hr)) (jp_var 0) (jp_var 2)) (nomark _)))) (fun _ _ _ _ _ => (jp_var 2))) (jp_lst ja_nil) (nomark _)))
(jss_one (js_ret (je_b jp_bl)))
jss_nil)
(jss_one (js_ret (je_b (jp_cmp (o2_eq (hu64 hr)) (jp_callB oc_len rfl S.g_len (by decide +kernel) (ja_cons (jp_callG C_reached_from hr (by decide) rfl (ja_cons (jp_var 0) (ja_cons jp_int ja_nil))) ja_nil)) (jp_bin o2_add (jp_callB oc_len rfl S.g_len (by decide +kernel) (ja_cons (jp_var 0) ja_nil)) jp_int) (nomark _))))))))
abbrev N_Tree_init : List Str := ["self", "links"]
theorem sc_Tree_init : FnScope N_Tree_init ["self", "links"] (defScope (inClass (top 11) 0)) := ⟨rfl, rfl, rfl, by decide +kernel, rfl, by decide +kernel, by decide +kernel⟩
theorem ok_Tree_init {f : Addr} {fd : FuncData} (F : Fun K "__init__" "Tree.__init__" (inClass (top 11) 0) f fd) (S : Facts K mg tabs cl) (C_is_tree_list : CalG P w K mg base (tx tabs cl) 4 "is_tree_list" 1 r_is_tree_list) : FnOk P w K mg base CX0 5 f fd ["self", "links"] (spG K (tx tabs cl) 2 r_Tree_init) := by
  exact fn_ok F sc_Tree_init rfl rfl fun cdv A outer s H E hr =>
(jss_cons (js_if (jte_v (jt_not (jt_val (jp_callG C_is_tree_list hr (by decide) rfl (ja_cons (jp_var 1) ja_nil)))))
jss_never
jss_nil)
(jss_one (js_fld (ix := 0) (nf := 1) (j := 0) S.fld_0 rfl rfl rfl (je_b (jp_callTy oc_list rfl S.g_list (by decide +kernel) (ja_cons (jp_var 1) ja_nil))))))
abbrev N_chain : List Str := ["size", "number"]
theorem sc_chain : FnScope N_chain ["size"] (defScope (top 16)) := ⟨rfl, rfl, rfl, by decide +kernel, rfl, by decide +kernel, by decide +kernel⟩
theorem ok_chain {f : Addr} {fd : FuncData} (F : Fun K "chain" "chain" (top 16) f fd) (S : Facts K mg tabs cl) (C_check_number : CalG P w K mg base (tx tabs cl) 3 "check_number" 3 r_check_number) (N_Tree_init : MakG P w K mg base (tx tabs cl) 5 "Tree" 0 2 r_Tree_init) : FnOk P w K mg base CX0 7 f fd ["size"] (spG K (tx tabs cl) 1 r_chain) := by
  obtain ⟨_, c_MOST_KNOTS⟩ := S.c_MOST_KNOTS
  exact fn_ok F sc_chain rfl rfl fun cdv A outer s H E hr =>
(jss_cons (js_expr (je_b (jp_callG C_check_number hr (by decide) rfl (ja_cons (jp_var 0) (ja_cons jp_int (ja_cons (jp_gint rfl c_MOST_KNOTS) ja_nil))))))
(jss_one (js_ret (je_b (jp_make N_Tree_init hr (by decide) rfl (ja_cons (jp_comp (own := [("number", 1)]) rfl sc_chain.nd (ji_range1 rfl S.g_range (jp_bin o2_sub (jp_var 0) jp_int)) (blkOk_by (N := N_chain) (sc := defScope (top 16)) (by decide +kernel)) (fun _ _ _ _ _ => (jg_name sc_chain.nd rfl (by first | exact Or.inl rfl | exact Or.inr rfl))) (fun _ _ _ _ _ => jts_nil) (fun _ _ _ _ _ => (jp_tup (ja_cons (jp_var 1) (ja_cons (jp_bin o2_add (jp_var 1) jp_int) ja_nil))))) ja_nil))))))
abbrev N_l_tree_right : List Str := ["_law_links_here", "_law_given", "_law_tree", "_law_size", "_law_one", "_law_other", "_law_told", "_law_link", "_law_number"]
theorem sc_l_tree_right : FnScope N_l_tree_right ["_law_links_here"] (defScope (top 26)) := ⟨rfl, rfl, rfl, by decide +kernel, rfl, by decide +kernel, by decide +kernel⟩
theorem ok_l_tree_right {f : Addr} {fd : FuncData} (F : Fun K "_law_tree_right" "_law_tree_right" (top 26) f fd) (S : Facts K mg tabs cl) (N_Tree_init : MakG P w K mg base (tx tabs cl) 5 "Tree" 0 2 r_Tree_init) (M_Tree_size : MetG P w K mg base (tx tabs cl) 1 0 "size" 1 r_Tree_size) (M_Tree_links : MetG P w K mg base (tx tabs cl) 1 0 "links" 1 r_Tree_links) (E_Tree_eq : EqG' P w K mg base (tx tabs cl) 1 0 r_Tree_eq) (MK_Tree_init_0 : MakK P w K mg base (tx tabs cl) 5 "Tree" 0 2 ["links"] [0] r_Tree_init) (C_between : CalG P w K mg base (tx tabs cl) 4 "between" 3 r_between) (C_l_path : CalG P w K mg base (tx tabs cl) 1 "_law_path" 3 r_l_path) (K_between_2_1_0 : CalK P w K mg base (tx tabs cl) 4 "between" 3 ["other", "one", "tree"] [2, 1, 0] r_between) (C_chain : CalG P w K mg base (tx tabs cl) 7 "chain" 1 r_chain) : FnOk P w K mg base CX0 8 f fd ["_law_links_here"] (spG K (tx tabs cl) 1 r_l_tree_right) := by
  exact fn_ok F sc_l_tree_right rfl rfl fun cdv A outer s H E hr =>
(jss_cons (js_lc (own := [("_law_link", 7)]) rfl sc_l_tree_right.nd rfl rfl (by first | rfl | exact sw_true rfl rfl rfl rfl) (ji_list (jp_var 0)) (blkOk_by (N := N_l_tree_right) (sc := defScope (top 26)) (by decide +kernel)) (fun _ _ _ _ _ => (jg_name sc_l_tree_right.nd rfl (by first | exact Or.inl rfl | exact Or.inr rfl))) (fun _ _ _ _ _ => jts_nil) (fun _ _ _ _ _ => (jp_var 7)))
(jss_cons (js_par rfl sc_l_tree_right.nd rfl rfl (by decide) rfl rfl (jae_cons (je_b (jp_make N_Tree_init hr (by decide) rfl (ja_cons (jp_var 1) ja_nil))) (jae_cons (je_b (jp_bin o2_add (jp_callB oc_len rfl S.g_len (by decide +kernel) (ja_cons (jp_var 0) ja_nil)) jp_int)) jae_nil)))
(jss_cons (js_if (jte_v (jt_w (jw_or (jt_cmp (o2_ne (hu64 hr)) (jp_meth0 M_Tree_size hr (by decide) (jp_var 2)) (jp_var 3) (nomark _)) (jw_or (jt_cmp (o2_ne (hu64 hr)) (jp_meth0 M_Tree_links hr (by decide) (jp_var 2)) (jp_var 0) (nomark _)) (jw_or1 (jt_cmp (o2_ne (hu64 hr)) (jp_var 1) (jp_var 0) (nomark _)))))))
(jss_one (js_ret (je_b jp_bl)))
jss_nil)
(jss_cons (js_expr (je_mut PySem.F.slot_list_append PySem.F.type_list_append om_append (j := 1) rfl (jae_cons (je_b jp_non) jae_nil)))
(jss_cons (js_expr (je_tmp PySem.F.slot_list_append PySem.F.type_list_append om_append (je_b (jp_meth0 M_Tree_links hr (by decide) (jp_var 2))) (jae_cons (je_b jp_int) jae_nil)))
(jss_cons (js_if (jte_v (jt_w (jw_or (jt_cmp (o2_ne (hu64 hr)) (jp_meth0 M_Tree_links hr (by decide) (jp_var 2)) (jp_var 0) (nomark _)) (jw_or (jt_cmp o2_isNot (jp_cmp (o2_eqI E_Tree_eq hr (by decide)) (jp_makeK MK_Tree_init_0 hr (by decide) rfl (jk_cons (jp_callTy oc_list rfl S.g_list (by decide +kernel) (ja_cons (jp_var 0) ja_nil)) jk_nil)) (jp_var 2) (nomark _)) jp_bl (nomark _)) (jw_or1 (jt_cmp o2_isNot (jp_cmp (o2_eqI E_Tree_eq hr (by decide)) (jp_var 2) (jp_var 0) (nomark _)) jp_bl (nomark _)))))))
(jss_one (js_ret (je_b jp_bl)))
jss_nil)
(jss_cons (js_for PassesOwn.never rfl (jie_range1 rfl S.g_range (je_cp (j := 3))) (jgo_name sc_l_tree_right.nd rfl (by first | exact Or.inl rfl | exact Or.inr rfl))
(jss_one (js_for PassesOwn.never rfl (jie_range1 rfl S.g_range (je_cp (j := 3))) (jgo_name sc_l_tree_right.nd rfl (by first | exact Or.inl rfl | exact Or.inr rfl))
(jss_cons (js_set sc_l_tree_right.nd rfl (by first | exact Or.inl rfl | exact Or.inr rfl) (je_b (jp_callG C_between hr (by decide) rfl (ja_cons (jp_var 2) (ja_cons (jp_var 4) (ja_cons (jp_var 5) ja_nil))))))
(jss_cons (js_if (jte_v (jt_w (jw_or (jt_cmp (o2_ne (hu64 hr)) (jp_var 6) (jp_callG C_l_path hr (by decide) rfl (ja_cons (jp_var 0) (ja_cons (jp_var 4) (ja_cons (jp_var 5) ja_nil)))) (nomark _)) (jw_or1 (jt_cmp (o2_ne (hu64 hr)) (jp_callK K_between_2_1_0 hr (by decide) rfl (jk_cons (jp_var 5) (jk_cons (jp_var 4) (jk_cons (jp_var 2) jk_nil)))) (jp_var 6) (nomark _))))))
(jss_one (js_ret (je_b jp_bl)))
jss_nil)
(jss_cons (js_expr (je_mut PySem.F.slot_list_append PySem.F.type_list_append om_append (j := 6) rfl (jae_cons (je_cp (j := 4)) jae_nil)))
(jss_one (js_if (jte_v (jt_cmp (o2_ne (hu64 hr)) (jp_callG C_between hr (by decide) rfl (ja_cons (jp_var 2) (ja_cons (jp_var 4) (ja_cons (jp_var 5) ja_nil)))) (jp_callG C_l_path hr (by decide) rfl (ja_cons (jp_var 0) (ja_cons (jp_var 4) (ja_cons (jp_var 5) ja_nil)))) (nomark _)))
(jss_one (js_ret (je_b jp_bl)))
jss_nil))))))))
(jss_one (js_ret (je_b (jp_cmp (o2_eq (hu64 hr)) (jp_cmp (o2_eqI E_Tree_eq hr (by decide)) (jp_callG C_chain hr (by decide) rfl (ja_cons (jp_var 3) ja_nil)) (jp_var 2) (nomark _)) (jp_cmp (o2_eq (hu64 hr)) (jp_var 0) (jp_comp (own := [("_law_number", 8)]) rfl sc_l_tree_right.nd (ji_range1 rfl S.g_range (jp_bin o2_sub (jp_var 3) jp_int)) (blkOk_by (N := N_l_tree_right) (sc := defScope (top 26)) (by decide +kernel)) (fun _ _ _ _ _ => (jg_name sc_l_tree_right.nd rfl (by first | exact Or.inl rfl | exact Or.inr rfl))) (fun _ _ _ _ _ => jts_nil) (fun _ _ _ _ _ => (jp_tup (ja_cons (jp_var 8) (ja_cons (jp_bin o2_add (jp_var 8) jp_int) ja_nil))))) (nomark _)) (nomark _))))))))))))
abbrev N_law : List Str := ["_law_script", "_law_index", "_law_size", "_law_number"]
theorem sc_law : FnScope N_law ["_law_script"] (defScope (top 27)) := ⟨rfl, rfl, rfl, by decide +kernel, rfl, by decide +kernel, by decide +kernel⟩
theorem ok_law {f : Addr} {fd : FuncData} (F : Fun K "law" "law" (top 27) f fd) (S : Facts K mg tabs cl) (C_l_tree_right : CalG P w K mg base (tx tabs cl) 8 "_law_tree_right" 1 r_l_tree_right) (C_l_links : CalG P w K mg base (tx tabs cl) 3 "_law_links" 2 r_l_links) (C_l_generator : CalG P w K mg base (tx tabs cl) 2 "_law_generator" 2 r_l_generator) (M_Tree_links : MetG P w K mg base (tx tabs cl) 1 0 "links" 1 r_Tree_links) (C_chain : CalG P w K mg base (tx tabs cl) 7 "chain" 1 r_chain) (M_Tree_size : MetG P w K mg base (tx tabs cl) 1 0 "size" 1 r_Tree_size) (K_chain_0 : CalK P w K mg base (tx tabs cl) 7 "chain" 1 ["size"] [0] r_chain) (C_between : CalG P w K mg base (tx tabs cl) 4 "between" 3 r_between) (N_Tree_init : MakG P w K mg base (tx tabs cl) 5 "Tree" 0 2 r_Tree_init) : FnOk P w K mg base CX0 9 f fd ["_law_script"] (spG K (tx tabs cl) 1 r_law) := by
  exact fn_ok F sc_law rfl rfl fun cdv A outer s H E hr =>
(jss_cons (js_for PassesOwn.never rfl (jie_range1 rfl S.g_range (je_b jp_int)) (jgo_name sc_law.nd rfl (by first | exact Or.inl rfl | exact Or.inr rfl))
(jss_one (js_if (jte_not (jte_val (je_call C_l_tree_right [false] hr (by decide) rfl (jca_cons (jrv_vl (je_call C_l_links [true, false] hr (by decide) rfl (jca_cons (jrv_vl (je_b (jp_callG C_l_generator hr (by decide) rfl (ja_cons (jp_var 0) (ja_cons (jp_var 1) ja_nil))))) (jca_cons (jrv_vl (je_b jp_int)) jca_nil)))) jca_nil))))
(jss_one (js_ret (je_b jp_bl)))
jss_nil)))
(jss_cons (js_for PassesOwn.never rfl (jie_range2 rfl S.g_range (je_b jp_int) (je_b jp_int)) (jgo_name sc_law.nd rfl (by first | exact Or.inl rfl | exact Or.inr rfl))
(jss_cons (js_if (jte_v (jt_w (jw_or (jt_cmp (o2_ne (hu64 hr)) (jp_meth0 M_Tree_links hr (by decide) (jp_callG C_chain hr (by decide) rfl (ja_cons (jp_var 2) ja_nil))) (jp_comp (own := [("_law_number", 3)]) rfl sc_law.nd (ji_range1 rfl S.g_range (jp_bin o2_sub (jp_var 2) jp_int)) (blkOk_by (N := N_law) (sc := defScope (top 27)) (by decide +kernel)) (fun _ _ _ _ _ => (jg_name sc_law.nd rfl (by first | exact Or.inl rfl | exact Or.inr rfl))) (fun _ _ _ _ _ => jts_nil) (fun _ _ _ _ _ => (jp_tup (ja_cons (jp_var 3) (ja_cons (jp_bin o2_add (jp_var 3) jp_int) ja_nil))))) (nomark _)) (jw_or1 (jt_cmp (o2_ne (hu64 hr)) (jp_meth0 M_Tree_size hr (by decide) (jp_callK K_chain_0 hr (by decide) rfl (jk_cons (jp_var 2) jk_nil))) (jp_var 2) (nomark _))))))
(jss_one (js_ret (je_b jp_bl)))
jss_nil)
(jss_one (js_if (jte_v (jt_cmp (o2_ne (hu64 hr)) (jp_callG C_between hr (by decide) rfl (ja_cons (jp_callG C_chain hr (by decide) rfl (ja_cons (jp_var 2) ja_nil)) (ja_cons (jp_bin o2_sub (jp_var 2) jp_int) (ja_cons jp_int ja_nil)))) (jp_listRg2 rfl rfl S.g_list rfl S.g_range jp_int (jp_bin o2_sub (jp_var 2) jp_int)) (nomark _)))
(jss_one (js_ret (je_b jp_bl)))
jss_nil))))
(jss_one (js_ret (je_b (jp_and (jp_cmp (o2_eq (hu64 hr)) (jp_callG C_between hr (by decide) rfl (ja_cons (jp_make N_Tree_init hr (by decide) rfl (ja_cons (jp_lst (ja_cons (jp_tup (ja_cons jp_int (ja_cons jp_int ja_nil))) (ja_cons (jp_tup (ja_cons jp_int (ja_cons jp_int ja_nil))) (ja_cons (jp_tup (ja_cons jp_int (ja_cons jp_int ja_nil))) (ja_cons (jp_tup (ja_cons jp_int (ja_cons jp_int ja_nil))) (ja_cons (jp_tup (ja_cons jp_int (ja_cons jp_int ja_nil))) (ja_cons (jp_tup (ja_cons jp_int (ja_cons jp_int ja_nil))) (ja_cons (jp_tup (ja_cons jp_int (ja_cons jp_int ja_nil))) ja_nil)))))))) ja_nil)) (ja_cons jp_int (ja_cons jp_int ja_nil)))) (jp_lst (ja_cons jp_int ja_nil)) (nomark _)) (jp_one (jp_cmp (o2_eq (hu64 hr)) (jp_meth0 M_Tree_size hr (by decide) (jp_make N_Tree_init hr (by decide) rfl (ja_cons (jp_lst ja_nil) ja_nil))) jp_int (nomark _)))))))))
end
end L81
set_option Elab.async false
set_option linter.all false
set_option maxRecDepth 100000
set_option maxHeartbeats 4000000

/-! L81: all together -/
namespace L81
open PySem L2 G

section
variable {P : Program} {w : World} {K : PySem.W.Frag} {mg : Str → Option Value} {tabs : List (Addr × Str)} {cl : Nat → Addr}
theorem all_ok (S : Facts K mg tabs cl) (D_is_whole : TopDef K mg "is_whole" (top 6)) (D_is_between : TopDef K mg "is_between" (top 7)) (D_check_number : TopDef K mg "check_number" (top 8)) (D_Tree_size : TopMeth K (cl 0) "size" "Tree.size" (inClass (top 11) 1)) (D_Tree_links : TopMeth K (cl 0) "links" "Tree.links" (inClass (top 11) 2)) (D_Tree_eq : TopMeth K (cl 0) "__eq__" "Tree.__eq__" (inClass (top 11) 3)) (D_is_link : TopDef K mg "is_link" (top 12)) (D_reached_from : TopDef K mg "reached_from" (top 14)) (D_check_tree : TopDef K mg "check_tree" (top 15)) (D_path_between : TopDef K mg "path_between" (top 17)) (D_between : TopDef K mg "between" (top 18)) (D_l_hash : TopDef K mg "_law_hash" (top 20)) (D_l_random : TopDef K mg "_law_random" (top 21)) (D_l_cell : TopDef K mg "_law_cell" (top 22)) (D_l_generator : TopDef K mg "_law_generator" (top 23)) (D_l_links : TopDef K mg "_law_links" (top 24)) (D_l_path : TopDef K mg "_law_path" (top 25)) (D_is_tree_list : TopDef K mg "is_tree_list" (top 13)) (D_Tree_init : TopMeth K (cl 0) "__init__" "Tree.__init__" (inClass (top 11) 0)) (D_chain : TopDef K mg "chain" (top 16)) (D_l_tree_right : TopDef K mg "_law_tree_right" (top 26)) (D_law : TopDef K mg "law" (top 27)) (Q_Tree : TopCls K mg (cl 0) "Tree") (QE_Tree : EqNo K (cl 0)) {fa : Addr} (hfa : mg "law" = some (.ref fa)) : ∃ fd : FuncData, (∀ (s : Shared) (v : Value), BindsTo s fd ⟨[v], []⟩ [("_law_script", v)]) ∧ ∀ base : Heap, FnOk P w K mg base CX0 9 fa fd ["_law_script"] (spG K (tx tabs cl) 1 r_law) := by
  obtain ⟨f_is_whole, fd_is_whole, F_is_whole, m_is_whole⟩ := D_is_whole.ex
  obtain ⟨f_is_between, fd_is_between, F_is_between, m_is_between⟩ := D_is_between.ex
  obtain ⟨f_check_number, fd_check_number, F_check_number, m_check_number⟩ := D_check_number.ex
  obtain ⟨f_Tree_size, fd_Tree_size, F_Tree_size, m_Tree_size⟩ := D_Tree_size.ex
  obtain ⟨f_Tree_links, fd_Tree_links, F_Tree_links, m_Tree_links⟩ := D_Tree_links.ex
  obtain ⟨f_Tree_eq, fd_Tree_eq, F_Tree_eq, m_Tree_eq⟩ := D_Tree_eq.ex
  obtain ⟨f_is_link, fd_is_link, F_is_link, m_is_link⟩ := D_is_link.ex
  obtain ⟨f_reached_from, fd_reached_from, F_reached_from, m_reached_from⟩ := D_reached_from.ex
  obtain ⟨f_check_tree, fd_check_tree, F_check_tree, m_check_tree⟩ := D_check_tree.ex
  obtain ⟨f_path_between, fd_path_between, F_path_between, m_path_between⟩ := D_path_between.ex
  obtain ⟨f_between, fd_between, F_between, m_between⟩ := D_between.ex
  obtain ⟨f_l_hash, fd_l_hash, F_l_hash, m_l_hash⟩ := D_l_hash.ex
  obtain ⟨f_l_random, fd_l_random, F_l_random, m_l_random⟩ := D_l_random.ex
  obtain ⟨f_l_cell, fd_l_cell, F_l_cell, m_l_cell⟩ := D_l_cell.ex
  obtain ⟨f_l_generator, fd_l_generator, F_l_generator, m_l_generator⟩ := D_l_generator.ex
  obtain ⟨f_l_links, fd_l_links, F_l_links, m_l_links⟩ := D_l_links.ex
  obtain ⟨f_l_path, fd_l_path, F_l_path, m_l_path⟩ := D_l_path.ex
  obtain ⟨f_is_tree_list, fd_is_tree_list, F_is_tree_list, m_is_tree_list⟩ := D_is_tree_list.ex
  obtain ⟨f_Tree_init, fd_Tree_init, F_Tree_init, m_Tree_init⟩ := D_Tree_init.ex
  obtain ⟨f_chain, fd_chain, F_chain, m_chain⟩ := D_chain.ex
  obtain ⟨f_l_tree_right, fd_l_tree_right, F_l_tree_right, m_l_tree_right⟩ := D_l_tree_right.ex
  obtain ⟨f_law, fd_law, F_law, m_law⟩ := D_law.ex
  have efa : fa = f_law := by
    rw [m_law] at hfa
    cases hfa
    rfl
  subst efa
  refine ⟨fd_law, fun s v => F_law.bind1 (fun _ _ _ _ _ _ _ => rfl) s v, fun base => ?_⟩
  have o_is_whole := ok_is_whole (P := P) (w := w) (base := base) F_is_whole S 
  have b_is_whole := F_is_whole.binds (ps := ["value"]) fun _ _ _ _ _ _ us hl => match us, hl with | [_], _ => rfl
  have C_is_whole : CalG P w K mg base (tx tabs cl) 1 "is_whole" 1 r_is_whole := ⟨_, _, _, o_is_whole, m_is_whole, F_is_whole.kp, b_is_whole⟩
  have o_is_between := ok_is_between (P := P) (w := w) (base := base) F_is_between S C_is_whole
  have b_is_between := F_is_between.binds (ps := ["value", "low", "high"]) fun _ _ _ _ _ _ us hl => match us, hl with | [_, _, _], _ => rfl
  have C_is_between : CalG P w K mg base (tx tabs cl) 2 "is_between" 3 r_is_between := ⟨_, _, _, o_is_between, m_is_between, F_is_between.kp, b_is_between⟩
  have o_check_number := ok_check_number (P := P) (w := w) (base := base) F_check_number S C_is_between
  have b_check_number := F_check_number.binds (ps := ["number", "low", "high"]) fun _ _ _ _ _ _ us hl => match us, hl with | [_, _, _], _ => rfl
  have C_check_number : CalG P w K mg base (tx tabs cl) 3 "check_number" 3 r_check_number := ⟨_, _, _, o_check_number, m_check_number, F_check_number.kp, b_check_number⟩
  have o_Tree_size := ok_Tree_size (P := P) (w := w) (base := base) F_Tree_size S 
  have b_Tree_size := F_Tree_size.binds (ps := ["self"]) fun _ _ _ _ _ _ us hl => match us, hl with | [_], _ => rfl
  have M_Tree_size : MetG P w K mg base (tx tabs cl) 1 0 "size" 1 r_Tree_size := ⟨_, _, _, Q_Tree.cls, m_Tree_size, o_Tree_size, b_Tree_size, by show ("size" : Str) ∉ (["_links"] : List Str); decide +kernel⟩
  have o_Tree_links := ok_Tree_links (P := P) (w := w) (base := base) F_Tree_links S 
  have b_Tree_links := F_Tree_links.binds (ps := ["self"]) fun _ _ _ _ _ _ us hl => match us, hl with | [_], _ => rfl
  have M_Tree_links : MetG P w K mg base (tx tabs cl) 1 0 "links" 1 r_Tree_links := ⟨_, _, _, Q_Tree.cls, m_Tree_links, o_Tree_links, b_Tree_links, by show ("links" : Str) ∉ (["_links"] : List Str); decide +kernel⟩
  have o_Tree_eq := ok_Tree_eq (P := P) (w := w) (base := base) F_Tree_eq S 
  have b_Tree_eq := F_Tree_eq.binds (ps := ["self", "other"]) fun _ _ _ _ _ _ us hl => match us, hl with | [_, _], _ => rfl
  have E_Tree_eq : EqG' P w K mg base (tx tabs cl) 1 0 r_Tree_eq := ⟨⟨_, _, _, o_Tree_eq, m_Tree_eq.at_, m_Tree_eq.fn, b_Tree_eq⟩, QE_Tree.no⟩
  have o_is_link := ok_is_link (P := P) (w := w) (base := base) F_is_link S C_is_between
  have b_is_link := F_is_link.binds (ps := ["size", "value"]) fun _ _ _ _ _ _ us hl => match us, hl with | [_, _], _ => rfl
  have C_is_link : CalG P w K mg base (tx tabs cl) 3 "is_link" 2 r_is_link := ⟨_, _, _, o_is_link, m_is_link, F_is_link.kp, b_is_link⟩
  have o_reached_from := ok_reached_from (P := P) (w := w) (base := base) F_reached_from S 
  have b_reached_from := F_reached_from.binds (ps := ["links", "start"]) fun _ _ _ _ _ _ us hl => match us, hl with | [_, _], _ => rfl
  have C_reached_from : CalG P w K mg base (tx tabs cl) 1 "reached_from" 2 r_reached_from := ⟨_, _, _, o_reached_from, m_reached_from, F_reached_from.kp, b_reached_from⟩
  have o_check_tree := ok_check_tree (P := P) (w := w) (base := base) F_check_tree S 
  have b_check_tree := F_check_tree.binds (ps := ["tree"]) fun _ _ _ _ _ _ us hl => match us, hl with | [_], _ => rfl
  have C_check_tree : CalG P w K mg base (tx tabs cl) 1 "check_tree" 1 r_check_tree := ⟨_, _, _, o_check_tree, m_check_tree, F_check_tree.kp, b_check_tree⟩
  have o_path_between := ok_path_between (P := P) (w := w) (base := base) F_path_between S C_reached_from
  have b_path_between := F_path_between.binds (ps := ["links", "one", "other"]) fun _ _ _ _ _ _ us hl => match us, hl with | [_, _, _], _ => rfl
  have C_path_between : CalG P w K mg base (tx tabs cl) 2 "path_between" 3 r_path_between := ⟨_, _, _, o_path_between, m_path_between, F_path_between.kp, b_path_between⟩
  have o_between := ok_between (P := P) (w := w) (base := base) F_between S C_check_tree C_check_number M_Tree_size C_path_between M_Tree_links
  have b_between := F_between.binds (ps := ["tree", "one", "other"]) fun _ _ _ _ _ _ us hl => match us, hl with | [_, _, _], _ => rfl
  have C_between : CalG P w K mg base (tx tabs cl) 4 "between" 3 r_between := ⟨_, _, _, o_between, m_between, F_between.kp, b_between⟩
  have K_between_2_1_0 : CalK P w K mg base (tx tabs cl) 4 "between" 3 ["other", "one", "tree"] [2, 1, 0] r_between := ⟨_, _, _, o_between, m_between, F_between.kp, F_between.kb fun _ _ _ _ _ _ us hl => match us, hl with | [_, _, _], _ => rfl⟩
  have o_l_hash := ok_l_hash (P := P) (w := w) (base := base) F_l_hash S 
  have b_l_hash := F_l_hash.binds (ps := ["_law_seed", "_law_index"]) fun _ _ _ _ _ _ us hl => match us, hl with | [_, _], _ => rfl
  have C_l_hash : CalG P w K mg base (tx tabs cl) 1 "_law_hash" 2 r_l_hash := ⟨_, _, _, o_l_hash, m_l_hash, F_l_hash.kp, b_l_hash⟩
  have o_l_random := ok_l_random (P := P) (w := w) (base := base) F_l_random S C_l_hash
  have b_l_random := F_l_random.binds (ps := ["_law_generator_here", "_law_bound"]) fun _ _ _ _ _ _ us hl => match us, hl with | [_, _], _ => rfl
  have C_l_random : CalG P w K mg base (tx tabs cl) 2 "_law_random" 2 r_l_random := ⟨_, _, _, o_l_random, m_l_random, F_l_random.kp, b_l_random⟩
  have o_l_cell := ok_l_cell (P := P) (w := w) (base := base) F_l_cell S 
  have b_l_cell := F_l_cell.binds (ps := ["_law_script", "_law_index"]) fun _ _ _ _ _ _ us hl => match us, hl with | [_, _], _ => rfl
  have C_l_cell : CalG P w K mg base (tx tabs cl) 1 "_law_cell" 2 r_l_cell := ⟨_, _, _, o_l_cell, m_l_cell, F_l_cell.kp, b_l_cell⟩
  have o_l_generator := ok_l_generator (P := P) (w := w) (base := base) F_l_generator S C_l_cell
  have b_l_generator := F_l_generator.binds (ps := ["_law_script", "_law_index"]) fun _ _ _ _ _ _ us hl => match us, hl with | [_, _], _ => rfl
  have C_l_generator : CalG P w K mg base (tx tabs cl) 2 "_law_generator" 2 r_l_generator := ⟨_, _, _, o_l_generator, m_l_generator, F_l_generator.kp, b_l_generator⟩
  have o_l_links := ok_l_links (P := P) (w := w) (base := base) F_l_links S C_l_random
  have b_l_links := F_l_links.binds (ps := ["_law_generator_here", "_law_most"]) fun _ _ _ _ _ _ us hl => match us, hl with | [_, _], _ => rfl
  have C_l_links : CalG P w K mg base (tx tabs cl) 3 "_law_links" 2 r_l_links := ⟨_, _, _, o_l_links, m_l_links, F_l_links.kp, b_l_links⟩
  have o_l_path := ok_l_path (P := P) (w := w) (base := base) F_l_path S 
  have b_l_path := F_l_path.binds (ps := ["_law_links_here", "_law_one", "_law_other"]) fun _ _ _ _ _ _ us hl => match us, hl with | [_, _, _], _ => rfl
  have C_l_path : CalG P w K mg base (tx tabs cl) 1 "_law_path" 3 r_l_path := ⟨_, _, _, o_l_path, m_l_path, F_l_path.kp, b_l_path⟩
  have o_is_tree_list := ok_is_tree_list (P := P) (w := w) (base := base) F_is_tree_list S C_is_link C_reached_from
  have b_is_tree_list := F_is_tree_list.binds (ps := ["value"]) fun _ _ _ _ _ _ us hl => match us, hl with | [_], _ => rfl
  have C_is_tree_list : CalG P w K mg base (tx tabs cl) 4 "is_tree_list" 1 r_is_tree_list := ⟨_, _, _, o_is_tree_list, m_is_tree_list, F_is_tree_list.kp, b_is_tree_list⟩
  have o_Tree_init := ok_Tree_init (P := P) (w := w) (base := base) F_Tree_init S C_is_tree_list
  have b_Tree_init := F_Tree_init.binds (ps := ["self", "links"]) fun _ _ _ _ _ _ us hl => match us, hl with | [_, _], _ => rfl
  have N_Tree_init : MakG P w K mg base (tx tabs cl) 5 "Tree" 0 2 r_Tree_init := ⟨_, _, _, ⟨Q_Tree.makes, m_Tree_init.at_, m_Tree_init.fn, Q_Tree.kp⟩, Q_Tree.mgC, o_Tree_init, b_Tree_init⟩
  have MK_Tree_init_0 : MakK P w K mg base (tx tabs cl) 5 "Tree" 0 2 ["links"] [0] r_Tree_init := ⟨_, _, _, ⟨Q_Tree.makes, m_Tree_init.at_, m_Tree_init.fn, Q_Tree.kp⟩, Q_Tree.mgC, o_Tree_init, F_Tree_init.kb1 fun _ _ _ _ _ _ u us hl => match us, hl with | [_], _ => rfl⟩
  have o_chain := ok_chain (P := P) (w := w) (base := base) F_chain S C_check_number N_Tree_init
  have b_chain := F_chain.binds (ps := ["size"]) fun _ _ _ _ _ _ us hl => match us, hl with | [_], _ => rfl
  have C_chain : CalG P w K mg base (tx tabs cl) 7 "chain" 1 r_chain := ⟨_, _, _, o_chain, m_chain, F_chain.kp, b_chain⟩
  have K_chain_0 : CalK P w K mg base (tx tabs cl) 7 "chain" 1 ["size"] [0] r_chain := ⟨_, _, _, o_chain, m_chain, F_chain.kp, F_chain.kb fun _ _ _ _ _ _ us hl => match us, hl with | [_], _ => rfl⟩
  have o_l_tree_right := ok_l_tree_right (P := P) (w := w) (base := base) F_l_tree_right S N_Tree_init M_Tree_size M_Tree_links E_Tree_eq MK_Tree_init_0 C_between C_l_path K_between_2_1_0 C_chain
  have b_l_tree_right := F_l_tree_right.binds (ps := ["_law_links_here"]) fun _ _ _ _ _ _ us hl => match us, hl with | [_], _ => rfl
  have C_l_tree_right : CalG P w K mg base (tx tabs cl) 8 "_law_tree_right" 1 r_l_tree_right := ⟨_, _, _, o_l_tree_right, m_l_tree_right, F_l_tree_right.kp, b_l_tree_right⟩
  exact ok_law (P := P) (w := w) (base := base) F_law S C_l_tree_right C_l_links C_l_generator M_Tree_links C_chain M_Tree_size K_chain_0 C_between N_Tree_init
end
def clf (C0 : Addr) : Nat → Addr := fun c => match c with
  | 0 => C0
  | _ => 0
theorem facts_mk {K : PySem.W.Frag} {mg : Str → Option Value} {h : Heap} {C0 : Addr} (KX : K.In h) (Q_Tree : TopCls K mg C0 "Tree") (n_0__links : NoAttr K C0 "_links") (g_bool : mg "bool" = none) (g_int : mg "int" = none) (g_isinstance : mg "isinstance" = none) (g_len : mg "len" = none) (g_list : mg "list" = none) (g_max : mg "max" = none) (g_min : mg "min" = none) (g_range : mg "range" = none) (g_sorted : mg "sorted" = none) (g_sum : mg "sum" = none) (g_tuple : mg "tuple" = none) (i_0 : TopIsi K C0) (c_MOST_KNOTS : ∃ t, mg "MOST_KNOTS" = some (.int 8 t)) : Facts K mg [] (clf C0) := {
    fld_0 := ⟨Q_Tree.cls, (by
      show ∀ f ∈ (["_links"] : List Str), NoAttr K C0 f
      intro f hf
      simp only [List.mem_cons, List.not_mem_nil, or_false] at hf
      rcases hf with rfl <;> assumption), (by show (["_links"] : List Str).Nodup; decide +kernel), (by show (["_links"] : List Str).length < 1000; decide)⟩
    g_bool := g_bool
    g_int := g_int
    g_isinstance := g_isinstance
    g_len := g_len
    g_list := g_list
    g_max := g_max
    g_min := g_min
    g_range := g_range
    g_sorted := g_sorted
    g_sum := g_sum
    g_tuple := g_tuple
    isi_0 := TopIsi.isi (T := tx [] (clf C0)) (c := 0) i_0 Q_Tree.cls
    mg_Tree := Q_Tree.mgC
    c_MOST_KNOTS := c_MOST_KNOTS }
def spLaw (K : PySem.W.Frag) : Sp := fun vs H Q _ => ∃ (a : Addr) (ns : List Int), vs = [.ref a] ∧ SqL K H a (ns.map V.int) ∧ ns.length ≤ 63 ∧ ∀ H', Q (.bl true) H'
theorem law_sp {K : PySem.W.Frag} {cl : Nat → Addr} : ∀ vs H Q E, spLaw K vs H Q E → spG K (tx [] cl) 1 r_law vs H Q E := by
  rintro vs H Q E ⟨a, ns, rfl, hS, hl, k⟩
  obtain ⟨m, ps, e⟩ := law_true ns hl
  exact law_in rfl hS e k
end L81
open PySem PySem.W PyProof.Rows in
set_option maxRecDepth 100000 in
set_option maxHeartbeats 0 in
theorem PySem.Challenge.cw_gapswaps_k81_trees_and_what_is_between_holds : PySem.Challenge.rw_gapswaps_k81_trees_and_what_is_between.Holds := by
  w_on; o_law; k_head; (case hw => w_witness2)
  k_fill
  refine L2.walk_of (l := PySem.Challenge.rw_gapswaps_k81_trees_and_what_is_between) (n := 63) (k := 9) (x := "_law_script") (CX := fun _ => L2.CX0) (sp := fun w => L81.spLaw _) rfl (by decide) rfl ⟨rfl, by decide, by decide⟩ (fun w h Y => PySem.W.kIn_of Y) ?F (fun _ _ a ns hl _ hS => ⟨a, ns, rfl, hS, hl, fun _ => rfl⟩) (fun _ _ _ _ _ z => z)
  case F =>
    intro w mg fa h KX GG hmg
    have Q_Tree := G.topCls_mk (x := "Tree") KX GG (by k_is) (by k_is) (by k_is) (by k_is) (by k_is) (by k_is) (by k_is)
    have D_is_whole := G.topDef_mk (x := "is_whole") (st := (L81.top 6)) KX GG (by k_is) (by k_is) (by k_is) (by k_is)
    have D_is_between := G.topDef_mk (x := "is_between") (st := (L81.top 7)) KX GG (by k_is) (by k_is) (by k_is) (by k_is)
    have D_check_number := G.topDef_mk (x := "check_number") (st := (L81.top 8)) KX GG (by k_is) (by k_is) (by k_is) (by k_is)
    have D_Tree_size := G.topMeth_mk (m := "size") (qual := "Tree.size") (st := (L2.inClass (L81.top 11) 1)) Q_Tree (by k_is) (by k_is) (by k_is) (by k_is) (by k_is)
    have D_Tree_links := G.topMeth_mk (m := "links") (qual := "Tree.links") (st := (L2.inClass (L81.top 11) 2)) Q_Tree (by k_is) (by k_is) (by k_is) (by k_is) (by k_is)
    have D_Tree_eq := G.topMeth_mk (m := "__eq__") (qual := "Tree.__eq__") (st := (L2.inClass (L81.top 11) 3)) Q_Tree (by k_is) (by k_is) (by k_is) (by k_is) (by k_is)
    have D_is_link := G.topDef_mk (x := "is_link") (st := (L81.top 12)) KX GG (by k_is) (by k_is) (by k_is) (by k_is)
    have D_reached_from := G.topDef_mk (x := "reached_from") (st := (L81.top 14)) KX GG (by k_is) (by k_is) (by k_is) (by k_is)
    have D_check_tree := G.topDef_mk (x := "check_tree") (st := (L81.top 15)) KX GG (by k_is) (by k_is) (by k_is) (by k_is)
    have D_path_between := G.topDef_mk (x := "path_between") (st := (L81.top 17)) KX GG (by k_is) (by k_is) (by k_is) (by k_is)
    have D_between := G.topDef_mk (x := "between") (st := (L81.top 18)) KX GG (by k_is) (by k_is) (by k_is) (by k_is)
    have D_l_hash := G.topDef_mk (x := "_law_hash") (st := (L81.top 20)) KX GG (by k_is) (by k_is) (by k_is) (by k_is)
    have D_l_random := G.topDef_mk (x := "_law_random") (st := (L81.top 21)) KX GG (by k_is) (by k_is) (by k_is) (by k_is)
    have D_l_cell := G.topDef_mk (x := "_law_cell") (st := (L81.top 22)) KX GG (by k_is) (by k_is) (by k_is) (by k_is)
    have D_l_generator := G.topDef_mk (x := "_law_generator") (st := (L81.top 23)) KX GG (by k_is) (by k_is) (by k_is) (by k_is)
    have D_l_links := G.topDef_mk (x := "_law_links") (st := (L81.top 24)) KX GG (by k_is) (by k_is) (by k_is) (by k_is)
    have D_l_path := G.topDef_mk (x := "_law_path") (st := (L81.top 25)) KX GG (by k_is) (by k_is) (by k_is) (by k_is)
    have D_is_tree_list := G.topDef_mk (x := "is_tree_list") (st := (L81.top 13)) KX GG (by k_is) (by k_is) (by k_is) (by k_is)
    have D_Tree_init := G.topMeth_mk (m := "__init__") (qual := "Tree.__init__") (st := (L2.inClass (L81.top 11) 0)) Q_Tree (by k_is) (by k_is) (by k_is) (by k_is) (by k_is)
    have D_chain := G.topDef_mk (x := "chain") (st := (L81.top 16)) KX GG (by k_is) (by k_is) (by k_is) (by k_is)
    have D_l_tree_right := G.topDef_mk (x := "_law_tree_right") (st := (L81.top 26)) KX GG (by k_is) (by k_is) (by k_is) (by k_is)
    have D_law := G.topDef_mk (x := "law") (st := (L81.top 27)) KX GG (by k_is) (by k_is) (by k_is) (by k_is)
    have QE_Tree := G.eqNo_mk Q_Tree (by k_is) (by k_is) (by k_is) (by k_is) (by k_is) (by k_is) (by k_is)
    have S := L81.facts_mk KX Q_Tree (show PySem.W.findIn _ _ _ = some none by k_is) (PySem.W.mg_none_of KX GG (by k_is)) (PySem.W.mg_none_of KX GG (by k_is)) (PySem.W.mg_none_of KX GG (by k_is)) (PySem.W.mg_none_of KX GG (by k_is)) (PySem.W.mg_none_of KX GG (by k_is)) (PySem.W.mg_none_of KX GG (by k_is)) (PySem.W.mg_none_of KX GG (by k_is)) (PySem.W.mg_none_of KX GG (by k_is)) (PySem.W.mg_none_of KX GG (by k_is)) (PySem.W.mg_none_of KX GG (by k_is)) (PySem.W.mg_none_of KX GG (by k_is)) (G.topIsi_mk Q_Tree (by k_is) (by k_is) (by k_is) (by k_is) (by k_is) (by k_is) (by k_is) (by k_is) (by k_is) (by k_is) (by k_is) (by k_is) (by k_is)) ⟨_, PySem.W.mg_of KX GG (by k_is)⟩
    obtain ⟨fd, hb, hF⟩ := L81.all_ok (P := PySem.Challenge.pw_gapswaps_k81_trees_and_what_is_between) (w := w) S D_is_whole D_is_between D_check_number D_Tree_size D_Tree_links D_Tree_eq D_is_link D_reached_from D_check_tree D_path_between D_between D_l_hash D_l_random D_l_cell D_l_generator D_l_links D_l_path D_is_tree_list D_Tree_init D_chain D_l_tree_right D_law Q_Tree QE_Tree hmg
    exact ⟨fd, hb, fun base _ _ => (hF base).imp L81.law_sp⟩
