import PyProof.Rows.All
import Wide.All
import OpenK.AllK
import Wide.FinOn
import HandS.ForMost
import HandS.Conv
import HandS.WideBits
import HandS.Wide
import HandS.Style
import HandS.Deep
import HandS.DictComp
import HandS.Iter
import HandS.NoneIn
import HandS.IsInst
import KE.DataFind
import HandS.Small
import HandS.SetFor
import PyProof.ReprRoads
import HandS.Words
import HandS.Defaults
import HandS.Ends
import HandS.HeadEnd
import HandS.HeadHook1
import HandS.HeadHook2
import PySem.Challenge.RW_foldednets_k01_nets_and_products
import HandS.Head0
import HandS.Head1
import HandS.Head2
set_option Elab.async false
set_option linter.all false
set_option maxRecDepth 100000
set_option maxHeartbeats 0
section
namespace FN
open PySem PySem.Spec L2
open PyProof.Rows hiding St

/-- data that is shared: never changed from here on -/
inductive D where
  | non | bl (b : Bool) | int (i : Int) | str (x : Str) | ref (a : Addr) | ty (n : String)
  | lst (l : List D) | tup (l : List D) | dk (l : List (Key × D)) | dt (l : List (List Key × D))

mutual
def IsD (S : Hp) : D → V → Prop
  | .non, v => v = .non
  | .bl b, v => v = .bl b
  | .int i, v => v = .int i
  | .str x, v => v = .str x
  | .ref a, v => v = .ref a
  | .ty n, v => v = .ty n
  | .lst l, v => ∃ a vs, v = .ref a ∧ S a = some (.lst vs) ∧ IsDs S l vs
  | .tup l, v => ∃ a vs, v = .ref a ∧ S a = some (.tup vs) ∧ IsDs S l vs
  | .dk l, v => ∃ a vs, v = .ref a ∧ S a = some (.dK vs) ∧ IsDk S l vs
  | .dt l, v => ∃ a vs, v = .ref a ∧ S a = some (.dT vs) ∧ IsDt S l vs
def IsDs (S : Hp) : List D → List V → Prop
  | [], vs => vs = []
  | d :: l, vs => ∃ v r, vs = v :: r ∧ IsD S d v ∧ IsDs S l r
def IsDk (S : Hp) : List (Key × D) → List (Key × V) → Prop
  | [], vs => vs = []
  | (k, d) :: l, vs => ∃ v r, vs = (k, v) :: r ∧ IsD S d v ∧ IsDk S l r
def IsDt (S : Hp) : List (List Key × D) → List (List Key × V) → Prop
  | [], vs => vs = []
  | (k, d) :: l, vs => ∃ v r, vs = (k, v) :: r ∧ IsD S d v ∧ IsDt S l r
end

/-- the shared part grows -/
def Le (S S' : Hp) : Prop := ∀ a u, S a = some u → S' a = some u
theorem Le.refl (S : Hp) : Le S S := fun _ _ h => h
theorem Le.trans {S S1 S2 : Hp} (a : Le S S1) (b : Le S1 S2) : Le S S2 := fun c o h => b c o (a c o h)

mutual
theorem IsD.mono {S S' : Hp} (h : Le S S') : ∀ (d : D) (v : V), IsD S d v → IsD S' d v
  | .non, v, x => by unfold IsD at *; exact x
  | .bl b, v, x => by unfold IsD at *; exact x
  | .int b, v, x => by unfold IsD at *; exact x
  | .str b, v, x => by unfold IsD at *; exact x
  | .ref b, v, x => by unfold IsD at *; exact x
  | .ty b, v, x => by unfold IsD at *; exact x
  | .lst l, v, x => by unfold IsD at *; obtain ⟨a, vs, e, s, r⟩ := x; exact ⟨a, vs, e, h _ _ s, IsDs.mono h l vs r⟩
  | .tup l, v, x => by unfold IsD at *; obtain ⟨a, vs, e, s, r⟩ := x; exact ⟨a, vs, e, h _ _ s, IsDs.mono h l vs r⟩
  | .dk l, v, x => by unfold IsD at *; obtain ⟨a, vs, e, s, r⟩ := x; exact ⟨a, vs, e, h _ _ s, IsDk.mono h l vs r⟩
  | .dt l, v, x => by unfold IsD at *; obtain ⟨a, vs, e, s, r⟩ := x; exact ⟨a, vs, e, h _ _ s, IsDt.mono h l vs r⟩
theorem IsDs.mono {S S' : Hp} (h : Le S S') : ∀ (l : List D) (vs : List V), IsDs S l vs → IsDs S' l vs
  | [], vs, x => by unfold IsDs at *; exact x
  | d :: l, vs, x => by unfold IsDs at *; obtain ⟨v, r, e, s, t⟩ := x; exact ⟨v, r, e, IsD.mono h d v s, IsDs.mono h l r t⟩
theorem IsDk.mono {S S' : Hp} (h : Le S S') : ∀ (l : List (Key × D)) (vs : List (Key × V)), IsDk S l vs → IsDk S' l vs
  | [], vs, x => by unfold IsDk at *; exact x
  | (k, d) :: l, vs, x => by unfold IsDk at *; obtain ⟨v, r, e, s, t⟩ := x; exact ⟨v, r, e, IsD.mono h d v s, IsDk.mono h l r t⟩
theorem IsDt.mono {S S' : Hp} (h : Le S S') : ∀ (l : List (List Key × D)) (vs : List (List Key × V)), IsDt S l vs → IsDt S' l vs
  | [], vs, x => by unfold IsDt at *; exact x
  | (k, d) :: l, vs, x => by unfold IsDt at *; obtain ⟨v, r, e, s, t⟩ := x; exact ⟨v, r, e, IsD.mono h d v s, IsDt.mono h l r t⟩
end

/-- what an expression yields, what a slot holds: shared, or owned down to shared parts -/
inductive O where
  | sh (d : D) | lst (l : List O) | tup (l : List O) | dk (l : List (Key × O)) | dt (l : List (List Key × O)) | ins (C : Addr) (l : List (Str × O)) | scr (K : PySem.W.Frag) (ns : List Int) | raw (v : V)

mutual
def Own (S H : Hp) : O → V → List Addr → Prop
  | .sh d, v, fp => IsD S d v ∧ fp = []
  | .lst l, v, fp => ∃ a vs f, v = .ref a ∧ H a = some (.lst vs) ∧ OwnL S H l vs f ∧ fp = a :: f
  | .tup l, v, fp => ∃ a vs f, v = .ref a ∧ H a = some (.tup vs) ∧ OwnL S H l vs f ∧ fp = a :: f
  | .dk l, v, fp => ∃ a vs f, v = .ref a ∧ H a = some (.dK vs) ∧ OwnK S H l vs f ∧ fp = a :: f ∧ (l.map (·.1)).Nodup
  | .dt l, v, fp => ∃ a vs f, v = .ref a ∧ H a = some (.dT vs) ∧ OwnT S H l vs f ∧ fp = a :: f ∧ (l.map (·.1)).Nodup
  | .ins C l, v, fp => ∃ a dx vs f, v = .ref a ∧ H a = some (.ins C dx vs) ∧ H dx = some (.own a) ∧ OwnF S H l vs f ∧ fp = a :: dx :: f
  | .scr K ns, v, fp => ∃ a, v = .ref a ∧ ((∃ o, H a = some (.frz o (.lst (ns.map V.int))) ∧ fp = [a]) ∨ (SqL K (fun _ => none) a (ns.map V.int) ∧ fp = []))
  | .raw u, v, fp => v = u ∧ fp = []
def OwnL (S H : Hp) : List O → List V → List Addr → Prop
  | [], vs, fp => vs = [] ∧ fp = []
  | o :: l, vs, fp => ∃ v r f1 f2, vs = v :: r ∧ Own S H o v f1 ∧ OwnL S H l r f2 ∧ fp = f1 ++ f2
def OwnK (S H : Hp) : List (Key × O) → List (Key × V) → List Addr → Prop
  | [], vs, fp => vs = [] ∧ fp = []
  | (k, o) :: l, vs, fp => ∃ v r f1 f2, vs = (k, v) :: r ∧ Own S H o v f1 ∧ OwnK S H l r f2 ∧ fp = f1 ++ f2
def OwnT (S H : Hp) : List (List Key × O) → List (List Key × V) → List Addr → Prop
  | [], vs, fp => vs = [] ∧ fp = []
  | (k, o) :: l, vs, fp => ∃ v r f1 f2, vs = (k, v) :: r ∧ Own S H o v f1 ∧ OwnT S H l r f2 ∧ fp = f1 ++ f2
def OwnF (S H : Hp) : List (Str × O) → List (Str × V) → List Addr → Prop
  | [], vs, fp => vs = [] ∧ fp = []
  | (k, o) :: l, vs, fp => ∃ v r f1 f2, vs = (k, v) :: r ∧ Own S H o v f1 ∧ OwnF S H l r f2 ∧ fp = f1 ++ f2
end

mutual
/-- the same, all of it shared -/
def O.er : O → D
  | .sh d => d
  | .lst l => .lst (erL l)
  | .tup l => .tup (erL l)
  | .dk l => .dk (erK l)
  | .dt l => .dt (erT l)
  | .ins _ _ => .non
  | .scr _ _ => .non
  | .raw _ => .non
def erL : List O → List D
  | [] => []
  | o :: l => o.er :: erL l
def erK : List (Key × O) → List (Key × D)
  | [] => []
  | (k, o) :: l => (k, o.er) :: erK l
def erT : List (List Key × O) → List (List Key × D)
  | [] => []
  | (k, o) :: l => (k, o.er) :: erT l
end
mutual
/-- no instance within -/
def O.noIns : O → Bool
  | .sh _ => true
  | .lst l => noInsL l
  | .tup l => noInsL l
  | .dk l => noInsK l
  | .dt l => noInsT l
  | .ins _ _ => false
  | .scr _ _ => false
  | .raw _ => false
def noInsL : List O → Bool
  | [] => true
  | o :: l => o.noIns && noInsL l
def noInsK : List (Key × O) → Bool
  | [] => true
  | (_, o) :: l => o.noIns && noInsK l
def noInsT : List (List Key × O) → Bool
  | [] => true
  | (_, o) :: l => o.noIns && noInsT l
end

mutual
/-- it leans on the shared part and on its own objects alone -/
theorem Own.stay {S S' H H' : Hp} (h : Le S S') : ∀ (o : O) (v : V) (fp : List Addr), Own S H o v fp → (∀ a ∈ fp, H' a = H a) → Own S' H' o v fp
  | .sh d, v, fp, x, k => by unfold Own at *; exact ⟨IsD.mono h d v x.1, x.2⟩
  | .lst l, v, fp, x, k => by
    unfold Own at *; obtain ⟨a, vs, f, e1, e2, e3, e4⟩ := x; subst e4
    exact ⟨a, vs, f, e1, (k a (by simp)).trans e2, OwnL.stay h l vs f e3 fun b hb => k b (by simp [hb]), rfl⟩
  | .tup l, v, fp, x, k => by
    unfold Own at *; obtain ⟨a, vs, f, e1, e2, e3, e4⟩ := x; subst e4
    exact ⟨a, vs, f, e1, (k a (by simp)).trans e2, OwnL.stay h l vs f e3 fun b hb => k b (by simp [hb]), rfl⟩
  | .dk l, v, fp, x, k => by
    unfold Own at *; obtain ⟨a, vs, f, e1, e2, e3, e4, e5⟩ := x; subst e4
    exact ⟨a, vs, f, e1, (k a (by simp)).trans e2, OwnK.stay h l vs f e3 fun b hb => k b (by simp [hb]), rfl, e5⟩
  | .dt l, v, fp, x, k => by
    unfold Own at *; obtain ⟨a, vs, f, e1, e2, e3, e4, e5⟩ := x; subst e4
    exact ⟨a, vs, f, e1, (k a (by simp)).trans e2, OwnT.stay h l vs f e3 fun b hb => k b (by simp [hb]), rfl, e5⟩
  | .ins C l, v, fp, x, k => by
    unfold Own at *; obtain ⟨a, dx, vs, f, e1, e2, e3, e4, e5⟩ := x; subst e5
    exact ⟨a, dx, vs, f, e1, (k a (by simp)).trans e2, (k dx (by simp)).trans e3, OwnF.stay h l vs f e4 fun b hb => k b (by simp [hb]), rfl⟩
  | .scr K ns, v, fp, x, k => by
    unfold Own at *; obtain ⟨a, e1, ⟨o, e2, e3⟩ | e2⟩ := x
    · subst e3
      exact ⟨a, e1, .inl ⟨o, (k a (by simp)).trans e2, rfl⟩⟩
    · exact ⟨a, e1, .inr e2⟩
  | .raw u, v, fp, x, k => by unfold Own at *; exact x
theorem OwnL.stay {S S' H H' : Hp} (h : Le S S') : ∀ (l : List O) (vs : List V) (fp : List Addr), OwnL S H l vs fp → (∀ a ∈ fp, H' a = H a) → OwnL S' H' l vs fp
  | [], vs, fp, x, k => by unfold OwnL at *; exact x
  | o :: l, vs, fp, x, k => by
    unfold OwnL at *; obtain ⟨v, r, f1, f2, e1, e2, e3, e4⟩ := x; subst e4
    exact ⟨v, r, f1, f2, e1, Own.stay h o v f1 e2 fun b hb => k b (by simp [hb]), OwnL.stay h l r f2 e3 fun b hb => k b (by simp [hb]), rfl⟩
theorem OwnK.stay {S S' H H' : Hp} (h : Le S S') : ∀ (l : List (Key × O)) (vs : List (Key × V)) (fp : List Addr), OwnK S H l vs fp → (∀ a ∈ fp, H' a = H a) → OwnK S' H' l vs fp
  | [], vs, fp, x, k => by unfold OwnK at *; exact x
  | (_, o) :: l, vs, fp, x, k => by
    unfold OwnK at *; obtain ⟨v, r, f1, f2, e1, e2, e3, e4⟩ := x; subst e4
    exact ⟨v, r, f1, f2, e1, Own.stay h o v f1 e2 fun b hb => k b (by simp [hb]), OwnK.stay h l r f2 e3 fun b hb => k b (by simp [hb]), rfl⟩
theorem OwnT.stay {S S' H H' : Hp} (h : Le S S') : ∀ (l : List (List Key × O)) (vs : List (List Key × V)) (fp : List Addr), OwnT S H l vs fp → (∀ a ∈ fp, H' a = H a) → OwnT S' H' l vs fp
  | [], vs, fp, x, k => by unfold OwnT at *; exact x
  | (_, o) :: l, vs, fp, x, k => by
    unfold OwnT at *; obtain ⟨v, r, f1, f2, e1, e2, e3, e4⟩ := x; subst e4
    exact ⟨v, r, f1, f2, e1, Own.stay h o v f1 e2 fun b hb => k b (by simp [hb]), OwnT.stay h l r f2 e3 fun b hb => k b (by simp [hb]), rfl⟩
theorem OwnF.stay {S S' H H' : Hp} (h : Le S S') : ∀ (l : List (Str × O)) (vs : List (Str × V)) (fp : List Addr), OwnF S H l vs fp → (∀ a ∈ fp, H' a = H a) → OwnF S' H' l vs fp
  | [], vs, fp, x, k => by unfold OwnF at *; exact x
  | (_, o) :: l, vs, fp, x, k => by
    unfold OwnF at *; obtain ⟨v, r, f1, f2, e1, e2, e3, e4⟩ := x; subst e4
    exact ⟨v, r, f1, f2, e1, Own.stay h o v f1 e2 fun b hb => k b (by simp [hb]), OwnF.stay h l r f2 e3 fun b hb => k b (by simp [hb]), rfl⟩
end
mutual
/-- its own objects stand -/
theorem Own.there {S H : Hp} : ∀ (o : O) (v : V) (fp : List Addr), Own S H o v fp → ∀ a ∈ fp, H a ≠ none
  | .sh d, v, fp, x, a, ha => by unfold Own at x; rw [x.2] at ha; simp at ha
  | .lst l, v, fp, x, b, hb => by
    unfold Own at x; obtain ⟨a, vs, f, e1, e2, e3, e4⟩ := x; subst e4
    rcases List.mem_cons.mp hb with rfl | hb
    · rw [e2]; simp
    · exact OwnL.there l vs f e3 b hb
  | .tup l, v, fp, x, b, hb => by
    unfold Own at x; obtain ⟨a, vs, f, e1, e2, e3, e4⟩ := x; subst e4
    rcases List.mem_cons.mp hb with rfl | hb
    · rw [e2]; simp
    · exact OwnL.there l vs f e3 b hb
  | .dk l, v, fp, x, b, hb => by
    unfold Own at x; obtain ⟨a, vs, f, e1, e2, e3, e4, e5⟩ := x; subst e4
    rcases List.mem_cons.mp hb with rfl | hb
    · rw [e2]; simp
    · exact OwnK.there l vs f e3 b hb
  | .dt l, v, fp, x, b, hb => by
    unfold Own at x; obtain ⟨a, vs, f, e1, e2, e3, e4, e5⟩ := x; subst e4
    rcases List.mem_cons.mp hb with rfl | hb
    · rw [e2]; simp
    · exact OwnT.there l vs f e3 b hb
  | .ins C l, v, fp, x, b, hb => by
    unfold Own at x; obtain ⟨a, dx, vs, f, e1, e2, e3, e4, e5⟩ := x; subst e5
    rcases List.mem_cons.mp hb with rfl | hb
    · rw [e2]; simp
    · rcases List.mem_cons.mp hb with rfl | hb
      · rw [e3]; simp
      · exact OwnF.there l vs f e4 b hb
  | .scr K ns, v, fp, x, b, hb => by
    unfold Own at x; obtain ⟨a, e1, ⟨o, e2, e3⟩ | ⟨e2, e3⟩⟩ := x
    · subst e3
      rcases List.mem_cons.mp hb with rfl | hb
      · rw [e2]; simp
      · simp at hb
    · subst e3; simp at hb
  | .raw u, v, fp, x, b, hb => by unfold Own at x; rw [x.2] at hb; simp at hb
theorem OwnL.there {S H : Hp} : ∀ (l : List O) (vs : List V) (fp : List Addr), OwnL S H l vs fp → ∀ a ∈ fp, H a ≠ none
  | [], vs, fp, x, b, hb => by unfold OwnL at x; rw [x.2] at hb; simp at hb
  | o :: l, vs, fp, x, b, hb => by
    unfold OwnL at x; obtain ⟨v, r, f1, f2, e1, e2, e3, e4⟩ := x; subst e4
    rcases List.mem_append.mp hb with hb | hb
    · exact Own.there o v f1 e2 b hb
    · exact OwnL.there l r f2 e3 b hb
theorem OwnK.there {S H : Hp} : ∀ (l : List (Key × O)) (vs : List (Key × V)) (fp : List Addr), OwnK S H l vs fp → ∀ a ∈ fp, H a ≠ none
  | [], vs, fp, x, b, hb => by unfold OwnK at x; rw [x.2] at hb; simp at hb
  | (_, o) :: l, vs, fp, x, b, hb => by
    unfold OwnK at x; obtain ⟨v, r, f1, f2, e1, e2, e3, e4⟩ := x; subst e4
    rcases List.mem_append.mp hb with hb | hb
    · exact Own.there o v f1 e2 b hb
    · exact OwnK.there l r f2 e3 b hb
theorem OwnT.there {S H : Hp} : ∀ (l : List (List Key × O)) (vs : List (List Key × V)) (fp : List Addr), OwnT S H l vs fp → ∀ a ∈ fp, H a ≠ none
  | [], vs, fp, x, b, hb => by unfold OwnT at x; rw [x.2] at hb; simp at hb
  | (_, o) :: l, vs, fp, x, b, hb => by
    unfold OwnT at x; obtain ⟨v, r, f1, f2, e1, e2, e3, e4⟩ := x; subst e4
    rcases List.mem_append.mp hb with hb | hb
    · exact Own.there o v f1 e2 b hb
    · exact OwnT.there l r f2 e3 b hb
theorem OwnF.there {S H : Hp} : ∀ (l : List (Str × O)) (vs : List (Str × V)) (fp : List Addr), OwnF S H l vs fp → ∀ a ∈ fp, H a ≠ none
  | [], vs, fp, x, b, hb => by unfold OwnF at x; rw [x.2] at hb; simp at hb
  | (_, o) :: l, vs, fp, x, b, hb => by
    unfold OwnF at x; obtain ⟨v, r, f1, f2, e1, e2, e3, e4⟩ := x; subst e4
    rcases List.mem_append.mp hb with hb | hb
    · exact Own.there o v f1 e2 b hb
    · exact OwnF.there l r f2 e3 b hb
end
mutual
/-- laid open: it is shared data of a wider shared part -/
theorem Own.share {S H S' : Hp} (h : Le S S') : ∀ (o : O) (v : V) (fp : List Addr), o.noIns = true → Own S H o v fp → (∀ a ∈ fp, S' a = H a) → IsD S' o.er v
  | .sh d, v, fp, n, x, k => by unfold Own at x; unfold O.er; exact IsD.mono h d v x.1
  | .lst l, v, fp, n, x, k => by
    unfold Own at x; unfold O.noIns at n; unfold O.er IsD; obtain ⟨a, vs, f, e1, e2, e3, e4⟩ := x; subst e4
    exact ⟨a, vs, e1, (k a (by simp)).trans e2, OwnL.share h l vs f n e3 fun b hb => k b (by simp [hb])⟩
  | .tup l, v, fp, n, x, k => by
    unfold Own at x; unfold O.noIns at n; unfold O.er IsD; obtain ⟨a, vs, f, e1, e2, e3, e4⟩ := x; subst e4
    exact ⟨a, vs, e1, (k a (by simp)).trans e2, OwnL.share h l vs f n e3 fun b hb => k b (by simp [hb])⟩
  | .dk l, v, fp, n, x, k => by
    unfold Own at x; unfold O.noIns at n; unfold O.er IsD; obtain ⟨a, vs, f, e1, e2, e3, e4, e5⟩ := x; subst e4
    exact ⟨a, vs, e1, (k a (by simp)).trans e2, OwnK.share h l vs f n e3 fun b hb => k b (by simp [hb])⟩
  | .dt l, v, fp, n, x, k => by
    unfold Own at x; unfold O.noIns at n; unfold O.er IsD; obtain ⟨a, vs, f, e1, e2, e3, e4, e5⟩ := x; subst e4
    exact ⟨a, vs, e1, (k a (by simp)).trans e2, OwnT.share h l vs f n e3 fun b hb => k b (by simp [hb])⟩
  | .ins C l, v, fp, n, x, k => by unfold O.noIns at n; cases n
  | .scr K ns, v, fp, n, x, k => by unfold O.noIns at n; cases n
  | .raw u, v, fp, n, x, k => by unfold O.noIns at n; cases n
theorem OwnL.share {S H S' : Hp} (h : Le S S') : ∀ (l : List O) (vs : List V) (fp : List Addr), noInsL l = true → OwnL S H l vs fp → (∀ a ∈ fp, S' a = H a) → IsDs S' (erL l) vs
  | [], vs, fp, n, x, k => by unfold OwnL at x; unfold erL IsDs; exact x.1
  | o :: l, vs, fp, n, x, k => by
    unfold OwnL at x; unfold erL IsDs; unfold noInsL at n; simp only [Bool.and_eq_true] at n
    obtain ⟨v, r, f1, f2, e1, e2, e3, e4⟩ := x; subst e4
    exact ⟨v, r, e1, Own.share h o v f1 n.1 e2 fun b hb => k b (by simp [hb]), OwnL.share h l r f2 n.2 e3 fun b hb => k b (by simp [hb])⟩
theorem OwnK.share {S H S' : Hp} (h : Le S S') : ∀ (l : List (Key × O)) (vs : List (Key × V)) (fp : List Addr), noInsK l = true → OwnK S H l vs fp → (∀ a ∈ fp, S' a = H a) → IsDk S' (erK l) vs
  | [], vs, fp, n, x, k => by unfold OwnK at x; unfold erK IsDk; exact x.1
  | (_, o) :: l, vs, fp, n, x, k => by
    unfold OwnK at x; unfold erK IsDk; unfold noInsK at n; simp only [Bool.and_eq_true] at n
    obtain ⟨v, r, f1, f2, e1, e2, e3, e4⟩ := x; subst e4
    exact ⟨v, r, e1, Own.share h o v f1 n.1 e2 fun b hb => k b (by simp [hb]), OwnK.share h l r f2 n.2 e3 fun b hb => k b (by simp [hb])⟩
theorem OwnT.share {S H S' : Hp} (h : Le S S') : ∀ (l : List (List Key × O)) (vs : List (List Key × V)) (fp : List Addr), noInsT l = true → OwnT S H l vs fp → (∀ a ∈ fp, S' a = H a) → IsDt S' (erT l) vs
  | [], vs, fp, n, x, k => by unfold OwnT at x; unfold erT IsDt; exact x.1
  | (_, o) :: l, vs, fp, n, x, k => by
    unfold OwnT at x; unfold erT IsDt; unfold noInsT at n; simp only [Bool.and_eq_true] at n
    obtain ⟨v, r, f1, f2, e1, e2, e3, e4⟩ := x; subst e4
    exact ⟨v, r, e1, Own.share h o v f1 n.1 e2 fun b hb => k b (by simp [hb]), OwnT.share h l r f2 n.2 e3 fun b hb => k b (by simp [hb])⟩
end

/-! ### the world -/
abbrev En := Option V × Option O
def OwnP (S H : Hp) : List En → List Addr → Prop
  | [], fp => fp = []
  | (_, none) :: r, fp => OwnP S H r fp
  | (v, some o) :: r, fp => ∃ u f1 f2, v = some u ∧ Own S H o u f1 ∧ OwnP S H r f2 ∧ fp = f1 ++ f2
def Dic : HO → Prop
  | .dK _ => True
  | .dT _ => True
  | _ => False
def Sub (S H : Hp) : Prop := ∀ a u, S a = some u → H a = some u ∨ (Dic u ∧ ∃ o, H a = some (.frz o u))
structure World (Z S H : Hp) (ps : List En) : Prop where
  sub : Sub S H
  pin : ∀ a u, Z a = some u → H a = some u
  own : ∃ fp, OwnP S H ps fp ∧ fp.Nodup ∧ ∀ a ∈ fp, S a = none ∧ Z a = none

theorem Sub.none {S H : Hp} (s : Sub S H) {a : Addr} (h : H a = none) : S a = none := by
  cases e : S a with
  | none => rfl
  | some u =>
    rcases s a u e with x | ⟨_, o, x⟩
    · rw [h] at x; cases x
    · rw [h] at x; cases x
theorem Sub.rd {S H : Hp} (s : Sub S H) {a : Addr} {u : HO} (h : S a = some u) : Rd H a u := by
  rcases s a u h with x | ⟨_, o, x⟩
  · exact .inl x
  · exact .inr ⟨o, x⟩
theorem Sub.tup {S H : Hp} (s : Sub S H) {a : Addr} {vs : List V} (h : S a = some (.tup vs)) : H a = some (.tup vs) := by
  rcases s a _ h with x | ⟨m, _⟩
  · exact x
  · exact m.elim
theorem Sub.lst {S H : Hp} (s : Sub S H) {a : Addr} {vs : List V} (h : S a = some (.lst vs)) : H a = some (.lst vs) := by
  rcases s a _ h with x | ⟨m, _⟩
  · exact x
  · exact m.elim

theorem OwnP.stay {S S' H H' : Hp} (h : Le S S') : ∀ (ps : List En) (fp : List Addr), OwnP S H ps fp → (∀ a ∈ fp, H' a = H a) → OwnP S' H' ps fp
  | [], fp, x, k => x
  | (_, none) :: r, fp, x, k => OwnP.stay h r fp x k
  | (v, some o) :: r, fp, x, k => by
    obtain ⟨u, f1, f2, e1, e2, e3, e4⟩ := x; subst e4
    exact ⟨u, f1, f2, e1, Own.stay h o u f1 e2 fun b hb => k b (by simp [hb]), OwnP.stay h r f2 e3 fun b hb => k b (by simp [hb]), rfl⟩
theorem OwnP.there {S H : Hp} : ∀ (ps : List En) (fp : List Addr), OwnP S H ps fp → ∀ a ∈ fp, H a ≠ none
  | [], fp, x, a, ha => by have x' : fp = [] := x; rw [x'] at ha; simp at ha
  | (_, none) :: r, fp, x, a, ha => OwnP.there r fp x a ha
  | (v, some o) :: r, fp, x, a, ha => by
    obtain ⟨u, f1, f2, e1, e2, e3, e4⟩ := x; subst e4
    rcases List.mem_append.mp ha with ha | ha
    · exact Own.there o u f1 e2 a ha
    · exact OwnP.there r f2 e3 a ha
theorem OwnP.perm {S H : Hp} {ps qs : List En} (p : ps.Perm qs) : ∀ fp, OwnP S H ps fp → ∃ fq, OwnP S H qs fq ∧ fp.Perm fq := by
  induction p with
  | nil => intro fp x; exact ⟨fp, x, .refl _⟩
  | cons e _ ih =>
    intro fp x
    obtain ⟨v, o⟩ := e
    cases o with
    | none => exact ih fp x
    | some o =>
      obtain ⟨u, f1, f2, e1, e2, e3, e4⟩ := x; subst e4
      obtain ⟨fq, y, q⟩ := ih f2 e3
      exact ⟨f1 ++ fq, ⟨u, f1, fq, e1, e2, y, rfl⟩, q.append_left f1⟩
  | swap e1 e2 l =>
    intro fp x
    obtain ⟨v1, o1⟩ := e1
    obtain ⟨v2, o2⟩ := e2
    cases o1 with
    | none => exact ⟨fp, by cases o2 <;> exact x, .refl _⟩
    | some o1 =>
      cases o2 with
      | none => exact ⟨fp, x, .refl _⟩
      | some o2 =>
        obtain ⟨u, f1, f2, e1, e2, ⟨u', f3, f4, e5, e6, e7, e8⟩, e4⟩ := x; subst e4; subst e8
        refine ⟨f3 ++ (f1 ++ f4), ⟨u', f3, f1 ++ f4, e5, e6, ⟨u, f1, f4, e1, e2, e7, rfl⟩, rfl⟩, ?_⟩
        rw [← List.append_assoc, ← List.append_assoc]
        exact List.perm_append_comm.append_right f4
  | trans _ _ ih1 ih2 =>
    intro fp x
    obtain ⟨f1, y1, q1⟩ := ih1 fp x
    obtain ⟨f2, y2, q2⟩ := ih2 f1 y1
    exact ⟨f2, y2, q1.trans q2⟩
section
variable {Z S H : Hp} {ps qs : List En}
theorem World.perm (W : World Z S H ps) (p : ps.Perm qs) : World Z S H qs := by
  obtain ⟨fp, x, n, k⟩ := W.own
  obtain ⟨fq, y, q⟩ := OwnP.perm p fp x
  exact ⟨W.sub, W.pin, fq, y, q.nodup_iff.mp n, fun a ha => k a (q.mem_iff.mpr ha)⟩
theorem World.tail {e : En} (W : World Z S H (e :: ps)) : World Z S H ps := by
  obtain ⟨fp, x, n, k⟩ := W.own
  obtain ⟨v, o⟩ := e
  cases o with
  | none => exact ⟨W.sub, W.pin, fp, x, n, k⟩
  | some o =>
    obtain ⟨u, f1, f2, e1, e2, e3, e4⟩ := x; subst e4
    exact ⟨W.sub, W.pin, f2, e3, (List.nodup_append.mp n).2.1, fun a ha => k a (by simp [ha])⟩
/-- nothing is known of an entry -/
theorem World.pad (v : Option V) (W : World Z S H ps) : World Z S H ((v, none) :: ps) := ⟨W.sub, W.pin, W.own⟩
theorem World.unpad {v : Option V} (W : World Z S H ((v, none) :: ps)) : World Z S H ps := W.tail
/-- what stands in an entry is a value -/
theorem World.val {v : Option V} {o : O} (W : World Z S H ((v, some o) :: ps)) : ∃ u, v = some u := by
  obtain ⟨fp, ⟨u, _, _, e, _⟩, _⟩ := W.own
  exact ⟨u, e⟩
theorem World.isD {v : V} {d : D} (W : World Z S H ((some v, some (.sh d)) :: ps)) : IsD S d v := by
  obtain ⟨fp, ⟨u, _, _, e, x, _⟩, _⟩ := W.own
  cases e
  unfold Own at x
  exact x.1
theorem World.push {v : V} {d : D} (W : World Z S H ps) (h : IsD S d v) : World Z S H ((some v, some (.sh d)) :: ps) := by
  obtain ⟨fp, x, n, k⟩ := W.own
  exact ⟨W.sub, W.pin, fp, ⟨v, [], fp, rfl, by unfold Own; exact ⟨h, rfl⟩, x, rfl⟩, n, k⟩
/-- something new is laid -/
theorem World.lay {p : Addr} {u : HO} (W : World Z S H ps) (h : H p = none) : World Z S (upd H p u) ps := by
  obtain ⟨fp, x, n, k⟩ := W.own
  refine ⟨fun a w e => ?_, fun a w e => ?_, fp, OwnP.stay (Le.refl S) ps fp x fun a ha => upd_ne fun q => OwnP.there ps fp x a ha (q ▸ h), n, k⟩
  · have ne : a ≠ p := fun q => by rw [q, W.sub.none h] at e; cases e
    rw [upd_ne ne]; exact W.sub a w e
  · have ne : a ≠ p := fun q => by rw [q] at e; rw [W.pin p w e] at h; cases h
    rw [upd_ne ne]; exact W.pin a w e
/-- the shared part grows by an object that no one owns -/
theorem World.more {p : Addr} {u : HO} (W : World Z S H ps) (hp : H p = none) : World Z (upd S p u) (upd H p u) ps ∧ Le S (upd S p u) := by
  have W1 := W.lay (u := u) hp
  have ls : Le S (upd S p u) := fun a w e => by
    have ne : a ≠ p := fun q => by rw [q, W.sub.none hp] at e; cases e
    rw [upd_ne ne]; exact e
  obtain ⟨fp, x, n, k⟩ := W.own
  obtain ⟨fp1, x1, n1, k1⟩ := W1.own
  have np : ∀ a ∈ fp, a ≠ p := fun a ha q => OwnP.there ps fp x a ha (q ▸ hp)
  refine ⟨⟨fun a w e => ?_, W1.pin, fp, OwnP.stay ls ps fp x fun a ha => upd_ne (np a ha), n, fun a ha => ⟨by rw [upd_ne (np a ha)]; exact (k a ha).1, (k a ha).2⟩⟩, ls⟩
  by_cases ne : a = p
  · subst ne; rw [upd_same] at e ⊢; exact .inl e
  · rw [upd_ne ne] at e; exact W1.sub a w e
/-- the entry is shared from here on -/
theorem World.share {v : Option V} {o : O} (W : World Z S H ((v, some o) :: ps)) (ni : o.noIns = true) : ∃ S', Le S S' ∧ World Z S' H ((v, some (.sh o.er)) :: ps) := by
  classical
  obtain ⟨fp, ⟨u, f1, f2, e1, e2, e3, e4⟩, n, k⟩ := W.own
  subst e4
  refine ⟨fun a => if a ∈ f1 then H a else S a, fun a w e => ?_, ?_⟩
  · have ne : a ∉ f1 := fun q => by rw [(k a (by simp [q])).1] at e; cases e
    simp only [ne, if_false]; exact e
  · have ls : Le S (fun a => if a ∈ f1 then H a else S a) := fun a w e => by
      have ne : a ∉ f1 := fun q => by rw [(k a (by simp [q])).1] at e; cases e
      simp only [ne, if_false]; exact e
    have dj := (List.nodup_append.mp n)
    refine ⟨fun a w e => ?_, W.pin, f2, ⟨u, [], f2, e1, ?_, OwnP.stay ls ps f2 e3 fun _ _ => rfl, rfl⟩, dj.2.1, fun a ha => ⟨?_, (k a (by simp [ha])).2⟩⟩
    · by_cases q : a ∈ f1
      · simp only [q, if_true] at e; exact .inl e
      · simp only [q, if_false] at e; exact W.sub a w e
    · unfold Own
      exact ⟨Own.share ls o u f1 ni e2 fun a ha => by simp [ha], rfl⟩
    · have q : a ∉ f1 := fun q => dj.2.2 a q a ha rfl
      simp only [q, if_false]
      exact (k a (by simp [ha])).1
end
end FN
end
section
namespace FN
open PySem PySem.Spec L2
open PyProof.Rows hiding St

/-! ### entries of the world -/
theorem OwnP.hole {S H : Hp} {v : Option V} : ∀ (l1 l2 : List En) (fp : List Addr), OwnP S H (l1 ++ (v, none) :: l2) fp ↔ OwnP S H (l1 ++ l2) fp
  | [], l2, fp => Iff.rfl
  | (_, none) :: l1, l2, fp => OwnP.hole l1 l2 fp
  | (w, some o) :: l1, l2, fp => by
    constructor
    · rintro ⟨u, f1, f2, e1, e2, e3, e4⟩; exact ⟨u, f1, f2, e1, e2, (OwnP.hole l1 l2 f2).mp e3, e4⟩
    · rintro ⟨u, f1, f2, e1, e2, e3, e4⟩; exact ⟨u, f1, f2, e1, e2, (OwnP.hole l1 l2 f2).mpr e3, e4⟩
section
variable {Z S H : Hp} {ps : List En}
theorem set_split {α : Type} {l : List α} {i : Nat} {x : α} (h : l[i]? = some x) : ∃ l1 l2, l = l1 ++ x :: l2 ∧ l1.length = i ∧ ∀ y, l.set i y = l1 ++ y :: l2 := by
  obtain ⟨hi, hx⟩ := List.getElem?_eq_some_iff.mp h
  refine ⟨l.take i, l.drop (i + 1), ?_, by simp; omega, fun y => ?_⟩
  · rw [← hx, List.getElem_cons_drop, List.take_append_drop]
  · rw [List.set_eq_take_append_cons_drop, if_pos hi]
/-- an entry is taken to the front -/
theorem World.pick {i : Nat} {v : Option V} {c : Option O} (W : World Z S H ps) (h : ps[i]? = some (v, c)) : World Z S H ((v, c) :: ps.set i (v, none)) := by
  obtain ⟨l1, l2, e, _, es⟩ := set_split h
  rw [es]
  rw [e] at W
  have W1 : World Z S H ((v, c) :: (l1 ++ l2)) := W.perm List.perm_middle
  have W2 := (W1.pad v)
  refine W2.perm ?_
  refine (List.Perm.swap _ _ _).trans ?_
  exact List.Perm.cons _ List.perm_middle.symm
/-- an entry is written from the front -/
theorem World.poke {i : Nat} {e : En} (W : World Z S H (e :: ps)) (h : i < ps.length) : World Z S H (ps.set i e) := by
  obtain ⟨l1, l2, e', _, es⟩ := set_split (List.getElem?_eq_getElem h)
  rw [es]
  rw [e'] at W
  have W1 : World Z S H (ps[i] :: (e :: (l1 ++ l2))) := W.perm ((List.Perm.cons _ List.perm_middle).trans (List.Perm.swap _ _ _))
  exact W1.tail.perm List.perm_middle.symm
theorem World.mid {l1 l2 : List En} {e : En} (W : World Z S H (l1 ++ e :: l2)) : World Z S H (e :: (l1 ++ l2)) := W.perm List.perm_middle
theorem World.unmid {l1 l2 : List En} {e : En} (W : World Z S H (e :: (l1 ++ l2))) : World Z S H (l1 ++ e :: l2) := W.perm List.perm_middle.symm
theorem World.swap {e1 e2 : En} (W : World Z S H (e1 :: e2 :: ps)) : World Z S H (e2 :: e1 :: ps) := W.perm (.swap _ _ _)
end

/-! ### frames -/
abbrev Gm := List (Option O)
theorem zip_set {α β : Type} : ∀ (l : List α) (m : List β) (i : Nat) (a : α) (b : β), (l.set i a).zip (m.set i b) = (l.zip m).set i (a, b)
  | [], m, i, a, b => by simp
  | x :: l, [], i, a, b => by simp
  | x :: l, y :: m, 0, a, b => by simp
  | x :: l, y :: m, i + 1, a, b => by simp [zip_set l m i a b]
theorem zip_get {α β : Type} : ∀ (l : List α) (m : List β), l.length = m.length → ∀ (i : Nat) (b : β), m[i]? = some b → ∃ a, l[i]? = some a ∧ (l.zip m)[i]? = some (a, b)
  | [], [], _, i, b, h => by simp at h
  | x :: l, y :: m, hl, 0, b, h => by simp at h; subst h; exact ⟨x, rfl, rfl⟩
  | x :: l, y :: m, hl, i + 1, b, h => by
    obtain ⟨a, h1, h2⟩ := zip_get l m (by simpa using hl) i b (by simpa using h)
    exact ⟨a, by simpa using h1, by simpa using h2⟩
theorem zip_len {α β : Type} {l : List α} {m : List β} (h : l.length = m.length) : (l.zip m).length = m.length := by simp [h]
section
variable {Z S H : Hp} {σ : St} {γ : Gm} {T : List En}
/-- a slot's entry is taken out of the frame -/
theorem World.take {i : Nat} {o : O} (W : World Z S H (σ.zip γ ++ T)) (hl : σ.length = γ.length) (h : γ[i]? = some (some o)) :
    ∃ v, σ[i]? = some (some v) ∧ World Z S H (σ.zip (γ.set i none) ++ (some v, some o) :: T) := by
  obtain ⟨a, h1, h2⟩ := zip_get σ γ hl i _ h
  have hi : i < (σ.zip γ).length := (List.getElem?_eq_some_iff.mp h2).1
  have h3 : (σ.zip γ ++ T)[i]? = some (a, some o) := by rw [List.getElem?_append_left hi]; exact h2
  have W1 := W.pick h3
  obtain ⟨v, rfl⟩ := W1.val
  refine ⟨v, h1, ?_⟩
  rw [List.set_append_left _ _ hi] at W1
  have es : σ.set i (some v) = σ := by
    obtain ⟨q, hq⟩ := List.getElem?_eq_some_iff.mp h1
    rw [← hq]; exact List.set_getElem_self q
  have e2 : σ.zip (γ.set i none) = (σ.zip γ).set i (some v, none) := by rw [← zip_set, es]
  rw [e2]
  exact W1.unmid
/-- a slot is written -/
theorem World.store {i : Nat} {v : Option V} {c : Option O} (W : World Z S H (σ.zip γ ++ (v, c) :: T)) (hl : σ.length = γ.length) (hi : i < γ.length) :
    World Z S H ((σ.set i v).zip (γ.set i c) ++ T) := by
  have W1 := W.mid
  have h2 : i < (σ.zip γ ++ T).length := by rw [List.length_append, zip_len hl]; omega
  have W2 := W1.poke h2
  rw [List.set_append_left _ _ (by rw [zip_len hl]; exact hi)] at W2
  rw [zip_set]
  exact W2
/-- .. with what it held -/
theorem World.back {i : Nat} {v : V} {c : Option O} (W : World Z S H (σ.zip γ ++ (some v, c) :: T)) (hl : σ.length = γ.length) (hi : i < γ.length) (hv : σ[i]? = some (some v)) :
    World Z S H (σ.zip (γ.set i c) ++ T) := by
  have W1 := W.store hl hi
  have es : σ.set i (some v) = σ := by
    obtain ⟨q, hq⟩ := List.getElem?_eq_some_iff.mp hv
    rw [← hq]; exact List.set_getElem_self q
  rwa [es] at W1
end

/-! ### judgements without a heap -/
abbrev OE := Gm → (O → Gm → Prop) → Prop
abbrev OT := Gm → (Bool → Gm → Prop) → Prop
abbrev OA := Gm → (List O → Gm → Prop) → Prop
structure VE where
  nx : Gm → Prop
  rt : O → Gm → Prop
  bk : Gm → Prop := fun _ => False
  ct : Gm → Prop := fun _ => False
abbrev VS := VE → Gm → Prop
def ents (vs : List V) (os : List O) : List En := List.zipWith (fun v o => (some v, some o)) vs os
theorem ents_cons {v : V} {o : O} {vs : List V} {os : List O} : ents (v :: vs) (o :: os) = (some v, some o) :: ents vs os := rfl

def tE (f : OE) : TE := fun σ H Q => ∃ (Z S : Hp) (T : List En) (γ : Gm) (K : O → Gm → Prop), σ.length = γ.length ∧ World Z S H (σ.zip γ ++ T) ∧ f γ K ∧
  ∀ o γ', K o γ' → γ'.length = γ.length → ∀ v H' S', Le S S' → World Z S' H' (σ.zip γ' ++ (some v, some o) :: T) → Q v H'
def tT (f : OT) : TT := fun σ H Q => ∃ (Z S : Hp) (T : List En) (γ : Gm) (K : Bool → Gm → Prop), σ.length = γ.length ∧ World Z S H (σ.zip γ ++ T) ∧ f γ K ∧
  ∀ b γ', K b γ' → γ'.length = γ.length → ∀ H' S', Le S S' → World Z S' H' (σ.zip γ' ++ T) → Q b H'
def tA (f : OA) : TA := fun σ H Q => ∃ (Z S : Hp) (T : List En) (γ : Gm) (K : List O → Gm → Prop), σ.length = γ.length ∧ World Z S H (σ.zip γ ++ T) ∧ f γ K ∧
  ∀ os γ', K os γ' → γ'.length = γ.length → ∀ vs H' S', Le S S' → vs.length = os.length → World Z S' H' (σ.zip γ' ++ (ents vs os ++ T)) → Q vs H'
/-- J: the slots that are never rebound -/
def Fix (J : List Nat) (σ σ' : St) : Prop := ∀ j ∈ J, σ'[j]? = σ[j]?
def tS (J : List Nat) (f : VS) : TS := fun D σ H => ∃ (Z S : Hp) (T : List En) (γ : Gm) (K : VE), σ.length = γ.length ∧ World Z S H (σ.zip γ ++ T) ∧ f K γ ∧
  (∀ γ', K.nx γ' → ∀ σ' H' S', γ'.length = γ.length → σ'.length = γ'.length → Fix J σ σ' → Le S S' → World Z S' H' (σ'.zip γ' ++ T) → D.nx σ' H') ∧
  (∀ o γ', K.rt o γ' → ∀ v σ' H' S', γ'.length = γ.length → σ'.length = γ'.length → Fix J σ σ' → Le S S' → World Z S' H' (σ'.zip γ' ++ (some v, some o) :: T) → D.rt v H') ∧
  (∀ γ', K.bk γ' → ∀ σ' H' S', γ'.length = γ.length → σ'.length = γ'.length → Fix J σ σ' → Le S S' → World Z S' H' (σ'.zip γ' ++ T) → D.bk σ' H') ∧
  (∀ γ', K.ct γ' → ∀ σ' H' S', γ'.length = γ.length → σ'.length = γ'.length → Fix J σ σ' → Le S S' → World Z S' H' (σ'.zip γ' ++ T) → D.ct σ' H')
abbrev JE (X : Cx) (e : Expr) (f : OE) : Prop := PE X e (tE f)
abbrev JT (X : Cx) (e : Expr) (f : OT) : Prop := PT X e (tT f)
abbrev JA (X : Cx) (es : List Expr) (f : OA) : Prop := PA X es (tA f)
abbrev JS (J : List Nat) (X : Cx) (st : Stmt) (f : VS) : Prop := PS X st (tS J f)
abbrev JB (J : List Nat) (X : Cx) (st : List Stmt) (f : VS) : Prop := PSs X st (tS J f)
theorem Fix.refl (J : List Nat) (σ : St) : Fix J σ σ := fun _ _ => rfl
theorem Fix.trans {J : List Nat} {σ σ1 σ2 : St} (a : Fix J σ σ1) (b : Fix J σ1 σ2) : Fix J σ σ2 := fun j h => (b j h).trans (a j h)

theorem PE.imp {X : Cx} {e : Expr} {t u : TE} (h : PE X e t) (k : ∀ σ H Q, u σ H Q → t σ H Q) : PE X e u := ⟨fun pins s σ H Q I hw => h.run pins s σ H Q I (k _ _ _ hw)⟩
theorem PT.imp {X : Cx} {e : Expr} {t u : TT} (h : PT X e t) (k : ∀ σ H Q, u σ H Q → t σ H Q) : PT X e u := ⟨fun pins s σ H Q I hw => h.run pins s σ H Q I (k _ _ _ hw)⟩
theorem PA.imp {X : Cx} {e : List Expr} {t u : TA} (h : PA X e t) (k : ∀ σ H Q, u σ H Q → t σ H Q) : PA X e u := ⟨fun pos pins s σ H Q I hw => h.run pos pins s σ H Q I (k _ _ _ hw)⟩
theorem PS.imp {X : Cx} {e : Stmt} {t u : TS} (h : PS X e t) (k : ∀ D σ H, u D σ H → t D σ H) : PS X e u := ⟨fun pins s σ H D I hw => h.run pins s σ H D I (k _ _ _ hw)⟩
theorem PSs.imp {X : Cx} {e : List Stmt} {t u : TS} (h : PSs X e t) (k : ∀ D σ H, u D σ H → t D σ H) : PSs X e u := ⟨fun pins s σ H D I hw => h.run pins s σ H D I (k _ _ _ hw)⟩

/-! ### names, constants -/
section
variable {X : Cx}
/-- a name that is read: what it holds is shared from here on -/
def oN (i : Nat) : OE := fun γ Q => ∃ o, γ[i]? = some (some o) ∧ o.noIns = true ∧ Q (.sh o.er) (γ.set i (some (.sh o.er)))
/-- a name that is given away -/
def oMv (i : Nat) : OE := fun γ Q => ∃ o, γ[i]? = some (some o) ∧ Q o (γ.set i none)
theorem je_n (i : Nat) {x : Str} {pos : Pos} (hN : X.N[i]? = some x := by rfl) (hv : Vis X.env.scope x := by first | exact Or.inl rfl | exact Or.inr (Or.inl rfl) | exact Or.inr (Or.inr rfl)) (hd : (x == ("__debug__" : Str)) = false := by decide)
    (hcd : (x == ("__classdict__" : Str)) = false := by decide) : JE X (.Name x pos) (oN i) := by
  refine PE.imp (pe_var hN hv hd hcd) fun σ H Q h => ?_
  obtain ⟨Z, S, T, γ, K, hl, W, ⟨o, ho, ni, hk⟩, post⟩ := h
  obtain ⟨v, hv, W1⟩ := W.take hl ho
  obtain ⟨S', ls, W2⟩ := W1.mid.share ni
  have hi : i < γ.length := (List.getElem?_eq_some_iff.mp ho).1
  have W3 : World Z S' H ((some v, some (.sh o.er)) :: (some v, some (.sh o.er)) :: (σ.zip (γ.set i none) ++ T)) := W2.push W2.isD
  have W4 : World Z S' H (σ.zip (γ.set i none) ++ (some v, some (.sh o.er)) :: (some v, some (.sh o.er)) :: T) := by
    refine W3.perm ?_
    exact ((List.Perm.cons _ List.perm_middle.symm).trans List.perm_middle.symm)
  have W5 := W4.back (by simpa using hl) (by simpa using hi) hv
  rw [List.set_set] at W5
  exact ⟨v, hv, post _ _ hk (by simp) v H S' ls W5⟩
theorem je_mv (i : Nat) {x : Str} {pos : Pos} (hN : X.N[i]? = some x := by rfl) (hv : Vis X.env.scope x := by first | exact Or.inl rfl | exact Or.inr (Or.inl rfl) | exact Or.inr (Or.inr rfl)) (hd : (x == ("__debug__" : Str)) = false := by decide)
    (hcd : (x == ("__classdict__" : Str)) = false := by decide) : JE X (.Name x pos) (oMv i) := by
  refine PE.imp (pe_var hN hv hd hcd) fun σ H Q h => ?_
  obtain ⟨Z, S, T, γ, K, hl, W, ⟨o, ho, hk⟩, post⟩ := h
  obtain ⟨v, hv, W1⟩ := W.take hl ho
  exact ⟨v, hv, post _ _ hk (by simp) v H S (Le.refl S) W1⟩
def oC (d : D) : OE := fun γ Q => Q (.sh d) γ
theorem const_of {e : Expr} {v : V} {d : D} (h : PE X e (tC v)) (hd : ∀ S, IsD S d v) : JE X e (oC d) := by
  refine PE.imp h fun σ H Q h => ?_
  obtain ⟨Z, S, T, γ, K, hl, W, hk, post⟩ := h
  exact post _ _ hk rfl v H S (Le.refl S) (W.push (hd S)).unmid
theorem je_int {i j pos} : JE X (.Constant (.int i) j pos) (oC (.int i)) := const_of pe_int fun S => by unfold IsD; rfl
theorem je_bl {i j pos} : JE X (.Constant (.bool i) j pos) (oC (.bl i)) := const_of pe_bl fun S => by unfold IsD; rfl
theorem je_non {j pos} : JE X (.Constant .none j pos) (oC .non) := const_of pe_non fun S => by unfold IsD; rfl
theorem je_str {x j pos} : JE X (.Constant (.str x) j pos) (oC (.str x)) := const_of pe_str fun S => by unfold IsD; rfl
theorem je_gint {x : Str} {i : Int} {t : Tok} {pos : Pos} (hg : Gl X x) (hm : X.mg x = some (.int i t)) (hd : (x == ("__debug__" : Str)) = false := by decide) : JE X (.Name x pos) (oC (.int i)) :=
  const_of (pe_glob hg hm (v := .int i) ⟨t, rfl⟩ hd) fun S => by unfold IsD; rfl
/-- a def, a class of the module, as a value -/
theorem je_gref {x : Str} {a : Addr} {pos : Pos} (hg : Gl X x) (hm : X.mg x = some (.ref a)) (hd : (x == ("__debug__" : Str)) = false := by decide) : JE X (.Name x pos) (oC (.ref a)) :=
  const_of (pe_glob hg hm (v := .ref a) rfl hd) fun S => by unfold IsD; rfl
end
end FN
end
section
namespace FN
open PySem PySem.Spec L2
open PyProof.Rows hiding St

/-! ### shared data, by its parts -/
section
variable {S H : Hp}
theorem IsDs.len : ∀ {l : List D} {vs : List V}, IsDs S l vs → vs.length = l.length
  | [], vs, h => by unfold IsDs at h; rw [h]; rfl
  | d :: l, vs, h => by unfold IsDs at h; obtain ⟨v, r, e, _, t⟩ := h; rw [e, List.length_cons, List.length_cons, IsDs.len t]
theorem IsDs.get : ∀ {l : List D} {vs : List V} {i : Nat} {d : D}, IsDs S l vs → l[i]? = some d → ∃ v, vs[i]? = some v ∧ IsD S d v
  | [], _, i, d, _, e => by simp at e
  | x :: l, vs, 0, d, h, e => by
    unfold IsDs at h; obtain ⟨v, r, e1, h1, t⟩ := h
    simp at e; subst e
    exact ⟨v, by rw [e1]; rfl, h1⟩
  | x :: l, vs, i + 1, d, h, e => by
    unfold IsDs at h; obtain ⟨v, r, e1, h1, t⟩ := h
    obtain ⟨w, h2, h3⟩ := IsDs.get (i := i) (d := d) t (by simpa using e)
    exact ⟨w, by rw [e1]; simpa using h2, h3⟩
theorem IsDs.get' : ∀ {l : List D} {vs : List V} {i : Nat} {v : V}, IsDs S l vs → vs[i]? = some v → ∃ d, l[i]? = some d ∧ IsD S d v
  | [], vs, i, v, h, e => by unfold IsDs at h; rw [h] at e; simp at e
  | x :: l, vs, 0, v, h, e => by
    unfold IsDs at h; obtain ⟨w, r, e1, h1, t⟩ := h
    rw [e1] at e; simp at e; subst e
    exact ⟨x, rfl, h1⟩
  | x :: l, vs, i + 1, v, h, e => by
    unfold IsDs at h; obtain ⟨w, r, e1, h1, t⟩ := h
    rw [e1] at e
    obtain ⟨d, h2, h3⟩ := IsDs.get' (i := i) (v := v) t (by simpa using e)
    exact ⟨d, by simpa using h2, h3⟩
theorem IsDs.ints : ∀ {ns : List Int} {vs : List V}, IsDs S (ns.map D.int) vs → vs = ns.map V.int
  | [], vs, h => by unfold IsDs at h; simpa using h
  | n :: ns, vs, h => by
    rw [List.map_cons] at h
    unfold IsDs at h; obtain ⟨v, r, e, h1, t⟩ := h
    unfold IsD at h1
    rw [e, h1, IsDs.ints t]; rfl
theorem IsDs.bls : ∀ {ns : List Bool} {vs : List V}, IsDs S (ns.map D.bl) vs → vs = ns.map V.bl
  | [], vs, h => by unfold IsDs at h; simpa using h
  | n :: ns, vs, h => by
    rw [List.map_cons] at h
    unfold IsDs at h; obtain ⟨v, r, e, h1, t⟩ := h
    unfold IsD at h1
    rw [e, h1, IsDs.bls t]; rfl
theorem isDs_ints : ∀ (ns : List Int), IsDs S (ns.map D.int) (ns.map V.int)
  | [] => by unfold IsDs; rfl
  | n :: ns => by rw [List.map_cons, List.map_cons]; unfold IsDs; exact ⟨_, _, rfl, by unfold IsD; rfl, isDs_ints ns⟩
theorem IsDs.take : ∀ {l : List D} {vs : List V} (n : Nat), IsDs S l vs → IsDs S (l.take n) (vs.take n)
  | l, vs, 0, _ => by rw [List.take_zero, List.take_zero]; unfold IsDs; rfl
  | [], vs, n + 1, h => by unfold IsDs at h; rw [h]; simp; unfold IsDs; rfl
  | d :: l, vs, n + 1, h => by
    unfold IsDs at h; obtain ⟨v, r, e, h1, t⟩ := h
    rw [e, List.take_succ_cons, List.take_succ_cons]; unfold IsDs
    exact ⟨v, _, rfl, h1, IsDs.take n t⟩
theorem IsDs.drop : ∀ {l : List D} {vs : List V} (n : Nat), IsDs S l vs → IsDs S (l.drop n) (vs.drop n)
  | l, vs, 0, h => h
  | [], vs, n + 1, h => by unfold IsDs at h; rw [h]; simp; unfold IsDs; rfl
  | d :: l, vs, n + 1, h => by
    unfold IsDs at h; obtain ⟨v, r, e, h1, t⟩ := h
    rw [e, List.drop_succ_cons, List.drop_succ_cons]
    exact IsDs.drop n t
theorem IsDs.append : ∀ {l m : List D} {vs ws : List V}, IsDs S l vs → IsDs S m ws → IsDs S (l ++ m) (vs ++ ws)
  | [], m, vs, ws, h, k => by unfold IsDs at h; rw [h]; exact k
  | d :: l, m, vs, ws, h, k => by
    unfold IsDs at h; obtain ⟨v, r, e, h1, t⟩ := h
    rw [e, List.cons_append, List.cons_append]; unfold IsDs
    exact ⟨v, _, rfl, h1, IsDs.append t k⟩
theorem IsDs.reverse : ∀ {l : List D} {vs : List V}, IsDs S l vs → IsDs S l.reverse vs.reverse
  | [], vs, h => by unfold IsDs at h; rw [h]; unfold IsDs; rfl
  | d :: l, vs, h => by
    unfold IsDs at h; obtain ⟨v, r, e, h1, t⟩ := h
    rw [e, List.reverse_cons, List.reverse_cons]
    exact IsDs.append (IsDs.reverse t) (by unfold IsDs; exact ⟨v, [], rfl, h1, by unfold IsDs; rfl⟩)
theorem IsDk.len : ∀ {l : List (Key × D)} {vs : List (Key × V)}, IsDk S l vs → vs.length = l.length
  | [], vs, h => by unfold IsDk at h; rw [h]; rfl
  | (k, d) :: l, vs, h => by unfold IsDk at h; obtain ⟨v, r, e, _, t⟩ := h; rw [e, List.length_cons, List.length_cons, IsDk.len t]
theorem IsDt.len : ∀ {l : List (List Key × D)} {vs : List (List Key × V)}, IsDt S l vs → vs.length = l.length
  | [], vs, h => by unfold IsDt at h; rw [h]; rfl
  | (k, d) :: l, vs, h => by unfold IsDt at h; obtain ⟨v, r, e, _, t⟩ := h; rw [e, List.length_cons, List.length_cons, IsDt.len t]
end
def valD {κ : Type} [DecidableEq κ] {α : Type} (l : List (κ × α)) (k : κ) : Option α := (l.find? fun kv => decide (kv.1 = k)).map (·.2)
def putD {κ : Type} [DecidableEq κ] {α : Type} (l : List (κ × α)) (k : κ) (v : α) : List (κ × α) :=
  if (l.any fun kv => decide (kv.1 = k)) = true then l.map (fun kv => if kv.1 = k then (kv.1, v) else kv) else l ++ [(k, v)]
theorem IsDk.val {S : Hp} : ∀ {l : List (Key × D)} {vs : List (Key × V)} (k : Key), IsDk S l vs → (valD l k = none ∧ valV vs k = none) ∨ ∃ d v, valD l k = some d ∧ valV vs k = some v ∧ IsD S d v
  | [], vs, k, h => by unfold IsDk at h; rw [h]; exact .inl ⟨rfl, rfl⟩
  | (k', d) :: l, vs, k, h => by
    unfold IsDk at h; obtain ⟨v, r, e, h1, t⟩ := h
    rw [e]
    by_cases q : k' = k
    · exact .inr ⟨d, v, by simp [valD, List.find?_cons, q], by simp [valV, List.find?_cons, q], h1⟩
    · rcases IsDk.val k t with ⟨a, b⟩ | ⟨d', v', a, b, c⟩
      · exact .inl ⟨by simpa [valD, List.find?_cons, q] using a, by simpa [valV, List.find?_cons, q] using b⟩
      · exact .inr ⟨d', v', by simpa [valD, List.find?_cons, q] using a, by simpa [valV, List.find?_cons, q] using b, c⟩
theorem IsDt.val {S : Hp} : ∀ {l : List (List Key × D)} {vs : List (List Key × V)} (k : List Key), IsDt S l vs → (valD l k = none ∧ valV vs k = none) ∨ ∃ d v, valD l k = some d ∧ valV vs k = some v ∧ IsD S d v
  | [], vs, k, h => by unfold IsDt at h; rw [h]; exact .inl ⟨rfl, rfl⟩
  | (k', d) :: l, vs, k, h => by
    unfold IsDt at h; obtain ⟨v, r, e, h1, t⟩ := h
    rw [e]
    by_cases q : k' = k
    · exact .inr ⟨d, v, by simp [valD, List.find?_cons, q], by simp [valV, List.find?_cons, q], h1⟩
    · rcases IsDt.val k t with ⟨a, b⟩ | ⟨d', v', a, b, c⟩
      · exact .inl ⟨by simpa [valD, List.find?_cons, q] using a, by simpa [valV, List.find?_cons, q] using b⟩
      · exact .inr ⟨d', v', by simpa [valD, List.find?_cons, q] using a, by simpa [valV, List.find?_cons, q] using b, c⟩
mutual
/-- the library's data -/
def D.toP : D → PyData
  | .non => .none
  | .bl b => .bool b
  | .int i => .int i
  | .str x => .str x
  | .ref _ => .none
  | .ty _ => .none
  | .lst l => .list (toPs l)
  | .tup l => .tuple (toPs l)
  | .dk _ => .none
  | .dt _ => .none
def toPs : List D → List PyData
  | [] => []
  | d :: l => d.toP :: toPs l
end
mutual
def D.flat : D → Bool
  | .non => true
  | .bl _ => true
  | .int _ => true
  | .str _ => true
  | .ref _ => false
  | .ty _ => false
  | .lst l => flats l
  | .tup l => flats l
  | .dk _ => false
  | .dt _ => false
def flats : List D → Bool
  | [] => true
  | d :: l => d.flat && flats l
end
def D.shp (d : D) : Bool := d.flat && SeqAt.shaped d.toP
def D.eqv (a b : D) : Bool := PyData.eqv a.toP b.toP
mutual
theorem dp_of {K : PySem.W.Frag} {S H : Hp} (s : Sub S H) : ∀ (d : D) (v : V), d.flat = true → IsD S d v → Dp K H v d.toP
  | .non, v, _, h => by unfold IsD at h; unfold D.toP; rw [h]; exact .non
  | .bl b, v, _, h => by unfold IsD at h; unfold D.toP; rw [h]; exact .bl b
  | .int b, v, _, h => by unfold IsD at h; unfold D.toP; rw [h]; exact .int b
  | .str b, v, _, h => by unfold IsD at h; unfold D.toP; rw [h]; exact .str b
  | .ref b, v, f, h => by unfold D.flat at f; cases f
  | .ty b, v, f, h => by unfold D.flat at f; cases f
  | .lst l, v, f, h => by
    unfold D.flat at f; unfold IsD at h; unfold D.toP; obtain ⟨a, vs, e, h1, h2⟩ := h; rw [e]
    exact .lst (.inl (.inl (s.lst h1))) (dpAll_of s l vs f h2)
  | .tup l, v, f, h => by
    unfold D.flat at f; unfold IsD at h; unfold D.toP; obtain ⟨a, vs, e, h1, h2⟩ := h; rw [e]
    exact .tup (.inl (.inl (s.tup h1))) (dpAll_of s l vs f h2)
  | .dk l, v, f, h => by unfold D.flat at f; cases f
  | .dt l, v, f, h => by unfold D.flat at f; cases f
theorem dpAll_of {K : PySem.W.Frag} {S H : Hp} (s : Sub S H) : ∀ (l : List D) (vs : List V), flats l = true → IsDs S l vs → DpAll K H vs (toPs l)
  | [], vs, _, h => by unfold IsDs at h; unfold toPs; rw [h]; exact .nil
  | d :: l, vs, f, h => by
    unfold flats at f; simp only [Bool.and_eq_true] at f
    unfold IsDs at h; unfold toPs; obtain ⟨v, r, e, h1, t⟩ := h; rw [e]
    exact .cons (dp_of s d v f.1 h1) (dpAll_of s l r f.2 t)
end
def isKey : D → Option Key
  | .int i => some (.inl i)
  | .str x => some (.inr x)
  | _ => none
def keysOf : List D → Option (List Key)
  | [] => some []
  | d :: l => match isKey d, keysOf l with
    | some k, some ks => some (k :: ks)
    | _, _ => none
theorem isKey_v {S : Hp} {d : D} {v : V} {k : Key} (h : IsD S d v) (e : isKey d = some k) : v = kV k := by
  cases d <;> simp [isKey] at e
  · subst e; unfold IsD at h; exact h
  · subst e; unfold IsD at h; exact h
theorem keysOf_v {S : Hp} : ∀ {l : List D} {vs : List V} {ks : List Key}, IsDs S l vs → keysOf l = some ks → vs = ks.map kV
  | [], vs, ks, h, e => by unfold IsDs at h; simp [keysOf] at e; subst e; exact h
  | d :: l, vs, ks, h, e => by
    unfold IsDs at h; obtain ⟨v, r, e1, h1, t⟩ := h
    unfold keysOf at e
    cases hk : isKey d with
    | none => rw [hk] at e; cases e
    | some k =>
      cases hl : keysOf l with
      | none => rw [hk, hl] at e; cases e
      | some ks' =>
        rw [hk, hl] at e; cases e
        rw [e1, isKey_v h1 hk, keysOf_v t hl]; rfl
/-- x[y] -/
def subD : D → D → Option D
  | .lst l, .int i => atI l i
  | .tup l, .int i => atI l i
  | .dk l, d => (isKey d).bind (valD l)
  | .dt l, .tup ks => (keysOf ks).bind (valD l)
  | _, _ => none
/-- d.get(y): the key is there, or not -/
def getD? : D → D → Option (Option D)
  | .dk l, d => (isKey d).map (valD l)
  | .dt l, .tup ks => (keysOf ks).map (valD l)
  | _, _ => none
/-- y in x -/
def inD : D → D → Option Bool
  | d, .lst l => if d.shp && (D.lst l).shp then some (l.any fun z => z.eqv d) else none
  | d, .dk l => (isKey d).map fun k => (valD l k).isSome
  | .tup ks, .dt l => (keysOf ks).map fun k => (valD l k).isSome
  | _, _ => none
def lenD : D → Option Nat
  | .lst l => some l.length
  | .tup l => some l.length
  | _ => none
theorem atI_of {S : Hp} {l : List D} {vs : List V} {i : Int} {d : D} (h : IsDs S l vs) (e : atI l i = some d) : ∃ v, atI vs i = some v ∧ IsD S d v := by
  unfold atI at *
  rw [h.len]
  cases hx : ixN l.length i with
  | none => rw [hx] at e; cases e
  | some j =>
    rw [hx] at e
    exact h.get (i := j) (by simpa using e)
theorem any_toPs (p : PyData → Bool) : ∀ l : List D, (toPs l).any p = l.any fun z => p z.toP
  | [] => by unfold toPs; rfl
  | d :: l => by unfold toPs; rw [List.any_cons, List.any_cons, any_toPs p l]

/-! ### operators -/
abbrev B2 := O → O → (O → Prop) → Prop
abbrev B1 := O → (O → Prop) → Prop
def Bin (r : R2) (k : B2) : Prop := ∀ (Z S H : Hp) (x y : V) (ox oy : O) (ps : List En) (Q : VK) (K : O → Prop), World Z S H ((some y, some oy) :: (some x, some ox) :: ps) → k ox oy K →
  (∀ o, K o → ∀ v H' S', Le S S' → World Z S' H' ((some v, some o) :: ps) → Q v H') → r x y H Q
def o2 (k : B2) (f g : OE) : OE := fun γ Q => f γ fun x γ1 => g γ1 fun y γ2 => k x y fun o => Q o γ2
section
variable {X : Cx} {a b : Expr} {f g : OE} {pos : Pos} {r : R2} {k : B2}
theorem tOp_of (hk : Bin r k) {σ : St} {H : Hp} {Q : VK} (h : tE (o2 k f g) σ H Q) : tOp r (tE f) (tE g) σ H Q := by
  obtain ⟨Z, S, T, γ, K, hl, W, h, post⟩ := h
  refine ⟨Z, S, T, γ, _, hl, W, h, fun ox γ1 h1 l1 x H1 S1 ls1 W1 => ?_⟩
  refine ⟨Z, S1, (some x, some ox) :: T, γ1, _, by omega, W1, h1, fun oy γ2 h2 l2 y H2 S2 ls2 W2 => ?_⟩
  refine hk Z S2 H2 x y ox oy (σ.zip γ2 ++ T) Q _ ?_ h2 fun o ko v H' S' ls W' => post o γ2 ko (l2.trans l1) v H' S' (ls1.trans (ls2.trans ls)) W'.unmid
  exact W2.perm (List.perm_middle.trans (List.Perm.cons _ List.perm_middle))
theorem je_op {op : Operator} (ho : OpR X (binaryOp op) r) (hk : Bin r k) (ha : JE X a f) (hb : JE X b g) : JE X (.BinOp a op b pos) (o2 k f g) :=
  PE.imp (pe_op ho ha hb) fun _ _ _ h => tOp_of hk h
theorem je_cmp {op : CmpOp} (ho : OpR X (compareOp op) r) (hk : Bin r k) (ha : JE X a f) (hb : JE X b g) (hm : behindInMarks op b = false := by rfl) : JE X (.Compare a [op] [b] pos) (o2 k f g) :=
  PE.imp (pe_cmpR ho ha hb hm) fun _ _ _ h => tOp_of hk h
/-- as a test -/
def oB (f : OE) : OT := fun γ Q => f γ fun o γ1 => ∃ c, o = .sh (.bl c) ∧ Q c γ1
theorem tTest_of {f : OE} {t : TE} (ht : ∀ σ H Q, tE f σ H Q → t σ H Q) {σ : St} {H : Hp} {Q : Bool → Hp → Prop} (h : tT (oB f) σ H Q) : tTest t σ H Q := by
  obtain ⟨Z, S, T, γ, K, hl, W, h, post⟩ := h
  refine ht _ _ _ ⟨Z, S, T, γ, _, hl, W, h, fun o γ1 ⟨c, e, kc⟩ l1 v H1 S1 ls1 W1 => ?_⟩
  subst e
  have q := W1.mid.isD
  unfold IsD at q
  exact ⟨c, q, post c γ1 kc l1 H1 S1 ls1 W1.mid.tail⟩
theorem jt_cmp {op : CmpOp} (ho : OpR X (compareOp op) r) (hk : Bin r k) (ha : JE X a f) (hb : JE X b g) (hm : behindInMarks op b = false := by rfl) : JT X (.Compare a [op] [b] pos) (oB (o2 k f g)) :=
  PT.imp (pt_cmpR ho ha hb hm) fun _ _ _ h => tTest_of (fun _ _ _ h => tOp_of hk h) h
/-- an expression that hands back a bool, as a test -/
theorem jt_val {e : Expr} {f : OE} (h : JE X e f) (he : ∀ whole, isTrue e X.env whole = (do let v ← whole; standAt e.pos; holding [v] (truthy v)) := by intro _; rfl) : JT X e (oB f) :=
  PT.imp (pt_val h he) fun _ _ _ h => tTest_of (t := tE f) (fun _ _ _ h => h) h
end
def kI (C : Int → Int → Prop) (g : Int → Int → Int) : B2 := fun x y K => ∃ i j, x = .sh (.int i) ∧ y = .sh (.int j) ∧ C i j ∧ K (.sh (.int (g i j)))
def kI0 (g : Int → Int → Int) : B2 := fun x y K => ∃ i j, x = .sh (.int i) ∧ y = .sh (.int j) ∧ K (.sh (.int (g i j)))
def kB0 (g : Int → Int → Bool) : B2 := fun x y K => ∃ i j, x = .sh (.int i) ∧ y = .sh (.int j) ∧ K (.sh (.bl (g i j)))
theorem ints_of {Z S H : Hp} {x y : V} {i j : Int} {ps : List En} (W : World Z S H ((some y, some (.sh (.int j))) :: (some x, some (.sh (.int i))) :: ps)) : x = .int i ∧ y = .int j ∧ World Z S H ps := by
  have h1 := W.isD
  have h2 := W.tail.isD
  unfold IsD at h1 h2
  exact ⟨h2, h1, W.tail.tail⟩
theorem bin_I {C : Int → Int → Prop} {g : Int → Int → Int} : Bin (rI C fun i j => .int (g i j)) (kI C g) := by
  rintro Z S H x y ox oy ps Q K W ⟨i, j, rfl, rfl, hc, hk⟩ post
  obtain ⟨rfl, rfl, W0⟩ := ints_of W
  exact ⟨i, j, rfl, rfl, hc, post _ hk _ _ S (Le.refl S) (W0.push (by unfold IsD; rfl))⟩
theorem bin_I0 {g : Int → Int → Int} : Bin (rI0 fun i j => .int (g i j)) (kI0 g) := by
  rintro Z S H x y ox oy ps Q K W ⟨i, j, rfl, rfl, hk⟩ post
  obtain ⟨rfl, rfl, W0⟩ := ints_of W
  exact ⟨i, j, rfl, rfl, post _ hk _ _ S (Le.refl S) (W0.push (by unfold IsD; rfl))⟩
theorem bin_B0 {g : Int → Int → Bool} : Bin (rI0 fun i j => .bl (g i j)) (kB0 g) := by
  rintro Z S H x y ox oy ps Q K W ⟨i, j, rfl, rfl, hk⟩ post
  obtain ⟨rfl, rfl, W0⟩ := ints_of W
  exact ⟨i, j, rfl, rfl, post _ hk _ _ S (Le.refl S) (W0.push (by unfold IsD; rfl))⟩
/-- == of data -/
def kEq (neg : Bool) : B2 := fun x y K => x.noIns = true ∧ y.noIns = true ∧ x.er.shp = true ∧ y.er.shp = true ∧ K (.sh (.bl (if neg then !(x.er.eqv y.er) else x.er.eqv y.er)))
theorem two_er {Z S H : Hp} {x y : V} {ox oy : O} {ps : List En} (W : World Z S H ((some y, some oy) :: (some x, some ox) :: ps)) (nx : ox.noIns = true) (ny : oy.noIns = true) : ∃ S', Le S S' ∧ Sub S' H ∧ IsD S' ox.er x ∧ IsD S' oy.er y := by
  obtain ⟨S1, l1, W1⟩ := W.share ny
  obtain ⟨S2, l2, W2⟩ := W1.swap.share nx
  exact ⟨S2, l1.trans l2, W2.sub, W2.isD, W2.swap.isD⟩
theorem bin_eqD {K0 : PySem.W.Frag} : Bin (rEqD K0) (kEq false) := by
  rintro Z S H x y ox oy ps Q K W ⟨nx, ny, sx, sy, hk⟩ post
  obtain ⟨S', _, sb, h1, h2⟩ := two_er W nx ny
  unfold D.shp at sx sy
  simp only [Bool.and_eq_true] at sx sy
  exact ⟨_, _, dp_of sb _ _ sx.1 h1, dp_of sb _ _ sy.1 h2, sx.2, sy.2, post _ hk _ _ S (Le.refl S) (W.tail.tail.push (by unfold IsD; rfl))⟩
theorem bin_neD {K0 : PySem.W.Frag} : Bin (rNeD K0) (kEq true) := by
  rintro Z S H x y ox oy ps Q K W ⟨nx, ny, sx, sy, hk⟩ post
  obtain ⟨S', _, sb, h1, h2⟩ := two_er W nx ny
  unfold D.shp at sx sy
  simp only [Bool.and_eq_true] at sx sy
  exact ⟨_, _, dp_of sb _ _ sx.1 h1, dp_of sb _ _ sy.1 h2, sx.2, sy.2, post _ hk _ _ S (Le.refl S) (W.tail.tail.push (by unfold IsD; rfl))⟩
/-- is None -/
def D.isNon : D → Bool
  | .non => true
  | _ => false
def kIsN (neg : Bool) : B2 := fun x y K => ∃ d, x = .sh d ∧ y = .sh .non ∧ K (.sh (.bl (if neg then !d.isNon else d.isNon)))
theorem isN_dec {S : Hp} {d : D} {v : V} (h : IsD S d v) : decide (v = .non) = d.isNon := by
  cases d <;> unfold IsD at h
  all_goals first
    | (subst h; rfl)
    | (obtain ⟨a, vs, e, _⟩ := h; subst e; rfl)
theorem bin_isN : Bin (fun x y H Q => y = .non ∧ Q (.bl (decide (x = .non))) H) (kIsN false) := by
  rintro Z S H x y ox oy ps Q K W ⟨d, rfl, rfl, hk⟩ post
  have h1 := W.isD
  have h2 := W.tail.isD
  refine ⟨by unfold IsD at h1; exact h1, ?_⟩
  rw [isN_dec h2]
  exact post _ hk _ _ S (Le.refl S) (W.tail.tail.push (by unfold IsD; rfl))
theorem bin_notN : Bin (fun x y H Q => y = .non ∧ Q (.bl (!decide (x = .non))) H) (kIsN true) := by
  rintro Z S H x y ox oy ps Q K W ⟨d, rfl, rfl, hk⟩ post
  have h1 := W.isD
  have h2 := W.tail.isD
  refine ⟨by unfold IsD at h1; exact h1, ?_⟩
  rw [isN_dec h2]
  exact post _ hk _ _ S (Le.refl S) (W.tail.tail.push (by unfold IsD; rfl))
end FN
end
section
namespace FN
open PySem PySem.Spec L2
open PyProof.Rows hiding St

theorem OpR.or {X : Cx} {f : Value → Value → Sem Value} {r r' : R2} (h : OpR X f r) (h' : OpR X f r') : OpR X f (fun x y H Q => r x y H Q ∨ r' x y H Q) := by
  intro pins s σ H x y v u Q I rx ry q
  rcases q with q | q
  · exact h pins s σ H x y v u Q I rx ry q
  · exact h' pins s σ H x y v u Q I rx ry q
theorem two_er' {Z S H : Hp} {x y : V} {ox oy : O} {ps : List En} (W : World Z S H ((some y, some oy) :: (some x, some ox) :: ps)) (nx : ox.noIns = true) (ny : oy.noIns = true) :
    ∃ S', Le S S' ∧ World Z S' H ps ∧ IsD S' ox.er x ∧ IsD S' oy.er y := by
  obtain ⟨S1, l1, W1⟩ := W.share ny
  obtain ⟨S2, l2, W2⟩ := W1.swap.share nx
  exact ⟨S2, l1.trans l2, W2.tail.tail, W2.isD, W2.swap.isD⟩
theorem one_er {Z S H : Hp} {x : V} {ox : O} {ps : List En} (W : World Z S H ((some x, some ox) :: ps)) (nx : ox.noIns = true) : ∃ S', Le S S' ∧ World Z S' H ps ∧ IsD S' ox.er x := by
  obtain ⟨S1, l1, W1⟩ := W.share nx
  exact ⟨S1, l1, W1.tail, W1.isD⟩

/-! ### x[y] -/
section
variable {X : Cx}
def rIxD : R2 := fun x y H Q => ∃ a v, x = .ref a ∧ DGet H a y (some v) ∧ Q v H
theorem ix_dict (hu : X.A.units + 1 < cLine) : IxR X rIxD := by
  intro value slice pins s σ H x y v u Q I rx ry h hs
  obtain ⟨a, w, rfl, g, q⟩ := h
  obtain rfl : v = Value.ref a := rx
  exact tail_any (dict_typeIs I g) PySem.F.slot_dict_getitem.lookup (d_getItem hu I g ry fun w' s3 I3 rw' => ⟨w, H, I3, rw', q⟩) hs
def kSub : B2 := fun x y K => x.noIns = true ∧ y.noIns = true ∧ ∃ d, subD x.er y.er = some d ∧ K (.sh d)
theorem rd_sub {S H : Hp} (s : Sub S H) {a : Addr} {u : HO} (h : S a = some u) : Rd H a u := s.rd h
theorem bin_sub {K0 : PySem.W.Frag} : Bin (fun x y H Q => rIx K0 x y H Q ∨ rIxD x y H Q) kSub := by
  rintro Z S H x y ox oy ps Q K W ⟨nx, ny, d, hd, hk⟩ post
  obtain ⟨S', ls, W', hx, hy⟩ := two_er' W nx ny
  have fin : ∀ v, IsD S' d v → Q v H := fun v hv => post _ hk v H S' ls (W'.push hv)
  have sb := W'.sub
  generalize ox.er = dx at *
  generalize oy.er = dy at *
  unfold subD at hd
  split at hd
  · unfold IsD at hx hy
    obtain ⟨a, vs, rfl, ha, hl⟩ := hx
    obtain ⟨v, hv, iv⟩ := atI_of hl hd
    exact .inl (.inl ⟨a, vs, _, v, rfl, hy, .inl (.inl (sb.lst ha)), hv, fin v iv⟩)
  · unfold IsD at hx hy
    obtain ⟨a, vs, rfl, ha, hl⟩ := hx
    obtain ⟨v, hv, iv⟩ := atI_of hl hd
    exact .inl (.inr (.inl ⟨a, vs, _, v, rfl, hy, .inl (.inl (sb.tup ha)), hv, fin v iv⟩))
  · unfold IsD at hx
    obtain ⟨a, vs, rfl, ha, hl⟩ := hx
    obtain ⟨k, hk', hv'⟩ := Option.bind_eq_some_iff.mp hd
    rcases IsDk.val k hl with ⟨e, _⟩ | ⟨d', v, e1, e2, iv⟩
    · rw [e] at hv'; cases hv'
    · rw [e1] at hv'; cases hv'
      exact .inr ⟨a, v, rfl, .inl ⟨vs, k, sb.rd ha, isKey_v hy hk', e2.symm⟩, fin v iv⟩
  · unfold IsD at hx hy
    obtain ⟨a, vs, rfl, ha, hl⟩ := hx
    obtain ⟨b, ws, rfl, hb, hl2⟩ := hy
    obtain ⟨k, hk', hv'⟩ := Option.bind_eq_some_iff.mp hd
    rcases IsDt.val k hl with ⟨e, _⟩ | ⟨d', v, e1, e2, iv⟩
    · rw [e] at hv'; cases hv'
    · rw [e1] at hv'; cases hv'
      refine .inr ⟨a, v, rfl, .inr ⟨vs, k, b, sb.rd ha, rfl, ?_, e2.symm⟩, fin v iv⟩
      rw [← keysOf_v hl2 hk']; exact sb.tup hb
  · cases hd
theorem je_sub {a b : Expr} {f g : OE} {pos : Pos} (hu : X.A.units + 1 < cLine) (ha : JE X a f) (hb : JE X b g) (hs : PlainIx b := by exact fun _ _ => rfl) : JE X (.Subscript a b pos) (o2 kSub f g) :=
  PE.imp (pe_ix (ix_seq.or (ix_dict hu)) ha hb hs) fun _ _ _ h => tOp_of (bin_sub (K0 := X.K)) h

/-! ### y in x -/
def rInA (K : PySem.W.Frag) : R2 := fun x y H Q => rInD K x y H Q ∨ ∃ a o, y = .ref a ∧ DGet H a x o ∧ Q (.bl o.isSome) H
def rNotInA (K : PySem.W.Frag) : R2 := fun x y H Q => rNotInD K x y H Q ∨ ∃ a o, y = .ref a ∧ DGet H a x o ∧ Q (.bl (!o.isSome)) H
theorem op_inA (hu : X.A.units + 65 < cLine) : OpR X (compareOp .In) (rInA X.K) := by
  refine OpR.or (op_inD hu) ?_
  intro pins s σ H x y v u Q I rx ry h
  obtain ⟨a, o, rfl, g, q⟩ := h
  obtain rfl : u = Value.ref a := ry
  exact d_in (by omega) I g rx fun s3 I3 => ⟨.bl o.isSome, H, I3, rfl, q⟩
theorem op_notInA (hu : X.A.units + 65 < cLine) : OpR X (compareOp .NotIn) (rNotInA X.K) := by
  refine OpR.or (op_notInD hu) ?_
  intro pins s σ H x y v u Q I rx ry h
  obtain ⟨a, o, rfl, g, q⟩ := h
  obtain rfl : u = Value.ref a := ry
  exact d_notIn (by omega) I g rx fun s3 I3 => ⟨.bl (!o.isSome), H, I3, rfl, q⟩
def kIn (neg : Bool) : B2 := fun x y K => x.noIns = true ∧ y.noIns = true ∧ ∃ b, inD x.er y.er = some b ∧ K (.sh (.bl (if neg then !b else b)))
theorem in_cases {K0 : PySem.W.Frag} {S H : Hp} {x y : V} {dx dy : D} {b : Bool} (sb : Sub S H) (hx : IsD S dx x) (hy : IsD S dy y) (hd : inD dx dy = some b) :
    (∃ d ds, Dp K0 H x d ∧ Dp K0 H y (.list ds) ∧ SeqAt.shaped d = true ∧ SeqAt.shaped (.list ds) = true ∧ b = (ds.any fun z => PyData.eqv z d)) ∨ ∃ a o, y = .ref a ∧ DGet H a x o ∧ b = o.isSome := by
  unfold inD at hd
  split at hd
  · rename_i l
    split at hd
    · rename_i hs
      cases hd
      simp only [Bool.and_eq_true] at hs
      obtain ⟨s1, s2⟩ := hs
      have s1' := s1
      have s2' := s2
      unfold D.shp at s1' s2'
      simp only [Bool.and_eq_true] at s1' s2'
      have p2 := dp_of (K := K0) sb _ _ s2'.1 hy
      unfold D.toP at p2
      have p3 := s2'.2
      unfold D.toP at p3
      refine .inl ⟨dx.toP, toPs l, dp_of sb _ _ s1'.1 hx, p2, s1'.2, p3, ?_⟩
      rw [any_toPs]; rfl
    · cases hd
  · unfold IsD at hy
    obtain ⟨a, vs, rfl, ha, hl⟩ := hy
    obtain ⟨k, hk', hv'⟩ := Option.map_eq_some_iff.mp hd
    refine .inr ⟨a, valV vs k, rfl, .inl ⟨vs, k, sb.rd ha, isKey_v hx hk', rfl⟩, ?_⟩
    rcases IsDk.val k hl with ⟨e1, e2⟩ | ⟨d', v, e1, e2, iv⟩
    · rw [← hv', e1, e2]; rfl
    · rw [← hv', e1, e2]; rfl
  · unfold IsD at hx hy
    obtain ⟨a, vs, rfl, ha, hl⟩ := hy
    obtain ⟨b', ws, rfl, hb, hl2⟩ := hx
    obtain ⟨k, hk', hv'⟩ := Option.map_eq_some_iff.mp hd
    refine .inr ⟨a, valV vs k, rfl, .inr ⟨vs, k, b', sb.rd ha, rfl, by rw [← keysOf_v hl2 hk']; exact sb.tup hb, rfl⟩, ?_⟩
    rcases IsDt.val k hl with ⟨e1, e2⟩ | ⟨d', v, e1, e2, iv⟩
    · rw [← hv', e1, e2]; rfl
    · rw [← hv', e1, e2]; rfl
  · cases hd
theorem bin_in {K0 : PySem.W.Frag} : Bin (rInA K0) (kIn false) := by
  rintro Z S H x y ox oy ps Q K W ⟨nx, ny, b, hb, hk⟩ post
  obtain ⟨S', ls, W', hx, hy⟩ := two_er' W nx ny
  have fin : Q (.bl b) H := post _ hk _ H S' ls (W'.push (by unfold IsD; rfl))
  rcases in_cases (K0 := K0) W'.sub hx hy hb with ⟨d, ds, h1, h2, h3, h4, e⟩ | ⟨a, o, e1, g, e⟩
  · subst e; exact .inl ⟨d, ds, h1, h2, h3, h4, fin⟩
  · subst e; exact .inr ⟨a, o, e1, g, fin⟩
theorem bin_notIn {K0 : PySem.W.Frag} : Bin (rNotInA K0) (kIn true) := by
  rintro Z S H x y ox oy ps Q K W ⟨nx, ny, b, hb, hk⟩ post
  obtain ⟨S', ls, W', hx, hy⟩ := two_er' W nx ny
  have fin : Q (.bl (!b)) H := post _ hk _ H S' ls (W'.push (by unfold IsD; rfl))
  rcases in_cases (K0 := K0) W'.sub hx hy hb with ⟨d, ds, h1, h2, h3, h4, e⟩ | ⟨a, o, e1, g, e⟩
  · subst e; exact .inl ⟨d, ds, h1, h2, h3, h4, fin⟩
  · subst e; exact .inr ⟨a, o, e1, g, fin⟩

/-! ### tests -/
abbrev JW (X : Cx) (e : Expr) (f : OT) : Prop := PW X e (tT f)
theorem PW.imp {e : Expr} {t u : TT} (h : PW X e t) (k : ∀ σ H Q, u σ H Q → t σ H Q) : PW X e u := ⟨fun wh pins s σ H Q I hw => h.run wh pins s σ H Q I (k _ _ _ hw)⟩
def oAnd (f g : OT) : OT := fun γ Q => f γ fun b γ1 => if b = true then g γ1 Q else Q false γ1
def oOr (f g : OT) : OT := fun γ Q => f γ fun b γ1 => if b = true then Q true γ1 else g γ1 Q
def oNot (f : OT) : OT := fun γ Q => f γ fun b γ1 => Q (!b) γ1
theorem tT_seq {f : OT} {c : Bool → OT} {σ : St} {H : Hp} {Q : Bool → Hp → Prop} (h : tT (fun γ Q => f γ fun b γ1 => c b γ1 Q) σ H Q) : tT f σ H fun b H1 => tT (c b) σ H1 Q := by
  obtain ⟨Z, S, T, γ, K, hl, W, h, post⟩ := h
  exact ⟨Z, S, T, γ, _, hl, W, h, fun b γ1 h1 l1 H1 S1 ls1 W1 => ⟨Z, S1, T, γ1, K, by omega, W1, h1, fun b' γ' k' l' H' S' ls' W' => post b' γ' k' (l'.trans l1) H' S' (ls1.trans ls') W'⟩⟩
theorem tT_now {b : Bool} {σ : St} {H : Hp} {Q : Bool → Hp → Prop} (h : tT (fun γ K => K b γ) σ H Q) : Q b H := by
  obtain ⟨Z, S, T, γ, K, hl, W, h, post⟩ := h
  exact post b γ h rfl H S (Le.refl S) W
variable {a b : Expr} {rest : List Expr} {f g : OT} {pos : Pos}
theorem jw_and1 (ha : JT X a f) : JW X (.BoolOp .And [a] pos) f := pw_and1 ha
theorem jw_or1 (ha : JT X a f) : JW X (.BoolOp .Or [a] pos) f := pw_or1 ha
theorem jw_and (ha : JT X a f) (hb : JW X (.BoolOp .And (b :: rest) pos) g) : JW X (.BoolOp .And (a :: b :: rest) pos) (oAnd f g) := by
  refine PW.imp (pw_and ha hb) fun σ H Q h => ?_
  have h1 := tT_seq (f := f) (c := fun b γ Q => if b = true then g γ Q else Q false γ) h
  obtain ⟨Z, S, T, γ, K, hl, W, h, post⟩ := h1
  refine ⟨Z, S, T, γ, K, hl, W, h, fun b γ' k l H' S' ls W' => ?_⟩
  have := post b γ' k l H' S' ls W'
  cases b with
  | true => simpa using this
  | false => simp only [Bool.false_eq_true, if_false] at this ⊢; exact tT_now this
theorem jw_or (ha : JT X a f) (hb : JW X (.BoolOp .Or (b :: rest) pos) g) : JW X (.BoolOp .Or (a :: b :: rest) pos) (oOr f g) := by
  refine PW.imp (pw_or ha hb) fun σ H Q h => ?_
  have h1 := tT_seq (f := f) (c := fun b γ Q => if b = true then Q true γ else g γ Q) h
  obtain ⟨Z, S, T, γ, K, hl, W, h, post⟩ := h1
  refine ⟨Z, S, T, γ, K, hl, W, h, fun b γ' k l H' S' ls W' => ?_⟩
  have := post b γ' k l H' S' ls W'
  cases b with
  | false => simpa using this
  | true => simp only [if_true] at this ⊢; exact tT_now this
theorem jt_w {e : Expr} (h : JW X e f) : JT X e f := PW.pt h
theorem jt_not (ha : JT X a f) : JT X (.UnaryOp .Not a pos) (oNot f) := by
  refine PT.imp (pt_not ha) fun σ H Q h => ?_
  have h1 := tT_seq (f := f) (c := fun b γ Q => Q (!b) γ) h
  obtain ⟨Z, S, T, γ, K, hl, W, h, post⟩ := h1
  exact ⟨Z, S, T, γ, K, hl, W, h, fun b γ' k l H' S' ls W' => tT_now (b := !b) (post b γ' k l H' S' ls W')⟩
end
/-- a test as a value -/
def oV (f : OT) : OE := fun γ Q => f γ fun b γ1 => Q (.sh (.bl b)) γ1
section
variable {X : Cx} {a b : Expr} {rest : List Expr} {f g : OE} {pos : Pos}
def oAndV (f g : OE) : OE := fun γ Q => f γ fun x γ1 => ∃ c, x = .sh (.bl c) ∧ if c = true then g γ1 Q else Q (.sh (.bl false)) γ1
def oOrV (f g : OE) : OE := fun γ Q => f γ fun x γ1 => ∃ c, x = .sh (.bl c) ∧ if c = true then Q (.sh (.bl true)) γ1 else g γ1 Q
def oNotV (f : OE) : OE := fun γ Q => f γ fun x γ1 => ∃ c, x = .sh (.bl c) ∧ Q (.sh (.bl (!c))) γ1
theorem bl_of {Z S H : Hp} {v : V} {c : Bool} {ps : List En} (W : World Z S H ((some v, some (.sh (.bl c))) :: ps)) : v = .bl c := by
  have h := W.isD
  unfold IsD at h; exact h
theorem tE_seq {f : OE} {c : O → OE} {σ : St} {H : Hp} {Q : VK} (h : tE (fun γ Q => f γ fun x γ1 => c x γ1 Q) σ H Q) :
    ∃ (Z S : Hp) (T : List En) (γ : Gm) (K : O → Gm → Prop), σ.length = γ.length ∧ World Z S H (σ.zip γ ++ T) ∧ f γ (fun x γ1 => c x γ1 K) ∧ ∀ x γ1, c x γ1 K → γ1.length = γ.length → ∀ v H1 S1, Le S S1 → World Z S1 H1 (σ.zip γ1 ++ (some v, some x) :: T) →
      (∀ o γ', K o γ' → γ'.length = γ1.length → ∀ v' H' S', Le S1 S' → World Z S' H' (σ.zip γ' ++ (some v', some o) :: T) → Q v' H') := by
  obtain ⟨Z, S, T, γ, K, hl, W, h, post⟩ := h
  exact ⟨Z, S, T, γ, K, hl, W, h, fun x γ1 h1 l1 v H1 S1 ls1 W1 o γ' k' l' v' H' S' ls' W' => post o γ' k' (l'.trans l1) v' H' S' (ls1.trans ls') W'⟩
theorem je_one {op} (h : JE X a f) : JE X (.BoolOp op [a] pos) f := pe_one h
theorem je_and (ha : JE X a f) (hb : JE X (.BoolOp .And (b :: rest) pos) g) : JE X (.BoolOp .And (a :: b :: rest) pos) (oAndV f g) := by
  refine PE.imp (pe_and ha hb) fun σ H Q h => ?_
  obtain ⟨Z, S, T, γ, K, hl, W, h, post⟩ := tE_seq (f := f) (c := fun x γ1 Q => ∃ c, x = .sh (.bl c) ∧ if c = true then g γ1 Q else Q (.sh (.bl false)) γ1) h
  refine ⟨Z, S, T, γ, _, hl, W, h, ?_⟩
  rintro x γ1 ⟨c, rfl, h1⟩ l1 v H1 S1 ls1 W1
  have p := post _ γ1 ⟨c, rfl, h1⟩ l1 v H1 S1 ls1 W1
  refine ⟨c, bl_of W1.mid, ?_⟩
  cases c with
  | true => exact ⟨Z, S1, T, γ1, K, by omega, W1.mid.tail, by simpa using h1, p⟩
  | false =>
    simp only [Bool.false_eq_true, if_false] at h1 ⊢
    exact p _ γ1 h1 rfl _ H1 S1 (Le.refl _) (W1.mid.tail.push (by unfold IsD; rfl)).unmid
theorem je_or (ha : JE X a f) (hb : JE X (.BoolOp .Or (b :: rest) pos) g) : JE X (.BoolOp .Or (a :: b :: rest) pos) (oOrV f g) := by
  refine PE.imp (pe_or ha hb) fun σ H Q h => ?_
  obtain ⟨Z, S, T, γ, K, hl, W, h, post⟩ := tE_seq (f := f) (c := fun x γ1 Q => ∃ c, x = .sh (.bl c) ∧ if c = true then Q (.sh (.bl true)) γ1 else g γ1 Q) h
  refine ⟨Z, S, T, γ, _, hl, W, h, ?_⟩
  rintro x γ1 ⟨c, rfl, h1⟩ l1 v H1 S1 ls1 W1
  have p := post _ γ1 ⟨c, rfl, h1⟩ l1 v H1 S1 ls1 W1
  refine ⟨c, bl_of W1.mid, ?_⟩
  cases c with
  | false => exact ⟨Z, S1, T, γ1, K, by omega, W1.mid.tail, by simpa using h1, p⟩
  | true =>
    simp only [if_true] at h1 ⊢
    exact p _ γ1 h1 rfl _ H1 S1 (Le.refl _) (W1.mid.tail.push (by unfold IsD; rfl)).unmid
theorem je_not (ha : JE X a f) : JE X (.UnaryOp .Not a pos) (oNotV f) := by
  refine PE.imp (pe_not ha) fun σ H Q h => ?_
  obtain ⟨Z, S, T, γ, K, hl, W, h, post⟩ := tE_seq (f := f) (c := fun x γ1 Q => ∃ c, x = .sh (.bl c) ∧ Q (.sh (.bl (!c))) γ1) h
  refine ⟨Z, S, T, γ, _, hl, W, h, ?_⟩
  rintro x γ1 ⟨c, rfl, h1⟩ l1 v H1 S1 ls1 W1
  have p := post _ γ1 ⟨c, rfl, h1⟩ l1 v H1 S1 ls1 W1
  exact ⟨c, bl_of W1.mid, p _ γ1 h1 rfl _ H1 S1 (Le.refl _) (W1.mid.tail.push (by unfold IsD; rfl)).unmid⟩
def oIf (t : OT) (f g : OE) : OE := fun γ Q => t γ fun b γ1 => if b = true then f γ1 Q else g γ1 Q
theorem je_ifExp {c : Expr} {t : OT} (hc : JT X c t) (ha : JE X a f) (hb : JE X b g) : JE X (.IfExp c a b pos) (oIf t f g) := by
  refine PE.imp (pe_ifExp hc ha hb) fun σ H Q h => ?_
  obtain ⟨Z, S, T, γ, K, hl, W, h, post⟩ := h
  refine ⟨Z, S, T, γ, _, hl, W, h, fun b γ1 h1 l1 H1 S1 ls1 W1 => ?_⟩
  cases b with
  | true => exact ⟨Z, S1, T, γ1, K, by omega, W1, by simpa using h1, fun o γ' k l v H' S' ls W' => post o γ' k (l.trans l1) v H' S' (ls1.trans ls) W'⟩
  | false => exact ⟨Z, S1, T, γ1, K, by omega, W1, by simpa using h1, fun o γ' k l v H' S' ls W' => post o γ' k (l.trans l1) v H' S' (ls1.trans ls) W'⟩
/-- what is looked at alone: it is as it was -/
def D.scalar : D → Bool
  | .lst _ => false
  | .tup _ => false
  | .dk _ => false
  | .dt _ => false
  | _ => true
theorem scalar_any {S S' : Hp} {d : D} {v : V} (h : d.scalar = true) (x : IsD S d v) : IsD S' d v := by
  cases d <;> first | (unfold IsD at *; exact x) | cases h
end
/-! ### a look -/
theorem World.grow {Z S H H' : Hp} {ps : List En} (W : World Z S H ps) (h : ∀ a u, H a = some u → H' a = some u) : World Z S H' ps := by
  obtain ⟨fp, x, n, k⟩ := W.own
  refine ⟨fun a u e => ?_, fun a u e => h a u (W.pin a u e), fp, OwnP.stay (Le.refl S) ps fp x fun a ha => ?_, n, k⟩
  · rcases W.sub a u e with q | ⟨m, o, q⟩
    · exact .inl (h a u q)
    · exact .inr ⟨m, o, h a _ q⟩
  · cases q : H a with
    | none => exact absurd q (OwnP.there ps fp x a ha)
    | some u => exact h a u q
def frzC : Option O → Option O
  | none => none
  | some o => if o.noIns = true then some (.sh o.er) else none
def frzE (e : En) : En := (e.1, frzC e.2)
theorem World.frzAll {Z H : Hp} : ∀ (es : List En) (S : Hp) (T : List En), World Z S H (es ++ T) → ∃ S', Le S S' ∧ World Z S' H (es.map frzE ++ T)
  | [], S, T, W => ⟨S, Le.refl S, W⟩
  | (v, none) :: es, S, T, W => by
    obtain ⟨S', l, W'⟩ := World.frzAll es S T W.tail
    exact ⟨S', l, W'.pad v⟩
  | (v, some o) :: es, S, T, W => by
    by_cases hn : o.noIns = true
    · obtain ⟨S1, l1, W1⟩ := World.share (ps := es ++ T) W hn
      obtain ⟨S', l, W'⟩ := World.frzAll es S1 ((v, some (.sh o.er)) :: T) W1.unmid
      refine ⟨S', l1.trans l, ?_⟩
      have e : frzE (v, some o) = (v, some (.sh o.er)) := by unfold frzE frzC; simp [hn]
      rw [List.map_cons, e]
      exact W'.mid
    · obtain ⟨S', l, W'⟩ := World.frzAll es S T W.tail
      have e : frzE (v, some o) = (v, none) := by unfold frzE frzC; simp [hn]
      rw [List.map_cons, e]
      exact ⟨S', l, W'.pad v⟩
theorem World.dropR {Z S H : Hp} : ∀ (T es : List En), World Z S H (es ++ T) → World Z S H es
  | [], es, W => by simpa using W
  | t :: T, es, W => World.dropR T es (World.mid W).tail
theorem own_frz {S H : Hp} : ∀ (es : List En) (fp : List Addr), OwnP S H (es.map frzE) fp → fp = []
  | [], fp, h => h
  | (v, none) :: es, fp, h => own_frz es fp h
  | (v, some o) :: es, fp, h => by
    by_cases hn : o.noIns = true
    · have e : frzE (v, some o) = (v, some (.sh o.er)) := by unfold frzE frzC; simp [hn]
      rw [List.map_cons, e] at h
      obtain ⟨u, f1, f2, e1, e2, e3, e4⟩ := h
      unfold Own at e2
      rw [e4, e2.2, own_frz es f2 e3]; rfl
    · have e : frzE (v, some o) = (v, none) := by unfold frzE frzC; simp [hn]
      rw [List.map_cons, e] at h
      exact own_frz es fp h
theorem zip_frz (σ : St) : ∀ (γ : Gm), (σ.zip γ).map frzE = σ.zip (γ.map frzC) := by
  induction σ with
  | nil => intro γ; rfl
  | cons v σ ih => intro γ; cases γ with
    | nil => rfl
    | cons c γ => simp [ih]; rfl
theorem World.look {Z S H : Hp} {σ : St} {γ : Gm} {T : List En} (W : World Z S H (σ.zip γ ++ T)) : ∃ S', Le S S' ∧ World H S' H (σ.zip (γ.map frzC) ++ []) := by
  obtain ⟨S', l, W'⟩ := World.frzAll (σ.zip γ) S T W
  have W2 := World.dropR T _ W'
  obtain ⟨fp, x, n, k⟩ := W2.own
  have e := own_frz _ fp x
  subst e
  rw [← zip_frz, List.append_nil]
  exact ⟨S', l, W2.sub, fun _ _ h => h, [], x, List.nodup_nil, fun a ha => by simp at ha⟩
section
variable {X : Cx} {e : Expr}
def oPeek (f : OE) : OE := fun γ Q => f (γ.map frzC) fun o _ => ∃ d, o = .sh d ∧ d.scalar = true ∧ Q (.sh d) γ
def oPeekT (f : OT) : OT := fun γ Q => f (γ.map frzC) fun b _ => Q b γ
theorem je_peek {f : OE} (h : JE X e f) : JE X e (oPeek f) := by
  refine PE.imp h fun σ H Q hw => ?_
  obtain ⟨Z, S, T, γ, K, hl, W, hf, post⟩ := hw
  obtain ⟨S', ls, W'⟩ := W.look
  refine ⟨H, S', [], γ.map frzC, _, by simpa using hl, W', hf, ?_⟩
  rintro o γ' ⟨d, rfl, sc, hk⟩ _ v H' S'' _ W''
  have hd := scalar_any (S' := S) sc W''.mid.isD
  have hg : ∀ a u, H a = some u → H' a = some u := fun a u q => W''.pin a u q
  exact post _ γ hk rfl v H' S (Le.refl S) ((W.grow hg).push hd).unmid
theorem jt_peek {f : OT} (h : JT X e f) : JT X e (oPeekT f) := by
  refine PT.imp h fun σ H Q hw => ?_
  obtain ⟨Z, S, T, γ, K, hl, W, hf, post⟩ := hw
  obtain ⟨S', ls, W'⟩ := W.look
  refine ⟨H, S', [], γ.map frzC, _, by simpa using hl, W', hf, ?_⟩
  rintro b γ' hk _ H' S'' _ W''
  have hg : ∀ a u, H a = some u → H' a = some u := fun a u q => W''.pin a u q
  exact post _ γ hk rfl H' S (Le.refl S) (W.grow hg)
end

/-! ### lists of entries -/
theorem ownP_ents {S H : Hp} {ps : List En} : ∀ (vs : List V) (os : List O) (fp : List Addr), vs.length = os.length → (OwnP S H (ents vs os ++ ps) fp ↔ ∃ f1 f2, OwnL S H os vs f1 ∧ OwnP S H ps f2 ∧ fp = f1 ++ f2)
  | [], [], fp, _ => by
    constructor
    · intro h; exact ⟨[], fp, by unfold OwnL; exact ⟨rfl, rfl⟩, h, rfl⟩
    · rintro ⟨f1, f2, h1, h2, e⟩; unfold OwnL at h1; rw [h1.2] at e; rw [e]; exact h2
  | v :: vs, o :: os, fp, hl => by
    have ih := ownP_ents (S := S) (H := H) (ps := ps) vs os
    constructor
    · rintro ⟨u, f1, f2, e1, e2, e3, e4⟩
      cases e1
      obtain ⟨g1, g2, h1, h2, h3⟩ := (ih f2 (by simpa using hl)).mp e3
      refine ⟨f1 ++ g1, g2, ?_, h2, by rw [e4, h3, List.append_assoc]⟩
      unfold OwnL
      exact ⟨v, vs, f1, g1, rfl, e2, h1, rfl⟩
    · rintro ⟨f1, f2, h1, h2, e⟩
      unfold OwnL at h1
      obtain ⟨v', r, g1, g2, e1, e2, e3, e4⟩ := h1
      cases e1
      exact ⟨v, g1, g2 ++ f2, rfl, e2, (ih _ (by simpa using hl)).mpr ⟨g2, f2, e3, h2, rfl⟩, by rw [e, e4, List.append_assoc]⟩
theorem OwnL.len {S H : Hp} : ∀ (os : List O) (vs : List V) (fp : List Addr), OwnL S H os vs fp → vs.length = os.length
  | [], vs, fp, h => by unfold OwnL at h; rw [h.1]; rfl
  | o :: os, vs, fp, h => by
    unfold OwnL at h; obtain ⟨v, r, f1, f2, e1, e2, e3, e4⟩ := h
    rw [e1, List.length_cons, List.length_cons, OwnL.len os r f2 e3]
/-- a new object of what stands at the front -/
theorem World.newBy {Z S H : Hp} {vs : List V} {os : List O} {ps : List En} {p : Addr} {u : HO} {o : O} (W : World Z S H (ents vs os ++ ps)) (hl : vs.length = os.length) (hp : H p = none)
    (ho : ∀ f, OwnL S (upd H p u) os vs f → Own S (upd H p u) o (.ref p) (p :: f)) : World Z S (upd H p u) ((some (.ref p), some o) :: ps) := by
  have W1 := W.lay (u := u) hp
  obtain ⟨fp, x, n, k⟩ := W.own
  have nz : Z p = none := by
    cases e : Z p with
    | none => rfl
    | some w => have := W.pin p w e; rw [hp] at this; cases this
  have np : ∀ a ∈ fp, a ≠ p := fun a ha e => OwnP.there _ fp x a ha (e ▸ hp)
  have x' := OwnP.stay (H' := upd H p u) (Le.refl S) _ fp x fun a ha => upd_ne (np a ha)
  obtain ⟨f1, f2, h1, h2, e⟩ := (ownP_ents vs os fp hl).mp x'
  subst e
  refine ⟨W1.sub, W1.pin, p :: (f1 ++ f2), ⟨.ref p, p :: f1, f2, rfl, ho f1 h1, h2, rfl⟩, List.nodup_cons.mpr ⟨fun q => np p q rfl, n⟩, fun a ha => ?_⟩
  rcases List.mem_cons.mp ha with rfl | ha
  · exact ⟨W.sub.none hp, nz⟩
  · exact k a ha
theorem World.newL {Z S H : Hp} {vs : List V} {os : List O} {ps : List En} {p : Addr} (W : World Z S H (ents vs os ++ ps)) (hl : vs.length = os.length) (hp : H p = none) :
    World Z S (upd H p (.lst vs)) ((some (.ref p), some (.lst os)) :: ps) := W.newBy hl hp fun f h => by
  unfold Own; exact ⟨p, vs, f, rfl, upd_same, h, rfl⟩
theorem World.newT {Z S H : Hp} {vs : List V} {os : List O} {ps : List En} {p : Addr} (W : World Z S H (ents vs os ++ ps)) (hl : vs.length = os.length) (hp : H p = none) :
    World Z S (upd H p (.tup vs)) ((some (.ref p), some (.tup os)) :: ps) := W.newBy hl hp fun f h => by
  unfold Own; exact ⟨p, vs, f, rfl, upd_same, h, rfl⟩
/-- a new list of shared things -/
theorem ownL_sh {S H : Hp} : ∀ {ds : List D} {vs : List V}, IsDs S ds vs → OwnL S H (ds.map O.sh) vs []
  | [], vs, h => by unfold IsDs at h; rw [List.map_nil]; unfold OwnL; exact ⟨h, rfl⟩
  | d :: ds, vs, h => by
    unfold IsDs at h; obtain ⟨v, r, e, h1, t⟩ := h
    rw [List.map_cons]; unfold OwnL
    exact ⟨v, r, [], [], e, by unfold Own; exact ⟨h1, rfl⟩, ownL_sh t, rfl⟩
theorem World.pushAll {Z S H : Hp} {ps : List En} (W : World Z S H ps) : ∀ {ds : List D} {vs : List V}, IsDs S ds vs → World Z S H (ents vs (ds.map O.sh) ++ ps)
  | [], vs, h => by unfold IsDs at h; subst h; exact W
  | d :: ds, vs, h => by
    unfold IsDs at h; obtain ⟨v, r, e, h1, t⟩ := h
    subst e
    exact (World.pushAll W t).push h1
theorem World.newLs {Z S H : Hp} {vs : List V} {ds : List D} {ps : List En} {p : Addr} (W : World Z S H ps) (h : IsDs S ds vs) (hp : H p = none) :
    World Z S (upd H p (.lst vs)) ((some (.ref p), some (.lst (ds.map O.sh))) :: ps) := (W.pushAll h).newL (by rw [List.length_map]; exact h.len) hp
theorem World.newTs {Z S H : Hp} {vs : List V} {ds : List D} {ps : List En} {p : Addr} (W : World Z S H ps) (h : IsDs S ds vs) (hp : H p = none) :
    World Z S (upd H p (.tup vs)) ((some (.ref p), some (.tup (ds.map O.sh))) :: ps) := (W.pushAll h).newT (by rw [List.length_map]; exact h.len) hp

/-! ### arguments, displays -/
section
variable {X : Cx} {e : Expr} {es : List Expr} {f : OE} {g : OA} {pos : Pos}
def oNil : OA := fun γ Q => Q [] γ
def oCons (f : OE) (g : OA) : OA := fun γ Q => f γ fun o γ1 => g γ1 fun os γ2 => Q (o :: os) γ2
theorem ja_nil : JA X [] oNil := by
  refine PA.imp pa_nil fun σ H Q h => ?_
  obtain ⟨Z, S, T, γ, K, hl, W, h, post⟩ := h
  exact post [] γ h rfl [] H S (Le.refl S) rfl W
theorem ja_cons (ha : JE X e f) (hr : JA X es g) (hs : starEach (e :: es) X.env = (false, eval e X.env) :: starEach es X.env := by rfl) : JA X (e :: es) (oCons f g) := by
  refine PA.imp (pa_cons ha hr hs) fun σ H Q h => ?_
  obtain ⟨Z, S, T, γ, K, hl, W, h, post⟩ := h
  refine ⟨Z, S, T, γ, _, hl, W, h, fun o γ1 h1 l1 v H1 S1 ls1 W1 => ?_⟩
  refine ⟨Z, S1, (some v, some o) :: T, γ1, _, by omega, W1, h1, fun os γ2 h2 l2 vs H2 S2 ls2 ll W2 => ?_⟩
  refine post (o :: os) γ2 h2 (l2.trans l1) (v :: vs) H2 S2 (ls1.trans ls2) (by simp [ll]) ?_
  refine W2.perm ?_
  rw [ents_cons, List.cons_append]
  exact List.Perm.append_left _ List.perm_middle
theorem small_line {n : Nat} (h : n ≤ 1000) : n ≤ sizeLine := by rw [sizeLine_eq]; omega
def oLst (f : OA) : OE := fun γ Q => f γ fun os γ1 => os.length ≤ 1000 ∧ Q (.lst os) γ1
def oTup (f : OA) : OE := fun γ Q => f γ fun os γ1 => os.length ≤ 1000 ∧ Q (.tup os) γ1
theorem World.mids {Z S H : Hp} {a b c : List En} (W : World Z S H (a ++ (b ++ c))) : World Z S H (b ++ (a ++ c)) := by
  refine W.perm ?_
  rw [← List.append_assoc, ← List.append_assoc]
  exact List.perm_append_comm.append_right c
theorem je_lst (h : JA X es g) : JE X (.List es pos) (oLst g) := by
  refine PE.imp (pe_lst h) fun σ H Q h => ?_
  obtain ⟨Z, S, T, γ, K, hl, W, h, post⟩ := h
  refine ⟨Z, S, T, γ, _, hl, W, h, fun os γ1 ⟨hz, k⟩ l1 vs H1 S1 ls1 ll W1 => ⟨by rw [ll]; exact small_line hz, fun p hp => ?_⟩⟩
  exact post _ γ1 k l1 _ _ S1 ls1 (W1.mids.newL ll hp).unmid
theorem je_tup {x1} (h : JA X es g) : JE X (.Tuple es x1 pos) (oTup g) := by
  refine PE.imp (pe_tup h) fun σ H Q h => ?_
  obtain ⟨Z, S, T, γ, K, hl, W, h, post⟩ := h
  refine ⟨Z, S, T, γ, _, hl, W, h, fun os γ1 ⟨hz, k⟩ l1 vs H1 S1 ls1 ll W1 => ⟨by rw [ll]; exact small_line hz, fun p hp => ?_⟩⟩
  exact post _ γ1 k l1 _ _ S1 ls1 (W1.mids.newT ll hp).unmid

/-! ### calls of what is built in -/
abbrev BA := List O → (O → Prop) → Prop
def Cal (r : List V → Hp → VK → Prop) (k : BA) : Prop := ∀ (Z S H : Hp) (vs : List V) (os : List O) (ps : List En) (Q : VK) (K : O → Prop), vs.length = os.length → World Z S H (ents vs os ++ ps) → k os K →
  (∀ o, K o → ∀ v H' S', Le S S' → World Z S' H' ((some v, some o) :: ps) → Q v H') → r vs H Q
def oCall (k : BA) (g : OA) : OE := fun γ Q => g γ fun os γ1 => k os fun o => Q o γ1
theorem tCB_of {r : List V → Hp → VK → Prop} {k : BA} (hk : Cal r k) {σ : St} {H : Hp} {Q : VK} (h : tE (oCall k g) σ H Q) : tCB r (tA g) σ H Q := by
  obtain ⟨Z, S, T, γ, K, hl, W, h, post⟩ := h
  refine ⟨Z, S, T, γ, _, hl, W, h, fun os γ1 k1 l1 vs H1 S1 ls1 ll W1 => ?_⟩
  exact hk Z S1 H1 vs os _ Q _ ll W1.mids k1 fun o ko v H' S' ls W' => post o γ1 ko l1 v H' S' (ls1.trans ls) W'.unmid
theorem je_callB {x : Str} {id : String} {p : Pos} {r : List V → Hp → VK → Prop} {k : BA} (hc : CallR X (.builtin id) r) (hk : Cal r k) (hg : Gl X x) (hm : X.mg x = none) (hv : bootBuiltins x = some (.builtin id)) (ha : JA X (e :: es) g)
    (hn : x ≠ "__name__" := by decide) (hdb : (x == ("__debug__" : Str)) = false := by decide) (he : starEach (e :: es) X.env = (false, eval e X.env) :: starEach es X.env := by rfl) (hpl : (backTo pos (starEach es X.env)).any (·.1) = false := by rfl) :
    JE X (.Call (.Name x p) (e :: es) [] pos) (oCall k g) := PE.imp (pe_callB hc hg hm hv ha hn hdb he hpl) fun _ _ _ h => tCB_of hk h
theorem je_callTy {x : Str} {T : String} {p : Pos} {r : List V → Hp → VK → Prop} {k : BA} (hc : CallR X (.type T) r) (hk : Cal r k) (hg : Gl X x) (hm : X.mg x = none) (hv : bootBuiltins x = some (.type T)) (ha : JA X (e :: es) g)
    (hn : x ≠ "__name__" := by decide) (hdb : (x == ("__debug__" : Str)) = false := by decide) (he : starEach (e :: es) X.env = (false, eval e X.env) :: starEach es X.env := by rfl) (hpl : (backTo pos (starEach es X.env)).any (·.1) = false := by rfl) :
    JE X (.Call (.Name x p) (e :: es) [] pos) (oCall k g) := PE.imp (pe_callTy hc hg hm hv ha hn hdb he hpl) fun _ _ _ h => tCB_of hk h
end
/-- a call with one argument that is looked through -/
theorem ents1 {vs : List V} {o : O} (h : vs.length = [o].length) : ∃ v, vs = [v] := by
  cases vs with
  | nil => simp at h
  | cons v vs => cases vs with
    | nil => exact ⟨v, rfl⟩
    | cons w ws => simp at h
def kLen : BA := fun os K => ∃ o n, os = [o] ∧ o.noIns = true ∧ lenD o.er = some n ∧ K (.sh (.int (n : Nat)))
theorem cal_len {K0 : PySem.W.Frag} : Cal (fun xs H Q => ∃ x n, xs = [x] ∧ LenV K0 x H n ∧ Q (.int (n : Nat)) H) kLen := by
  rintro Z S H vs os ps Q K ll W ⟨o, n, rfl, ni, hn, hk⟩ post
  obtain ⟨v, rfl⟩ := ents1 ll
  obtain ⟨S', ls, W', hv⟩ := one_er W ni
  have fin : Q (.int (n : Nat)) H := post _ hk _ H S' ls (W'.push (by unfold IsD; rfl))
  refine ⟨v, n, rfl, ?_, fin⟩
  have sb := W'.sub
  generalize o.er = d at *
  cases d <;> simp [lenD] at hn
  · subst hn; unfold IsD at hv; obtain ⟨a, ws, rfl, ha, hl⟩ := hv
    exact .inl ⟨ws, .inl (.inl (sb.lst ha)), hl.len.symm⟩
  · subst hn; unfold IsD at hv; obtain ⟨a, ws, rfl, ha, hl⟩ := hv
    exact .inr ⟨ws, .inl (.inl (sb.tup ha)), hl.len.symm⟩
/-- of a list of ints -/
def intsD : D → Option (List Int)
  | .lst l => l.mapM fun d => match d with | .int i => some i | _ => none
  | _ => none
def kInts (P : List Int → Prop) (r : List Int → O) : BA := fun os K => ∃ o ns, os = [o] ∧ o.noIns = true ∧ o.er = .lst (ns.map D.int) ∧ P ns ∧ K (r ns)
theorem ints_at {Z S H : Hp} {v : V} {o : O} {ns : List Int} {ps : List En} (W : World Z S H ((some v, some o) :: ps)) (ni : o.noIns = true) (he : o.er = .lst (ns.map D.int)) :
    ∃ S' a, Le S S' ∧ World Z S' H ps ∧ v = .ref a ∧ H a = some (.lst (ns.map V.int)) := by
  obtain ⟨S', ls, W', hv⟩ := one_er W ni
  rw [he] at hv; unfold IsD at hv
  obtain ⟨a, vs, e, ha, hl⟩ := hv
  rw [hl.ints] at ha
  exact ⟨S', a, ls, W', e, W'.sub.lst ha⟩
theorem cal_sum {K0 : PySem.W.Frag} : Cal (rSum K0) (kInts (fun _ => True) fun ns => .sh (.int ns.sum)) := by
  rintro Z S H vs os ps Q K ll W ⟨o, ns, rfl, ni, he, _, hk⟩ post
  obtain ⟨v, rfl⟩ := ents1 ll
  obtain ⟨S', a, ls, W', rfl, ha⟩ := ints_at W ni he
  exact ⟨a, ns, rfl, .inl (.inl ha), post _ hk _ H S' ls (W'.push (by unfold IsD; rfl))⟩
def srtI (ns : List Int) : List Int := ns.mergeSort (fun a b => decide (a ≤ b))
theorem srtI_perm (ns : List Int) : (srtI ns).Perm ns := List.mergeSort_perm _ _
theorem srtI_sorted (ns : List Int) : (srtI ns).Pairwise (· ≤ ·) := by
  have h := List.pairwise_mergeSort (le := fun a b : Int => decide (a ≤ b)) (fun a b c h1 h2 => by simp at *; omega) (fun a b => by simp; omega) ns
  exact h.imp fun h => by simpa using h
theorem srtI_uniq {ns ms : List Int} (p : ms.Perm ns) (s : ms.Pairwise (· ≤ ·)) : ms = srtI ns :=
  List.Perm.eq_of_pairwise (le := (· ≤ ·)) (fun a b _ _ h1 h2 => by omega) s (srtI_sorted ns) (p.trans (srtI_perm ns).symm)
theorem cal_sorted {K0 : PySem.W.Frag} : Cal (rSorted K0) (kInts (fun ns => ns.length < 64) fun ns => .lst ((srtI ns).map fun i => .sh (.int i))) := by
  rintro Z S H vs os ps Q K ll W ⟨o, ns, rfl, ni, he, h64, hk⟩ post
  obtain ⟨v, rfl⟩ := ents1 ll
  obtain ⟨S', a, ls, W', rfl, ha⟩ := ints_at W ni he
  refine ⟨a, ns, rfl, .inl (.inl ha), h64, fun ns' p hp hs hn => ?_⟩
  have e := srtI_uniq hp hs
  subst e
  have W2 := W'.newLs (isDs_ints (S := S') (srtI ns)) hn
  rw [List.map_map] at W2
  exact post _ hk _ _ S' ls W2
def kMin : BA := kInts (fun ns => ns ≠ []) fun ns => .sh (.int (ns.foldl min (ns.headD 0)))
theorem fold_min : ∀ (l : List Int) (a : Int), (l.foldl min a ∈ a :: l) ∧ ∀ y ∈ a :: l, l.foldl min a ≤ y
  | [], a => by simp
  | b :: l, a => by
    obtain ⟨h1, h2⟩ := fold_min l (min a b)
    rw [List.foldl_cons]
    refine ⟨?_, fun y hy => ?_⟩
    · rcases List.mem_cons.mp h1 with h | h
      · rw [h]; rcases Int.le_total a b with q | q
        · rw [Int.min_eq_left q]; simp
        · rw [Int.min_eq_right q]; simp
      · simp [h]
    · have hm := h2 (min a b) (by simp)
      rcases List.mem_cons.mp hy with h | hy
      · subst h; exact Int.le_trans hm (Int.min_le_left _ _)
      · rcases List.mem_cons.mp hy with h | hy
        · subst h; exact Int.le_trans hm (Int.min_le_right _ _)
        · exact h2 y (by simp [hy])
theorem cal_min {K0 : PySem.W.Frag} : Cal (rMin K0) kMin := by
  rintro Z S H vs os ps Q K ll W ⟨o, ns, rfl, ni, he, hne, hk⟩ post
  obtain ⟨v, rfl⟩ := ents1 ll
  obtain ⟨S', a, ls, W', rfl, ha⟩ := ints_at W ni he
  refine ⟨a, ns, rfl, .inl (.inl ha), List.length_pos_iff.mpr hne, fun m hm1 hm2 => ?_⟩
  have e : ns.foldl min (ns.headD 0) = m := by
    cases ns with
    | nil => exact absurd rfl hne
    | cons b l =>
      obtain ⟨h1, h2⟩ := fold_min (b :: l) b
      have q1 := hm2 _ (show (b :: l).foldl min b ∈ b :: l by simpa using h1)
      have q2 := h2 m (List.mem_cons_of_mem _ hm1)
      show (b :: l).foldl min b = m
      omega
  have hk : K (.sh (.int (ns.foldl min (ns.headD 0)))) := hk
  rw [e] at hk
  exact post _ hk _ H S' ls (W'.push (by unfold IsD; rfl))
def kMax : BA := kInts (fun ns => ns ≠ []) fun ns => .sh (.int (ns.foldl max (ns.headD 0)))
theorem fold_max : ∀ (l : List Int) (a : Int), (l.foldl max a ∈ a :: l) ∧ ∀ y ∈ a :: l, y ≤ l.foldl max a
  | [], a => by simp
  | b :: l, a => by
    obtain ⟨h1, h2⟩ := fold_max l (max a b)
    rw [List.foldl_cons]
    refine ⟨?_, fun y hy => ?_⟩
    · rcases List.mem_cons.mp h1 with h | h
      · rw [h]; rcases Int.le_total a b with q | q
        · rw [Int.max_eq_right q]; simp
        · rw [Int.max_eq_left q]; simp
      · simp [h]
    · have hm := h2 (max a b) (by simp)
      rcases List.mem_cons.mp hy with h | hy
      · subst h; exact Int.le_trans (Int.le_max_left _ _) hm
      · rcases List.mem_cons.mp hy with h | hy
        · subst h; exact Int.le_trans (Int.le_max_right _ _) hm
        · exact h2 y (by simp [hy])
theorem cal_max {K0 : PySem.W.Frag} : Cal (rMax K0) kMax := by
  rintro Z S H vs os ps Q K ll W ⟨o, ns, rfl, ni, he, hne, hk⟩ post
  obtain ⟨v, rfl⟩ := ents1 ll
  obtain ⟨S', a, ls, W', rfl, ha⟩ := ints_at W ni he
  refine ⟨a, ns, rfl, .inl (.inl ha), List.length_pos_iff.mpr hne, fun m hm1 hm2 => ?_⟩
  have e : ns.foldl max (ns.headD 0) = m := by
    cases ns with
    | nil => exact absurd rfl hne
    | cons b l =>
      obtain ⟨h1, h2⟩ := fold_max (b :: l) b
      have q1 := hm2 _ (show (b :: l).foldl max b ∈ b :: l by simpa using h1)
      have q2 := h2 m (List.mem_cons_of_mem _ hm1)
      show (b :: l).foldl max b = m
      omega
  have hk : K (.sh (.int (ns.foldl max (ns.headD 0)))) := hk
  rw [e] at hk
  exact post _ hk _ H S' ls (W'.push (by unfold IsD; rfl))
/-- of a list of bools -/
def kBls (r : List Bool → O) : BA := fun os K => ∃ o bs, os = [o] ∧ o.noIns = true ∧ o.er = .lst (bs.map D.bl) ∧ K (r bs)
theorem bls_at {Z S H : Hp} {v : V} {o : O} {ns : List Bool} {ps : List En} (W : World Z S H ((some v, some o) :: ps)) (ni : o.noIns = true) (he : o.er = .lst (ns.map D.bl)) :
    ∃ S' a, Le S S' ∧ World Z S' H ps ∧ v = .ref a ∧ H a = some (.lst (ns.map V.bl)) := by
  obtain ⟨S', ls, W', hv⟩ := one_er W ni
  rw [he] at hv; unfold IsD at hv
  obtain ⟨a, vs, e, ha, hl⟩ := hv
  rw [hl.bls] at ha
  exact ⟨S', a, ls, W', e, W'.sub.lst ha⟩
theorem cal_all {K0 : PySem.W.Frag} : Cal (rAll K0) (kBls fun bs => .sh (.bl (bs.all id))) := by
  rintro Z S H vs os ps Q K ll W ⟨o, ns, rfl, ni, he, hk⟩ post
  obtain ⟨v, rfl⟩ := ents1 ll
  obtain ⟨S', a, ls, W', rfl, ha⟩ := bls_at W ni he
  exact ⟨a, ns, rfl, .inl (.inl ha), post _ hk _ H S' ls (W'.push (by unfold IsD; rfl))⟩
theorem cal_any {K0 : PySem.W.Frag} : Cal (rAny K0) (kBls fun bs => .sh (.bl (bs.any id))) := by
  rintro Z S H vs os ps Q K ll W ⟨o, ns, rfl, ni, he, hk⟩ post
  obtain ⟨v, rfl⟩ := ents1 ll
  obtain ⟨S', a, ls, W', rfl, ha⟩ := bls_at W ni he
  exact ⟨a, ns, rfl, .inl (.inl ha), post _ hk _ H S' ls (W'.push (by unfold IsD; rfl))⟩
/-- int(i) -/
def kInt : BA := fun os K => ∃ i, os = [.sh (.int i)] ∧ K (.sh (.int i))
theorem cal_int : Cal (fun xs H Q => (∃ i, xs = [.int i] ∧ Q (.int i) H) ∨ ∃ k, xs = [.bl k] ∧ Q (.int (if k then 1 else 0)) H) kInt := by
  rintro Z S H vs os ps Q K ll W ⟨i, rfl, hk⟩ post
  obtain ⟨v, rfl⟩ := ents1 ll
  have h := World.isD W
  unfold IsD at h
  subst h
  exact .inl ⟨i, rfl, post _ hk _ H S (Le.refl S) W⟩
/-- list(xs), tuple(xs) -/
def seqD : D → Option (List D)
  | .lst l => some l
  | .tup l => some l
  | _ => none
def kList : BA := fun os K => ∃ o l, os = [o] ∧ o.noIns = true ∧ seqD o.er = some l ∧ K (.lst (l.map O.sh))
theorem seq_at {K0 : PySem.W.Frag} {S H : Hp} {v : V} {d : D} {l : List D} (sb : Sub S H) (hv : IsD S d v) (he : seqD d = some l) : ∃ a vs, v = .ref a ∧ (SqL K0 H a vs ∨ SqT K0 H a vs) ∧ IsDs S l vs := by
  cases d <;> simp [seqD] at he
  · subst he; unfold IsD at hv; obtain ⟨a, vs, e, ha, hl⟩ := hv; exact ⟨a, vs, e, .inl (.inl (.inl (sb.lst ha))), hl⟩
  · subst he; unfold IsD at hv; obtain ⟨a, vs, e, ha, hl⟩ := hv; exact ⟨a, vs, e, .inr (.inl (.inl (sb.tup ha))), hl⟩
theorem cal_list {K0 : PySem.W.Frag} : Cal (fun xs H Q => ∃ p ys, xs = [.ref p] ∧ (SqL K0 H p ys ∨ SqT K0 H p ys) ∧ ∀ l, H l = none → Q (.ref l) (upd H l (.lst ys))) kList := by
  rintro Z S H vs os ps Q K ll W ⟨o, l, rfl, ni, he, hk⟩ post
  obtain ⟨v, rfl⟩ := ents1 ll
  obtain ⟨S', ls, W', hv⟩ := one_er W ni
  obtain ⟨a, ws, rfl, hs, hl⟩ := seq_at (K0 := K0) W'.sub hv he
  exact ⟨a, ws, rfl, hs, fun p hp => post _ hk _ _ S' ls (W'.newLs hl hp)⟩
def kTuple : BA := fun os K => ∃ o l, os = [o] ∧ o.noIns = true ∧ o.er = .lst l ∧ K (.tup (l.map O.sh))
theorem cal_tuple {K0 : PySem.W.Frag} : Cal (fun xs H Q => ∃ p ys, xs = [.ref p] ∧ ((SqL K0 H p ys ∧ ∀ l, H l = none → Q (.ref l) (upd H l (.tup ys))) ∨ (SqT K0 H p ys ∧ Q (.ref p) H))) kTuple := by
  rintro Z S H vs os ps Q K ll W ⟨o, l, rfl, ni, he, hk⟩ post
  obtain ⟨v, rfl⟩ := ents1 ll
  obtain ⟨S', ls, W', hv⟩ := one_er W ni
  rw [he] at hv; unfold IsD at hv
  obtain ⟨a, ws, rfl, ha, hl⟩ := hv
  exact ⟨a, ws, rfl, .inl ⟨.inl (.inl (W'.sub.lst ha)), fun p hp => post _ hk _ _ S' ls (W'.newTs hl hp)⟩⟩
/-- min(i, j), max(i, j) -/
theorem ents2 {vs : List V} {o u : O} (h : vs.length = [o, u].length) : ∃ v w, vs = [v, w] := by
  cases vs with
  | nil => simp at h
  | cons v vs => obtain ⟨w, e⟩ := ents1 (vs := vs) (o := u) (by simpa using h); subst e; exact ⟨v, w, rfl⟩
def kMin2 : BA := fun os K => ∃ i j, os = [.sh (.int i), .sh (.int j)] ∧ K (.sh (.int (min i j)))
theorem cal_min2 : Cal (fun xs H Q => ∃ i j, xs = [.int i, .int j] ∧ Q (.int (if j < i then j else i)) H) kMin2 := by
  rintro Z S H vs os ps Q K ll W ⟨i, j, rfl, hk⟩ post
  obtain ⟨v, w, rfl⟩ := ents2 ll
  have h1 := World.isD W
  have h2 := World.isD (World.tail W)
  unfold IsD at h1 h2
  subst h1 h2
  refine ⟨i, j, rfl, ?_⟩
  have e : (if j < i then j else i) = min i j := by rw [Int.min_def]; split <;> split <;> omega
  rw [e]
  exact post _ hk _ H S (Le.refl S) ((World.tail (World.tail W)).push (by unfold IsD; rfl))
/-- a list and a list -/
def kCat : B2 := fun x y K => x.noIns = true ∧ y.noIns = true ∧ ∃ l m, x.er = .lst l ∧ y.er = .lst m ∧ l.length + m.length ≤ 1000000 ∧ K (.lst ((l ++ m).map O.sh))
theorem bin_cat : Bin rCat kCat := by
  rintro Z S H x y ox oy ps Q K W ⟨nx, ny, l, m, ex, ey, hz, hk⟩ post
  obtain ⟨S', ls, W', hx, hy⟩ := two_er' W nx ny
  rw [ex] at hx; rw [ey] at hy
  unfold IsD at hx hy
  obtain ⟨a, vs, rfl, ha, hl⟩ := hx
  obtain ⟨b, ws, rfl, hb, hm⟩ := hy
  exact ⟨a, b, vs, ws, rfl, rfl, W'.sub.lst ha, W'.sub.lst hb, by rw [hl.len, hm.len, sizeLine_eq]; omega, fun p hp => post _ hk _ _ S' ls (W'.newLs (hl.append hm) hp)⟩
end FN
end
section
namespace FN
open PySem PySem.Spec L2
open PyProof.Rows hiding St

/-! ### statements -/
section
variable {J : List Nat} {X : Cx} {st : Stmt} {rest : List Stmt} {f g : VS} {e : Expr} {h : OE} {pos : Pos}
/-- what is to be shown behind a statement, the heap's side -/
structure Post (J : List Nat) (Z S : Hp) (σ : St) (γ : Gm) (T : List En) (K : VE) (D : Ends) : Prop where
  nx : ∀ γ', K.nx γ' → ∀ σ' H' S', γ'.length = γ.length → σ'.length = γ'.length → Fix J σ σ' → Le S S' → World Z S' H' (σ'.zip γ' ++ T) → D.nx σ' H'
  rt : ∀ o γ', K.rt o γ' → ∀ v σ' H' S', γ'.length = γ.length → σ'.length = γ'.length → Fix J σ σ' → Le S S' → World Z S' H' (σ'.zip γ' ++ (some v, some o) :: T) → D.rt v H'
  bk : ∀ γ', K.bk γ' → ∀ σ' H' S', γ'.length = γ.length → σ'.length = γ'.length → Fix J σ σ' → Le S S' → World Z S' H' (σ'.zip γ' ++ T) → D.bk σ' H'
  ct : ∀ γ', K.ct γ' → ∀ σ' H' S', γ'.length = γ.length → σ'.length = γ'.length → Fix J σ σ' → Le S S' → World Z S' H' (σ'.zip γ' ++ T) → D.ct σ' H'
theorem tS_of {f : VS} {D : Ends} {σ : St} {H : Hp} {Z S : Hp} {T : List En} {γ : Gm} {K : VE} (hl : σ.length = γ.length) (W : World Z S H (σ.zip γ ++ T)) (hf : f K γ) (P : Post J Z S σ γ T K D) : tS J f D σ H :=
  ⟨Z, S, T, γ, K, hl, W, hf, P.nx, P.rt, P.bk, P.ct⟩
theorem of_tS {f : VS} {D : Ends} {σ : St} {H : Hp} (h : tS J f D σ H) : ∃ (Z S : Hp) (T : List En) (γ : Gm) (K : VE), σ.length = γ.length ∧ World Z S H (σ.zip γ ++ T) ∧ f K γ ∧ Post J Z S σ γ T K D := by
  obtain ⟨Z, S, T, γ, K, hl, W, hf, p1, p2, p3, p4⟩ := h
  exact ⟨Z, S, T, γ, K, hl, W, hf, p1, p2, p3, p4⟩
/-- further on -/
theorem Post.on {Z S S1 : Hp} {σ σ1 : St} {γ γ1 : Gm} {T : List En} {K : VE} {D : Ends} (P : Post J Z S σ γ T K D) (l : γ1.length = γ.length) (fx : Fix J σ σ1) (ls : Le S S1) : Post J Z S1 σ1 γ1 T K D where
  nx := fun γ' k σ' H' S' l1 l2 f' s' W' => P.nx γ' k σ' H' S' (l1.trans l) l2 (fx.trans f') (ls.trans s') W'
  rt := fun o γ' k v σ' H' S' l1 l2 f' s' W' => P.rt o γ' k v σ' H' S' (l1.trans l) l2 (fx.trans f') (ls.trans s') W'
  bk := fun γ' k σ' H' S' l1 l2 f' s' W' => P.bk γ' k σ' H' S' (l1.trans l) l2 (fx.trans f') (ls.trans s') W'
  ct := fun γ' k σ' H' S' l1 l2 f' s' W' => P.ct γ' k σ' H' S' (l1.trans l) l2 (fx.trans f') (ls.trans s') W'
def vNil : VS := fun E γ => E.nx γ
def vSeq (f g : VS) : VS := fun E γ => f { E with nx := fun γ' => g E γ' } γ
def vEx (f : OE) : VS := fun E γ => f γ fun _ γ1 => E.nx γ1
def vRet (f : OE) : VS := fun E γ => f γ E.rt
def vRetN : VS := fun E γ => E.rt (.sh .non) γ
def vIf (t : OT) (f g : VS) : VS := fun E γ => t γ fun b γ1 => if b = true then f E γ1 else g E γ1
theorem jb_nil : JB J X [] vNil := by
  refine PSs.imp pss_nil fun D σ H h => ?_
  obtain ⟨Z, S, T, γ, K, hl, W, hf, P⟩ := of_tS h
  exact P.nx γ hf σ H S rfl hl (Fix.refl J σ) (Le.refl S) W
theorem jb_cons (h1 : JS J X st f) (h2 : JB J X rest g) : JB J X (st :: rest) (vSeq f g) := by
  refine PSs.imp (pss_cons h1 h2) fun D σ H h => ?_
  obtain ⟨Z, S, T, γ, K, hl, W, hf, P⟩ := of_tS h
  refine tS_of hl W hf ⟨?_, P.rt, P.bk, P.ct⟩
  intro γ' hg σ' H' S' l1 l2 fx ls W'
  exact tS_of l2 W' hg (P.on l1 fx ls)
theorem jb_one (h1 : JS J X st f) : JB J X [st] f := pss_one h1
theorem js_expr (he : JE X e h) (hs : swapsWith e none pos.line X.env = pure false := by rfl) : JS J X (.Expr e pos) (vEx h) := by
  refine PS.imp (ps_expr he hs) fun D σ H hh => ?_
  obtain ⟨Z, S, T, γ, K, hl, W, hf, P⟩ := of_tS hh
  exact ⟨Z, S, T, γ, _, hl, W, hf, fun o γ' k l v H' S' ls W' => P.nx γ' k σ H' S' l (hl.trans l.symm) (Fix.refl J σ) ls W'.mid.tail⟩
theorem js_ret (he : JE X e h) : JS J X (.Return (some e) pos) (vRet h) := by
  refine PS.imp (ps_ret he) fun D σ H hh => ?_
  obtain ⟨Z, S, T, γ, K, hl, W, hf, P⟩ := of_tS hh
  exact ⟨Z, S, T, γ, _, hl, W, hf, fun o γ' k l v H' S' ls W' => P.rt o γ' k v σ H' S' l (hl.trans l.symm) (Fix.refl J σ) ls W'⟩
theorem js_retN : JS J X (.Return none pos) vRetN := by
  refine PS.imp ps_retN fun D σ H hh => ?_
  obtain ⟨Z, S, T, γ, K, hl, W, hf, P⟩ := of_tS hh
  exact P.rt _ γ hf _ σ H S rfl hl (Fix.refl J σ) (Le.refl S) (W.push (by unfold IsD; rfl)).unmid
theorem js_if {c : Expr} {a b : List Stmt} {t : OT} {f g : VS} (hc : JT X c t) (ha : JB J X a f) (hb : JB J X b g) : JS J X (.If c a b pos) (vIf t f g) := by
  refine PS.imp (ps_if hc ha hb) fun D σ H hh => ?_
  obtain ⟨Z, S, T, γ, K, hl, W, hf, P⟩ := of_tS hh
  refine ⟨Z, S, T, γ, _, hl, W, hf, fun b γ1 k l H' S' ls W' => ?_⟩
  cases b with
  | true => simp only [if_true] at k ⊢; exact tS_of (by omega) W' k (P.on l (Fix.refl J σ) ls)
  | false => simp only [Bool.false_eq_true, if_false] at k ⊢; exact tS_of (by omega) W' k (P.on l (Fix.refl J σ) ls)
/-- never come to -/
def vNever : VS := fun _ _ => False
theorem js_never : JS J X st vNever := PS.imp ps_never fun D σ H hh => by
  obtain ⟨Z, S, T, γ, K, hl, W, hf, P⟩ := of_tS hh
  exact hf.elim
end

/-! ### targets -/
abbrev AG := O → Gm → (Gm → Prop) → Prop
def Only (ws : List Nat) (σ σ' : St) : Prop := σ'.length = σ.length ∧ ∀ j, j ∉ ws → σ'[j]? = σ[j]?
def tG (ws : List Nat) (ag : AG) : TG := fun v σ H Q => ∃ (Z S : Hp) (T : List En) (γ : Gm) (o : O) (K : Gm → Prop), σ.length = γ.length ∧ World Z S H (σ.zip γ ++ (some v, some o) :: T) ∧ ag o γ K ∧
  ∀ γ', K γ' → ∀ σ' H' S', γ'.length = γ.length → Only ws σ σ' → Le S S' → World Z S' H' (σ'.zip γ' ++ T) → Q σ' H'
abbrev JG (ws : List Nat) (X : Cx) (e : Expr) (ag : AG) : Prop := PG X e (tG ws ag)
theorem PG.imp {X : Cx} {e : Expr} {t u : TG} (h : PG X e t) (k : ∀ v σ H Q, u v σ H Q → t v σ H Q) : PG X e u := ⟨fun pins s σ H v w Q I r hw => h.run pins s σ H v w Q I r (k _ _ _ _ hw)⟩
theorem PGs.imp {X : Cx} {e : List Expr} {t u : TGs} (h : PGs X e t) (k : ∀ v σ H Q, u v σ H Q → t v σ H Q) : PGs X e u := ⟨fun pins s σ H v w Q I r hw => h.run pins s σ H v w Q I r (k _ _ _ _ hw)⟩
theorem Only.refl (ws : List Nat) (σ : St) : Only ws σ σ := ⟨rfl, fun _ _ => rfl⟩
theorem Only.set {ws : List Nat} {σ : St} {i : Nat} {v : Option V} (h : i ∈ ws) : Only ws σ (σ.set i v) := ⟨by simp, fun j hj => List.getElem?_set_ne (show i ≠ j from fun e => hj (e ▸ h))⟩
theorem Only.trans {ws : List Nat} {σ σ1 σ2 : St} (a : Only ws σ σ1) (b : Only ws σ1 σ2) : Only ws σ σ2 := ⟨b.1.trans a.1, fun j h => (b.2 j h).trans (a.2 j h)⟩
theorem Only.more {ws us : List Nat} {σ σ1 : St} (a : Only ws σ σ1) (h : ∀ i ∈ ws, i ∈ us) : Only us σ σ1 := ⟨a.1, fun j hj => a.2 j fun q => hj (h j q)⟩
theorem Only.fix {ws J : List Nat} {σ σ1 : St} (a : Only ws σ σ1) (h : ∀ i ∈ ws, i ∉ J) : Fix J σ σ1 := fun j hj => a.2 j fun q => h j q hj
def aName (i : Nat) : AG := fun o γ Q => i < γ.length ∧ Q (γ.set i (some o))
section
variable {X : Cx} {pos : Pos}
theorem jg_name {i : Nat} {x : Str} (hN : X.N.Nodup) (hi : X.N[i]? = some x) (hx : Loc X.env.scope x) (hf : X.fn x = true ∨ X.env.scope.names.lookup x = some .local := by first | exact .inl rfl | exact .inr rfl | assumption) : JG [i] X (.Name x pos) (aName i) := by
  refine PG.imp (pg_name hN hi hx hf) fun v σ H Q hh => ?_
  obtain ⟨Z, S, T, γ, o, K, hl, W, ⟨hi, hk⟩, post⟩ := hh
  exact post _ hk _ H S (by simp) (Only.set (by simp)) (Le.refl S) (W.store hl hi)
/-- several names -/
def aNames : List Nat → List O → Gm → (Gm → Prop) → Prop
  | [], [], γ, Q => Q γ
  | i :: is, o :: os, γ, Q => i < γ.length ∧ aNames is os (γ.set i (some o)) Q
  | _, _, _, _ => False
def tGs (ws : List Nat) (is : List Nat) : TGs := fun vs σ H Q => ∃ (Z S : Hp) (T : List En) (γ : Gm) (os : List O) (K : Gm → Prop), σ.length = γ.length ∧ vs.length = os.length ∧ World Z S H (σ.zip γ ++ (ents vs os ++ T)) ∧ aNames is os γ K ∧
  ∀ γ', K γ' → ∀ σ' H' S', γ'.length = γ.length → Only ws σ σ' → Le S S' → World Z S' H' (σ'.zip γ' ++ T) → Q σ' H'
abbrev JGs (ws : List Nat) (X : Cx) (es : List Expr) (is : List Nat) : Prop := PGs X es (tGs ws is)
theorem jgs_nil {ws : List Nat} : JGs ws X [] [] := by
  refine PGs.imp pgs_nil fun vs σ H Q hh => ?_
  obtain ⟨Z, S, T, γ, os, K, hl, ll, W, hk, post⟩ := hh
  cases os with
  | nil =>
    have e : vs = [] := by cases vs with
      | nil => rfl
      | cons a b => simp at ll
    subst e
    exact ⟨rfl, post γ hk σ H S rfl (Only.refl ws σ) (Le.refl S) W⟩
  | cons o os => exact hk.elim
theorem jgs_cons {ws : List Nat} {i : Nat} {is : List Nat} {x : Str} {es : List Expr} {p : Pos} (hN : X.N.Nodup) (hi : X.N[i]? = some x) (hx : Loc X.env.scope x) (hw : i ∈ ws) (hr : JGs ws X es is)
    (hf : X.fn x = true ∨ X.env.scope.names.lookup x = some .local := by first | exact .inl rfl | exact .inr rfl | assumption)
    (hs : (assignEach (.Name x p :: es) X.env).map (·.2) = assign (.Name x p) X.env :: (assignEach es X.env).map (·.2) := by rfl) : JGs ws X (.Name x p :: es) (i :: is) := by
  refine PGs.imp (pgs_cons (pg_name hN hi hx hf) hr hs) fun vs σ H Q hh => ?_
  obtain ⟨Z, S, T, γ, os, K, hl, ll, W, hk, post⟩ := hh
  cases os with
  | nil => exact hk.elim
  | cons o os =>
    cases vs with
    | nil => simp at ll
    | cons v vs =>
      obtain ⟨h1, h2⟩ := hk
      rw [ents_cons] at W
      have W1 := W.store hl h1
      refine ⟨v, vs, rfl, ⟨Z, S, T, γ.set i (some o), os, K, by simp [hl], by simpa using ll, W1, h2, fun γ' k σ' H' S' l' on ls W' => post γ' k σ' H' S' (by simpa using l') ((Only.set hw).trans on) ls W'⟩⟩
/-- the parts of a tuple -/
def O.parts : O → Option (List O)
  | .tup os => some os
  | .sh (.tup ds) => some (ds.map O.sh)
  | .lst os => some os
  | .sh (.lst ds) => some (ds.map O.sh)
  | _ => none
theorem World.split1 {Z S H : Hp} {v : V} {o : O} {os : List O} {ps : List En} {a : Addr} {vs : List V} {u : HO} (W : World Z S H ((some v, some o) :: ps)) (ho : ∀ f, Own S H o v f → ∃ g, f = a :: g ∧ OwnL S H os vs g) (ll : vs.length = os.length) : World Z S H (ents vs os ++ ps) := by
  obtain ⟨fp, ⟨u, f1, f2, e1, e2, e3, e4⟩, n, k⟩ := W.own
  cases e1
  obtain ⟨f, h4, h3⟩ := ho _ e2
  subst h4 e4
  refine ⟨W.sub, W.pin, f ++ f2, (ownP_ents vs os _ ll).mpr ⟨f, f2, h3, e3, rfl⟩, ?_, fun b hb => k b (by simp at hb ⊢; exact .inr hb)⟩
  rw [List.cons_append] at n
  exact (List.nodup_cons.mp n).2
theorem World.split {Z S H : Hp} {v : V} {o : O} {os : List O} {ps : List En} (W : World Z S H ((some v, some o) :: ps)) (ho : o.parts = some os) : ∃ a vs, v = .ref a ∧ (H a = some (.tup vs) ∨ H a = some (.lst vs)) ∧ vs.length = os.length ∧ World Z S H (ents vs os ++ ps) := by
  unfold O.parts at ho
  split at ho
  · cases ho
    obtain ⟨fp, ⟨u, f1, f2, e1, e2, e3, e4⟩, n, k⟩ := id W.own
    cases e1
    unfold Own at e2
    obtain ⟨a, vs, f, h1, h2, h3, h4⟩ := e2
    have ll := OwnL.len _ _ _ h3
    refine ⟨a, vs, h1, .inl h2, ll, W.split1 (a := a) (u := .tup vs) (fun f' hf => ?_) ll⟩
    unfold Own at hf
    obtain ⟨a', vs', g, q1, q2, q3, q4⟩ := hf
    subst h1
    cases q1
    rw [h2] at q2; cases q2
    exact ⟨g, q4, q3⟩
  · cases ho
    have hd := W.isD
    unfold IsD at hd
    obtain ⟨a, vs, e, ha, hl⟩ := hd
    exact ⟨a, vs, e, .inl (W.sub.tup ha), by rw [List.length_map]; exact hl.len, W.tail.pushAll hl⟩
  · cases ho
    obtain ⟨fp, ⟨u, f1, f2, e1, e2, e3, e4⟩, n, k⟩ := id W.own
    cases e1
    unfold Own at e2
    obtain ⟨a, vs, f, h1, h2, h3, h4⟩ := e2
    have ll := OwnL.len _ _ _ h3
    refine ⟨a, vs, h1, .inr h2, ll, W.split1 (a := a) (u := .tup vs) (fun f' hf => ?_) ll⟩
    unfold Own at hf
    obtain ⟨a', vs', g, q1, q2, q3, q4⟩ := hf
    subst h1
    cases q1
    rw [h2] at q2; cases q2
    exact ⟨g, q4, q3⟩
  · cases ho
    have hd := W.isD
    unfold IsD at hd
    obtain ⟨a, vs, e, ha, hl⟩ := hd
    exact ⟨a, vs, e, .inr (W.sub.lst ha), by rw [List.length_map]; exact hl.len, W.tail.pushAll hl⟩
  · cases ho
theorem PG.or {e : Expr} {t u : TG} (h : PG X e t) (h' : PG X e u) : PG X e (fun v σ H Q => t v σ H Q ∨ u v σ H Q) := ⟨fun pins s σ H v w Q I r hw => by
  rcases hw with hw | hw
  · exact h.run pins s σ H v w Q I r hw
  · exact h'.run pins s σ H v w Q I r hw⟩
def aTup (is : List Nat) : AG := fun o γ Q => ∃ os, o.parts = some os ∧ os.length = is.length ∧ aNames is os γ Q
theorem jg_tup {ws : List Nat} {es : List Expr} {k : Nat} {is : List Nat} (hc : X.calm = true) (h : JGs ws X es is)
    (hn : (assignEach es X.env).length = is.length := by rfl) (hst : (assignEach es X.env).findIdx? (·.1) = none := by rfl) : JG ws X (.Tuple es k pos) (aTup is) := by
  refine PG.imp (PG.or (pg_tup hc h hn hst) (pg_unl hc h hn hst)) fun v σ H Q hh => ?_
  obtain ⟨Z, S, T, γ, o, K, hl, W, ⟨os, ho, hlen, hk⟩, post⟩ := hh
  obtain ⟨a, vs, e, ha | ha, ll, W1⟩ := W.mid.split ho
  · exact .inl ⟨a, vs, e, .inl (.inl ha), by omega, Z, S, T, γ, os, K, hl, ll, W1.mids, hk, post⟩
  · exact .inr ⟨a, vs, e, .inl (.inl ha), by omega, Z, S, T, γ, os, K, hl, ll, W1.mids, hk, post⟩
end
section
variable {J : List Nat} {X : Cx} {e tg : Expr} {h : OE} {pos : Pos}
def vAsg (f : OE) (ag : AG) : VS := fun E γ => f γ fun o γ1 => ag o γ1 E.nx
theorem js_asg {ws : List Nat} {ag : AG} (he : JE X e h) (hg : JG ws X tg ag) (hJ : ∀ i ∈ ws, i ∉ J) (hs : swapsWithSole [tg] e pos.line X.env = pure false := by rfl) (hw : swappedStores [tg] e X.env = pure none := by rfl)
    (h1 : (assignEach [tg] X.env).map (·.2) = [assign tg X.env] := by rfl) : JS J X (.Assign [tg] e pos) (vAsg h ag) := by
  refine PS.imp (ps_asg he hg hs hw h1) fun D σ H hh => ?_
  obtain ⟨Z, S, T, γ, K, hl, W, hf, P⟩ := of_tS hh
  refine ⟨Z, S, T, γ, _, hl, W, hf, fun o γ1 k l v H1 S1 ls W1 => ?_⟩
  exact ⟨Z, S1, T, γ1, o, K.nx, by omega, W1, k, fun γ' k' σ' H' S' l' on ls' W' => P.nx γ' k' σ' H' S' (l'.trans l) (by rw [on.1]; omega) (on.fix hJ) (ls.trans ls') W'⟩
theorem js_set {i : Nat} {x : Str} {pos' : Pos} (hN : X.N.Nodup) (hi : X.N[i]? = some x) (hx : Loc X.env.scope x) (he : JE X e h) (hJ : i ∉ J) (hs : swapsWith e (some (.Name x pos')) pos.line X.env = pure false := by rfl)
    (hf : X.fn x = true ∨ X.env.scope.names.lookup x = some .local := by first | exact .inl rfl | exact .inr rfl | assumption) : JS J X (.Assign [.Name x pos'] e pos) (vAsg h (aName i)) := by
  refine PS.imp (ps_set hN hi hx he hs hf) fun D σ H hh => ?_
  obtain ⟨Z, S, T, γ, K, hl, W, hf, P⟩ := of_tS hh
  refine ⟨Z, S, T, γ, _, hl, W, hf, fun o γ1 ⟨hi, k⟩ l v H1 S1 ls W1 => ?_⟩
  have on : Only [i] σ (σ.set i (some v)) := Only.set (by simp)
  exact P.nx _ k _ H1 S1 (by simpa using l) (by simp; omega) (on.fix (by simpa using hJ)) ls (W1.store (by omega) hi)
/-- a, b = x, y -/
def vPar (i j : Nat) (f : OA) : VS := fun E γ => f γ fun os γ1 => ∃ o u, os = [o, u] ∧ i < γ1.length ∧ j < γ1.length ∧ E.nx ((γ1.set i (some o)).set j (some u))
theorem js_par {i j : Nat} {x y : Str} {a b : Expr} {f : OA} {px py pt : Pos} {kt k2 pt2} (hc : X.calm = true) (hN : X.N.Nodup) (hi : X.N[i]? = some x) (hj : X.N[j]? = some y) (hij : i ≠ j)
    (hx : X.env.scope.names.lookup x = some .local) (hy : X.env.scope.names.lookup y = some .local) (ha : JA X [a, b] f) (hJ : i ∉ J ∧ j ∉ J)
    (hw : swappedStores [.Tuple [.Name x px, .Name y py] kt pt] (.Tuple [a, b] k2 pt2) X.env = pure (some [x, y]) := by rfl)
    (hs : swapsWithSole [.Tuple [.Name x px, .Name y py] kt pt] (.Tuple [a, b] k2 pt2) pos.line X.env = pure false := by rfl) :
    JS J X (.Assign [.Tuple [.Name x px, .Name y py] kt pt] (.Tuple [a, b] k2 pt2) pos) (vPar i j f) := by
  refine PS.imp (ps_par hc hN hi hj hij hx hy ha hw hs) fun D σ H hh => ?_
  obtain ⟨Z, S, T, γ, K, hl, W, hf, P⟩ := of_tS hh
  refine ⟨Z, S, T, γ, _, hl, W, hf, fun os γ1 ⟨o, u, e, h1, h2, k⟩ l vs H1 S1 ls ll W1 => ?_⟩
  subst e
  obtain ⟨v, w, rfl⟩ := ents2 ll
  refine ⟨v, w, rfl, ?_⟩
  have W2 : World Z S1 H1 (σ.zip γ1 ++ (some v, some o) :: (some w, some u) :: T) := W1
  have W3 := W2.store (by omega) h1
  have W4 := W3.store (by simp; omega) (by simpa using h2)
  refine P.nx _ k _ H1 S1 (by simpa using l) (by simp; omega) (fun n hn => ?_) ls W4
  rw [List.getElem?_set_ne (show j ≠ n from fun q => hJ.2 (q ▸ hn)), List.getElem?_set_ne (show i ≠ n from fun q => hJ.1 (q ▸ hn))]
/-- name op= int -/
def vAugI (i : Nat) (g : Int → Int → Int) (f : OE) : VS := fun E γ => ∃ a, γ[i]? = some (some (.sh (.int a))) ∧ f γ fun o γ1 => ∃ b, o = .sh (.int b) ∧ i < γ1.length ∧ E.nx (γ1.set i (some (.sh (.int (g a b)))))
theorem js_aug {i : Nat} {x : Str} {op : Operator} {g : Int → Int → Int} {pos' : Pos} (hN : X.N.Nodup) (hi : X.N[i]? = some x) (hx : Loc X.env.scope x) (he : JE X e h) (ho : PIp X op (ipI g)) (hJ : i ∉ J)
    (hf : X.fn x = true ∨ X.env.scope.names.lookup x = some .local := by first | exact .inl rfl | exact .inr rfl | assumption) : JS J X (.AugAssign (.Name x pos') op e pos) (vAugI i g h) := by
  refine PS.imp (ps_aug hN hi hx he ho hf) fun D σ H hh => ?_
  obtain ⟨Z, S, T, γ, K, hl, W, ⟨a, ha, hf⟩, P⟩ := of_tS hh
  obtain ⟨v, hv, W1⟩ := W.take hl ha
  have e1 := W1.mid.isD
  unfold IsD at e1
  subst e1
  refine ⟨.int a, hv, Z, S, T, γ, _, hl, W, hf, ?_⟩
  rintro o γ1 ⟨b, rfl, hi1, k⟩ l w H1 S1 ls W2
  have e2 := W2.mid.isD
  unfold IsD at e2
  refine ⟨a, b, rfl, e2, ?_⟩
  have W3 : World Z S1 H1 (σ.zip γ1 ++ (some (.int (g a b)), some (.sh (.int (g a b)))) :: T) := (W2.mid.tail.push (by unfold IsD; rfl)).unmid
  have on : Only [i] σ (σ.set i (some (.int (g a b)))) := Only.set (by simp)
  exact P.nx _ k _ H1 S1 (by simpa using l) (by simp; omega) (on.fix (by simpa using hJ)) ls (W3.store (by omega) hi1)
end

/-! ### what is walked -/
abbrev OI := Gm → (List O → Gm → Prop) → Prop
/-- the iterator J yields the things os; R i: what is still kept for the turns from i on -/
structure Src (Z0 S0 : Hp) (J : It) (os : List O) (R : Nat → List En) : Prop where
  go : ∀ i, i < os.length → ∀ Z S H ps, Le Z0 Z → Le S0 S → World Z S H (R i ++ ps) → J.go i H
  yld : ∀ i o, os[i]? = some o → ∀ Z S H ps x H', Le Z0 Z → Le S0 S → World Z S H (R i ++ ps) → J.yld i H x H' → ∃ S', Le S S' ∧ World Z S' H' ((some x, some o) :: (R (i + 1) ++ ps))
  stop : ∀ Z S H ps, Le Z0 Z → Le S0 S → World Z S H (R os.length ++ ps) → J.stop os.length H
def tI (f : OI) : TI := fun σ H R => ∃ (Z S : Hp) (T : List En) (γ : Gm) (K : List O → Gm → Prop), σ.length = γ.length ∧ World Z S H (σ.zip γ ++ T) ∧ f γ K ∧
  ∀ os γ', K os γ' → γ'.length = γ.length → ∀ J H' S' Rn Z', Le S S' → Le Z Z' → Src Z' S' J os Rn → World Z' S' H' (σ.zip γ' ++ (Rn 0 ++ T)) → R J H'
theorem World.unpin {Z Z' S H : Hp} {ps : List En} (h : Le Z Z') (W : World Z' S H ps) : World Z S H ps := by
  obtain ⟨fp, x, n, k⟩ := W.own
  refine ⟨W.sub, fun a u e => W.pin a u (h a u e), fp, x, n, fun a ha => ⟨(k a ha).1, ?_⟩⟩
  cases e : Z a with
  | none => rfl
  | some u => have := h a u e; rw [(k a ha).2] at this; cases this
theorem Post.unpin {J : List Nat} {Z Z' S : Hp} {σ : L2.St} {γ : Gm} {T : List En} {K : VE} {D : Ends} (h : Le Z Z') (P : Post J Z S σ γ T K D) : Post J Z' S σ γ T K D where
  nx := fun γ' k σ' H' S' l1 l2 f' s' W' => P.nx γ' k σ' H' S' l1 l2 f' s' (W'.unpin h)
  rt := fun o γ' k v σ' H' S' l1 l2 f' s' W' => P.rt o γ' k v σ' H' S' l1 l2 f' s' (W'.unpin h)
  bk := fun γ' k σ' H' S' l1 l2 f' s' W' => P.bk γ' k σ' H' S' l1 l2 f' s' (W'.unpin h)
  ct := fun γ' k σ' H' S' l1 l2 f' s' W' => P.ct γ' k σ' H' S' l1 l2 f' s' (W'.unpin h)
abbrev JI (X : Cx) (tg e : Expr) (f : OI) : Prop := PI X tg e (tI f)
theorem PI.imp {X : Cx} {tg e : Expr} {t u : TI} (h : PI X tg e t) (k : ∀ σ H R, u σ H R → t σ H R) : PI X tg e u := ⟨fun pins s σ H R I hw => h.run pins s σ H R I (k _ _ _ hw)⟩
theorem PI.or {X : Cx} {tg e : Expr} {t u : TI} (h : PI X tg e t) (h' : PI X tg e u) : PI X tg e (fun σ H R => t σ H R ∨ u σ H R) := ⟨fun pins s σ H R I hw => by
  rcases hw with hw | hw
  · exact h.run pins s σ H R I hw
  · exact h'.run pins s σ H R I hw⟩
section
variable {X : Cx} {tg e : Expr} {h : OE} {g : OA} {pos p : Pos}
/-- a list's items: shared ones, or handed on one by one -/
def O.items : O → Option (List O)
  | .lst os => some os
  | .sh (.lst ds) => some (ds.map O.sh)
  | _ => none
def iLst (f : OE) : OI := fun γ Q => f γ fun o γ1 => ∃ os, o.items = some os ∧ Q os γ1
theorem ents_drop {vs : List V} {os : List O} : ∀ {i : Nat} {v : V} {o : O}, vs[i]? = some v → os[i]? = some o → ents (vs.drop i) (os.drop i) = (some v, some o) :: ents (vs.drop (i + 1)) (os.drop (i + 1)) := by
  intro i v o h1 h2
  obtain ⟨l1, e1⟩ := List.getElem?_eq_some_iff.mp h1
  obtain ⟨l2, e2⟩ := List.getElem?_eq_some_iff.mp h2
  rw [List.drop_eq_getElem_cons l1, List.drop_eq_getElem_cons l2, ents_cons, e1, e2]
/-- the list itself is shared, what is in it is handed on -/
theorem World.openL {Z S H : Hp} {v : V} {o : O} {os : List O} {ps : List En} (W : World Z S H ((some v, some o) :: ps)) (ho : o.items = some os) :
    ∃ a vs S', v = .ref a ∧ Le S S' ∧ S' a = some (.lst vs) ∧ vs.length = os.length ∧ World Z S' H (ents vs os ++ ps) := by
  classical
  unfold O.items at ho
  split at ho
  · cases ho
    obtain ⟨fp, ⟨u, f1, f2, e1, e2, e3, e4⟩, n, k⟩ := W.own
    cases e1
    unfold Own at e2
    obtain ⟨a, vs, f, h1, h2, h3, h4⟩ := e2
    have ll := OwnL.len _ _ _ h3
    subst h4 e4
    rw [List.cons_append] at n k
    obtain ⟨na, n2⟩ := List.nodup_cons.mp n
    have ls : Le S (upd S a (.lst vs)) := fun b w q => by
      have ne : b ≠ a := fun z => by rw [z, (k a (by simp)).1] at q; cases q
      rw [upd_ne ne]; exact q
    refine ⟨a, vs, upd S a (.lst vs), h1, ls, upd_same, ll, fun b w q => ?_, W.pin, f ++ f2, OwnP.stay ls _ _ ((ownP_ents vs os _ ll).mpr ⟨f, f2, h3, e3, rfl⟩) fun _ _ => rfl, n2, fun b hb => ?_⟩
    · by_cases z : b = a
      · subst z; rw [upd_same] at q; cases q; exact .inl h2
      · rw [upd_ne z] at q; exact W.sub b w q
    · have z : b ≠ a := fun z => na (z ▸ hb)
      rw [upd_ne z]
      exact k b (List.mem_cons_of_mem _ hb)
  · cases ho
    have hd := W.isD
    unfold IsD at hd
    obtain ⟨a, vs, e, ha, hl⟩ := hd
    exact ⟨a, vs, S, e, Le.refl S, ha, by rw [List.length_map]; exact hl.len, W.tail.pushAll hl⟩
  · cases ho
theorem src_list {K0 : PySem.W.Frag} {Z S : Hp} {a : Addr} {vs : List V} {os : List O} (ha : S a = some (.lst vs)) (ll : vs.length = os.length) : Src Z S (Itl K0 a) os (fun i => ents (vs.drop i) (os.drop i)) where
  go := fun i hi Z' S' H ps lz ls W => ⟨vs, vs[i]'(by omega), .inl (.inl (W.sub.lst (ls _ _ ha))), List.getElem?_eq_getElem (by omega)⟩
  yld := fun i o ho Z' S' H ps x H' lz ls W y => by
    obtain ⟨rfl, hx⟩ := y
    have hv := hx vs (.inl (.inl (W.sub.lst (ls _ _ ha))))
    rw [ents_drop hv ho] at W
    exact ⟨S', Le.refl S', W⟩
  stop := fun Z' S' H ps lz ls W => ⟨vs, .inl (.inl (W.sub.lst (ls _ _ ha))), by omega⟩
theorem ji_list (he : JE X e h) : JI X tg e (iLst h) := by
  refine PI.imp (pi_list he) fun σ H R hh => ?_
  obtain ⟨Z, S, T, γ, K, hl, W, hf, post⟩ := hh
  refine ⟨Z, S, T, γ, _, hl, W, hf, fun o γ1 ⟨os, ho, k⟩ l v H1 S1 ls W1 => ?_⟩
  obtain ⟨a, vs, S2, e1, ls2, ha, ll, W2⟩ := W1.mid.openL ho
  exact ⟨a, e1, ⟨vs, .inl (.inl (W2.sub.lst ha))⟩, post os γ1 k l _ H1 S2 _ Z (ls.trans ls2) (Le.refl Z) (src_list ha ll) (by simpa using W2.mids)⟩
/-- a range -/
def rngO (lo : Int) (n : Nat) : List O := (List.range n).map fun i => .sh (.int (lo + (i : Nat)))
theorem rngO_len (lo : Int) (n : Nat) : (rngO lo n).length = n := by simp [rngO]
theorem rngO_get {lo : Int} {n i : Nat} {o : O} (h : (rngO lo n)[i]? = some o) : i < n ∧ o = .sh (.int (lo + (i : Nat))) := by
  unfold rngO at h
  rw [List.getElem?_map] at h
  by_cases q : i < n
  · rw [List.getElem?_range q] at h
    exact ⟨q, (Option.some.inj h).symm⟩
  · rw [List.getElem?_eq_none (by simpa using q)] at h; cases h
theorem src_range {Z S : Hp} {lo : Int} {n : Nat} : Src Z S (Itr lo n) (rngO lo n) (fun _ => []) where
  go := fun i hi _ _ _ _ _ _ _ => by rw [rngO_len] at hi; exact hi
  yld := fun i o ho Z' S' H ps x H' lz ls W y => by
    obtain ⟨rfl, rfl⟩ := y
    obtain ⟨_, rfl⟩ := rngO_get ho
    exact ⟨S', Le.refl S', W.push (by unfold IsD; rfl)⟩
  stop := fun _ _ _ _ _ _ _ => by rw [rngO_len]; exact Nat.le_refl _
def iRange1 (g : OA) : OI := fun γ Q => g γ fun os γ1 => ∃ j, os = [.sh (.int j)] ∧ -(2 ^ 62) ≤ j ∧ j < 2 ^ 62 ∧ Q (rngO 0 j.toNat) γ1
def iRange2 (g : OA) : OI := fun γ Q => g γ fun os γ1 => ∃ i j, os = [.sh (.int i), .sh (.int j)] ∧ (-(2 ^ 62) ≤ i ∧ i < 2 ^ 62 ∧ -(2 ^ 62) ≤ j ∧ j < 2 ^ 62) ∧ Q (rngO i (j - i).toNat) γ1
theorem ji_range1 {a : Expr} (hg : Gl X "range") (hm : X.mg "range" = none) (ha : JA X [a] g) (hs : starEach [a] X.env = [(false, eval a X.env)] := by rfl) : JI X tg (.Call (.Name "range" p) [a] [] pos) (iRange1 g) := by
  refine PI.imp (pi_range1 hg hm ha hs) fun σ H R hh => ?_
  obtain ⟨Z, S, T, γ, K, hl, W, hf, post⟩ := hh
  refine ⟨Z, S, T, γ, _, hl, W, hf, fun os γ1 ⟨j, e, h1, h2, k⟩ l vs H1 S1 ls ll W1 => ?_⟩
  subst e
  obtain ⟨v, rfl⟩ := ents1 ll
  have hv := W1.mid.isD
  unfold IsD at hv
  subst hv
  exact ⟨j, rfl, h1, h2, post _ γ1 k l _ H1 S1 _ Z ls (Le.refl Z) src_range W1.mid.tail⟩
theorem ji_range2 {a b : Expr} (hg : Gl X "range") (hm : X.mg "range" = none) (ha : JA X [a, b] g) (hs : starEach [a, b] X.env = [(false, eval a X.env), (false, eval b X.env)] := by rfl) (hs2 : starEach [b] X.env = [(false, eval b X.env)] := by rfl) :
    JI X tg (.Call (.Name "range" p) [a, b] [] pos) (iRange2 g) := by
  refine PI.imp (pi_range2 hg hm ha hs hs2) fun σ H R hh => ?_
  obtain ⟨Z, S, T, γ, K, hl, W, hf, post⟩ := hh
  refine ⟨Z, S, T, γ, _, hl, W, hf, fun os γ1 ⟨i, j, e, h1, k⟩ l vs H1 S1 ls ll W1 => ?_⟩
  subst e
  obtain ⟨v, w, rfl⟩ := ents2 ll
  have hv := W1.mid.isD
  have hw := W1.mid.tail.mid.isD
  unfold IsD at hv hw
  subst hv hw
  exact ⟨i, j, rfl, h1, post _ γ1 k l _ H1 S1 _ Z ls (Le.refl Z) src_range W1.mid.tail.mid.tail⟩
/-- enumerate(list) -/
def enumO (os : List O) : List O := os.zipIdx.map fun (o, i) => .tup [.sh (.int (i : Nat)), o]
theorem enumO_len (os : List O) : (enumO os).length = os.length := by simp [enumO]
theorem enumO_get {os : List O} {i : Nat} {o : O} (h : (enumO os)[i]? = some o) : ∃ u, os[i]? = some u ∧ o = .tup [.sh (.int (i : Nat)), u] := by
  unfold enumO at h
  rw [List.getElem?_map, List.getElem?_zipIdx] at h
  cases e : os[i]? with
  | none => rw [e] at h; cases h
  | some u => rw [e] at h; simp at h; exact ⟨u, rfl, h.symm⟩
theorem src_enum {K0 : PySem.W.Frag} {Z S : Hp} {a : Addr} {vs : List V} {os : List O} (ha : S a = some (.lst vs)) (ll : vs.length = os.length) : Src Z S (Ite K0 a) (enumO os) (fun i => ents (vs.drop i) (os.drop i)) where
  go := fun i hi Z' S' H ps lz ls W => ⟨vs, vs[i]'(by rw [enumO_len] at hi; omega), .inl (.inl (W.sub.lst (ls _ _ ha))), List.getElem?_eq_getElem _⟩
  yld := fun i o ho Z' S' H ps x H' lz ls W y => by
    obtain ⟨u, hu, rfl⟩ := enumO_get ho
    obtain ⟨t, w, rfl, ht, rfl, hx⟩ := y
    have hv := hx vs (.inl (.inl (W.sub.lst (ls _ _ ha))))
    rw [ents_drop hv hu] at W
    refine ⟨S', Le.refl S', ?_⟩
    have W1 : World Z' S' H (ents [.int (i : Nat), w] [.sh (.int (i : Nat)), u] ++ (ents (vs.drop (i + 1)) (os.drop (i + 1)) ++ ps)) := World.push W (by unfold IsD; rfl)
    exact W1.newT rfl ht
  stop := fun Z' S' H ps lz ls W => ⟨vs, .inl (.inl (W.sub.lst (ls _ _ ha))), by rw [enumO_len]; omega⟩
def iEnumO (g : OA) : OI := fun γ Q => g γ fun us γ1 => ∃ o os, us = [o] ∧ o.items = some os ∧ Q (enumO os) γ1
theorem ji_enum {elts : List Expr} {kk : Nat} {tpos : Pos} (hg : Gl X "enumerate") (hm : X.mg "enumerate" = none) (ha : JA X [e] g) (hs : starEach [e] X.env = [(false, eval e X.env)] := by rfl) :
    JI X (.Tuple elts kk tpos) (.Call (.Name "enumerate" p) [e] [] pos) (iEnumO g) := by
  refine PI.imp (pi_enum hg hm ha hs) fun σ H R hh => ?_
  obtain ⟨Z, S, T, γ, K, hl, W, hf, post⟩ := hh
  refine ⟨Z, S, T, γ, _, hl, W, hf, fun us γ1 ⟨o, os, e, ho, k⟩ l vs H1 S1 ls ll W1 => ?_⟩
  subst e
  obtain ⟨v, rfl⟩ := ents1 ll
  obtain ⟨a, ws, S2, e1, ls2, ha, ll2, W2⟩ := W1.mid.openL ho
  subst e1
  exact ⟨a, ws, rfl, .inl (.inl (W2.sub.lst ha)), post _ γ1 k l _ H1 S2 _ Z (ls.trans ls2) (Le.refl Z) (src_enum ha ll2) (by simpa using W2.mids)⟩
end
end FN
end
section
namespace FN
open PySem PySem.Spec L2
open PyProof.Rows hiding St

/-! ### for, while -/
def forV (ag : AG) (b : VS) : List O → VE → Gm → Prop
  | [], E, γ => E.nx γ
  | o :: os, E, γ => ag o γ fun γ1 => b { nx := fun γ' => forV ag b os E γ', rt := E.rt, bk := E.nx, ct := fun γ' => forV ag b os E γ' } γ1
section
variable {J : List Nat} {X : Cx}
theorem for_core {Z S1 : Hp} {H1 : Hp} {σ : L2.St} {γ1 : Gm} {T : List En} {os : List O} {Rn : Nat → List En} {Jt : It} {K : VE} {D : Ends} {ag : AG} {b : VS} {ws : List Nat} (hl : σ.length = γ1.length)
    (W1 : World Z S1 H1 (σ.zip γ1 ++ (Rn 0 ++ T))) (src : Src Z S1 Jt os Rn) (hf : forV ag b os K γ1) (P : Post J Z S1 σ γ1 T K D) (hJ : ∀ i ∈ ws, i ∉ J) :
    ∃ W0 : Nat → Nat → L2.St → Hp → Prop, (∃ m, W0 0 m σ H1) ∧ ∀ i m σ H, W0 i m σ H →
      (Jt.stop i H ∧ D.nx σ H) ∨ (Jt.go i H ∧ ∃ N : L2.St → Hp → Prop, (∀ σ' H', N σ' H' → ∃ m', m' < m ∧ W0 (i + 1) m' σ' H') ∧ ∀ x H', Jt.yld i H x H' → tG ws ag x σ H' fun σ2 H2 => tS J b { D with nx := N, ct := N, bk := D.nx } σ2 H2) := by
  refine ⟨fun i m σ2 H2 => m = os.length - i ∧ i ≤ os.length ∧ ∃ S2 γ2, γ2.length = γ1.length ∧ σ2.length = γ2.length ∧ Fix J σ σ2 ∧ Le S1 S2 ∧ World Z S2 H2 (σ2.zip γ2 ++ (Rn i ++ T)) ∧ forV ag b (os.drop i) K γ2,
    ⟨os.length, by simp, Nat.zero_le _, S1, γ1, rfl, hl, Fix.refl J σ, Le.refl S1, W1, hf⟩, ?_⟩
  rintro i m σ2 H2 ⟨rfl, hi, S2, γ2, l1, l2, fx, ls, W2, hv⟩
  by_cases hlt : i < os.length
  · refine .inr ⟨src.go i hlt Z S2 H2 _ (Le.refl Z) ls W2.mids, fun σ' H' => i + 1 ≤ os.length ∧ ∃ S2 γ2, γ2.length = γ1.length ∧ σ'.length = γ2.length ∧ Fix J σ σ' ∧ Le S1 S2 ∧ World Z S2 H' (σ'.zip γ2 ++ (Rn (i + 1) ++ T)) ∧ forV ag b (os.drop (i + 1)) K γ2,
      fun σ' H' n => ⟨os.length - (i + 1), by omega, rfl, n.1, n.2⟩, fun x H' y => ?_⟩
    obtain ⟨S3, ls3, W3⟩ := src.yld i os[i] (List.getElem?_eq_getElem hlt) Z S2 H2 _ x H' (Le.refl Z) ls W2.mids y
    rw [List.drop_eq_getElem_cons hlt] at hv
    have W4 : World Z S3 H' (σ2.zip γ2 ++ (some x, some os[i]) :: (Rn (i + 1) ++ T)) := by
      refine W3.perm ?_
      refine (List.Perm.cons _ ?_).trans List.perm_middle.symm
      rw [← List.append_assoc, ← List.append_assoc]
      exact List.perm_append_comm.append_right T
    refine ⟨Z, S3, Rn (i + 1) ++ T, γ2, os[i], _, l2, W4, hv, ?_⟩
    intro γ3 hb σ3 H3 S4 l3 on ls4 W5
    have fx3 : Fix J σ σ3 := fx.trans (on.fix hJ)
    have drp : ∀ {S' H' : Hp} {A : List En}, World Z S' H' (A ++ (Rn (i + 1) ++ T)) → World Z S' H' (A ++ T) := fun {S' H' A} W => by
      have W' := W.mids
      have key : ∀ B : List En, World Z S' H' (B ++ (A ++ T)) → World Z S' H' (A ++ T) := fun B => by
        induction B with
        | nil => exact id
        | cons c B ih => exact fun W => ih W.tail
      exact key _ W'
    have lsA : Le S1 S4 := ls.trans (ls3.trans ls4)
    have lA : γ3.length = γ1.length := by omega
    have again : ∀ γ', forV ag b (os.drop (i + 1)) K γ' → ∀ σ' H' S', γ'.length = γ3.length → σ'.length = γ'.length → Fix J σ3 σ' → Le S4 S' → World Z S' H' (σ'.zip γ' ++ (Rn (i + 1) ++ T)) →
        i + 1 ≤ os.length ∧ ∃ S2 γ2, γ2.length = γ1.length ∧ σ'.length = γ2.length ∧ Fix J σ σ' ∧ Le S1 S2 ∧ World Z S2 H' (σ'.zip γ2 ++ (Rn (i + 1) ++ T)) ∧ forV ag b (os.drop (i + 1)) K γ2 :=
      fun γ' k σ' H' S' q1 q2 q3 q4 q5 => ⟨hlt, S', γ', by omega, q2, fx3.trans q3, lsA.trans q4, q5, k⟩
    exact tS_of (by rw [on.1]; omega) W5 hb
      ⟨again, fun o γ' k v σ' H' S' q1 q2 q3 q4 q5 => P.rt o γ' k v σ' H' S' (by omega) q2 (fx3.trans q3) (lsA.trans q4) (by
          have W6 := drp (A := σ'.zip γ' ++ [(some v, some o)]) (by rw [List.append_assoc]; exact q5)
          rw [List.append_assoc] at W6; exact W6),
        fun γ' k σ' H' S' q1 q2 q3 q4 q5 => P.nx γ' k σ' H' S' (by omega) q2 (fx3.trans q3) (lsA.trans q4) (drp q5), again⟩
  · have e : i = os.length := by omega
    subst e
    rw [List.drop_length] at hv
    refine .inl ⟨src.stop Z S2 H2 _ (Le.refl Z) ls W2.mids, P.nx γ2 hv σ2 H2 S2 l1 l2 fx ls ?_⟩
    have W' := W2.mids
    have key : ∀ B : List En, World Z S2 H2 (B ++ (σ2.zip γ2 ++ T)) → World Z S2 H2 (σ2.zip γ2 ++ T) := fun B => by
      induction B with
      | nil => exact id
      | cons c B ih => exact fun W => ih W.tail
    exact key _ W'
def vFor (f : OI) (ag : AG) (b : VS) : VS := fun E γ => f γ fun os γ1 => forV ag b os E γ1
theorem js_for {iter tg : Expr} {body : List Stmt} {f : OI} {ws : List Nat} {ag : AG} {b : VS} {pos : Pos} (hp : PassesOwn (model X.prog X.w) X.A X.env X.xe) (hc : X.calm = true) (hi : JI X tg iter f) (hg : JG ws X tg ag) (hb : JB J X body b) (hJ : ∀ i ∈ ws, i ∉ J)
    (hs : ∀ x, foldedSetIterable iter X.env x = pure x := by intro _; rfl) : JS J X (.For tg iter body [] pos) (vFor f ag b) := by
  refine PS.imp (ps_for hp hc hi hg hb hs) fun D σ H hh => ?_
  obtain ⟨Z, S, T, γ, K, hl, W, hf, P⟩ := of_tS hh
  exact ⟨Z, S, T, γ, _, hl, W, hf, fun os γ1 k l Jt H1 S1 Rn Z' ls lz src W1 => for_core (by omega) W1 src k ((P.on l (Fix.refl J σ) ls).unpin lz) hJ⟩
def vWhile (t : OT) (b : VS) : VS := fun E γ => ∃ W : Nat → Gm → Prop, (∃ m, W m γ) ∧ ∀ m γ1, W m γ1 → t γ1 fun c γ2 => if c = true then b { nx := fun γ' => ∃ m', m' < m ∧ W m' γ', rt := E.rt, bk := E.nx, ct := fun γ' => ∃ m', m' < m ∧ W m' γ' } γ2 else E.nx γ2
theorem js_while {c : Expr} {body : List Stmt} {t : OT} {b : VS} {pos : Pos} (hp : PassesOwn (model X.prog X.w) X.A X.env X.xe) (hc : JT X c t) (hb : JB J X body b) : JS J X (.While c body [] pos) (vWhile t b) := by
  refine PS.imp (ps_while hp hc hb) fun D σ H hh => ?_
  obtain ⟨Z, S, T, γ, K, hl, W, ⟨V, ⟨m0, w0⟩, turn⟩, P⟩ := of_tS hh
  refine ⟨fun m σ2 H2 => ∃ S2 γ2, γ2.length = γ.length ∧ σ2.length = γ2.length ∧ Fix J σ σ2 ∧ Le S S2 ∧ World Z S2 H2 (σ2.zip γ2 ++ T) ∧ V m γ2, ⟨m0, S, γ, rfl, hl, Fix.refl J σ, Le.refl S, W, w0⟩, ?_⟩
  rintro m σ2 H2 ⟨S2, γ2, l1, l2, fx, ls, W2, v2⟩
  refine ⟨Z, S2, T, γ2, _, l2, W2, turn m γ2 v2, fun d γ3 k l3 H3 S3 ls3 W3 => ?_⟩
  cases d with
  | true =>
    simp only [if_true] at k ⊢
    refine ⟨fun σ' H' => ∃ m', m' < m ∧ ∃ S2 γ2, γ2.length = γ.length ∧ σ'.length = γ2.length ∧ Fix J σ σ' ∧ Le S S2 ∧ World Z S2 H' (σ'.zip γ2 ++ T) ∧ V m' γ2, fun _ _ h => h, ?_⟩
    have again : ∀ γ', (∃ m', m' < m ∧ V m' γ') → ∀ σ' H' S', γ'.length = γ3.length → σ'.length = γ'.length → Fix J σ2 σ' → Le S3 S' → World Z S' H' (σ'.zip γ' ++ T) →
        ∃ m', m' < m ∧ ∃ S2 γ2, γ2.length = γ.length ∧ σ'.length = γ2.length ∧ Fix J σ σ' ∧ Le S S2 ∧ World Z S2 H' (σ'.zip γ2 ++ T) ∧ V m' γ2 :=
      fun γ' ⟨m', h1, h2⟩ σ' H' S' q1 q2 q3 q4 q5 => ⟨m', h1, S', γ', by omega, q2, fx.trans q3, ls.trans (ls3.trans q4), q5, h2⟩
    have P3 := P.on (γ1 := γ3) (by omega) fx (ls.trans ls3)
    exact tS_of (by omega) W3 k ⟨again, P3.rt, P3.nx, again⟩
  | false =>
    simp only [Bool.false_eq_true, if_false] at k ⊢
    exact P.nx γ3 k σ2 H3 S3 (by omega) (by omega) fx (ls.trans ls3) W3
end

/-! ### a dict that is walked -/
def keysV : List (Key × D) → List O
  | [] => []
  | (.inl i, _) :: l => .sh (.int i) :: keysV l
  | (.inr x, _) :: l => .sh (.str x) :: keysV l
def keyD : Key → D
  | .inl i => .int i
  | .inr x => .str x
theorem isD_key {S : Hp} (k : Key) : IsD S (keyD k) (kV k) := by cases k <;> (unfold keyD IsD; rfl)
def dkeys (l : List (Key × D)) : List O := l.map fun p => .sh (keyD p.1)
def ditems (l : List (Key × D)) : List O := l.map fun p => .tup [.sh (keyD p.1), .sh p.2]
def dvals (l : List (Key × D)) : List O := l.map fun p => .sh p.2
theorem IsDk.get {S : Hp} : ∀ {l : List (Key × D)} {vs : List (Key × V)} {i : Nat} {k : Key} {v : V}, IsDk S l vs → vs[i]? = some (k, v) → ∃ d, l[i]? = some (k, d) ∧ IsD S d v
  | [], vs, i, k, v, h, e => by unfold IsDk at h; rw [h] at e; simp at e
  | (k', d') :: l, vs, i, k, v, h, e => by
    unfold IsDk at h; obtain ⟨w, r, e1, h1, t⟩ := h
    rw [e1] at e
    cases i with
    | zero => simp at e; obtain ⟨rfl, rfl⟩ := e; exact ⟨d', rfl, h1⟩
    | succ i => obtain ⟨d, h2, h3⟩ := IsDk.get t (by simpa using e); exact ⟨d, by simpa using h2, h3⟩
section
variable {Z S : Hp} {d : Addr} {o : Obj} {vs : List (Key × V)} {l : List (Key × D)}
theorem src_keys (hz : Z d = some (.frz o (.dK vs))) (hl : IsDk S l vs) : Src Z S (Itk d o vs) (dkeys l) (fun _ => []) where
  go := fun i hi Z' S' H ps lz ls W => ⟨W.pin _ _ (lz _ _ hz), by unfold dkeys at hi; rw [List.length_map] at hi; rw [hl.len]; exact hi⟩
  yld := fun i c hc Z' S' H ps x H' lz ls W y => by
    obtain ⟨rfl, k, v, hk, rfl⟩ := y
    obtain ⟨e, he, _⟩ := hl.get hk
    unfold dkeys at hc
    rw [List.getElem?_map, he] at hc
    cases hc
    exact ⟨S', Le.refl S', W.push (isD_key k)⟩
  stop := fun Z' S' H ps lz ls W => ⟨W.pin _ _ (lz _ _ hz), by unfold dkeys; rw [List.length_map, hl.len]; exact Nat.le_refl _⟩
theorem src_vals (hz : Z d = some (.frz o (.dK vs))) (hl : IsDk S l vs) : Src Z S (Itd d o vs) (dvals l) (fun _ => []) where
  go := fun i hi Z' S' H ps lz ls W => ⟨W.pin _ _ (lz _ _ hz), by unfold dvals at hi; rw [List.length_map] at hi; rw [hl.len]; exact hi⟩
  yld := fun i c hc Z' S' H ps x H' lz ls W y => by
    obtain ⟨rfl, k, hk⟩ := y
    obtain ⟨e, he, hx⟩ := hl.get hk
    unfold dvals at hc
    rw [List.getElem?_map, he] at hc
    cases hc
    exact ⟨S', Le.refl S', W.push (IsD.mono ls _ _ hx)⟩
  stop := fun Z' S' H ps lz ls W => ⟨W.pin _ _ (lz _ _ hz), by unfold dvals; rw [List.length_map, hl.len]; exact Nat.le_refl _⟩
theorem src_items (hz : Z d = some (.frz o (.dK vs))) (hl : IsDk S l vs) : Src Z S (Iti d o vs) (ditems l) (fun _ => []) where
  go := fun i hi Z' S' H ps lz ls W => ⟨W.pin _ _ (lz _ _ hz), by unfold ditems at hi; rw [List.length_map] at hi; rw [hl.len]; exact hi⟩
  yld := fun i c hc Z' S' H ps x H' lz ls W y => by
    obtain ⟨t, k, v, hk, rfl, ht, rfl⟩ := y
    obtain ⟨e, he, hx⟩ := hl.get hk
    unfold ditems at hc
    rw [List.getElem?_map, he] at hc
    cases hc
    refine ⟨S', Le.refl S', ?_⟩
    have W1 : World Z' S' H (ents [kV k, v] [.sh (keyD k), .sh e] ++ ps) := (World.push W (IsD.mono ls _ _ hx)).push (isD_key k)
    exact W1.newT rfl ht
  stop := fun Z' S' H ps lz ls W => ⟨W.pin _ _ (lz _ _ hz), by unfold ditems; rw [List.length_map, hl.len]; exact Nat.le_refl _⟩
end
/-- the dict at d is locked: Z pins it so -/
theorem World.lock {Z S H : Hp} {d : Addr} {vs : List (Key × V)} {ps : List En} (W : World Z S H ps) (hs : S d = some (.dK vs)) (hd : H d = some (.dK vs)) (od : Obj) :
    World (upd Z d (.frz od (.dK vs))) S (upd H d (.frz od (.dK vs))) ps := by
  obtain ⟨fp, x, n, k⟩ := W.own
  have nd : ∀ a ∈ fp, a ≠ d := fun a ha e => by rw [e] at ha; rw [(k d ha).1] at hs; cases hs
  refine ⟨fun a u e => ?_, fun a u e => ?_, fp, OwnP.stay (Le.refl S) ps fp x fun a ha => upd_ne (nd a ha), n, fun a ha => ⟨(k a ha).1, by rw [upd_ne (nd a ha)]; exact (k a ha).2⟩⟩
  · by_cases q : a = d
    · subst q; rw [hs] at e; cases e; rw [upd_same]; exact .inr ⟨trivial, od, rfl⟩
    · rw [upd_ne q]; exact W.sub a u e
  · by_cases q : a = d
    · subst q; rw [upd_same] at e ⊢; exact e
    · rw [upd_ne q] at e ⊢; exact W.pin a u e
theorem World.unlock {Z S H : Hp} {d : Addr} {vs : List (Key × V)} {ps : List En} {od : Obj} (W : World (upd Z d (.frz od (.dK vs))) S H ps) (hs : S d = some (.dK vs)) (hz : ∀ u, Z d = some u → u = .dK vs) :
    H d = some (.frz od (.dK vs)) ∧ World Z S (upd H d (.dK vs)) ps := by
  obtain ⟨fp, x, n, k⟩ := W.own
  have nd : ∀ a ∈ fp, a ≠ d := fun a ha e => by rw [e] at ha; rw [(k d ha).1] at hs; cases hs
  refine ⟨W.pin d _ upd_same, fun a u e => ?_, fun a u e => ?_, fp, OwnP.stay (Le.refl S) ps fp x fun a ha => upd_ne (nd a ha), n, fun a ha => ⟨(k a ha).1, ?_⟩⟩
  · by_cases q : a = d
    · subst q; rw [hs] at e; cases e; rw [upd_same]; exact .inl rfl
    · rw [upd_ne q]; exact W.sub a u e
  · by_cases q : a = d
    · subst q; rw [hz u e, upd_same]
    · rw [upd_ne q]; exact W.pin a u (by rw [upd_ne q]; exact e)
  · have := (k a ha).2
    rw [upd_ne (nd a ha)] at this
    exact this
/-- .. locked already -/
theorem World.relock {Z S H : Hp} {d : Addr} {u : HO} {F : HO} {ps : List En} (W : World Z S H ps) (hs : S d = some u) (hd : H d = some F) : World (upd Z d F) S H ps := by
  obtain ⟨fp, x, n, k⟩ := W.own
  have nd : ∀ a ∈ fp, a ≠ d := fun a ha e => by rw [e] at ha; rw [(k d ha).1] at hs; cases hs
  refine ⟨W.sub, fun a w e => ?_, fp, x, n, fun a ha => ⟨(k a ha).1, by rw [upd_ne (nd a ha)]; exact (k a ha).2⟩⟩
  by_cases q : a = d
  · subst q; rw [upd_same] at e; cases e; exact hd
  · rw [upd_ne q] at e; exact W.pin a w e
theorem World.unrelock {Z S H : Hp} {d : Addr} {u : HO} {F : HO} {ps : List En} (W : World (upd Z d F) S H ps) (hs : S d = some u) (hz : ∀ u, Z d = some u → u = F) : World Z S H ps := by
  obtain ⟨fp, x, n, k⟩ := W.own
  have nd : ∀ a ∈ fp, a ≠ d := fun a ha e => by rw [e] at ha; rw [(k d ha).1] at hs; cases hs
  refine ⟨W.sub, fun a w e => ?_, fp, x, n, fun a ha => ⟨(k a ha).1, ?_⟩⟩
  · by_cases q : a = d
    · subst q; rw [hz w e]; exact W.pin a _ upd_same
    · exact W.pin a w (by rw [upd_ne q]; exact e)
  · have := (k a ha).2
    rw [upd_ne (nd a ha)] at this
    exact this
/-- a name that holds a dict, looked up for a walk: it is shared from here on -/
theorem World.dictAt {Z S H : Hp} {σ : L2.St} {γ : Gm} {T : List En} {i : Nat} {o : O} {l : List (Key × D)} (W : World Z S H (σ.zip γ ++ T)) (hl : σ.length = γ.length) (h : γ[i]? = some (some o)) (ni : o.noIns = true) (he : o.er = .dk l) :
    ∃ S' a vs, Le S S' ∧ σ[i]? = some (some (.ref a)) ∧ S' a = some (.dK vs) ∧ IsDk S' l vs ∧ World Z S' H (σ.zip (γ.set i (some (.sh (.dk l)))) ++ T) := by
  obtain ⟨v, hv, W1⟩ := W.take hl h
  obtain ⟨S', ls, W2⟩ := W1.mid.share ni
  rw [he] at W2
  have hd := W2.isD
  unfold IsD at hd
  obtain ⟨a, vs, rfl, ha, hk⟩ := hd
  have hi : i < γ.length := (List.getElem?_eq_some_iff.mp h).1
  have W3 := (World.unmid W2).back (i := i) (by simpa using hl) (by simpa using hi) hv
  rw [List.set_set] at W3
  exact ⟨S', a, vs, ls, hv, ha, hk, W3⟩
inductive DW where | keys | vals | items
def DW.os : DW → List (Key × D) → List O
  | .keys, l => dkeys l
  | .vals, l => dvals l
  | .items, l => ditems l
def DW.it : DW → Addr → Obj → List (Key × V) → It
  | .keys, d, o, vs => Itk d o vs
  | .vals, d, o, vs => Itd d o vs
  | .items, d, o, vs => Iti d o vs
theorem src_dw {Z S : Hp} {d : Addr} {o : Obj} {vs : List (Key × V)} {l : List (Key × D)} (k : DW) (hz : Z d = some (.frz o (.dK vs))) (hl : IsDk S l vs) : Src Z S (k.it d o vs) (k.os l) (fun _ => []) := by
  cases k
  · exact src_keys hz hl
  · exact src_vals hz hl
  · exact src_items hz hl
/-- what walks the dict that the i-th name holds -/
def tDW (k : DW) (i : Nat) : TI := fun σ H R => ∃ d o vs, σ[i]? = some (some (.ref d)) ∧ H d = some (.frz o (.dK vs)) ∧ R (k.it d o vs) H
structure JW1 (X : Cx) (tg e : Expr) (k : DW) (i : Nat) : Prop where
  pi : PI X tg e (tDW k i)
section
variable {X : Cx} {tg : Expr} {p apos cpos : Pos}
theorem jw_keys (i : Nat) {x : Str} (hN : X.N[i]? = some x := by rfl) (hv : Vis X.env.scope x := by first | exact Or.inl rfl | exact Or.inr (Or.inl rfl) | exact Or.inr (Or.inr rfl)) (hd : (x == ("__debug__" : Str)) = false := by decide)
    (hcd : (x == ("__classdict__" : Str)) = false := by decide) : JW1 X tg (.Name x p) .keys i := ⟨PI.imp (pi_keys (pe_var hN hv hd hcd)) fun σ H R ⟨d, o, vs, h1, h2, h3⟩ => ⟨.ref d, h1, d, o, rfl, .inl ⟨vs, h2, h3⟩⟩⟩
theorem jw_vals (i : Nat) {x : Str} (hN : X.N[i]? = some x := by rfl) (hv : Vis X.env.scope x := by first | exact Or.inl rfl | exact Or.inr (Or.inl rfl) | exact Or.inr (Or.inr rfl)) (hd : (x == ("__debug__" : Str)) = false := by decide)
    (hcd : (x == ("__classdict__" : Str)) = false := by decide) (hbase : attributeBase (.Name x p) "values" X.env (eval (.Name x p) X.env) = eval (.Name x p) X.env := by rfl) (hline : (apos.endLine == cpos.line) = true := by rfl) :
    JW1 X tg (.Call (.Attribute (.Name x p) "values" apos) [] [] cpos) .vals i := ⟨PI.imp (pi_values (pe_var hN hv hd hcd) hbase hline) fun σ H R ⟨d, o, vs, h1, h2, h3⟩ => ⟨.ref d, h1, d, o, vs, rfl, h2, h3⟩⟩
theorem jw_items (i : Nat) {x : Str} {elts : List Expr} {kk : Nat} {tpos : Pos} (hN : X.N[i]? = some x := by rfl) (hv : Vis X.env.scope x := by first | exact Or.inl rfl | exact Or.inr (Or.inl rfl) | exact Or.inr (Or.inr rfl)) (hd : (x == ("__debug__" : Str)) = false := by decide)
    (hcd : (x == ("__classdict__" : Str)) = false := by decide) (hbase : attributeBase (.Name x p) "items" X.env (eval (.Name x p) X.env) = eval (.Name x p) X.env := by rfl) (hline : (apos.endLine == cpos.line) = true := by rfl) :
    JW1 X (.Tuple elts kk tpos) (.Call (.Attribute (.Name x p) "items" apos) [] [] cpos) .items i := ⟨PI.imp (pi_items (pe_var hN hv hd hcd) hbase hline) fun σ H R ⟨d, o, vs, h1, h2, h3⟩ => ⟨.ref d, h1, d, o, vs, rfl, h2, h3⟩⟩
variable {J : List Nat}
theorem PS.or {st : Stmt} {t u : TS} (h : PS X st t) (h' : PS X st u) : PS X st (fun D σ H => t D σ H ∨ u D σ H) := ⟨fun pins s σ H D I hw => by
  rcases hw with hw | hw
  · exact h.run pins s σ H D I hw
  · exact h'.run pins s σ H D I hw⟩
theorem PE.or {e : Expr} {t u : TE} (h : PE X e t) (h' : PE X e u) : PE X e (fun σ H Q => t σ H Q ∨ u σ H Q) := ⟨fun pins s σ H Q I hw => by
  rcases hw with hw | hw
  · exact h.run pins s σ H Q I hw
  · exact h'.run pins s σ H Q I hw⟩
def vForD (k : DW) (i : Nat) (ag : AG) (b : VS) : VS := fun E γ => ∃ o l, γ[i]? = some (some o) ∧ o.noIns = true ∧ o.er = .dk l ∧ forV ag b (k.os l) E (γ.set i (some (.sh (.dk l))))
theorem js_forD {k : DW} {i : Nat} {iter : Expr} {body : List Stmt} {ws : List Nat} {ag : AG} {b : VS} {pos : Pos} (hp : PassesOwn (model X.prog X.w) X.A X.env X.xe) (hc : X.calm = true) (hi : JW1 X tg iter k i) (hg : JG ws X tg ag) (hb : JB J X body b) (hJ : ∀ i ∈ ws, i ∉ J)
    (hs : ∀ x, foldedSetIterable iter X.env x = pure x := by intro _; rfl) : JS J X (.For tg iter body [] pos) (vForD k i ag b) := by
  have base := ps_for (pos := pos) hp hc hi.pi hg hb hs
  refine PS.imp (PS.or base (ps_lock base)) fun D σ H hh => ?_
  obtain ⟨Z, S, T, γ, K, hl, W, ⟨o, l, ho, ni, he, hf⟩, P⟩ := of_tS hh
  obtain ⟨S1, a, vs, ls, hv, ha, hk, W1⟩ := W.dictAt hl ho ni he
  have P1 := P.on (γ1 := γ.set i (some (.sh (.dk l)))) (by simp) (Fix.refl J σ) ls
  rcases W1.sub a _ ha with hd | ⟨_, od, hd⟩
  · refine .inr ⟨a, _, hd, trivial, fun od => ?_⟩
    have W2 := W1.lock ha hd od
    refine ⟨a, od, vs, hv, upd_same, ?_⟩
    have hz : ∀ u, Z a = some u → u = .dK vs := fun u e => by have := W1.pin a u e; rw [hd] at this; exact (Option.some.inj this).symm
    refine for_core (Z := upd Z a (.frz od (.dK vs))) (K := K) (Rn := fun _ => []) (by simpa using hl) W2 (src_dw k upd_same hk) hf ⟨?_, ?_, ?_, ?_⟩ hJ
    · intro γ' kk σ' H' S' q1 q2 q3 q4 q5
      obtain ⟨e1, W3⟩ := q5.unlock (q4 _ _ ha) hz
      exact ⟨e1, P1.nx γ' kk σ' _ S' q1 q2 q3 q4 W3⟩
    · intro u γ' kk v σ' H' S' q1 q2 q3 q4 q5
      obtain ⟨e1, W3⟩ := q5.unlock (q4 _ _ ha) hz
      exact ⟨e1, P1.rt u γ' kk v σ' _ S' q1 q2 q3 q4 W3⟩
    · intro γ' kk σ' H' S' q1 q2 q3 q4 q5
      obtain ⟨e1, W3⟩ := q5.unlock (q4 _ _ ha) hz
      exact ⟨e1, P1.bk γ' kk σ' _ S' q1 q2 q3 q4 W3⟩
    · intro γ' kk σ' H' S' q1 q2 q3 q4 q5
      obtain ⟨e1, W3⟩ := q5.unlock (q4 _ _ ha) hz
      exact ⟨e1, P1.ct γ' kk σ' _ S' q1 q2 q3 q4 W3⟩
  · refine .inl ⟨a, od, vs, hv, hd, ?_⟩
    have W2 := W1.relock ha hd
    have hz : ∀ u, Z a = some u → u = .frz od (.dK vs) := fun u e => by have := W1.pin a u e; rw [hd] at this; exact (Option.some.inj this).symm
    refine for_core (Z := upd Z a (.frz od (.dK vs))) (K := K) (Rn := fun _ => []) (by simpa using hl) W2 (src_dw k upd_same hk) hf ⟨?_, ?_, ?_, ?_⟩ hJ
    · intro γ' kk σ' H' S' q1 q2 q3 q4 q5
      exact P1.nx γ' kk σ' _ S' q1 q2 q3 q4 (q5.unrelock (q4 _ _ ha) hz)
    · intro u γ' kk v σ' H' S' q1 q2 q3 q4 q5
      exact P1.rt u γ' kk v σ' _ S' q1 q2 q3 q4 (q5.unrelock (q4 _ _ ha) hz)
    · intro γ' kk σ' H' S' q1 q2 q3 q4 q5
      exact P1.bk γ' kk σ' _ S' q1 q2 q3 q4 (q5.unrelock (q4 _ _ ha) hz)
    · intro γ' kk σ' H' S' q1 q2 q3 q4 q5
      exact P1.ct γ' kk σ' _ S' q1 q2 q3 q4 (q5.unrelock (q4 _ _ ha) hz)
end

/-! ### comprehensions -/
def wipeC (γ : Gm) : List Nat → Gm
  | [] => γ
  | v :: vs => (wipeC γ vs).set v none
theorem wipeC_len (γ : Gm) : ∀ vs, (wipeC γ vs).length = γ.length
  | [] => rfl
  | v :: vs => by unfold wipeC; rw [List.length_set, wipeC_len γ vs]
theorem wipe_zip (σ : L2.St) (γ : Gm) : ∀ vs : List Nat, (wipe σ vs).zip (wipeC γ vs) = vs.foldr (fun v l => l.set v (none, none)) (σ.zip γ)
  | [] => rfl
  | v :: vs => by unfold wipe wipeC; rw [zip_set, wipe_zip σ γ vs]; rfl
theorem World.blank {Z S H : Hp} {ps : List En} {i : Nat} (W : World Z S H ps) (v : Option V) : World Z S H (ps.set i (v, none)) := by
  by_cases hi : i < ps.length
  · exact (W.pad v).poke hi
  · rw [List.set_eq_of_length_le (by omega)]; exact W
theorem World.wiped {Z S H : Hp} {σ : L2.St} {γ : Gm} {T : List En} (W : World Z S H (σ.zip γ ++ T)) : ∀ vs : List Nat, World Z S H ((wipe σ vs).zip (wipeC γ vs) ++ T)
  | [] => W
  | v :: vs => by
    have ih := World.wiped W vs
    unfold wipe wipeC
    rw [zip_set]
    by_cases hi : v < ((wipe σ vs).zip (wipeC γ vs)).length
    · have := ih.blank (i := v) none
      rwa [List.set_append_left _ _ hi] at this
    · rw [List.set_eq_of_length_le (by omega)]; exact ih
/-- what the values are where nothing is known does not matter -/
theorem OwnP.revalue {S H : Hp} : ∀ (ps qs : List En) (fp : List Addr), ps.length = qs.length → (∀ (i : Nat) e, qs[i]? = some e → ∃ v, ps[i]? = some (v, e.2) ∧ (e.2 = none ∨ v = e.1)) → OwnP S H ps fp → OwnP S H qs fp
  | [], [], fp, _, _, h => h
  | (v, c) :: ps, (w, none) :: qs, fp, hl, k, h => by
    obtain ⟨v', h1, _⟩ := k 0 _ rfl
    simp at h1
    obtain ⟨rfl, rfl⟩ := h1
    exact OwnP.revalue ps qs fp (by simpa using hl) (fun i e he => by simpa using k (i + 1) e (by simpa using he)) h
  | (v, c) :: ps, (w, some o) :: qs, fp, hl, k, h => by
    obtain ⟨v', h1, h2⟩ := k 0 _ rfl
    simp at h1 h2
    obtain ⟨rfl, rfl⟩ := h1
    subst h2
    obtain ⟨u, f1, f2, e1, e2, e3, e4⟩ := h
    exact ⟨u, f1, f2, e1, e2, OwnP.revalue ps qs f2 (by simpa using hl) (fun i e he => by simpa using k (i + 1) e (by simpa using he)) e3, e4⟩
theorem World.revalue {Z S H : Hp} {ps qs : List En} (W : World Z S H ps) (hl : ps.length = qs.length) (h : ∀ (i : Nat) e, qs[i]? = some e → ∃ v, ps[i]? = some (v, e.2) ∧ (e.2 = none ∨ v = e.1)) : World Z S H qs := by
  obtain ⟨fp, x, n, k⟩ := W.own
  exact ⟨W.sub, W.pin, fp, OwnP.revalue ps qs fp hl h x, n, k⟩
theorem wipeC_get {γ : Gm} : ∀ {vs : List Nat} {i : Nat} {c : Option O}, (wipeC γ vs)[i]? = some c → c = none ∨ i ∉ vs
  | [], i, c, _ => .inr (by simp)
  | v :: vs, i, c, h => by
    unfold wipeC at h
    by_cases q : v = i
    · subst q
      by_cases hv : v < (wipeC γ vs).length
      · rw [List.getElem?_set_self hv] at h; exact .inl (Option.some.inj h).symm
      · rw [List.getElem?_eq_none (by simpa using hv)] at h; cases h
    · rw [List.getElem?_set_ne q] at h
      rcases wipeC_get h with r | r
      · exact .inl r
      · exact .inr (by simp; exact ⟨fun e => q e.symm, r⟩)
theorem wipe_get (σ : L2.St) : ∀ {vs : List Nat} {i : Nat}, i ∉ vs → (wipe σ vs)[i]? = σ[i]?
  | [], i, _ => rfl
  | v :: vs, i, h => by
    simp at h
    unfold wipe
    rw [List.getElem?_set_ne (fun e => h.1 e.symm)]
    exact wipe_get σ h.2
/-- behind a block: the frame's own values -/
theorem World.unwiped {Z S H : Hp} {σ : L2.St} {γ : Gm} {T : List En} {vs : List Nat} (hl : σ.length = γ.length) (W : World Z S H ((wipe σ vs).zip (wipeC γ vs) ++ T)) : World Z S H (σ.zip (wipeC γ vs) ++ T) := by
  refine W.revalue (by simp [wipe_length, wipeC_len]) fun i e he => ?_
  by_cases hi : i < (σ.zip (wipeC γ vs)).length
  · rw [List.getElem?_append_left hi] at he
    have hi2 : i < ((wipe σ vs).zip (wipeC γ vs)).length := by simpa [wipe_length] using hi
    rw [List.getElem?_append_left hi2]
    obtain ⟨v, c⟩ := e
    obtain ⟨h1, h2⟩ := List.getElem?_zip_eq_some.mp he
    have hw : i < (wipe σ vs).length := by rw [wipe_length]; exact (List.getElem?_eq_some_iff.mp h1).1
    refine ⟨(wipe σ vs)[i], List.getElem?_zip_eq_some.mpr ⟨List.getElem?_eq_getElem hw, h2⟩, ?_⟩
    rcases wipeC_get h2 with r | r
    · exact .inl r
    · refine .inr ?_
      have := wipe_get σ (vs := vs) r
      rw [h1, List.getElem?_eq_getElem hw] at this
      exact Option.some.inj this
  · have hi2 : ¬ i < ((wipe σ vs).zip (wipeC γ vs)).length := by simpa [wipe_length] using hi
    rw [List.getElem?_append_right (by omega)] at he
    rw [List.getElem?_append_right (by omega)]
    have e1 : (σ.zip (wipeC γ vs)).length = ((wipe σ vs).zip (wipeC γ vs)).length := by simp [wipe_length]
    rw [e1] at he
    exact ⟨e.1, he, .inr rfl⟩
theorem wipe_only {vs : List Nat} {σ σ' : L2.St} (h : Only vs σ σ') : wipe σ' vs = wipe σ vs := by
  refine List.ext_getElem? fun i => ?_
  by_cases q : i ∈ vs
  · have key : ∀ (τ : L2.St) (us : List Nat), i ∈ us → (wipe τ us)[i]? = if i < τ.length then some none else none := fun τ us => by
      induction us with
      | nil => intro h; cases h
      | cons u us ih =>
        intro hm
        unfold wipe
        by_cases e : u = i
        · subst e
          rw [List.getElem?_set_self']
          by_cases hh : u < τ.length
          · have : u < (wipe τ us).length := by rw [wipe_length]; exact hh
            rw [if_pos hh, List.getElem?_eq_getElem this]; rfl
          · have : ¬ u < (wipe τ us).length := by rw [wipe_length]; exact hh
            rw [if_neg hh, List.getElem?_eq_none (by omega)]; rfl
        · rw [List.getElem?_set_ne e]
          exact ih (by rcases List.mem_cons.mp hm with z | z; exact absurd z.symm e; exact z)
    rw [key σ' vs q, key σ vs q, h.1]
  · rw [wipe_get σ' q, wipe_get σ q]; exact h.2 i q
theorem wipe_wipe {σ : L2.St} (vs : List Nat) : wipe (wipe σ vs) vs = wipe σ vs := wipe_only ⟨wipe_length σ vs, fun j hj => wipe_get σ hj⟩

def compV (ag : AG) (t : OT) (f : OE) (vs : List Nat) : List O → List O → Gm → (List O → Gm → Prop) → Prop
  | [], acc, γ, Q => Q acc γ
  | o :: os, acc, γ, Q => ag o γ fun γ1 => t γ1 fun b γ2 => if b = true then f γ2 fun y γ3 => compV ag t f vs os (acc ++ [y]) (wipeC γ3 vs) Q else compV ag t f vs os acc (wipeC γ2 vs) Q
abbrev JTs (X : Cx) (es : List Expr) (f : OT) : Prop := PTs X es (tT f)
def oYes : OT := fun γ Q => Q true γ
theorem jts_nil {X : Cx} : JTs X [] oYes := ⟨fun pins s σ H Q I hw => pts_nil.run pins s σ H Q I (tT_now (b := true) hw)⟩
theorem jts_one {X : Cx} {c : Expr} {t : OT} (h : JT X c t) : JTs X [c] t := pts_one h
/-- an owned list grows -/
theorem World.app {Z S H : Hp} {D : Addr} {acc : List O} {v : V} {o : O} {ps : List En} (W : World Z S H ((some v, some o) :: (some (.ref D), some (.lst acc)) :: ps)) :
    ∃ vs, H D = some (.lst vs) ∧ vs.length = acc.length ∧ World Z S (upd H D (.lst (vs ++ [v]))) ((some (.ref D), some (.lst (acc ++ [o]))) :: ps) := by
  obtain ⟨fp, ⟨u, f1, f2, e1, e2, ⟨u2, g1, g2, e5, e6, e7, e8⟩, e4⟩, n, k⟩ := W.own
  cases e1
  cases e5
  unfold Own at e6
  obtain ⟨a, vs, f, h1, h2, h3, h4⟩ := e6
  cases h1
  subst h4 e8 e4
  have nD : ∀ a ∈ f1 ++ (f ++ g2), a ≠ D := fun a ha e => by
    subst e
    have n' : (f1 ++ a :: (f ++ g2)).Nodup := by simpa using n
    have := (List.perm_middle (a := a) (l₁ := f1) (l₂ := f ++ g2)).nodup_iff.mp n'
    exact (List.nodup_cons.mp this).1 ha
  have kD := k D (by simp)
  refine ⟨vs, h2, OwnL.len _ _ _ h3, fun b w e => ?_, fun b w e => ?_, D :: ((f ++ f1) ++ g2), ⟨.ref D, D :: (f ++ f1), g2, rfl, ?_, ?_, rfl⟩, ?_, ?_⟩
  · have ne : b ≠ D := fun z => by rw [z, kD.1] at e; cases e
    rw [upd_ne ne]; exact W.sub b w e
  · have ne : b ≠ D := fun z => by rw [z, kD.2] at e; cases e
    rw [upd_ne ne]; exact W.pin b w e
  · unfold Own
    refine ⟨D, vs ++ [v], f ++ f1, rfl, upd_same, ?_, rfl⟩
    have s1 := OwnL.stay (H' := upd H D (.lst (vs ++ [v]))) (Le.refl S) _ _ _ h3 fun b hb => upd_ne (nD b (by simp [hb]))
    have s2 := Own.stay (H' := upd H D (.lst (vs ++ [v]))) (Le.refl S) _ _ _ e2 fun b hb => upd_ne (nD b (by simp [hb]))
    have key : ∀ (os : List O) (ws : List V) (fq : List Addr), OwnL S (upd H D (.lst (vs ++ [v]))) os ws fq → OwnL S (upd H D (.lst (vs ++ [v]))) (os ++ [o]) (ws ++ [v]) (fq ++ f1) := fun os => by
      induction os with
      | nil =>
        intro ws fq h
        unfold OwnL at h
        rw [h.1, h.2, List.nil_append]; unfold OwnL
        exact ⟨v, [], f1, [], rfl, s2, by unfold OwnL; exact ⟨rfl, rfl⟩, by simp⟩
      | cons c os ih =>
        intro ws fq h
        unfold OwnL at h
        obtain ⟨w, r, q1, q2, x1, x2, x3, x4⟩ := h
        rw [x1, x4, List.cons_append]; unfold OwnL
        exact ⟨w, _, q1, q2 ++ f1, rfl, x2, ih r q2 x3, by rw [List.append_assoc]⟩
    exact key _ _ _ s1
  · exact OwnP.stay (Le.refl S) _ _ e7 fun b hb => upd_ne (nD b (by simp [hb]))
  · refine List.nodup_cons.mpr ⟨fun h => nD D (by
      simp only [List.mem_append] at h ⊢
      rcases h with (h | h) | h
      · exact .inr (.inl h)
      · exact .inl h
      · exact .inr (.inr h)) rfl, ?_⟩
    have n' : (f1 ++ D :: (f ++ g2)).Nodup := by simpa using n
    have n2 := (List.nodup_cons.mp ((List.perm_middle (a := D) (l₁ := f1) (l₂ := f ++ g2)).nodup_iff.mp n')).2
    refine (List.Perm.nodup_iff ?_).mp n2
    rw [← List.append_assoc]
    exact List.perm_append_comm.append_right g2
  · intro a ha
    rcases List.mem_cons.mp ha with rfl | ha
    · exact kD
    · refine k a ?_
      simp only [List.mem_append, List.mem_cons] at ha ⊢
      rcases ha with (h | h) | h
      · exact .inr (.inl (.inr h))
      · exact .inl h
      · exact .inr (.inr h)
theorem World.dropMid {Z S H : Hp} {A B C : List En} (W : World Z S H (A ++ (B ++ C))) : World Z S H (A ++ C) := by
  have W' := W.mids
  have key : ∀ B : List En, World Z S H (B ++ (A ++ C)) → World Z S H (A ++ C) := fun B => by
    induction B with
    | nil => exact id
    | cons c B ih => exact fun W => ih W.tail
  exact key _ W'
section
variable {X : Cx}
theorem comp_core {Z S1 : Hp} {H1 : Hp} {σ : L2.St} {γ1 : Gm} {T : List En} {os : List O} {Rn : Nat → List En} {Jt : It} {K : List O → Gm → Prop} {Q : VK} {ag : AG} {t : OT} {f : OE} {vs : List Nat} (hl : σ.length = γ1.length)
    (W1 : World Z S1 H1 (σ.zip γ1 ++ (Rn 0 ++ T))) (src : Src Z S1 Jt os Rn) (hz : os.length ≤ 1000000) (hf : compV ag t f vs os [] (wipeC γ1 vs) K)
    (P : ∀ acc γ', K acc γ' → γ'.length = γ1.length → ∀ v H' S', Le S1 S' → World Z S' H' (σ.zip (wipeC γ' vs) ++ (some v, some (.lst acc)) :: T) → Q v H') :
    ∀ D, H1 D = none → ∃ W0 : Nat → Nat → Hp → Prop, (∃ m, W0 0 m (upd H1 D (.lst []))) ∧ ∀ i m H, W0 i m H →
      (Jt.stop i H ∧ Q (.ref D) H) ∨ (Jt.go i H ∧ ∃ Nx : Hp → Prop, (∀ H', Nx H' → ∃ m', m' < m ∧ W0 (i + 1) m' H') ∧ ∀ x H', Jt.yld i H x H' → tG vs ag x (wipe σ vs) H' fun σ2 H2 => wipe σ2 vs = wipe σ vs ∧ tT t σ2 H2 fun b H3 =>
        if b = true then tE f σ2 H3 fun y H4 => ∃ acc, H4 D = some (.lst acc) ∧ acc.length < sizeLine ∧ Nx (upd H4 D (.lst (acc ++ [y]))) else Nx H3) := by
  intro D hD
  have W2 : World Z S1 (upd H1 D (.lst [])) ((some (.ref D), some (.lst [])) :: (σ.zip γ1 ++ (Rn 0 ++ T))) := World.newL (vs := []) (os := []) W1 rfl hD
  have W3 : World Z S1 (upd H1 D (.lst [])) ((wipe σ vs).zip (wipeC γ1 vs) ++ (Rn 0 ++ ((some (.ref D), some (.lst [])) :: T))) := by
    have := (World.unmid W2).wiped vs
    refine this.perm (List.Perm.append_left _ ?_)
    exact List.perm_middle.symm
  refine ⟨fun i m H2 => m = os.length - i ∧ i ≤ os.length ∧ ∃ S2 γ2 acc, γ2.length = γ1.length ∧ Le S1 S2 ∧ acc.length ≤ i ∧ World Z S2 H2 ((wipe σ vs).zip (wipeC γ2 vs) ++ (Rn i ++ ((some (.ref D), some (.lst acc)) :: T))) ∧ compV ag t f vs (os.drop i) acc (wipeC γ2 vs) K,
    ⟨os.length, by simp, Nat.zero_le _, S1, γ1, [], rfl, Le.refl S1, by simp, W3, hf⟩, ?_⟩
  rintro i m H2 ⟨rfl, hi, S2, γ2, acc, l2, ls, la, W4, hv⟩
  have ll2 : (wipe σ vs).length = (wipeC γ2 vs).length := by rw [wipe_length, wipeC_len]; omega
  by_cases hlt : i < os.length
  · refine .inr ⟨src.go i hlt Z S2 H2 _ (Le.refl Z) ls W4.mids, fun H' => ∃ S2 γ2 acc, γ2.length = γ1.length ∧ Le S1 S2 ∧ acc.length ≤ i + 1 ∧ World Z S2 H' ((wipe σ vs).zip (wipeC γ2 vs) ++ (Rn (i + 1) ++ ((some (.ref D), some (.lst acc)) :: T))) ∧ compV ag t f vs (os.drop (i + 1)) acc (wipeC γ2 vs) K,
      fun H' n => ⟨os.length - (i + 1), by omega, rfl, hlt, n⟩, fun x H' y => ?_⟩
    obtain ⟨S3, ls3, W5⟩ := src.yld i os[i] (List.getElem?_eq_getElem hlt) Z S2 H2 _ x H' (Le.refl Z) ls W4.mids y
    rw [List.drop_eq_getElem_cons hlt] at hv
    have W6 : World Z S3 H' ((wipe σ vs).zip (wipeC γ2 vs) ++ (some x, some os[i]) :: (Rn (i + 1) ++ ((some (.ref D), some (.lst acc)) :: T))) := by
      refine W5.perm ?_
      refine (List.Perm.cons _ ?_).trans List.perm_middle.symm
      rw [← List.append_assoc, ← List.append_assoc]
      exact List.perm_append_comm.append_right _
    refine ⟨Z, S3, _, wipeC γ2 vs, os[i], _, ll2, W6, hv, ?_⟩
    intro γ3 hb σ3 H3 S4 l3 on ls4 W7
    have ew : wipe σ3 vs = wipe σ vs := (wipe_only on).trans (wipe_wipe vs)
    refine ⟨ew, Z, S4, _, γ3, _, by rw [on.1]; omega, W7, hb, ?_⟩
    intro b γ4 hb4 l4 H4 S5 ls5 W8
    have l3' : γ3.length = γ1.length := by rw [l3, wipeC_len]; omega
    have turn : ∀ {S' H' : Hp} {γ' : Gm} {acc' : List O}, γ'.length = γ1.length → Le S1 S' → acc'.length ≤ i + 1 → World Z S' H' (σ3.zip γ' ++ (Rn (i + 1) ++ ((some (.ref D), some (.lst acc')) :: T))) → compV ag t f vs (os.drop (i + 1)) acc' (wipeC γ' vs) K →
        ∃ S2 γ2 acc, γ2.length = γ1.length ∧ Le S1 S2 ∧ acc.length ≤ i + 1 ∧ World Z S2 H' ((wipe σ vs).zip (wipeC γ2 vs) ++ (Rn (i + 1) ++ ((some (.ref D), some (.lst acc)) :: T))) ∧ compV ag t f vs (os.drop (i + 1)) acc (wipeC γ2 vs) K :=
      fun {S' H' γ' acc'} q1 q2 q3 q4 q5 => ⟨S', γ', acc', q1, q2, q3, by rw [← ew]; exact q4.wiped vs, q5⟩
    cases b with
    | false =>
      simp only [Bool.false_eq_true, if_false] at hb4 ⊢
      exact turn (by omega) (ls.trans (ls3.trans (ls4.trans ls5))) (by omega) W8 hb4
    | true =>
      simp only [if_true] at hb4 ⊢
      refine ⟨Z, S5, _, γ4, _, by rw [on.1]; omega, W8, hb4, ?_⟩
      intro o γ5 hb5 l5 v H5 S6 ls6 W9
      have W10 : World Z S6 H5 ((some v, some o) :: (some (.ref D), some (.lst acc)) :: (σ3.zip γ5 ++ (Rn (i + 1) ++ T))) := by
        refine W9.perm ?_
        refine List.perm_middle.trans (List.Perm.cons _ ?_)
        rw [← List.append_assoc, ← List.append_assoc]
        exact List.perm_middle
      obtain ⟨ws, hD5, lw, W11⟩ := W10.app
      refine ⟨ws, hD5, by rw [sizeLine_eq]; omega, ?_⟩
      refine turn (γ' := γ5) (acc' := acc ++ [o]) (by omega) (ls.trans (ls3.trans (ls4.trans (ls5.trans ls6)))) (by simp; omega) ?_ hb5
      refine W11.perm ?_
      rw [← List.append_assoc, ← List.append_assoc]
      exact List.perm_middle.symm
  · have e : i = os.length := by omega
    subst e
    rw [List.drop_length] at hv
    refine .inl ⟨src.stop Z S2 H2 _ (Le.refl Z) ls W4.mids, ?_⟩
    have W5 := World.unwiped (σ := σ) (by omega) W4
    refine P acc (wipeC γ2 vs) hv (by rw [wipeC_len]; exact l2) (.ref D) H2 S2 ls ?_
    have W6 := W5.dropMid
    have key : wipeC (wipeC γ2 vs) vs = wipeC γ2 vs := by
      clear hv W6 W5 W4 ll2
      refine List.ext_getElem? fun j => ?_
      by_cases q : j ∈ vs
      · have kk : ∀ (τ : Gm) (us : List Nat), j ∈ us → (wipeC τ us)[j]? = if j < τ.length then some none else none := fun τ us => by
          induction us with
          | nil => intro h; cases h
          | cons u us ih =>
            intro hm
            unfold wipeC
            by_cases e : u = j
            · subst e
              rw [List.getElem?_set_self']
              by_cases hh : u < τ.length
              · have : u < (wipeC τ us).length := by rw [wipeC_len]; exact hh
                rw [if_pos hh, List.getElem?_eq_getElem this]; rfl
              · have : ¬ u < (wipeC τ us).length := by rw [wipeC_len]; exact hh
                rw [if_neg hh, List.getElem?_eq_none (by omega)]; rfl
            · rw [List.getElem?_set_ne e]
              exact ih (by rcases List.mem_cons.mp hm with z | z; exact absurd z.symm e; exact z)
        rw [kk _ vs q, kk _ vs q, wipeC_len]
      · have kk : ∀ (τ : Gm) (us : List Nat), j ∉ us → (wipeC τ us)[j]? = τ[j]? := fun τ us => by
          induction us with
          | nil => intro _; rfl
          | cons u us ih =>
            intro hm
            simp at hm
            unfold wipeC
            rw [List.getElem?_set_ne (fun e => hm.1 e.symm)]
            exact ih hm.2
        rw [kk _ vs q]
    rw [key]
    exact W6
def vLc (f : OI) (ag : AG) (t : OT) (g : OE) (vs : List Nat) : OE := fun γ Q => f γ fun os γ1 => os.length ≤ 1000000 ∧ compV ag t g vs os [] (wipeC γ1 vs) fun acc γ2 => Q (.lst acc) (wipeC γ2 vs)
theorem je_lc {elt tg iter : Expr} {ifs : List Expr} {scope : Scope} {own : List (Str × Nat)} {pos : Pos} {f : OI} {ag : AG} {t : OT} {g : OE} (hc : X.calm = true) (hN : X.N.Nodup) (hi : JI X tg iter f) (ok : BlkOk X.N X.env.scope scope own)
    (hg : ∀ (s : Shared) (H : Hp) (C : Addr) (cl : List (Str × Addr)) (fp : List Addr), JG (own.map (·.2)) (X.blk s H scope (compEnvC scope cl C X.env) fp) tg ag) (ht : ∀ (s : Shared) (H : Hp) (C : Addr) (cl : List (Str × Addr)) (fp : List Addr), JTs (X.blk s H scope (compEnvC scope cl C X.env) fp) ifs t)
    (he : ∀ (s : Shared) (H : Hp) (C : Addr) (cl : List (Str × Addr)) (fp : List Addr), JE (X.blk s H scope (compEnvC scope cl C X.env) fp) elt g) (hs : ∀ x, foldedSetIterable iter X.env x = pure x := by intro _; rfl) :
    JE X (.ListComp elt [⟨tg, iter, ifs, 0⟩] scope pos) (vLc f ag t g (own.map (·.2))) := by
  refine PE.imp (pe_lc hc hN hi ok hg ht he hs) fun σ H Q hh => ?_
  obtain ⟨Z, S, T, γ, K, hl, W, hf, post⟩ := hh
  exact ⟨Z, S, T, γ, _, hl, W, hf, fun os γ1 ⟨hz, k⟩ l Jt H1 S1 Rn Z' ls lz src W1 => comp_core (by omega) W1 src hz k fun acc γ' kk l' v H' S' ls' W' => post _ _ kk (by rw [wipeC_len]; omega) v H' S' (ls.trans ls') (W'.unpin lz)⟩
/-- .. stored at once -/
theorem js_setLc {J : List Nat} {i : Nat} {y : Str} {py : Pos} {elt tg iter : Expr} {ifs : List Expr} {scope : Scope} {own : List (Str × Nat)} {pos spos : Pos} {f : OI} {ag : AG} {t : OT} {g : OE} (hc : X.calm = true) (hN : X.N.Nodup) (hy : X.N[i]? = some y) (hyl : X.env.scope.names.lookup y = some .local) (hJ : i ∉ J)
    (hsw : swapsWith (.ListComp elt [⟨tg, iter, ifs, 0⟩] scope pos) (some (.Name y py)) spos.line X.env = pure true) (hi : JI X tg iter f) (ok : BlkOk X.N X.env.scope scope own)
    (hg : ∀ (s : Shared) (H : Hp) (C : Addr) (cl : List (Str × Addr)) (fp : List Addr), JG (own.map (·.2)) (X.blk s H scope (compEnvC scope cl C X.env) fp) tg ag) (ht : ∀ (s : Shared) (H : Hp) (C : Addr) (cl : List (Str × Addr)) (fp : List Addr), JTs (X.blk s H scope (compEnvC scope cl C X.env) fp) ifs t)
    (he : ∀ (s : Shared) (H : Hp) (C : Addr) (cl : List (Str × Addr)) (fp : List Addr), JE (X.blk s H scope (compEnvC scope cl C X.env) fp) elt g) (hs : ∀ x, foldedSetIterable iter X.env x = pure x := by intro _; rfl) :
    JS J X (.Assign [.Name y py] (.ListComp elt [⟨tg, iter, ifs, 0⟩] scope pos) spos) (vAsg (vLc f ag t g (own.map (·.2))) (aName i)) := by
  refine PS.imp (ps_setLc hc hN hy hyl hsw hi ok hg ht he hs) fun D σ H hh => ?_
  obtain ⟨Z, S, T, γ, K, hl, W, hf, P⟩ := of_tS hh
  refine ⟨Z, S, T, γ, _, hl, W, hf, fun os γ1 ⟨hz, k⟩ l Jt H1 S1 Rn Z' ls lz src W1 => comp_core (Q := fun x H1 => gName i x σ H1 D.nx) (by omega) W1 src hz k ?_⟩
  rintro acc γ' ⟨hi, kk⟩ l' v H' S' ls' W'
  have on : Only [i] σ (σ.set i (some v)) := Only.set (by simp)
  exact P.nx _ kk _ H' S' (by rw [List.length_set, wipeC_len]; omega) (by rw [List.length_set, List.length_set, wipeC_len]; omega) (on.fix (by simpa using hJ)) (ls.trans ls') ((W'.unpin lz).store (by rw [wipeC_len]; omega) hi)
end
end FN
end
section
namespace FN
open PySem PySem.Spec L2
open PyProof.Rows hiding St

/-! ### classes as values, isinstance -/
section
variable {X : Cx}
theorem je_ty {x : Str} {n : String} {pos : Pos} (hg : Gl X x) (hm : X.mg x = none) (hv : bootBuiltins x = some (.type n)) (hn : x ≠ "__name__" := by decide) (hd : (x == ("__debug__" : Str)) = false := by decide) : JE X (.Name x pos) (oC (.ty n)) :=
  const_of (pe_bltn hg hm hv (v := .ty n) rfl hn hd) fun S => by unfold IsD; rfl
def tyD : D → Option String
  | .non => some "NoneType"
  | .bl _ => some "bool"
  | .int _ => some "int"
  | .str _ => some "str"
  | .lst _ => some "list"
  | .tup _ => some "tuple"
  | .dk _ => some "dict"
  | _ => none
def kIsi : BA := fun os K => ∃ o T n b, os = [o, .sh (.ty n)] ∧ o.noIns = true ∧ tyD o.er = some T ∧ kitB T n = some b ∧ K (.sh (.bl b))
theorem cal_isi {K0 : PySem.W.Frag} : Cal (rIsi K0) kIsi := by
  rintro Z S H vs os ps Q K ll W ⟨o, T, n, b, rfl, ni, ht, hb, hk⟩ post
  obtain ⟨v, w, rfl⟩ := ents2 ll
  have W0 : World Z S H ((some v, some o) :: (some w, some (.sh (.ty n))) :: ps) := W
  have hw := (W0.tail).isD
  unfold IsD at hw
  subst hw
  obtain ⟨S', ls, W', hv⟩ := one_er W0 ni
  have fin : Q (.bl b) H := post _ hk _ H S' ls (W'.tail.push (by unfold IsD; rfl))
  have sb := W'.sub
  refine ⟨v, .ty n, .type T, .type n, b, rfl, .ty n, ?_, kit_ty hb, fin⟩
  generalize o.er = d at *
  cases d <;> simp [tyD] at ht <;> subst ht <;> unfold IsD at hv
  · subst hv; exact .base .non
  · subst hv; exact .base (.bl _)
  · subst hv; exact .base (.int _)
  · subst hv; exact .base (.str _)
  · obtain ⟨a, vs, rfl, ha, _⟩ := hv; exact .base (.lst (sb.lst ha))
  · obtain ⟨a, vs, rfl, ha, _⟩ := hv; exact .base (.tup (sb.tup ha))
  · obtain ⟨a, vs, rfl, ha, _⟩ := hv
    rcases sb a _ ha with h | ⟨_, o', h⟩
    · exact .base (.dK h)
    · exact .fDict h
end
/-! ### chains -/
section
variable {X : Cx} {a b c : Expr} {f g h : OE} {pos : Pos}
def oChain (k k' : B2) (f g h : OE) : OE := fun γ Q => f γ fun x γ1 => g γ1 fun y γ2 => ∃ d, y = .sh d ∧ k x y fun z => ∃ t, z = .sh (.bl t) ∧ if t = true then h γ2 fun w γ3 => k' y w fun o => Q o γ3 else Q (.sh (.bl false)) γ2
theorem tChain_of {r r' : R2} {k k' : B2} (hk : Bin r k) (hk' : Bin r' k') {σ : L2.St} {H : Hp} {Q : VK} (hh : tE (oChain k k' f g h) σ H Q) : tChain r r' (tE f) (tE g) (tE h) σ H Q := by
  obtain ⟨Z, S, T, γ, K, hl, W, hh, post⟩ := hh
  refine ⟨Z, S, T, γ, _, hl, W, hh, fun ox γ1 h1 l1 x H1 S1 ls1 W1 => ?_⟩
  refine ⟨Z, S1, (some x, some ox) :: T, γ1, _, by omega, W1, h1, ?_⟩
  rintro oy γ2 ⟨d, rfl, h2⟩ l2 y H2 S2 ls2 W2
  have W3 : World Z S2 H2 ((some y, some (.sh d)) :: (some x, some ox) :: (σ.zip γ2 ++ T)) := W2.perm (List.perm_middle.trans (List.Perm.cons _ List.perm_middle))
  have hy := W3.isD
  refine hk Z S2 H2 x y ox _ (σ.zip γ2 ++ T) _ _ W3 h2 ?_
  rintro _ ⟨t, rfl, h3⟩ v H3 S3 ls3 W4
  refine ⟨t, bl_of W4, ?_⟩
  cases t with
  | false =>
    simp only [Bool.false_eq_true, if_false] at h3 ⊢
    exact post _ γ2 h3 (l2.trans l1) _ H3 S3 (ls1.trans (ls2.trans ls3)) (W4.tail.push (by unfold IsD; rfl)).unmid
  | true =>
    simp only [if_true] at h3 ⊢
    have W5 : World Z S3 H3 (σ.zip γ2 ++ (some y, some (.sh d)) :: T) := (W4.tail.push (IsD.mono ls3 _ _ hy)).unmid
    refine ⟨Z, S3, (some y, some (.sh d)) :: T, γ2, _, by omega, W5, h3, fun ow γ3 h4 l4 w H4 S4 ls4 W6 => ?_⟩
    have W7 : World Z S4 H4 ((some w, some ow) :: (some y, some (.sh d)) :: (σ.zip γ3 ++ T)) := W6.perm (List.perm_middle.trans (List.Perm.cons _ List.perm_middle))
    exact hk' Z S4 H4 y w _ ow (σ.zip γ3 ++ T) Q _ W7 h4 fun o ko v H' S' ls W' => post o γ3 ko (by omega) v H' S' (ls1.trans (ls2.trans (ls3.trans (ls4.trans ls)))) W'.unmid
theorem je_chain {op op' : CmpOp} {r r' : R2} {k k' : B2} (ho : OpR X (compareOp op) r) (ho' : OpR X (compareOp op') r') (hk : Bin r k) (hk' : Bin r' k') (ha : JE X a f) (hb : JE X b g) (hc : JE X c h)
    (hm : lastMarks [op, op'] [b, c] = false := by rfl) : JE X (.Compare a [op, op'] [b, c] pos) (oChain k k' f g h) :=
  PE.imp (pe_chain ho ho' ha hb hc hm) fun _ _ _ h => tChain_of hk hk' h
theorem jt_chain {op op' : CmpOp} {r r' : R2} {k k' : B2} (ho : OpR X (compareOp op) r) (ho' : OpR X (compareOp op') r') (hk : Bin r k) (hk' : Bin r' k') (ha : JE X a f) (hb : JE X b g) (hc : JE X c h)
    (hm : lastMarks [op, op'] [b, c] = false := by rfl) : JT X (.Compare a [op, op'] [b, c] pos) (oB (oChain k k' f g h)) :=
  PT.imp (pt_chain ho ho' ha hb hc hm) fun _ _ _ h => tTest_of (fun _ _ _ h => tChain_of hk hk' h) h
end
/-! ### slices -/
abbrev OP := Gm → (Option Int → Gm → Prop) → Prop
def tP (f : OP) : TO := fun σ H Q => ∃ (Z S : Hp) (T : List En) (γ : Gm) (K : Option Int → Gm → Prop), σ.length = γ.length ∧ World Z S H (σ.zip γ ++ T) ∧ f γ K ∧
  ∀ b γ', K b γ' → γ'.length = γ.length → ∀ H' S', Le S S' → World Z S' H' (σ.zip γ' ++ T) → Q b H'
def pNone : OP := fun γ Q => Q none γ
def pSome (f : OE) : OP := fun γ Q => f γ fun o γ1 => ∃ i, o = .sh (.int i) ∧ Q (some i) γ1
def cutD (xs : List D) (lo hi : Option Int) : List D := (xs.drop (HT.sIx xs.length 0 lo)).take (HT.sIx xs.length xs.length hi - HT.sIx xs.length 0 lo)
section
variable {X : Cx} {e : Expr} {lo hi : Option Expr} {f : OE} {g h : OP} {pos p2 : Pos}
theorem tPart_of {σ : L2.St} {H : Hp} {Q : Option Int → Hp → Prop} (hh : tP (pSome f) σ H Q) : tPart (tE f) σ H Q := by
  obtain ⟨Z, S, T, γ, K, hl, W, hh, post⟩ := hh
  refine ⟨Z, S, T, γ, _, hl, W, hh, ?_⟩
  rintro _ γ1 ⟨i, rfl, k⟩ l v H1 S1 ls W1
  have hv := W1.mid.isD
  unfold IsD at hv
  exact ⟨i, hv, post _ γ1 k l H1 S1 ls W1.mid.tail⟩
theorem tNo_of {σ : L2.St} {H : Hp} {Q : Option Int → Hp → Prop} (hh : tP pNone σ H Q) : tNoPart σ H Q := by
  obtain ⟨Z, S, T, γ, K, hl, W, hh, post⟩ := hh
  exact post _ γ hh rfl H S (Le.refl S) W
structure JP (X : Cx) (e : Option Expr) (g : OP) : Prop where
  po : ∃ t, L2.PO X e t ∧ ∀ σ H Q, tP g σ H Q → t σ H Q
theorem jp_none : JP X none pNone := ⟨_, po_none, fun _ _ _ h => tNo_of h⟩
theorem jp_some (he : JE X e f) : JP X (some e) (pSome f) := ⟨_, po_some he, fun _ _ _ h => tPart_of h⟩
def oSl (f : OE) (g h : OP) : OE := fun γ Q => f γ fun x γ1 => g γ1 fun i γ2 => h γ2 fun j γ3 => x.noIns = true ∧ ∃ l, x.er = .lst l ∧ Q (.lst ((cutD l i j).map O.sh)) γ3
theorem je_slice (he : JE X e f) (hl : JP X lo g) (hu : JP X hi h) : JE X (.Subscript e (.Slice lo hi none p2) pos) (oSl f g h) := by
  obtain ⟨tl, pl, il⟩ := hl.po
  obtain ⟨tu, pu, iu⟩ := hu.po
  refine PE.imp (pe_slice sl_list he pl pu) fun σ H Q hh => ?_
  obtain ⟨Z, S, T, γ, K, hl, W, hh, post⟩ := hh
  refine ⟨Z, S, T, γ, _, hl, W, hh, fun ox γ1 h1 l1 x H1 S1 ls1 W1 => ?_⟩
  refine il _ _ _ ⟨Z, S1, (some x, some ox) :: T, γ1, _, by omega, W1, h1, fun i γ2 h2 l2 H2 S2 ls2 W2 => ?_⟩
  refine iu _ _ _ ⟨Z, S2, (some x, some ox) :: T, γ2, _, by omega, W2, h2, ?_⟩
  rintro j γ3 ⟨ni, l, el, k⟩ l3 H3 S3 ls3 W3
  obtain ⟨S4, ls4, W4, hx⟩ := one_er W3.mid ni
  rw [el] at hx
  unfold IsD at hx
  obtain ⟨a, vs, rfl, ha, hd⟩ := hx
  refine ⟨a, vs, rfl, .inl (.inl (W4.sub.lst ha)), fun p hp => ?_⟩
  have hc : IsDs S4 (cutD l i j) (cutV vs i j) := by
    unfold cutD cutV
    rw [hd.len]
    exact (hd.drop _).take _
  exact post _ γ3 k (by omega) _ _ S4 (ls1.trans (ls2.trans (ls3.trans ls4))) (W4.newLs hc hp).unmid
/-- xs[::-1] -/
def oRev (f : OE) : OE := fun γ Q => f γ fun x γ1 => x.noIns = true ∧ ∃ l, x.er = .lst l ∧ Q (.lst (l.reverse.map O.sh)) γ1
theorem je_rev {k : Nat} {p1 p2 p3 pos : Pos} (he : JE X e f) : JE X (.Subscript e (.Slice none none (some (.UnaryOp .USub (.Constant (.int 1) k p1) p2)) p3) pos) (oRev f) := by
  refine PE.imp (pe_revL he) fun σ H Q hh => ?_
  obtain ⟨Z, S, T, γ, K, hl, W, hh, post⟩ := hh
  refine ⟨Z, S, T, γ, _, hl, W, hh, ?_⟩
  rintro ox γ1 ⟨ni, l, el, k⟩ l1 x H1 S1 ls1 W1
  obtain ⟨S4, ls4, W4, hx⟩ := one_er W1.mid ni
  rw [el] at hx
  unfold IsD at hx
  obtain ⟨a, vs, rfl, ha, hd⟩ := hx
  exact ⟨a, vs, rfl, .inl (.inl (W4.sub.lst ha)), fun p hp => post _ γ1 k l1 _ _ S4 (ls1.trans ls4) (W4.newLs hd.reverse hp).unmid⟩
/-- xs[::s], s 1 or -1 -/
def tStep (K : PySem.W.Frag) (te ts : TE) : TE := fun σ H Q => te σ H fun x H1 => ts σ H1 fun y H2 => ∃ i : Int, y = .int i ∧ ∃ a xs, x = .ref a ∧ SqL K H2 a xs ∧ ((i = 1 ∧ ∀ p, H2 p = none → Q (.ref p) (upd H2 p (.lst xs))) ∨ (i = -1 ∧ ∀ p, H2 p = none → Q (.ref p) (upd H2 p (.lst xs.reverse))))
theorem pick_one (its : List Value) : slicePick its.toArray none none (some 1) = its.toArray := by
  have h := slicePick_cut its none none
  unfold slicePick at h ⊢
  simp only [HT.sIx, List.drop_zero, Nat.sub_zero, List.take_length] at h
  exact h
theorem pe_step {s : Expr} {te ts : TE} {p3 pos : Pos} (he : PE X e te) (hst' : PE X s ts) : PE X (.Subscript e (.Slice none none (some s) p3) pos) (tStep X.K te ts) := by
  refine ⟨fun pins s0 σ H Q I h => ?_⟩
  refine Subscript_ (thn (he.run pins s0 σ H _ I h) fun v s1 ⟨x, H1, I1, r1, q1⟩ => ?_)
  refine wpAny_Slice (thn (po_none.run pins s1 σ H1 (fun o G => o = none ∧ G = H1) I1 ⟨rfl, rfl⟩) fun vl s2 ⟨l, H2, I2, pl, el, e2⟩ => ?_)
  subst el e2
  refine thn (po_none.run pins s2 σ H2 (fun o G => o = none ∧ G = H2) I2 ⟨rfl, rfl⟩) fun vu s3 ⟨u, H3, I3, pu, eu, e3⟩ => ?_
  subst eu e3
  have st1 := (po_some hst').run pins s3 σ H3 (fun o G => ∃ i : Int, o = some i ∧ ∃ a xs, x = .ref a ∧ SqL X.K G a xs ∧ ((i = 1 ∧ ∀ p, G p = none → Q (.ref p) (upd G p (.lst xs))) ∨ (i = -1 ∧ ∀ p, G p = none → Q (.ref p) (upd G p (.lst xs.reverse))))) I3
  have go : tPart ts σ H3 (fun o G => ∃ i : Int, o = some i ∧ ∃ a xs, x = .ref a ∧ SqL X.K G a xs ∧ ((i = 1 ∧ ∀ p, G p = none → Q (.ref p) (upd G p (.lst xs))) ∨ (i = -1 ∧ ∀ p, G p = none → Q (.ref p) (upd G p (.lst xs.reverse))))) := by
    unfold tPart
    unfold tStep at h
    have hx : (fun y G => ∃ i : Int, y = V.int i ∧ ∃ a xs, x = .ref a ∧ SqL X.K G a xs ∧ ((i = 1 ∧ ∀ p, G p = none → Q (.ref p) (upd G p (.lst xs))) ∨ (i = -1 ∧ ∀ p, G p = none → Q (.ref p) (upd G p (.lst xs.reverse))))) =
        (fun (y : V) (G : Hp) => ∃ i : Int, y = V.int i ∧ ∃ i' : Int, some i = some i' ∧ ∃ a xs, x = .ref a ∧ SqL X.K G a xs ∧ ((i' = 1 ∧ ∀ p, G p = none → Q (.ref p) (upd G p (.lst xs))) ∨ (i' = -1 ∧ ∀ p, G p = none → Q (.ref p) (upd G p (.lst xs.reverse))))) := by
      funext y G
      refine propext ⟨?_, ?_⟩
      · rintro ⟨i, e, r⟩; exact ⟨i, e, i, rfl, r⟩
      · rintro ⟨i, e, i', e', r⟩; cases e'; exact ⟨i, e, r⟩
    rw [← hx]
    exact q1
  refine thn (st1 go) fun vs s4 ⟨o, H4, I4, ps, i, eo, a, xs, ex, hx, q⟩ => ?_
  subst eo ex
  cases r1
  have I5 : Inv X pins σ H4 { s4 with heap := s4.heap.push { cls := .type "slice", data := .fields #[vl, vu, vs] } } := I4.kept (t' := s4.toks) fun b ob q => Heap.get?_push_of_some _ q
  obtain ⟨its, r, ht, hz⟩ := I5.list hx
  have hlen := r.length
  refine tail_any (ops := [.ref a, .ref s4.heap.objs.size]) ht.isList.typeIs (PySem.slot_list_getitem.lookup) ?_ (by with_unfolding_all rfl)
  have nz : (some i : Option Int) ≠ some 0 := by
    rcases q with ⟨rfl, _⟩ | ⟨rfl, _⟩ <;> decide
  refine wpAny_getItem_list_slice ht.isList (Heap.IsSliceOf.new _ vl vu vs) pl pu ps nz ?_ (by rw [List.size_toArray]; omega)
  rcases q with ⟨rfl, q⟩ | ⟨rfl, q⟩
  · rw [pick_one]
    exact ⟨.ref _, _, I5.laid (t' := s4.toks) (o := .lst xs) (fun b ob q => Heap.get?_push_of_some _ q) (Nat.le_refl _) ⟨hz, its, 0, r, Heap.get?_push_size _ rfl⟩, rfl, q _ (I5.hok.fresh (Nat.le_refl _))⟩
  · rw [PySem.W.krv_pick]
    exact ⟨.ref _, _, I5.laid (t' := s4.toks) (o := .lst xs.reverse) (fun b ob q => Heap.get?_push_of_some _ q) (Nat.le_refl _) ⟨by rw [List.length_reverse]; exact hz, _, 0, r.reverse, Heap.get?_push_size _ rfl⟩, rfl, q _ (I5.hok.fresh (Nat.le_refl _))⟩
def oStep (f g : OE) : OE := fun γ Q => f γ fun x γ1 => g γ1 fun y γ2 => x.noIns = true ∧ ∃ l i, x.er = .lst l ∧ y = .sh (.int i) ∧ (i = 1 ∨ i = -1) ∧ Q (.lst ((if i = 1 then l else l.reverse).map O.sh)) γ2
theorem je_step {s : Expr} {g : OE} {p3 pos : Pos} (he : JE X e f) (hs : JE X s g) : JE X (.Subscript e (.Slice none none (some s) p3) pos) (oStep f g) := by
  refine PE.imp (pe_step he hs) fun σ H Q hh => ?_
  obtain ⟨Z, S, T, γ, K, hl, W, hh, post⟩ := hh
  refine ⟨Z, S, T, γ, _, hl, W, hh, fun ox γ1 h1 l1 x H1 S1 ls1 W1 => ?_⟩
  refine ⟨Z, S1, (some x, some ox) :: T, γ1, _, by omega, W1, h1, ?_⟩
  rintro oy γ2 ⟨ni, l, i, el, rfl, hi, k⟩ l2 y H2 S2 ls2 W2
  have hy := W2.mid.isD
  unfold IsD at hy
  obtain ⟨S4, ls4, W4, hx⟩ := one_er W2.mid.tail.mid ni
  rw [el] at hx
  unfold IsD at hx
  obtain ⟨a, vs, rfl, ha, hd⟩ := hx
  refine ⟨i, hy, a, vs, rfl, .inl (.inl (W4.sub.lst ha)), ?_⟩
  rcases hi with rfl | rfl
  · exact .inl ⟨rfl, fun p hp => post _ γ2 k (by omega) _ _ S4 (ls1.trans (ls2.trans ls4)) (W4.newLs hd hp).unmid⟩
  · exact .inr ⟨rfl, fun p hp => post _ γ2 k (by omega) _ _ S4 (ls1.trans (ls2.trans ls4)) (W4.newLs hd.reverse hp).unmid⟩
end
/-! ### list(range(..)), tuple(range(..)) -/
abbrev OR := Gm → (Int → Int → Gm → Prop) → Prop
def rng1 (f : OE) : OR := fun γ Q => f γ fun o γ1 => ∃ n, o = .sh (.int n) ∧ Q 0 n γ1
def rng2 (f g : OE) : OR := fun γ Q => f γ fun o γ1 => g γ1 fun u γ2 => ∃ i j, o = .sh (.int i) ∧ u = .sh (.int j) ∧ Q i j γ2
def tR (f : OR) : L2.St → Hp → (Int → Int → Hp → Prop) → Prop := fun σ H Q => ∃ (Z S : Hp) (T : List En) (γ : Gm) (K : Int → Int → Gm → Prop), σ.length = γ.length ∧ World Z S H (σ.zip γ ++ T) ∧ f γ K ∧
  ∀ a b γ', K a b γ' → γ'.length = γ.length → ∀ H' S', Le S S' → World Z S' H' (σ.zip γ' ++ T) → Q a b H'
structure JR (X : Cx) (e : Expr) (f : OR) : Prop where
  pr : ∃ t, PRg X e t ∧ ∀ σ H Q, tR f σ H Q → t σ H Q
section
variable {X : Cx} {a b : Expr} {f g : OE} {p pos : Pos}
theorem jr_1 (hg : Gl X "range") (hm : X.mg "range" = none) (ha : JE X a f) (na : starEach [a] X.env = (false, eval a X.env) :: starEach [] X.env := by rfl) : JR X (.Call (.Name "range" p) [a] [] pos) (rng1 f) := by
  refine ⟨_, prg_1 hg hm ha na, fun σ H Q hh => ?_⟩
  obtain ⟨Z, S, T, γ, K, hl, W, hh, post⟩ := hh
  refine ⟨Z, S, T, γ, _, hl, W, hh, ?_⟩
  rintro _ γ1 ⟨n, rfl, k⟩ l v H1 S1 ls W1
  have hv := W1.mid.isD
  unfold IsD at hv
  exact ⟨n, hv, post _ _ γ1 k l H1 S1 ls W1.mid.tail⟩
theorem jr_2 (hg : Gl X "range") (hm : X.mg "range" = none) (ha : JE X a f) (hb : JE X b g) (na : starEach [a, b] X.env = (false, eval a X.env) :: starEach [b] X.env := by rfl)
    (nb : starEach [b] X.env = (false, eval b X.env) :: starEach [] X.env := by rfl) (hp : (backTo pos (starEach [b] X.env)).any (·.1) = false := by rfl) : JR X (.Call (.Name "range" p) [a, b] [] pos) (rng2 f g) := by
  refine ⟨_, prg_2 hg hm ha hb na nb hp, fun σ H Q hh => ?_⟩
  obtain ⟨Z, S, T, γ, K, hl, W, hh, post⟩ := hh
  refine ⟨Z, S, T, γ, _, hl, W, hh, fun o γ1 h1 l1 v H1 S1 ls1 W1 => ?_⟩
  refine ⟨Z, S1, (some v, some o) :: T, γ1, _, by omega, W1, h1, ?_⟩
  rintro _ γ2 ⟨i, j, rfl, rfl, k⟩ l2 w H2 S2 ls2 W2
  have hw := W2.mid.isD
  have hv := W2.mid.tail.mid.isD
  unfold IsD at hv hw
  exact ⟨i, j, hv, hw, post _ _ γ2 k (by omega) H2 S2 (ls1.trans ls2) W2.mid.tail.mid.tail⟩
def rgD (a b : Int) : List D := (List.range (b - a).toNat).map fun i => .int (a + (i : Nat))
theorem rgD_eq (a b : Int) : rgD a b = ((List.range (b - a).toNat).map fun i : Nat => a + (i : Nat)).map D.int := by simp [rgD]
theorem isDs_rg {S : Hp} (a b : Int) : IsDs S (rgD a b) (rgV a b) := by
  have h := isDs_ints (S := S) ((List.range (b - a).toNat).map fun i : Nat => a + (i : Nat))
  rw [rgD_eq]
  unfold rgV
  rw [List.map_map] at h ⊢
  rw [List.map_map] at h
  exact h
def oLR (f : OR) : OE := fun γ Q => f γ fun a b γ1 => 0 ≤ a ∧ a ≤ 1000000 ∧ 0 ≤ b ∧ b ≤ 1000000 ∧ Q (.lst ((rgD a b).map O.sh)) γ1
def oTR (f : OR) : OE := fun γ Q => f γ fun a b γ1 => 0 ≤ a ∧ a ≤ 1000000 ∧ 0 ≤ b ∧ b ≤ 1000000 ∧ Q (.tup ((rgD a b).map O.sh)) γ1
theorem je_listRg {e : Expr} {f : OR} (hc : X.calm = true) (hg : Gl X "list") (hm : X.mg "list" = none) (he : JR X e f) (na : starEach [e] X.env = (false, eval e X.env) :: starEach [] X.env := by rfl) : JE X (.Call (.Name "list" p) [e] [] pos) (oLR f) := by
  obtain ⟨t, ht, it⟩ := he.pr
  refine PE.imp (pe_listRg hc hg hm ht na) fun σ H Q hh => ?_
  obtain ⟨Z, S, T, γ, K, hl, W, hh, post⟩ := hh
  refine it _ _ _ ⟨Z, S, T, γ, _, hl, W, hh, ?_⟩
  rintro a b γ1 ⟨h1, h2, h3, h4, k⟩ l H1 S1 ls W1
  exact ⟨RgOk.of_le h1 (by omega) (by omega) h3, fun q hq => post _ γ1 k l _ _ S1 ls (W1.newLs (isDs_rg a b) hq).unmid⟩
theorem je_tupRg {e : Expr} {f : OR} (hc : X.calm = true) (hg : Gl X "tuple") (hm : X.mg "tuple" = none) (he : JR X e f) (na : starEach [e] X.env = (false, eval e X.env) :: starEach [] X.env := by rfl) : JE X (.Call (.Name "tuple" p) [e] [] pos) (oTR f) := by
  obtain ⟨t, ht, it⟩ := he.pr
  refine PE.imp (pe_tupRg hc hg hm ht na) fun σ H Q hh => ?_
  obtain ⟨Z, S, T, γ, K, hl, W, hh, post⟩ := hh
  refine it _ _ _ ⟨Z, S, T, γ, _, hl, W, hh, ?_⟩
  rintro a b γ1 ⟨h1, h2, h3, h4, k⟩ l H1 S1 ls W1
  exact ⟨RgOk.of_le h1 (by omega) (by omega) h3, fun q hq => post _ γ1 k l _ _ S1 ls (W1.newTs (isDs_rg a b) hq).unmid⟩
end
end FN
end
section
namespace FN
open PySem PySem.Spec L2
open PyProof.Rows hiding St

/-! ### footprints -/
def Pt0 (f g : List Addr) : Prop := ∃ r, g.Perm (f ++ r)
theorem Pt0.of_perm {f g : List Addr} (h : g.Perm f) : Pt0 f g := ⟨[], by simpa using h⟩
theorem Pt0.refl (f : List Addr) : Pt0 f f := .of_perm (.refl _)
theorem Pt0.trans {f g h : List Addr} (a : Pt0 f g) (b : Pt0 g h) : Pt0 f h := by
  obtain ⟨r, p⟩ := a
  obtain ⟨s, q⟩ := b
  exact ⟨r ++ s, q.trans (by rw [← List.append_assoc]; exact p.append_right s)⟩
theorem Pt0.nodup {f g : List Addr} (a : Pt0 f g) (n : g.Nodup) : f.Nodup := by
  obtain ⟨r, p⟩ := a
  exact (List.nodup_append.mp (p.nodup_iff.mp n)).1
theorem Pt0.mem {f g : List Addr} (a : Pt0 f g) {x : Addr} (h : x ∈ f) : x ∈ g := by
  obtain ⟨r, p⟩ := a
  exact p.mem_iff.mpr (List.mem_append_left _ h)
theorem Pt0.app {f f' g g' : List Addr} (a : Pt0 f f') (b : Pt0 g g') : Pt0 (f ++ g) (f' ++ g') := by
  obtain ⟨r, p⟩ := a
  obtain ⟨s, q⟩ := b
  refine ⟨r ++ s, (p.append q).trans ?_⟩
  rw [List.append_assoc, List.append_assoc]
  refine List.Perm.append_left f ?_
  rw [← List.append_assoc, ← List.append_assoc]
  exact List.perm_append_comm.append_right s
theorem Pt0.left (f g : List Addr) : Pt0 f (f ++ g) := ⟨g, .refl _⟩
theorem Pt0.right (f g : List Addr) : Pt0 g (f ++ g) := ⟨f, List.perm_append_comm⟩
theorem Pt0.comm (f g : List Addr) : Pt0 (f ++ g) (g ++ f) := .of_perm List.perm_append_comm
theorem ownP_app {S H : Hp} : ∀ (es ps : List En) (fp : List Addr), OwnP S H (es ++ ps) fp ↔ ∃ f1 f2, OwnP S H es f1 ∧ OwnP S H ps f2 ∧ fp = f1 ++ f2
  | [], ps, fp => ⟨fun h => ⟨[], fp, rfl, h, rfl⟩, fun ⟨f1, f2, h1, h2, e⟩ => by have h1' : f1 = [] := h1; subst h1'; rw [e]; exact h2⟩
  | (v, none) :: es, ps, fp => ownP_app es ps fp
  | (v, some o) :: es, ps, fp => by
    constructor
    · rintro ⟨u, f1, f2, e1, e2, e3, e4⟩
      obtain ⟨g1, g2, h1, h2, h3⟩ := (ownP_app es ps f2).mp e3
      exact ⟨f1 ++ g1, g2, ⟨u, f1, g1, e1, e2, h1, rfl⟩, h2, by rw [e4, h3, List.append_assoc]⟩
    · rintro ⟨f1, f2, ⟨u, g1, g2, e1, e2, e3, e4⟩, h2, e⟩
      exact ⟨u, g1, g2 ++ f2, e1, e2, (ownP_app es ps _).mpr ⟨g2, f2, e3, h2, rfl⟩, by rw [e, e4, List.append_assoc]⟩
section
variable {Z S H : Hp} {ps : List En}
/-- the entries at the front are told anew, in the same heap -/
theorem World.retell {es es' : List En} (W : World Z S H (es ++ ps)) (h : ∀ fp, OwnP S H es fp → ∃ fq, OwnP S H es' fq ∧ Pt0 fq fp) : World Z S H (es' ++ ps) := by
  obtain ⟨fp, x, n, k⟩ := W.own
  obtain ⟨f1, f2, h1, h2, e⟩ := (ownP_app es ps fp).mp x
  obtain ⟨fq, h3, sp⟩ := h f1 h1
  subst e
  have sp2 := sp.app (Pt0.refl f2)
  exact ⟨W.sub, W.pin, fq ++ f2, (ownP_app es' ps _).mpr ⟨fq, f2, h3, h2, rfl⟩, sp2.nodup n, fun a ha => k a (sp2.mem ha)⟩
/-- an owned object is written -/
theorem World.redo {es es' : List En} {D : Addr} {u : HO} (W : World Z S H (es ++ ps)) (h : ∀ fp, fp.Nodup → OwnP S H es fp → D ∈ fp ∧ ∃ fq, OwnP S (upd H D u) es' fq ∧ Pt0 fq fp) : World Z S (upd H D u) (es' ++ ps) := by
  obtain ⟨fp, x, n, k⟩ := W.own
  obtain ⟨f1, f2, h1, h2, e⟩ := (ownP_app es ps fp).mp x
  subst e
  obtain ⟨n1, n2, n3⟩ := List.nodup_append.mp n
  obtain ⟨hD, fq, h3, sp⟩ := h f1 n1 h1
  have sp2 := sp.app (Pt0.refl f2)
  have kD := k D (List.mem_append_left _ hD)
  refine ⟨fun b w e => ?_, fun b w e => ?_, fq ++ f2, (ownP_app es' ps _).mpr ⟨fq, f2, h3, OwnP.stay (Le.refl S) _ _ h2 fun b hb => upd_ne fun q => n3 D hD b hb q.symm, rfl⟩, sp2.nodup n, fun a ha => k a (sp2.mem ha)⟩
  · have ne : b ≠ D := fun z => by rw [z, kD.1] at e; cases e
    rw [upd_ne ne]; exact W.sub b w e
  · have ne : b ≠ D := fun z => by rw [z, kD.2] at e; cases e
    rw [upd_ne ne]; exact W.pin b w e
theorem World.lstAt {v : V} {l : List O} (W : World Z S H ((some v, some (.lst l)) :: ps)) : ∃ a vs, v = .ref a ∧ H a = some (.lst vs) ∧ vs.length = l.length := by
  obtain ⟨fp, ⟨u, f1, f2, e1, e2, _⟩, _⟩ := W.own
  cases e1
  unfold Own at e2
  obtain ⟨a, vs, f, h1, h2, h3, _⟩ := e2
  exact ⟨a, vs, h1, h2, OwnL.len _ _ _ h3⟩
theorem World.dkAt {v : V} {l : List (Key × O)} (W : World Z S H ((some v, some (.dk l)) :: ps)) : ∃ a vs, v = .ref a ∧ H a = some (.dK vs) := by
  obtain ⟨fp, ⟨u, f1, f2, e1, e2, _⟩, _⟩ := W.own
  cases e1
  unfold Own at e2
  obtain ⟨a, vs, f, h1, h2, h3, _⟩ := e2
  exact ⟨a, vs, h1, h2⟩
end
/-! ### parts of lists -/
section
variable {S H : Hp}
theorem OwnL.pull : ∀ {l : List O} {vs : List V} {fp : List Addr} {j : Nat} {o : O}, OwnL S H l vs fp → l[j]? = some o → ∃ u f1 f2, vs[j]? = some u ∧ Own S H o u f1 ∧ OwnL S H (l.set j (.raw u)) vs f2 ∧ fp.Perm (f1 ++ f2)
  | [], vs, fp, j, o, h, e => by simp at e
  | c :: l, vs, fp, 0, o, h, e => by
    unfold OwnL at h; obtain ⟨v, r, f1, f2, e1, e2, e3, e4⟩ := h
    simp at e; subst e
    refine ⟨v, f1, f2, by rw [e1]; rfl, e2, ?_, by rw [e4]⟩
    rw [List.set_cons_zero]; unfold OwnL
    exact ⟨v, r, [], f2, e1, by unfold Own; exact ⟨rfl, rfl⟩, e3, rfl⟩
  | c :: l, vs, fp, j + 1, o, h, e => by
    unfold OwnL at h; obtain ⟨v, r, f1, f2, e1, e2, e3, e4⟩ := h
    obtain ⟨u, g1, g2, h1, h2, h3, h4⟩ := OwnL.pull (j := j) (o := o) e3 (by simpa using e)
    refine ⟨u, g1, f1 ++ g2, by rw [e1]; simpa using h1, h2, ?_, ?_⟩
    · rw [List.set_cons_succ]; unfold OwnL
      exact ⟨v, r, f1, g2, e1, e2, h3, rfl⟩
    · rw [e4, ← List.append_assoc]
      refine (List.Perm.append_left f1 h4).trans ?_
      rw [← List.append_assoc]
      exact List.perm_append_comm.append_right g2
theorem OwnL.push : ∀ {l : List O} {vs : List V} {f2 f1 : List Addr} {j : Nat} {u : V} {o : O}, OwnL S H (l.set j (.raw u)) vs f2 → j < l.length → Own S H o u f1 → ∃ fp, OwnL S H (l.set j o) vs fp ∧ fp.Perm (f1 ++ f2)
  | [], vs, f2, f1, j, u, o, h, hj, ho => by simp at hj
  | c :: l, vs, f2, f1, 0, u, o, h, hj, ho => by
    rw [List.set_cons_zero] at h ⊢
    unfold OwnL at h; obtain ⟨v, r, g1, g2, e1, e2, e3, e4⟩ := h
    unfold Own at e2
    obtain ⟨e2, e5⟩ := e2
    subst e2 e5 e4
    refine ⟨f1 ++ f2, ?_, .refl _⟩
    unfold OwnL
    exact ⟨v, r, f1, f2, e1, ho, e3, rfl⟩
  | c :: l, vs, f2, f1, j + 1, u, o, h, hj, ho => by
    rw [List.set_cons_succ] at h ⊢
    unfold OwnL at h; obtain ⟨v, r, g1, g2, e1, e2, e3, e4⟩ := h
    obtain ⟨fp, h1, h2⟩ := OwnL.push e3 (by simpa using hj) ho
    refine ⟨g1 ++ fp, ?_, ?_⟩
    · unfold OwnL; exact ⟨v, r, g1, fp, e1, e2, h1, rfl⟩
    · rw [e4]
      refine (List.Perm.append_left g1 h2).trans ?_
      rw [← List.append_assoc, ← List.append_assoc]
      exact List.perm_append_comm.append_right g2
theorem OwnL.erase : ∀ {l : List O} {vs : List V} {fp : List Addr} {j : Nat} {o : O}, OwnL S H l vs fp → l[j]? = some o → ∃ u f1 f2, vs[j]? = some u ∧ Own S H o u f1 ∧ OwnL S H (l.eraseIdx j) (vs.eraseIdx j) f2 ∧ fp.Perm (f1 ++ f2)
  | [], vs, fp, j, o, h, e => by simp at e
  | c :: l, vs, fp, 0, o, h, e => by
    unfold OwnL at h; obtain ⟨v, r, f1, f2, e1, e2, e3, e4⟩ := h
    simp at e; subst e
    exact ⟨v, f1, f2, by rw [e1]; rfl, e2, by rw [e1, List.eraseIdx_cons_zero, List.eraseIdx_cons_zero]; exact e3, by rw [e4]⟩
  | c :: l, vs, fp, j + 1, o, h, e => by
    unfold OwnL at h; obtain ⟨v, r, f1, f2, e1, e2, e3, e4⟩ := h
    obtain ⟨u, g1, g2, h1, h2, h3, h4⟩ := OwnL.erase (j := j) (o := o) e3 (by simpa using e)
    refine ⟨u, g1, f1 ++ g2, by rw [e1]; simpa using h1, h2, ?_, ?_⟩
    · rw [e1, List.eraseIdx_cons_succ, List.eraseIdx_cons_succ]; unfold OwnL
      exact ⟨v, _, f1, g2, rfl, e2, h3, rfl⟩
    · rw [e4, ← List.append_assoc]
      refine (List.Perm.append_left f1 h4).trans ?_
      rw [← List.append_assoc]
      exact List.perm_append_comm.append_right g2
theorem OwnL.put : ∀ {l : List O} {vs : List V} {fp f1 : List Addr} {j : Nat} {u : V} {o : O}, OwnL S H l vs fp → j < l.length → Own S H o u f1 → ∃ fq, OwnL S H (l.set j o) (vs.set j u) fq ∧ Pt0 fq (f1 ++ fp)
  | [], vs, fp, f1, j, u, o, h, hj, ho => by simp at hj
  | c :: l, vs, fp, f1, 0, u, o, h, hj, ho => by
    unfold OwnL at h; obtain ⟨v, r, g1, g2, e1, e2, e3, e4⟩ := h
    refine ⟨f1 ++ g2, ?_, ?_⟩
    · rw [e1, List.set_cons_zero, List.set_cons_zero]; unfold OwnL
      exact ⟨u, r, f1, g2, rfl, ho, e3, rfl⟩
    · rw [e4]; exact (Pt0.refl f1).app (Pt0.right g1 g2)
  | c :: l, vs, fp, f1, j + 1, u, o, h, hj, ho => by
    unfold OwnL at h; obtain ⟨v, r, g1, g2, e1, e2, e3, e4⟩ := h
    obtain ⟨fq, h1, h2⟩ := OwnL.put (j := j) e3 (by simpa using hj) ho
    refine ⟨g1 ++ fq, ?_, ?_⟩
    · rw [e1, List.set_cons_succ, List.set_cons_succ]; unfold OwnL
      exact ⟨v, _, g1, fq, rfl, e2, h1, rfl⟩
    · rw [e4]
      refine ((Pt0.refl g1).app h2).trans ?_
      rw [← List.append_assoc, ← List.append_assoc]
      exact (Pt0.comm g1 f1).app (Pt0.refl g2)
end
/-! ### parts of dicts -/
def valR {κ α : Type} [DecidableEq κ] : List (κ × α) → κ → Option α
  | [], _ => none
  | (k', v) :: l, k => if k' = k then some v else valR l k
def putR {κ α : Type} [DecidableEq κ] : List (κ × α) → κ → α → List (κ × α)
  | [], k, v => [(k, v)]
  | (k', w) :: l, k, v => if k' = k then (k', v) :: l else (k', w) :: putR l k v
theorem valR_eq {κ α : Type} [DecidableEq κ] (k : κ) : ∀ l : List (κ × α), valD l k = valR l k
  | [] => rfl
  | (k', v) :: l => by
    unfold valR
    by_cases q : k' = k
    · simp [valD, List.find?_cons, q]
    · rw [if_neg q, ← valR_eq k l]; simp [valD, List.find?_cons, q]
theorem valV_eq {κ : Type} [DecidableEq κ] (k : κ) (l : List (κ × V)) : valV l k = valR l k := valR_eq k l
theorem putK_nomem {κ : Type} [DecidableEq κ] {k : κ} {v : V} : ∀ {l : List (κ × V)}, k ∉ l.map (·.1) → l.map (fun kv => if kv.1 = k then (kv.1, v) else kv) = l
  | [], _ => rfl
  | (k', w) :: l, h => by
    simp at h
    rw [List.map_cons, putK_nomem (by simpa using h.2), if_neg (fun e : k' = k => h.1 e.symm)]
theorem putK_eq {κ : Type} [DecidableEq κ] (k : κ) (v : V) : ∀ {l : List (κ × V)}, (l.map (·.1)).Nodup → putK l k v = putR l k v
  | [], _ => rfl
  | (k', w) :: l, n => by
    have n2 := List.nodup_cons.mp (by simpa using n : (k' :: l.map (·.1)).Nodup)
    by_cases q : k' = k
    · subst q
      unfold putK putR
      rw [if_pos (by simp), if_pos rfl, List.map_cons, if_pos rfl, putK_nomem n2.1]
    · have ih := putK_eq k v n2.2
      unfold putR
      rw [if_neg q, ← ih]
      unfold putK
      rw [List.any_cons]
      by_cases h : (l.any fun kv => decide (kv.1 = k)) = true
      · rw [if_pos (by simp [h]), if_pos h, List.map_cons, if_neg q]
      · rw [if_neg (by simp [q]; simpa using h), if_neg h]; rfl
theorem putR_keys {κ α : Type} [DecidableEq κ] (k : κ) (v : α) : ∀ l : List (κ × α), (putR l k v).map (·.1) = if k ∈ l.map (·.1) then l.map (·.1) else l.map (·.1) ++ [k]
  | [] => rfl
  | (k', w) :: l => by
    unfold putR
    by_cases q : k' = k
    · subst q; simp
    · rw [if_neg q, List.map_cons, putR_keys k v l]
      have : ¬ k = k' := fun e => q e.symm
      by_cases h : k ∈ l.map (·.1)
      · rw [if_pos h, if_pos (by simp at h ⊢; exact .inr h)]; rfl
      · rw [if_neg h, if_neg (by simp at h ⊢; exact ⟨this, h⟩)]; rfl
theorem putR_nodup {κ α : Type} [DecidableEq κ] {k : κ} {v : α} {l : List (κ × α)} (n : (l.map (·.1)).Nodup) : ((putR l k v).map (·.1)).Nodup := by
  rw [putR_keys]
  split
  · exact n
  · rename_i h
    exact List.nodup_append.mpr ⟨n, by simp, fun a ha b hb e => by simp at hb; subst hb; subst e; exact h ha⟩
theorem putR_len {κ α : Type} [DecidableEq κ] (k : κ) (v : α) : ∀ l : List (κ × α), (putR l k v).length ≤ l.length + 1
  | [] => by simp [putR]
  | (k', w) :: l => by
    unfold putR
    by_cases q : k' = k
    · rw [if_pos q]; simp
    · rw [if_neg q]; simp; exact putR_len k v l
section
variable {S H : Hp}
theorem OwnK.keys : ∀ {l : List (Key × O)} {vs : List (Key × V)} {fp : List Addr}, OwnK S H l vs fp → vs.map (·.1) = l.map (·.1)
  | [], vs, fp, h => by unfold OwnK at h; rw [h.1]; rfl
  | (k, o) :: l, vs, fp, h => by
    unfold OwnK at h; obtain ⟨v, r, f1, f2, e1, e2, e3, e4⟩ := h
    rw [e1, List.map_cons, List.map_cons, OwnK.keys e3]
theorem OwnK.put : ∀ {l : List (Key × O)} {vs : List (Key × V)} {fp f1 : List Addr} {k : Key} {u : V} {o : O}, OwnK S H l vs fp → Own S H o u f1 → ∃ fq, OwnK S H (putR l k o) (putR vs k u) fq ∧ Pt0 fq (f1 ++ fp)
  | [], vs, fp, f1, k, u, o, h, ho => by
    unfold OwnK at h; obtain ⟨e1, e2⟩ := h
    subst e1 e2
    refine ⟨f1, ?_, Pt0.left _ _⟩
    unfold putR OwnK
    exact ⟨u, [], f1, [], rfl, ho, by unfold OwnK; exact ⟨rfl, rfl⟩, by simp⟩
  | (k', c) :: l, vs, fp, f1, k, u, o, h, ho => by
    unfold OwnK at h; obtain ⟨v, r, g1, g2, e1, e2, e3, e4⟩ := h
    subst e1
    by_cases q : k' = k
    · refine ⟨f1 ++ g2, ?_, by rw [e4]; exact (Pt0.refl f1).app (Pt0.right g1 g2)⟩
      unfold putR
      rw [if_pos q, if_pos q]; unfold OwnK
      exact ⟨u, r, f1, g2, rfl, ho, e3, rfl⟩
    · obtain ⟨fq, h1, h2⟩ := OwnK.put (k := k) e3 ho
      refine ⟨g1 ++ fq, ?_, ?_⟩
      · unfold putR
        rw [if_neg q, if_neg q]; unfold OwnK
        exact ⟨v, _, g1, fq, rfl, e2, h1, rfl⟩
      · rw [e4]
        refine ((Pt0.refl g1).app h2).trans ?_
        rw [← List.append_assoc, ← List.append_assoc]
        exact (Pt0.comm g1 f1).app (Pt0.refl g2)
theorem OwnK.pull : ∀ {l : List (Key × O)} {vs : List (Key × V)} {fp : List Addr} {k : Key} {o : O}, OwnK S H l vs fp → valR l k = some o → ∃ u f1 f2, valR vs k = some u ∧ Own S H o u f1 ∧ OwnK S H (putR l k (.raw u)) vs f2 ∧ fp.Perm (f1 ++ f2)
  | [], vs, fp, k, o, h, e => by simp [valR] at e
  | (k', c) :: l, vs, fp, k, o, h, e => by
    unfold OwnK at h; obtain ⟨v, r, g1, g2, e1, e2, e3, e4⟩ := h
    subst e1
    unfold valR at e
    by_cases q : k' = k
    · rw [if_pos q] at e; cases e
      refine ⟨v, g1, g2, by unfold valR; rw [if_pos q], e2, ?_, by rw [e4]⟩
      unfold putR; rw [if_pos q]; unfold OwnK
      exact ⟨v, r, [], g2, rfl, by unfold Own; exact ⟨rfl, rfl⟩, e3, rfl⟩
    · rw [if_neg q] at e
      obtain ⟨u, f1, f2, h1, h2, h3, h4⟩ := OwnK.pull e3 e
      refine ⟨u, f1, g1 ++ f2, by unfold valR; rw [if_neg q]; exact h1, h2, ?_, ?_⟩
      · unfold putR; rw [if_neg q]; unfold OwnK
        exact ⟨v, r, g1, f2, rfl, e2, h3, rfl⟩
      · rw [e4, ← List.append_assoc]
        refine (List.Perm.append_left g1 h4).trans ?_
        rw [← List.append_assoc]
        exact List.perm_append_comm.append_right f2
theorem OwnK.push : ∀ {l : List (Key × O)} {vs : List (Key × V)} {f2 f1 : List Addr} {k : Key} {u : V} {o : O}, OwnK S H (putR l k (.raw u)) vs f2 → Own S H o u f1 → ∃ fp, OwnK S H (putR l k o) vs fp ∧ fp.Perm (f1 ++ f2)
  | [], vs, f2, f1, k, u, o, h, ho => by
    unfold putR OwnK at h; obtain ⟨v, r, g1, g2, e1, e2, e3, e4⟩ := h
    unfold Own at e2
    obtain ⟨e2, e5⟩ := e2
    subst e2 e5 e4
    unfold OwnK at e3
    obtain ⟨e6, e7⟩ := e3
    subst e6 e7 e1
    refine ⟨f1, ?_, by simp⟩
    unfold putR OwnK
    exact ⟨_, [], f1, [], rfl, ho, by unfold OwnK; exact ⟨rfl, rfl⟩, by simp⟩
  | (k', c) :: l, vs, f2, f1, k, u, o, h, ho => by
    unfold putR at h ⊢
    by_cases q : k' = k
    · rw [if_pos q] at h ⊢
      unfold OwnK at h; obtain ⟨v, r, g1, g2, e1, e2, e3, e4⟩ := h
      unfold Own at e2
      obtain ⟨e2, e5⟩ := e2
      subst e2 e5 e4 e1
      refine ⟨f1 ++ f2, ?_, .refl _⟩
      unfold OwnK
      exact ⟨_, r, f1, f2, rfl, ho, e3, rfl⟩
    · rw [if_neg q] at h ⊢
      unfold OwnK at h; obtain ⟨v, r, g1, g2, e1, e2, e3, e4⟩ := h
      obtain ⟨fp, h1, h2⟩ := OwnK.push e3 ho
      refine ⟨g1 ++ fp, ?_, ?_⟩
      · unfold OwnK; exact ⟨v, r, g1, fp, e1, e2, h1, rfl⟩
      · rw [e4]
        refine (List.Perm.append_left g1 h2).trans ?_
        rw [← List.append_assoc, ← List.append_assoc]
        exact List.perm_append_comm.append_right g2
end
/-- the part of a container at a key, and another one there -/
def getO : O → D → Option O
  | .lst l, .int i => atI l i
  | .tup l, .int i => atI l i
  | .dk l, d => (isKey d).bind (valR l)
  | _, _ => none
def setO (c : O) (d : D) (o : O) : O := match c with
  | .lst l => (match d with | .int i => (match ixN l.length i with | some j => .lst (l.set j o) | none => c) | _ => c)
  | .tup l => (match d with | .int i => (match ixN l.length i with | some j => .tup (l.set j o) | none => c) | _ => c)
  | .dk l => (match isKey d with | some k => .dk (putR l k o) | none => c)
  | _ => c
theorem atI_some {α : Type} {l : List α} {i : Int} {o : α} (h : atI l i = some o) : ∃ j, ixN l.length i = some j ∧ l[j]? = some o := by
  unfold atI at h
  cases e : ixN l.length i with
  | none => rw [e] at h; cases h
  | some j => rw [e] at h; exact ⟨j, rfl, by simpa using h⟩
/-- what stands at x[y] -/
def SubAt (H : Hp) (a : Addr) (y u : V) : Prop :=
  (∃ vs i, y = .int i ∧ H a = some (.lst vs) ∧ atI vs i = some u) ∨ (∃ vs i, y = .int i ∧ H a = some (.tup vs) ∧ atI vs i = some u) ∨ ∃ vs k, y = kV k ∧ H a = some (.dK vs) ∧ valV vs k = some u
theorem World.pull {Z S H : Hp} {v : V} {c o : O} {d : D} {ps : List En} (W : World Z S H ((some v, some c) :: ps)) (h : getO c d = some o) :
    ∃ a u, v = .ref a ∧ (∀ S' y, IsD S' d y → SubAt H a y u) ∧ World Z S H ((some u, some o) :: (some v, some (setO c d (.raw u))) :: ps) := by
  obtain ⟨fp, ⟨w, f1, f2, e1, e2, _⟩, _⟩ := id W.own
  cases e1
  unfold getO at h
  split at h
  · rename_i l i
    obtain ⟨j, hj, ho⟩ := atI_some h
    unfold Own at e2
    obtain ⟨a, vs, f, h1, h2, h3, h4⟩ := e2
    have ll := OwnL.len _ _ _ h3
    obtain ⟨u, g1, g2, q1, q2, q3, q4⟩ := OwnL.pull h3 ho
    refine ⟨a, u, h1, fun S' y hy => .inl ⟨vs, i, by unfold IsD at hy; exact hy, h2, by unfold atI; rw [ll, hj]; exact q1⟩, ?_⟩
    refine World.retell (es := [(some v, some (.lst l))]) (es' := [(some u, some o), (some v, some (setO (.lst l) (.int i) (.raw u)))]) W ?_
    rintro fp ⟨w', f1', f2', x1, x2, x3, x4⟩
    cases x1
    have x3' : f2' = [] := x3
    subst x3' x4
    unfold Own at x2
    obtain ⟨a', vs', f', y1, y2, y3, y4⟩ := x2
    subst h1; cases y1
    rw [h2] at y2; cases y2
    obtain ⟨u', g1', g2', z1, z2, z3, z4⟩ := OwnL.pull y3 ho
    rw [q1] at z1; cases z1
    refine ⟨g1' ++ ((a :: g2') ++ []), ⟨u, g1', (a :: g2') ++ [], rfl, z2, ⟨.ref a, a :: g2', [], rfl, ?_, rfl, rfl⟩, rfl⟩, .of_perm ?_⟩
    · unfold setO
      simp only [hj]
      unfold Own
      exact ⟨a, vs, g2', rfl, h2, z3, rfl⟩
    · rw [y4, List.append_nil, List.append_nil]
      exact (List.Perm.cons _ z4).trans List.perm_middle.symm
  · rename_i l i
    obtain ⟨j, hj, ho⟩ := atI_some h
    unfold Own at e2
    obtain ⟨a, vs, f, h1, h2, h3, h4⟩ := e2
    have ll := OwnL.len _ _ _ h3
    obtain ⟨u, g1, g2, q1, q2, q3, q4⟩ := OwnL.pull h3 ho
    refine ⟨a, u, h1, fun S' y hy => .inr (.inl ⟨vs, i, by unfold IsD at hy; exact hy, h2, by unfold atI; rw [ll, hj]; exact q1⟩), ?_⟩
    refine World.retell (es := [(some v, some (.tup l))]) (es' := [(some u, some o), (some v, some (setO (.tup l) (.int i) (.raw u)))]) W ?_
    rintro fp ⟨w', f1', f2', x1, x2, x3, x4⟩
    cases x1
    have x3' : f2' = [] := x3
    subst x3' x4
    unfold Own at x2
    obtain ⟨a', vs', f', y1, y2, y3, y4⟩ := x2
    subst h1; cases y1
    rw [h2] at y2; cases y2
    obtain ⟨u', g1', g2', z1, z2, z3, z4⟩ := OwnL.pull y3 ho
    rw [q1] at z1; cases z1
    refine ⟨g1' ++ ((a :: g2') ++ []), ⟨u, g1', (a :: g2') ++ [], rfl, z2, ⟨.ref a, a :: g2', [], rfl, ?_, rfl, rfl⟩, rfl⟩, .of_perm ?_⟩
    · unfold setO
      simp only [hj]
      unfold Own
      exact ⟨a, vs, g2', rfl, h2, z3, rfl⟩
    · rw [y4, List.append_nil, List.append_nil]
      exact (List.Perm.cons _ z4).trans List.perm_middle.symm
  · rename_i l
    obtain ⟨k, hk, ho⟩ := Option.bind_eq_some_iff.mp h
    unfold Own at e2
    obtain ⟨a, vs, f, h1, h2, h3, h4, h5⟩ := e2
    obtain ⟨u, g1, g2, q1, q2, q3, q4⟩ := OwnK.pull h3 ho
    refine ⟨a, u, h1, fun S' y hy => .inr (.inr ⟨vs, k, isKey_v hy hk, h2, by rw [valV_eq]; exact q1⟩), ?_⟩
    refine World.retell (es := [(some v, some (.dk l))]) (es' := [(some u, some o), (some v, some (setO (.dk l) d (.raw u)))]) W ?_
    rintro fp ⟨w', f1', f2', x1, x2, x3, x4⟩
    cases x1
    have x3' : f2' = [] := x3
    subst x3' x4
    unfold Own at x2
    obtain ⟨a', vs', f', y1, y2, y3, y4, y5⟩ := x2
    subst h1; cases y1
    rw [h2] at y2; cases y2
    obtain ⟨u', g1', g2', z1, z2, z3, z4⟩ := OwnK.pull y3 ho
    rw [q1] at z1; cases z1
    refine ⟨g1' ++ ((a :: g2') ++ []), ⟨u, g1', (a :: g2') ++ [], rfl, z2, ⟨.ref a, a :: g2', [], rfl, ?_, rfl, rfl⟩, rfl⟩, .of_perm ?_⟩
    · unfold setO
      simp only [hk]
      unfold Own
      exact ⟨a, vs, g2', rfl, h2, z3, rfl, putR_nodup y5⟩
    · rw [y4, List.append_nil, List.append_nil]
      exact (List.Perm.cons _ z4).trans List.perm_middle.symm
  · cases h
theorem World.push2 {Z S H : Hp} {v u : V} {c o o' : O} {d : D} {ps : List En} (h : getO c d = some o) (W : World Z S H ((some u, some o') :: (some v, some (setO c d (.raw u))) :: ps)) : World Z S H ((some v, some (setO c d o')) :: ps) := by
  refine World.retell (es := [(some u, some o'), (some v, some (setO c d (.raw u)))]) (es' := [(some v, some (setO c d o'))]) W ?_
  rintro fp ⟨w', f1, f2, x1, x2, ⟨w2, g1, g2, x3, x4, x5, x6⟩, x7⟩
  cases x1; cases x3
  have x5' : g2 = [] := x5
  subst x5' x6 x7
  unfold getO at h
  split at h
  · rename_i l i
    obtain ⟨j, hj, ho⟩ := atI_some h
    have hlt := (List.getElem?_eq_some_iff.mp ho).1
    unfold setO at x4 ⊢
    simp only [hj] at x4 ⊢
    unfold Own at x4
    obtain ⟨a, vs, f, y1, y2, y3, y4⟩ := x4
    obtain ⟨fq, z1, z2⟩ := OwnL.push y3 hlt x2
    refine ⟨a :: fq ++ [], ⟨v, a :: fq, [], rfl, by unfold Own; exact ⟨a, vs, fq, y1, y2, z1, rfl⟩, rfl, rfl⟩, .of_perm ?_⟩
    rw [y4, List.append_nil, List.append_nil]
    exact List.perm_middle.trans (List.Perm.cons _ z2.symm)
  · rename_i l i
    obtain ⟨j, hj, ho⟩ := atI_some h
    have hlt := (List.getElem?_eq_some_iff.mp ho).1
    unfold setO at x4 ⊢
    simp only [hj] at x4 ⊢
    unfold Own at x4
    obtain ⟨a, vs, f, y1, y2, y3, y4⟩ := x4
    obtain ⟨fq, z1, z2⟩ := OwnL.push y3 hlt x2
    refine ⟨a :: fq ++ [], ⟨v, a :: fq, [], rfl, by unfold Own; exact ⟨a, vs, fq, y1, y2, z1, rfl⟩, rfl, rfl⟩, .of_perm ?_⟩
    rw [y4, List.append_nil, List.append_nil]
    exact List.perm_middle.trans (List.Perm.cons _ z2.symm)
  · rename_i l
    obtain ⟨k, hk, ho⟩ := Option.bind_eq_some_iff.mp h
    unfold setO at x4 ⊢
    simp only [hk] at x4 ⊢
    unfold Own at x4
    obtain ⟨a, vs, f, y1, y2, y3, y4, y5⟩ := x4
    obtain ⟨fq, z1, z2⟩ := OwnK.push y3 x2
    have kk : (putR l k o').map (·.1) = (putR l k (.raw u)).map (·.1) := by rw [putR_keys, putR_keys]
    refine ⟨a :: fq ++ [], ⟨v, a :: fq, [], rfl, by unfold Own; exact ⟨a, vs, fq, y1, y2, z1, rfl, by rw [kk]; exact y5⟩, rfl, rfl⟩, .of_perm ?_⟩
    rw [y4, List.append_nil, List.append_nil]
    exact List.perm_middle.trans (List.Perm.cons _ z2.symm)
  · cases h
end FN
end
section
namespace FN
open PySem PySem.Spec L2
open PyProof.Rows hiding St

/-! ### places within an owned thing -/
def getP (c : O) : List D → Option O
  | [] => some c
  | d :: ds => (getO c d).bind fun o => getP o ds
def setP (c : O) : List D → O → O
  | [], o => o
  | d :: ds, o => match getO c d with
    | some c1 => setO c d (setP c1 ds o)
    | none => c
theorem getP_snoc : ∀ (ds : List D) (c : O) (d : D), getP c (ds ++ [d]) = (getP c ds).bind fun o => getO o d
  | [], c, d => by show (getO c d).bind (fun o => getP o []) = getO c d; cases getO c d <;> rfl
  | e :: ds, c, d => by
    show (getO c e).bind (fun o => getP o (ds ++ [d])) = ((getO c e).bind fun o => getP o ds).bind fun o => getO o d
    cases getO c e with
    | none => rfl
    | some c1 => exact getP_snoc ds c1 d
theorem setP_snoc : ∀ (ds : List D) (c c1 : O) (d : D) (o : O), getP c ds = some c1 → (∃ x, getO c1 d = some x) → setP c (ds ++ [d]) o = setP c ds (setO c1 d o)
  | [], c, c1, d, o, h, ⟨x, hx⟩ => by
    have h : some c = some c1 := h
    cases h
    show (match getO c d with | some c1 => setO c d (setP c1 [] o) | none => c) = setO c d o
    rw [hx]; rfl
  | e :: ds, c, c1, d, o, h, hx => by
    have h : (getO c e).bind (fun o => getP o ds) = some c1 := h
    cases q : getO c e with
    | none => rw [q] at h; cases h
    | some c2 =>
      rw [q] at h
      show (match getO c e with | some c1 => setO c e (setP c1 (ds ++ [d]) o) | none => c) = (match getO c e with | some c2 => setO c e (setP c2 ds (setO c1 d o)) | none => c)
      rw [q]
      simp only []
      rw [setP_snoc ds c2 c1 d o h hx]
/-- an index that reads alone -/
structure JX (X : Cx) (e : Expr) (h : Gm → D → Prop) : Prop where
  pe : PE X e (fun σ H Q => ∃ (Z S : Hp) (T : List En) (γ : Gm) (d : D), σ.length = γ.length ∧ World Z S H (σ.zip γ ++ T) ∧ h γ d ∧ ∀ v, IsD S d v → Q v H)
def xInt (i : Int) : Gm → D → Prop := fun _ d => d = .int i
def xN (j : Nat) : Gm → D → Prop := fun γ d => γ[j]? = some (some (.sh d))
/-- behind the thing at a place: what holds it, and how it is all put back -/
def Plug (i : Nat) (σ : L2.St) (c : O) (ds : List D) (u : V) (hs : List En) : Prop :=
  ∀ (σ' : L2.St) (o' : O) (Z S H : Hp) (γ' : Gm) (T' : List En), σ'[i]? = σ[i]? → σ'.length = γ'.length → i < γ'.length → World Z S H ((some u, some o') :: (hs ++ (σ'.zip γ' ++ T'))) → World Z S H (σ'.zip (γ'.set i (some (setP c ds o'))) ++ T')
def tLoc (i : Nat) (P : Gm → List D → Prop) : TE := fun σ H Q => ∃ (Z S : Hp) (T : List En) (γ : Gm) (ds : List D) (c o : O), σ.length = γ.length ∧ World Z S H (σ.zip γ ++ T) ∧ P γ ds ∧ γ[i]? = some (some c) ∧ getP c ds = some o ∧
  ∀ u hs, World Z S H ((some u, some o) :: (hs ++ (σ.zip (γ.set i none) ++ T))) → Plug i σ c ds u hs → Q u H
structure JLoc (X : Cx) (e : Expr) (i : Nat) (P : Gm → List D → Prop) : Prop where
  pe : PE X e (tLoc i P)
section
variable {X : Cx} {pos : Pos}
theorem jx_int {i : Int} {j : Nat} : JX X (.Constant (.int i) j pos) (xInt i) := ⟨PE.imp pe_int fun σ H Q ⟨Z, S, T, γ, d, hl, W, hd, post⟩ => post _ (by rw [hd]; unfold IsD; rfl)⟩
theorem jx_n (j : Nat) {x : Str} (hN : X.N[j]? = some x := by rfl) (hv : Vis X.env.scope x := by first | exact Or.inl rfl | exact Or.inr (Or.inl rfl) | exact Or.inr (Or.inr rfl)) (hd : (x == ("__debug__" : Str)) = false := by decide)
    (hcd : (x == ("__classdict__" : Str)) = false := by decide) : JX X (.Name x pos) (xN j) := ⟨PE.imp (pe_var hN hv hd hcd) fun σ H Q ⟨Z, S, T, γ, d, hl, W, hd, post⟩ => by
  obtain ⟨v, hv, W1⟩ := W.take hl hd
  exact ⟨v, hv, post _ W1.mid.isD⟩⟩
def pHere : Gm → List D → Prop := fun _ ds => ds = []
def pAt (P : Gm → List D → Prop) (h : Gm → D → Prop) : Gm → List D → Prop := fun γ ds => ∃ ds0 d, ds = ds0 ++ [d] ∧ P γ ds0 ∧ h γ d
theorem jl_n (i : Nat) {x : Str} (hN : X.N[i]? = some x := by rfl) (hv : Vis X.env.scope x := by first | exact Or.inl rfl | exact Or.inr (Or.inl rfl) | exact Or.inr (Or.inr rfl)) (hd : (x == ("__debug__" : Str)) = false := by decide)
    (hcd : (x == ("__classdict__" : Str)) = false := by decide) : JLoc X (.Name x pos) i pHere := ⟨PE.imp (pe_var hN hv hd hcd) fun σ H Q ⟨Z, S, T, γ, ds, c, o, hl, W, hp, hc, ho, post⟩ => by
  have hp : ds = [] := hp
  subst hp
  have ho : some c = some o := ho
  cases ho
  obtain ⟨v, hv, W1⟩ := W.take hl hc
  refine ⟨v, hv, post v [] W1.mid fun σ' o' Z' S' H' γ' T' hf l' hi W' => ?_⟩
  exact (World.unmid (l1 := σ'.zip γ') W').back l' hi (hf.trans hv)⟩
theorem rix_of {K0 : PySem.W.Frag} {H : Hp} {a : Addr} {y u : V} {Q : VK} (h : SubAt H a y u) (q : Q u H) : rIx K0 (.ref a) y H Q ∨ rIxD (.ref a) y H Q := by
  rcases h with ⟨vs, i, e, h1, h2⟩ | ⟨vs, i, e, h1, h2⟩ | ⟨vs, k, e, h1, h2⟩
  · exact .inl (.inl ⟨a, vs, _, u, rfl, e, .inl (.inl h1), h2, q⟩)
  · exact .inl (.inr (.inl ⟨a, vs, _, u, rfl, e, .inl (.inl h1), h2, q⟩))
  · exact .inr ⟨a, u, rfl, .inl ⟨vs, k, .inl h1, e, h2.symm⟩, q⟩
theorem jl_at {i : Nat} {P : Gm → List D → Prop} {h : Gm → D → Prop} {r k : Expr} (hu : X.A.units + 1 < cLine) (hr : JLoc X r i P) (hk : JX X k h) (hs : PlainIx k := by exact fun _ _ => rfl) : JLoc X (.Subscript r k pos) i (pAt P h) := by
  refine ⟨PE.imp (pe_ix (ix_seq.or (ix_dict hu)) hr.pe hk.pe hs) fun σ H Q hh => ?_⟩
  obtain ⟨Z, S, T, γ, ds, c, o, hl, W, ⟨ds0, d, rfl, hp, hd⟩, hc, ho, post⟩ := hh
  rw [getP_snoc] at ho
  obtain ⟨c1, hc1, ho1⟩ := Option.bind_eq_some_iff.mp ho
  refine ⟨Z, S, T, γ, ds0, c, c1, hl, W, hp, hc, hc1, fun u1 hs W1 pl => ?_⟩
  refine ⟨Z, S, T, γ, d, hl, W, hd, fun y hy => ?_⟩
  obtain ⟨a, u, rfl, sa, W2⟩ := World.pull W1 ho1
  refine rix_of (sa S y hy) (post u ((some (.ref a), some (setO c1 d (.raw u))) :: hs) W2 ?_)
  intro σ' o' Z' S' H' γ' T' hf l' hi W'
  have W3 : World Z' S' H' ((some (.ref a), some (setO c1 d o')) :: (hs ++ (σ'.zip γ' ++ T'))) := World.push2 ho1 W'
  rw [setP_snoc ds0 c c1 d o' hc1 ⟨o, ho1⟩]
  exact pl σ' _ Z' S' H' γ' T' hf l' hi W3
end
/-! ### append, pop -/
section
variable {X : Cx} {e r : Expr} {g : OA} {apos cpos p : Pos}
theorem ents1' {vs : List V} {os : List O} {o : O} (h : vs.length = os.length) (e : os = [o]) : ∃ v, vs = [v] := by subst e; exact ents1 h
/-- name.append(e) -/
def oApp (i : Nat) (g : OA) : OE := fun γ Q => (∃ l, γ[i]? = some (some (.lst l))) ∧ g γ fun os γ1 => ∃ o l, os = [o] ∧ γ1[i]? = some (some (.lst l)) ∧ l.length < 1000000 ∧ Q (.sh .non) (γ1.set i (some (.lst (l ++ [o]))))
theorem je_app (i : Nat) {x : Str} (ha : JA X [e] g) (hN : X.N[i]? = some x := by rfl) (hv : Vis X.env.scope x := by first | exact Or.inl rfl | exact Or.inr (Or.inl rfl) | exact Or.inr (Or.inr rfl)) (hd : (x == ("__debug__" : Str)) = false := by decide)
    (hcd : (x == ("__classdict__" : Str)) = false := by decide)
    (hbase : attributeBase (.Name x p) "append" X.env (eval (.Name x p) X.env) = eval (.Name x p) X.env := by rfl)
    (hfew : ((backTo cpos (starEach [e] X.env)).all (fun x => !x.1) && (backToKw cpos (keywordEach [] X.env)).all (fun x => x.1.isSome)
      && decide (([e] : List Expr).length + ([] : List Keyword).length + (if ([] : List Keyword).isEmpty then 0 else 1) < 30)) = true := by rfl)
    (hline : (apos.endLine == cpos.line) = true := by rfl) (hs : starEach [e] X.env = (false, eval e X.env) :: starEach [] X.env := by rfl) (hplain : (backTo cpos (starEach [] X.env)).any (·.1) = false := by rfl) :
    JE X (.Call (.Attribute (.Name x p) "append" apos) [e] [] cpos) (oApp i g) := by
  refine PE.imp (pe_bm PySem.F.plainAttrs_list PySem.F.slot_list_append PySem.F.type_list_append mt_append (pe_var hN hv hd hcd) ha hbase hfew hline hs hplain) fun σ H Q hh => ?_
  obtain ⟨Z, S, T, γ, K, hl, W, ⟨⟨l0, h0⟩, hg⟩, post⟩ := hh
  obtain ⟨v, hv, W1⟩ := W.take hl h0
  obtain ⟨a, vs, rfl, ha, ll⟩ := W1.mid.lstAt
  refine ⟨.ref a, hv, .inl ⟨rfl, vs, .inl (.inl ha)⟩, Z, S, T, γ, _, hl, W, hg, ?_⟩
  rintro _ γ1 ⟨o, l, rfl, h1, hlt, k⟩ l1 ws H1 S1 ls1 lw W2
  obtain ⟨w, rfl⟩ := ents1 lw
  have hl1 : σ.length = γ1.length := by omega
  obtain ⟨v', hv', W3⟩ := W2.take hl1 h1
  rw [hv] at hv'; cases hv'
  have hi : i < γ1.length := (List.getElem?_eq_some_iff.mp h1).1
  have W4 : World Z S1 H1 ((some w, some o) :: (some (.ref a), some (.lst l)) :: (σ.zip (γ1.set i none) ++ T)) := by
    refine W3.perm ?_
    exact List.perm_middle.trans ((List.Perm.cons _ List.perm_middle).trans (List.Perm.swap _ _ _))
  obtain ⟨us, hD, lu, W5⟩ := W4.app
  refine ⟨a, us, w, rfl, rfl, hD, by rw [lu, sizeLine_eq]; omega, ?_⟩
  have W6 := (World.unmid W5).back (i := i) (by simpa using hl1) (by simpa using hi) hv
  rw [List.set_set] at W6
  exact post _ _ k (by simpa using l1) _ _ S1 ls1 (W6.push (by unfold IsD; rfl)).unmid
/-- loc.append(e) -/
def oAppL (i : Nat) (P : Gm → List D → Prop) (g : OA) : OE := fun γ Q => ∃ ds c l, P γ ds ∧ γ[i]? = some (some c) ∧ getP c ds = some (.lst l) ∧
  g (γ.set i none) fun os γ1 => ∃ o, os = [o] ∧ l.length < 1000000 ∧ Q (.sh .non) (γ1.set i (some (setP c ds (.lst (l ++ [o])))))
theorem je_appL {i : Nat} {P : Gm → List D → Prop} (hr : JLoc X r i P) (ha : JA X [e] g)
    (hbase : attributeBase r "append" X.env (eval r X.env) = eval r X.env := by rfl)
    (hfew : ((backTo cpos (starEach [e] X.env)).all (fun x => !x.1) && (backToKw cpos (keywordEach [] X.env)).all (fun x => x.1.isSome)
      && decide (([e] : List Expr).length + ([] : List Keyword).length + (if ([] : List Keyword).isEmpty then 0 else 1) < 30)) = true := by rfl)
    (hline : (apos.endLine == cpos.line) = true := by rfl) (hs : starEach [e] X.env = (false, eval e X.env) :: starEach [] X.env := by rfl) (hplain : (backTo cpos (starEach [] X.env)).any (·.1) = false := by rfl) :
    JE X (.Call (.Attribute r "append" apos) [e] [] cpos) (oAppL i P g) := by
  refine PE.imp (pe_bm PySem.F.plainAttrs_list PySem.F.slot_list_append PySem.F.type_list_append mt_append hr.pe ha hbase hfew hline hs hplain) fun σ H Q hh => ?_
  obtain ⟨Z, S, T, γ, K, hl, W, ⟨ds, c, l, hp, hc, hpl, hg⟩, post⟩ := hh
  refine ⟨Z, S, T, γ, ds, c, _, hl, W, hp, hc, hpl, fun u hs W1 pl => ?_⟩
  obtain ⟨a, vs, rfl, ha, ll⟩ := W1.lstAt
  have hi : i < γ.length := (List.getElem?_eq_some_iff.mp hc).1
  have W2 : World Z S H (σ.zip (γ.set i none) ++ ((some (.ref a), some (.lst l)) :: (hs ++ T))) := by
    refine W1.perm ?_
    refine List.Perm.trans ?_ List.perm_middle.symm
    refine List.Perm.cons _ ?_
    rw [← List.append_assoc, ← List.append_assoc]
    exact List.perm_append_comm.append_right T
  refine ⟨.inl ⟨rfl, vs, .inl (.inl ha)⟩, Z, S, _, γ.set i none, _, by simpa using hl, W2, hg, ?_⟩
  rintro _ γ1 ⟨o, rfl, hlt, k⟩ l1 ws H1 S1 ls1 lw W3
  obtain ⟨w, rfl⟩ := ents1 lw
  rw [List.length_set] at l1
  have W4 : World Z S1 H1 ((some w, some o) :: (some (.ref a), some (.lst l)) :: (hs ++ (σ.zip γ1 ++ T))) := by
    refine W3.perm ?_
    refine List.perm_middle.trans (List.Perm.cons _ ?_)
    refine List.perm_middle.trans (List.Perm.cons _ ?_)
    rw [← List.append_assoc, ← List.append_assoc]
    exact List.perm_append_comm.append_right T
  obtain ⟨us, hD, lu, W5⟩ := W4.app
  refine ⟨a, us, w, rfl, rfl, hD, by rw [lu, sizeLine_eq]; omega, ?_⟩
  have W6 := pl σ _ _ _ _ γ1 T rfl (by omega) (by omega) W5
  exact post _ _ k (by simpa using l1) _ _ S1 ls1 (W6.push (by unfold IsD; rfl)).unmid
theorem World.popAt {Z S H : Hp} {a : Addr} {l : List O} {j : Nat} {o : O} {ps : List En} (W : World Z S H ((some (.ref a), some (.lst l)) :: ps)) (h : l[j]? = some o) :
    ∃ vs u, H a = some (.lst vs) ∧ vs.length = l.length ∧ vs[j]? = some u ∧ World Z S (upd H a (.lst (vs.eraseIdx j))) ((some u, some o) :: (some (.ref a), some (.lst (l.eraseIdx j))) :: ps) := by
  obtain ⟨fp, ⟨u0, f1, f2, e1, e2, _⟩, _⟩ := id W.own
  cases e1
  unfold Own at e2
  obtain ⟨b, vs, f, h1, h2, h3, h4⟩ := e2
  cases h1
  have ll := OwnL.len _ _ _ h3
  obtain ⟨u, g1, g2, q1, q2, q3, q4⟩ := OwnL.erase h3 h
  refine ⟨vs, u, h2, ll, q1, ?_⟩
  refine World.redo (es := [(some (.ref a), some (.lst l))]) (es' := [(some u, some o), (some (.ref a), some (.lst (l.eraseIdx j)))]) W ?_
  rintro fp n ⟨w', f1', f2', x1, x2, x3, x4⟩
  cases x1
  have x3' : f2' = [] := x3
  subst x3' x4
  unfold Own at x2
  obtain ⟨a', vs', f', y1, y2, y3, y4⟩ := x2
  cases y1
  rw [h2] at y2; cases y2
  subst y4
  obtain ⟨u', g1', g2', z1, z2, z3, z4⟩ := OwnL.erase y3 h
  rw [q1] at z1; cases z1
  rw [List.append_nil] at n ⊢
  have na := (List.nodup_cons.mp n).1
  have s1 : ∀ b ∈ g1', upd H a (.lst (vs.eraseIdx j)) b = H b := fun b hb => upd_ne fun q => na (q ▸ z4.mem_iff.mpr (List.mem_append_left _ hb))
  have s2 : ∀ b ∈ g2', upd H a (.lst (vs.eraseIdx j)) b = H b := fun b hb => upd_ne fun q => na (q ▸ z4.mem_iff.mpr (List.mem_append_right _ hb))
  refine ⟨by simp, g1' ++ ((a :: g2') ++ []), ⟨u, g1', (a :: g2') ++ [], rfl, Own.stay (Le.refl S) _ _ _ z2 s1, ⟨.ref a, a :: g2', [], rfl, ?_, rfl, rfl⟩, rfl⟩, .of_perm ?_⟩
  · unfold Own
    exact ⟨a, _, g2', rfl, upd_same, OwnL.stay (Le.refl S) _ _ _ z3 s2, rfl⟩
  · rw [List.append_nil]
    exact (List.Perm.cons _ z4).trans List.perm_middle.symm
/-- name.pop(e) -/
def oPopAt (i : Nat) (g : OA) : OE := fun γ Q => (∃ l, γ[i]? = some (some (.lst l))) ∧ g γ fun os γ1 => ∃ n l j o, os = [.sh (.int n)] ∧ -(2 ^ 63) ≤ n ∧ n < 2 ^ 63 ∧ γ1[i]? = some (some (.lst l)) ∧ seqIndex? n l.length = some j ∧ l[j]? = some o ∧ Q o (γ1.set i (some (.lst (l.eraseIdx j))))
theorem je_popAt (i : Nat) {x : Str} (ha : JA X [e] g) (hN : X.N[i]? = some x := by rfl) (hv : Vis X.env.scope x := by first | exact Or.inl rfl | exact Or.inr (Or.inl rfl) | exact Or.inr (Or.inr rfl)) (hd : (x == ("__debug__" : Str)) = false := by decide)
    (hcd : (x == ("__classdict__" : Str)) = false := by decide)
    (hbase : attributeBase (.Name x p) "pop" X.env (eval (.Name x p) X.env) = eval (.Name x p) X.env := by rfl)
    (hfew : ((backTo cpos (starEach [e] X.env)).all (fun x => !x.1) && (backToKw cpos (keywordEach [] X.env)).all (fun x => x.1.isSome)
      && decide (([e] : List Expr).length + ([] : List Keyword).length + (if ([] : List Keyword).isEmpty then 0 else 1) < 30)) = true := by rfl)
    (hline : (apos.endLine == cpos.line) = true := by rfl) (hs : starEach [e] X.env = (false, eval e X.env) :: starEach [] X.env := by rfl) (hplain : (backTo cpos (starEach [] X.env)).any (·.1) = false := by rfl) :
    JE X (.Call (.Attribute (.Name x p) "pop" apos) [e] [] cpos) (oPopAt i g) := by
  refine PE.imp (pe_bm PySem.F.plainAttrs_list PySem.F.slot_list_pop PySem.F.type_list_pop mt_popAt (pe_var hN hv hd hcd) ha hbase hfew hline hs hplain) fun σ H Q hh => ?_
  obtain ⟨Z, S, T, γ, K, hl, W, ⟨⟨l0, h0⟩, hg⟩, post⟩ := hh
  obtain ⟨v, hv, W1⟩ := W.take hl h0
  obtain ⟨a, vs, rfl, ha, ll⟩ := W1.mid.lstAt
  refine ⟨.ref a, hv, .inl ⟨rfl, vs, .inl (.inl ha)⟩, Z, S, T, γ, _, hl, W, hg, ?_⟩
  rintro _ γ1 ⟨n, l, j, o, rfl, n1, n2, h1, hj, ho, k⟩ l1 ws H1 S1 ls1 lw W2
  obtain ⟨w, rfl⟩ := ents1 lw
  have hl1 : σ.length = γ1.length := by omega
  have W2' : World Z S1 H1 (σ.zip γ1 ++ (some w, some (.sh (.int n))) :: T) := W2
  have hw := W2'.mid.isD
  unfold IsD at hw
  subst hw
  obtain ⟨v', hv', W3⟩ := (World.unmid W2'.mid).take hl1 h1
  rw [hv] at hv'; cases hv'
  have hi : i < γ1.length := (List.getElem?_eq_some_iff.mp h1).1
  have W4 : World Z S1 H1 ((some (.ref a), some (.lst l)) :: (σ.zip (γ1.set i none) ++ T)) := by
    exact (World.mid (l1 := (some (.ref a), some (.lst l)) :: σ.zip (γ1.set i none)) (W3.mid)).tail
  obtain ⟨us, u, hD, lu, hu, W5⟩ := W4.popAt ho
  refine ⟨a, us, n, j, u, rfl, rfl, hD, n1, n2, by rw [lu]; exact hj, hu, ?_⟩
  have W6 := (World.unmid (l1 := σ.zip (γ1.set i none)) (l2 := (some u, some o) :: T) (e := (some (.ref a), some (.lst (l.eraseIdx j)))) (by
    refine W5.perm ?_
    exact (List.Perm.swap _ _ _).trans (List.Perm.cons _ List.perm_middle.symm))).back (i := i) (by simpa using hl1) (by simpa using hi) hv
  rw [List.set_set] at W6
  exact post _ _ k (by simpa using l1) _ _ S1 ls1 W6
/-- name.pop() -/
def oPop (i : Nat) : OE := fun γ Q => ∃ l o, γ[i]? = some (some (.lst (l ++ [o]))) ∧ Q o (γ.set i (some (.lst l)))
theorem je_pop (i : Nat) {x : Str} (hN : X.N[i]? = some x := by rfl) (hv : Vis X.env.scope x := by first | exact Or.inl rfl | exact Or.inr (Or.inl rfl) | exact Or.inr (Or.inr rfl)) (hd : (x == ("__debug__" : Str)) = false := by decide)
    (hcd : (x == ("__classdict__" : Str)) = false := by decide)
    (hbase : attributeBase (.Name x p) "pop" X.env (eval (.Name x p) X.env) = eval (.Name x p) X.env := by rfl)
    (hline : (apos.endLine == cpos.line) = true := by rfl) :
    JE X (.Call (.Attribute (.Name x p) "pop" apos) [] [] cpos) (oPop i) := by
  refine PE.imp (pe_bm0 PySem.F.plainAttrs_list PySem.F.slot_list_pop PySem.F.type_list_pop mt_pop (pe_var hN hv hd hcd) hbase hline) fun σ H Q hh => ?_
  obtain ⟨Z, S, T, γ, K, hl, W, ⟨l, o, h0, k⟩, post⟩ := hh
  obtain ⟨v, hv, W1⟩ := W.take hl h0
  obtain ⟨a, vs, rfl, ha, ll⟩ := W1.mid.lstAt
  have hi : i < γ.length := (List.getElem?_eq_some_iff.mp h0).1
  refine ⟨.ref a, hv, .inl ⟨rfl, vs, .inl (.inl ha)⟩, ?_⟩
  have ho : (l ++ [o])[l.length]? = some o := by simp
  obtain ⟨us, u, hD, lu, hu, W5⟩ := W1.mid.popAt ho
  rw [List.length_append, List.length_singleton] at lu
  have e1 : us.eraseIdx l.length = us.dropLast := by
    have e : l.length = us.length - 1 := by omega
    rw [e, List.eraseIdx_length_sub_one]
  have e2 : (l ++ [o]).eraseIdx l.length = l := by
    rw [List.eraseIdx_append_of_length_le (Nat.le_refl _)]; simp
  rw [e1, e2] at W5
  refine ⟨a, us, u, rfl, rfl, hD, by rw [lu]; simpa using hu, ?_⟩
  have W6 := (World.unmid (l1 := σ.zip (γ.set i none)) (l2 := (some u, some o) :: T) (e := (some (.ref a), some (.lst l))) (by
    refine W5.perm ?_
    exact (List.Perm.swap _ _ _).trans (List.Perm.cons _ List.perm_middle.symm))).back (i := i) (by simpa using hl) (by simpa using hi) hv
  rw [List.set_set] at W6
  exact post _ _ k (by simp) _ _ S (Le.refl S) W6
end
/-! ### loc[k] = .. -/
theorem ixN_bound {n j : Nat} {i : Int} (h : ixN n i = some j) : j < n := (ixN_seq h).2.1

def putO (c : O) (d : D) (o : O) : Option O := match c with
  | .lst l => (match d with | .int i => (ixN l.length i).map fun j => .lst (l.set j o) | _ => none)
  | .dk l => if l.length < 1000000 then (isKey d).map fun k => .dk (putR l k o) else none
  | _ => none
theorem World.putO {Z S H : Hp} {v u y : V} {c c' o : O} {d : D} {ps : List En} (W : World Z S H ((some u, some o) :: (some v, some c) :: ps)) (hy : IsD S d y) (h : FN.putO c d o = some c') :
    ∃ a, v = .ref a ∧ ((∃ xs k j, y = .int k ∧ H a = some (.lst xs) ∧ ixN xs.length k = some j ∧ World Z S (upd H a (.lst (xs.set j u))) ((some v, some c') :: ps)) ∨
      ∃ H', DPut H a y u H' ∧ World Z S H' ((some v, some c') :: ps)) := by
  obtain ⟨fp, ⟨w1, f1, r1, e1, o1, ⟨w2, f2, r2, e2, o2, _⟩, _⟩, _⟩ := id W.own
  cases e1; cases e2
  unfold FN.putO at h
  split at h
  · rename_i l
    split at h
    · rename_i i
      obtain ⟨j, hj, rfl⟩ := Option.map_eq_some_iff.mp h
      unfold IsD at hy
      unfold Own at o2
      obtain ⟨a, vs, f, h1, h2, h3, h4⟩ := o2
      have ll := OwnL.len _ _ _ h3
      refine ⟨a, h1, .inl ⟨vs, i, j, hy, h2, by rw [ll]; exact hj, ?_⟩⟩
      refine World.redo (es := [(some u, some o), (some v, some (.lst l))]) (es' := [(some v, some (.lst (l.set j o)))]) W ?_
      rintro fp n ⟨w1', g1, s1, x1, y1, ⟨w2', g2, s2, x2, y2, x3, x4⟩, x5⟩
      cases x1; cases x2
      have x3' : s2 = [] := x3
      subst x3' x4 x5
      unfold Own at y2
      obtain ⟨a', vs', f', z1, z2, z3, z4⟩ := y2
      subst h1; cases z1
      rw [h2] at z2; cases z2
      subst z4
      have hlt : j < l.length := ixN_bound hj
      rw [List.append_nil] at n ⊢
      have nn := (List.perm_middle (a := a) (l₁ := g1) (l₂ := f')).nodup_iff.mp n
      have na := (List.nodup_cons.mp nn).1
      have t1 := Own.stay (H' := upd H a (.lst (vs.set j u))) (Le.refl S) _ _ _ y1 fun b hb => upd_ne fun q => na (q ▸ List.mem_append_left _ hb)
      have t2 := OwnL.stay (H' := upd H a (.lst (vs.set j u))) (Le.refl S) _ _ _ z3 fun b hb => upd_ne fun q => na (q ▸ List.mem_append_right _ hb)
      obtain ⟨fq, q1, q2⟩ := OwnL.put t2 hlt t1
      refine ⟨by simp, a :: fq ++ [], ⟨.ref a, a :: fq, [], rfl, by unfold Own; exact ⟨a, _, fq, rfl, upd_same, q1, rfl⟩, rfl, rfl⟩, ?_⟩
      rw [List.append_nil]
      exact ((Pt0.refl [a]).app q2).trans (.of_perm List.perm_middle)
    · cases h
  · rename_i l
    split at h
    · rename_i hz
      obtain ⟨k, hk, rfl⟩ := Option.map_eq_some_iff.mp h
      unfold Own at o2
      obtain ⟨a, vs, f, h1, h2, h3, h4, h5⟩ := o2
      have kk := OwnK.keys h3
      have ll : vs.length = l.length := by simpa using congrArg List.length kk
      refine ⟨a, h1, .inr ⟨_, .inl ⟨vs, k, h2, isKey_v hy hk, by rw [ll, sizeLine_eq]; omega, rfl⟩, ?_⟩⟩
      rw [putK_eq k u (by rw [kk]; exact h5)]
      refine World.redo (es := [(some u, some o), (some v, some (.dk l))]) (es' := [(some v, some (.dk (putR l k o)))]) W ?_
      rintro fp n ⟨w1', g1, s1, x1, y1, ⟨w2', g2, s2, x2, y2, x3, x4⟩, x5⟩
      cases x1; cases x2
      have x3' : s2 = [] := x3
      subst x3' x4 x5
      unfold Own at y2
      obtain ⟨a', vs', f', z1, z2, z3, z4, z5⟩ := y2
      subst h1; cases z1
      rw [h2] at z2; cases z2
      subst z4
      rw [List.append_nil] at n ⊢
      have nn := (List.perm_middle (a := a) (l₁ := g1) (l₂ := f')).nodup_iff.mp n
      have na := (List.nodup_cons.mp nn).1
      have t1 := Own.stay (H' := upd H a (.dK (putR vs k u))) (Le.refl S) _ _ _ y1 fun b hb => upd_ne fun q => na (q ▸ List.mem_append_left _ hb)
      have t2 := OwnK.stay (H' := upd H a (.dK (putR vs k u))) (Le.refl S) _ _ _ z3 fun b hb => upd_ne fun q => na (q ▸ List.mem_append_right _ hb)
      obtain ⟨fq, q1, q2⟩ := OwnK.put (k := k) t2 t1
      refine ⟨by simp, a :: fq ++ [], ⟨.ref a, a :: fq, [], rfl, by unfold Own; exact ⟨a, _, fq, rfl, upd_same, q1, rfl, putR_nodup z5⟩, rfl, rfl⟩, ?_⟩
      rw [List.append_nil]
      exact ((Pt0.refl [a]).app q2).trans (.of_perm List.perm_middle)
    · cases h
  · cases h
section
variable {X : Cx} {k r : Expr} {f : OE} {pos : Pos}
def aPut (i : Nat) (P : Gm → List D → Prop) (f : OE) : AG := fun o γ Q => ∃ ds c c1, P γ ds ∧ γ[i]? = some (some c) ∧ getP c ds = some c1 ∧ f (γ.set i none) fun kd γ1 => ∃ d c', kd = .sh d ∧ putO c1 d o = some c' ∧ Q (γ1.set i (some (setP c ds c')))
theorem jg_put {i : Nat} {P : Gm → List D → Prop} (hu : X.A.units + 1 < cLine) (hr : JLoc X r i P) (hk : JE X k f)
    (ha : ∀ v, assign (.Subscript r k pos) X.env v = (do
      let ov ← holding [v] (eval r X.env)
      let iv ← holding [v, ov] (eval k X.env)
      standAt pos
      holding [v, ov, iv] (setItem ov iv v)
      release [v, ov, iv] []) := by intro _; rfl) : JG [] X (.Subscript r k pos) (aPut i P f) := by
  have hs : PSet X (fun o i v H Q => rSetL o i v H Q ∨ rSetD o i v H Q) := by
    intro pins s σ H o i v ov iv u Q I ro ri rv h
    rcases h with h | h
    · exact set_list pins s σ H o i v ov iv u Q I ro ri rv h
    · exact set_dict hu pins s σ H o i v ov iv u Q I ro ri rv h
  refine PG.imp (pg_sub hr.pe hk hs ha) fun v σ H Q hh => ?_
  obtain ⟨Z, S, T, γ, o, K, hl, W, ⟨ds, c, c1, hp, hc, hc1, hf⟩, post⟩ := hh
  have hi : i < γ.length := (List.getElem?_eq_some_iff.mp hc).1
  refine ⟨Z, S, (some v, some o) :: T, γ, ds, c, c1, hl, W, hp, hc, hc1, fun u hs W1 pl => ?_⟩
  have W2 : World Z S H (σ.zip (γ.set i none) ++ ((some u, some c1) :: (some v, some o) :: (hs ++ T))) := by
    refine W1.perm ?_
    refine List.Perm.trans ?_ List.perm_middle.symm
    refine List.Perm.cons _ ?_
    refine List.Perm.trans ?_ List.perm_middle.symm
    refine (List.Perm.append_left hs List.perm_middle).trans (List.perm_middle.trans (List.Perm.cons _ ?_))
    rw [← List.append_assoc, ← List.append_assoc]
    exact List.perm_append_comm.append_right T
  refine ⟨Z, S, _, γ.set i none, _, by simpa using hl, W2, hf, ?_⟩
  rintro _ γ1 ⟨d, c', rfl, hput, kk⟩ l1 y H1 S1 ls1 W3
  rw [List.length_set] at l1
  have hy := W3.mid.isD
  have W4 : World Z S1 H1 ((some v, some o) :: (some u, some c1) :: (hs ++ (σ.zip γ1 ++ T))) := by
    refine W3.mid.tail.perm ?_
    refine List.perm_middle.trans ((List.Perm.cons _ List.perm_middle).trans ((List.Perm.swap _ _ _).trans (List.Perm.cons _ (List.Perm.cons _ ?_))))
    rw [← List.append_assoc, ← List.append_assoc]
    exact List.perm_append_comm.append_right T
  have fin : ∀ H', World Z S1 H' ((some u, some c') :: (hs ++ (σ.zip γ1 ++ T))) → Q σ H' := fun H' W' =>
    post _ kk σ H' S1 (by simpa using l1) (Only.refl [] σ) ls1 (pl σ _ _ _ _ γ1 T rfl (by omega) (by omega) W')
  obtain ⟨a, rfl, ⟨xs, n, j, rfl, h1, h2, W5⟩ | ⟨H', h1, W5⟩⟩ := World.putO W4 hy hput
  · exact .inl ⟨a, xs, n, j, rfl, rfl, h1, h2, fin _ W5⟩
  · exact .inr ⟨a, H', rfl, h1, fin _ W5⟩
end
end FN
end
section
namespace FN
open PySem PySem.Spec L2
open PyProof.Rows hiding St

/-! ### for x in loc: .. where each item is written -/
def forIn (x : Nat) (b : VS) (rt : O → Gm → Prop) (fin : List O → Gm → Prop) : List O → List O → Gm → Prop
  | acc, [], γ => fin acc γ
  | acc, o :: os, γ => x < γ.length ∧ b { nx := fun γ' => ∃ o', γ'[x]? = some (some o') ∧ forIn x b rt fin (acc ++ [o']) os (γ'.set x none), rt := rt, ct := fun γ' => ∃ o', γ'[x]? = some (some o') ∧ forIn x b rt fin (acc ++ [o']) os (γ'.set x none) } (γ.set x (some o))
def vForIn (i x : Nat) (P : Gm → List D → Prop) (b : VS) : VS := fun E γ => ∃ ds c l, P γ ds ∧ γ[i]? = some (some c) ∧ getP c ds = some (.lst l) ∧
  forIn x b E.rt (fun acc γ' => E.nx (γ'.set i (some (setP c ds (.lst acc))))) [] l (γ.set i none)
section
variable {J : List Nat} {X : Cx}
theorem js_forIn {n : Str} {p : Pos} {r : Expr} {body : List Stmt} {i x : Nat} {P : Gm → List D → Prop} {b : VS} {pos : Pos} (hp : PassesOwn (model X.prog X.w) X.A X.env X.xe) (hc : X.calm = true) (hr : JLoc X r i P) (hN : X.N.Nodup) (hxi : X.N[x]? = some n) (hxl : Loc X.env.scope n)
    (hb : JB (i :: x :: J) X body b) (hJ : x ∉ J) (hix : i ≠ x) (hf : X.fn n = true ∨ X.env.scope.names.lookup n = some .local := by first | exact .inl rfl | exact .inr rfl | assumption) (hs : ∀ v, foldedSetIterable r X.env v = pure v := by intro _; rfl) : JS J X (.For (.Name n p) r body [] pos) (vForIn i x P b) := by
  refine PS.imp (ps_for hp hc (pi_list (tg := .Name n p) hr.pe) (pg_name hN hxi hxl hf) hb hs) fun D σ H hh => ?_
  obtain ⟨Z, S, T, γ, K, hl, W, ⟨ds, c, l, hp, hci, hpl, hf⟩, Po⟩ := of_tS hh
  refine ⟨Z, S, T, γ, ds, c, _, hl, W, hp, hci, hpl, fun u hs W1 pl => ?_⟩
  obtain ⟨a, vs0, rfl, ha0, ll0⟩ := W1.lstAt
  have hi : i < γ.length := (List.getElem?_eq_some_iff.mp hci).1
  refine ⟨a, rfl, ⟨vs0, .inl (.inl ha0)⟩, ?_⟩
  refine ⟨fun k m σ2 H2 => m = l.length - k ∧ k ≤ l.length ∧ ∃ S2 γ2 acc, acc.length = k ∧ γ2.length = γ.length ∧ σ2.length = γ2.length ∧ σ2[i]? = σ[i]? ∧ Fix J σ σ2 ∧ Le S S2 ∧ World Z S2 H2 ((some (.ref a), some (.lst (acc ++ l.drop k))) :: (hs ++ (σ2.zip γ2 ++ T))) ∧
    forIn x b K.rt (fun acc γ' => K.nx (γ'.set i (some (setP c ds (.lst acc))))) acc (l.drop k) γ2, ⟨l.length, by simp, Nat.zero_le _, S, γ.set i none, [], rfl, by simp, by simpa using hl, rfl, Fix.refl J σ, Le.refl S, by simpa using W1, by simpa using hf⟩, ?_⟩
  rintro k m σ2 H2 ⟨rfl, hk, S2, γ2, acc, la, l1, l2, fxi, fx, ls, W2, hv⟩
  obtain ⟨a', vs, e, ha, ll⟩ := W2.lstAt
  cases e
  by_cases hlt : k < l.length
  · have hvk : k < vs.length := by rw [ll, List.length_append, List.length_drop]; omega
    refine .inr ⟨⟨vs, vs[k], .inl (.inl ha), List.getElem?_eq_getElem hvk⟩, fun σ' H' => k + 1 ≤ l.length ∧ ∃ S2 γ2 acc, acc.length = k + 1 ∧ γ2.length = γ.length ∧ σ'.length = γ2.length ∧ σ'[i]? = σ[i]? ∧ Fix J σ σ' ∧ Le S S2 ∧
      World Z S2 H' ((some (.ref a), some (.lst (acc ++ l.drop (k + 1)))) :: (hs ++ (σ'.zip γ2 ++ T))) ∧ forIn x b K.rt (fun acc γ' => K.nx (γ'.set i (some (setP c ds (.lst acc))))) acc (l.drop (k + 1)) γ2,
      fun σ' H' n => ⟨l.length - (k + 1), by omega, rfl, n.1, n.2⟩, ?_⟩
    rintro y H' ⟨rfl, hy⟩
    have hyv := hy vs (.inl (.inl ha))
    rw [List.drop_eq_getElem_cons hlt] at hv
    obtain ⟨hx, hbd⟩ := hv
    have hget : (acc ++ l.drop k)[k]? = some l[k] := by
      rw [List.getElem?_append_right (by omega), la, Nat.sub_self, List.getElem?_drop, Nat.add_zero, List.getElem?_eq_getElem hlt]
    have hlen : k < (acc ++ l.drop k).length := by rw [List.length_append, List.length_drop]; omega
    have hixn : ixN (acc ++ l.drop k).length ((k : Nat) : Int) = some k := by
      unfold ixN; rw [if_pos (Int.natCast_nonneg k), if_pos (by exact_mod_cast hlen)]; simp
    have hgo : getO (.lst (acc ++ l.drop k)) (.int (k : Nat)) = some l[k] := by
      show atI (acc ++ l.drop k) ((k : Nat) : Int) = some l[k]
      unfold atI; rw [hixn]; exact hget
    obtain ⟨a2, u, e2, sa, W3⟩ := World.pull W2 hgo
    cases e2
    have hu : u = y := by
      rcases sa S2 (.int (k : Nat)) (by unfold IsD; rfl) with ⟨vs', j, e1, e2, e3⟩ | ⟨vs', j, e1, e2, e3⟩ | ⟨vs', j, e1, e2, e3⟩
      · cases e1
        rw [ha] at e2; cases e2
        unfold atI ixN at e3
        rw [if_pos (Int.natCast_nonneg k), if_pos (by exact_mod_cast hvk)] at e3
        have e3 : vs[((k : Nat) : Int).toNat]? = some u := e3
        rw [Int.toNat_natCast, hyv] at e3
        exact (Option.some.inj e3).symm
      · rw [ha] at e2; cases e2
      · rw [ha] at e2; cases e2
    subst hu
    have W4 : World Z S2 H' (σ2.zip γ2 ++ (some u, some l[k]) :: ((some (.ref a), some (setO (.lst (acc ++ l.drop k)) (.int (k : Nat)) (.raw u))) :: (hs ++ T))) := by
      refine W3.perm ?_
      refine List.Perm.trans ?_ List.perm_middle.symm
      refine List.Perm.cons _ ?_
      refine List.Perm.trans ?_ List.perm_middle.symm
      refine List.Perm.cons _ ?_
      rw [← List.append_assoc, ← List.append_assoc]
      exact List.perm_append_comm.append_right T
    have hsx : (σ2.set x (some u))[x]? = some (some u) := by rw [List.getElem?_set_self (by omega)]
    have hi2 : (σ2.set x (some u))[i]? = σ[i]? := by rw [List.getElem?_set_ne (fun e => hix e.symm)]; exact fxi
    have fx2 : Fix J σ (σ2.set x (some u)) := fx.trans fun j hj => List.getElem?_set_ne (show x ≠ j from fun e => hJ (e ▸ hj))
    have W5 := W4.store l2 hx
    have dropT : ∀ {S' H' : Hp} {A : List En}, World Z S' H' (A ++ ((some (.ref a), some (setO (.lst (acc ++ l.drop k)) (.int (k : Nat)) (.raw u))) :: (hs ++ T))) → World Z S' H' (A ++ T) :=
      fun {S' H' A} W => World.dropMid (A := A) (B := (some (.ref a), some (setO (.lst (acc ++ l.drop k)) (.int (k : Nat)) (.raw u))) :: hs) (C := T) (by simpa using W)
    have hset : ∀ o', setO (.lst (acc ++ l.drop k)) (.int (k : Nat)) o' = .lst ((acc ++ [o']) ++ l.drop (k + 1)) := fun o' => by
      show (match ixN (acc ++ l.drop k).length ((k : Nat) : Int) with | some j => O.lst ((acc ++ l.drop k).set j o') | none => _) = _
      rw [hixn]
      simp only []
      rw [List.set_append_right _ _ (by omega), la, Nat.sub_self, List.drop_eq_getElem_cons hlt, List.set_cons_zero, List.append_assoc]; rfl
    have turn : ∀ γ', (∃ o', γ'[x]? = some (some o') ∧ forIn x b K.rt (fun acc γ' => K.nx (γ'.set i (some (setP c ds (.lst acc))))) (acc ++ [o']) (l.drop (k + 1)) (γ'.set x none)) → ∀ σ' H' S', γ'.length = (γ2.set x (some l[k])).length → σ'.length = γ'.length →
        Fix (i :: x :: J) (σ2.set x (some u)) σ' → Le S2 S' → World Z S' H' (σ'.zip γ' ++ ((some (.ref a), some (setO (.lst (acc ++ l.drop k)) (.int (k : Nat)) (.raw u))) :: (hs ++ T))) →
        k + 1 ≤ l.length ∧ ∃ S2 γ2 acc, acc.length = k + 1 ∧ γ2.length = γ.length ∧ σ'.length = γ2.length ∧ σ'[i]? = σ[i]? ∧ Fix J σ σ' ∧ Le S S2 ∧
          World Z S2 H' ((some (.ref a), some (.lst (acc ++ l.drop (k + 1)))) :: (hs ++ (σ'.zip γ2 ++ T))) ∧ forIn x b K.rt (fun acc γ' => K.nx (γ'.set i (some (setP c ds (.lst acc))))) acc (l.drop (k + 1)) γ2 := by
      rintro γ' ⟨o', ho', hk'⟩ σ' H' S' q1 q2 q3 q4 q5
      rw [List.length_set] at q1
      obtain ⟨w, hw, W6⟩ := q5.take q2 ho'
      have ew : w = u := by
        have := q3 x (by simp)
        rw [hsx, hw] at this
        exact Option.some.inj (Option.some.inj this)
      subst ew
      have W7 : World Z S' H' ((some w, some o') :: (some (.ref a), some (setO (.lst (acc ++ l.drop k)) (.int (k : Nat)) (.raw w))) :: (hs ++ (σ'.zip (γ'.set x none) ++ T))) := by
        refine W6.perm ?_
        refine List.perm_middle.trans (List.Perm.cons _ ?_)
        refine List.perm_middle.trans (List.Perm.cons _ ?_)
        rw [← List.append_assoc, ← List.append_assoc]
        exact List.perm_append_comm.append_right T
      have W8 := World.push2 hgo W7
      rw [hset] at W8
      exact ⟨hlt, S', γ'.set x none, acc ++ [o'], by simp [la], by simp; omega, by simpa using q2, (q3 i (by simp)).trans hi2, fx2.trans fun j hj => q3 j (by simp [hj]), ls.trans q4, W8, hk'⟩
    refine ⟨Z, S2, _, γ2.set x (some l[k]), _, by simpa using l2, W5, hbd, turn, ?_, fun _ h => h.elim, turn⟩
    intro o γ' kk v σ' H'' S' q1 q2 q3 q4 q5
    rw [List.length_set] at q1
    refine Po.rt o γ' kk v σ' H'' S' (by omega) q2 (fx2.trans fun j hj => q3 j (by simp [hj])) (ls.trans q4) ?_
    have q6 := dropT (A := σ'.zip γ' ++ [(some v, some o)]) (by rw [List.append_assoc]; exact q5)
    rw [List.append_assoc] at q6
    exact q6
  · have e : k = l.length := by omega
    subst e
    rw [List.drop_length] at hv W2
    rw [List.append_nil] at W2
    have hv : K.nx (γ2.set i (some (setP c ds (.lst acc)))) := hv
    refine .inl ⟨⟨vs, .inl (.inl ha), by rw [ll, List.length_append, List.length_drop]; omega⟩, ?_⟩
    exact Po.nx _ hv σ2 H2 S2 (by simpa using l1) (by simpa using l2) fx ls (pl σ2 _ _ _ _ γ2 T fxi l2 (by omega) W2)
end
end FN
end
section
namespace FN
open PySem PySem.Spec L2
open PyProof.Rows hiding St

/-! ### more of ints -/
def CPowW (i j : Int) : Prop := 0 ≤ j ∧ (Builtin.Int.intBits i : Int) * j ≤ 2 ^ 27
section
variable {X : Cx}
theorem op_powW : OpR X (binaryOp .Pow) (rI CPowW fun i j => .int (i ^ j.toNat)) := opI fun _ _ _ _ _ _ _ hc q => pow_int hc.1 hc.2 q
def oNeg (f : OE) : OE := fun γ Q => f γ fun o γ1 => ∃ i, o = .sh (.int i) ∧ Q (.sh (.int (-i))) γ1
theorem je_neg {e : Expr} {f : OE} {pos : Pos} (he : JE X e f) : JE X (.UnaryOp .USub e pos) (oNeg f) := by
  refine PE.imp (pe_un un_neg he) fun σ H Q hh => ?_
  obtain ⟨Z, S, T, γ, K, hl, W, hf, post⟩ := hh
  refine ⟨Z, S, T, γ, _, hl, W, hf, ?_⟩
  rintro _ γ1 ⟨i, rfl, k⟩ l v H1 S1 ls W1
  have hv := W1.mid.isD
  unfold IsD at hv
  exact ⟨i, hv, post _ γ1 k l _ H1 S1 ls (W1.mid.tail.push (by unfold IsD; rfl)).unmid⟩
/-- a + b: ints, or lists -/
def kAdd : B2 := fun x y K => match x, y with
  | .sh (.int i), .sh (.int j) => K (.sh (.int (i + j)))
  | x, y => ∃ l m, x.items = some l ∧ y.items = some m ∧ l.length + m.length ≤ 1000000 ∧ K (.lst (l ++ m))
theorem ents_app {vs ws : List V} {os us : List O} (h : vs.length = os.length) : ents (vs ++ ws) (os ++ us) = ents vs os ++ ents ws us := by
  unfold ents
  exact List.zipWith_append h
theorem bin_add : Bin (fun x y H Q => (rI0 (fun i j => .int (i + j))) x y H Q ∨ rCat x y H Q) kAdd := by
  intro Z S H x y ox oy ps Q K W hk post
  unfold kAdd at hk
  split at hk
  · exact .inl (bin_I0 Z S H x y _ _ ps Q K W ⟨_, _, rfl, rfl, hk⟩ post)
  · obtain ⟨l, m, hl, hm, hz, k⟩ := hk
    obtain ⟨b, ws, S1, rfl, l1, hb, lw, W1⟩ := W.openL hm
    obtain ⟨a, vs, S2, rfl, l2, ha, lv, W2⟩ := (World.mid W1).openL hl
    refine .inr ⟨a, b, vs, ws, rfl, rfl, W2.sub.lst ha, W2.sub.lst (l2 _ _ hb), by rw [lv, lw, sizeLine_eq]; omega, fun p hp => ?_⟩
    have W3 : World Z S2 H (ents (vs ++ ws) (l ++ m) ++ ps) := by
      rw [ents_app lv, List.append_assoc]; exact W2
    exact post _ k _ _ S2 (l1.trans l2) (W3.newL (by rw [List.length_append, List.length_append]; omega) hp)
theorem op_addA : OpR X (binaryOp .Add) (fun x y H Q => (rI0 (fun i j => .int (i + j))) x y H Q ∨ rCat x y H Q) := op_add.or op_cat
end
/-! ### repr -/
mutual
/-- no shorter than what is shown -/
def D.wgt : D → Nat
  | .non => 4
  | .bl _ => 5
  | .int i => if i.natAbs < 1000000 then 7 else 2000
  | .lst l => 2 + wgts l
  | .tup l => 3 + wgts l
  | _ => 20000000
def wgts : List D → Nat
  | [] => 0
  | d :: l => d.wgt + 2 + wgts l
end
mutual
/-- what repr shows -/
def D.shn : D → Bool
  | .non => true
  | .bl _ => true
  | .int i => decide (i.natAbs.log2 < 1920)
  | .lst l => shns l
  | .tup l => shns l
  | _ => false
def shns : List D → Bool
  | [] => true
  | d :: l => d.shn && shns l
end
mutual
theorem shn_flat : ∀ d : D, d.shn = true → d.flat = true
  | .non, _ => by unfold D.flat; rfl
  | .bl _, _ => by unfold D.flat; rfl
  | .int _, _ => by unfold D.flat; rfl
  | .str _, h => by unfold D.shn at h; cases h
  | .ref _, h => by unfold D.shn at h; cases h
  | .ty _, h => by unfold D.shn at h; cases h
  | .lst l, h => by unfold D.shn at h; unfold D.flat; exact shns_flat l h
  | .tup l, h => by unfold D.shn at h; unfold D.flat; exact shns_flat l h
  | .dk _, h => by unfold D.shn at h; cases h
  | .dt _, h => by unfold D.shn at h; cases h
theorem shns_flat : ∀ l : List D, shns l = true → flats l = true
  | [], _ => by unfold flats; rfl
  | d :: l, h => by unfold shns at h; unfold flats; simp only [Bool.and_eq_true] at h ⊢; exact ⟨shn_flat d h.1, shns_flat l h.2⟩
end
mutual
theorem shn_showable : ∀ d : D, d.shn = true → d.toP.showable = true
  | .non, _ => by unfold D.toP; simp [PyData.showable]
  | .bl _, _ => by unfold D.toP; simp [PyData.showable]
  | .int _, h => by unfold D.shn at h; unfold D.toP; simpa [PyData.showable] using h
  | .str _, h => by unfold D.shn at h; cases h
  | .ref _, h => by unfold D.shn at h; cases h
  | .ty _, h => by unfold D.shn at h; cases h
  | .lst l, h => by unfold D.shn at h; unfold D.toP; simp only [PyData.showable]; exact shns_showable l h
  | .tup l, h => by unfold D.shn at h; unfold D.toP; simp only [PyData.showable]; exact shns_showable l h
  | .dk _, h => by unfold D.shn at h; cases h
  | .dt _, h => by unfold D.shn at h; cases h
theorem shns_showable : ∀ l : List D, shns l = true → PyData.showableAll (toPs l) = true
  | [], _ => by unfold toPs; simp [PyData.showableAll]
  | d :: l, h => by unfold shns at h; unfold toPs; simp only [PyData.showableAll, Bool.and_eq_true] at h ⊢; exact ⟨shn_showable d h.1, shns_showable l h.2⟩
end
theorem listText_len (ts : List Str) : (listText ts).length ≤ 2 + piled ts := by
  cases ts with
  | nil => rw [listText_nil]; decide
  | cons t r =>
    have h := textFrom_length_pos r 1 (("[" : Str) ++ (if (0 : Nat) > 0 then ", " else "" : String) ++ t) (Nat.succ_pos 0)
    have e : ((("[" : Str) ++ (if (0 : Nat) > 0 then ", " else "" : String) ++ t)).length = 1 + t.length := by
      rw [strLen_append, strLen_append]; rfl
    have hX : (listText (t :: r)).length = (textFrom 0 "[" (t :: r)).length + 1 := by
      show (textFrom 0 "[" (t :: r) ++ "]").length = _
      rw [strLen_append]; rfl
    have hY : (textFrom 0 "[" (t :: r)).length = (textFrom 1 (("[" : Str) ++ (if (0 : Nat) > 0 then ", " else "" : String) ++ t) r).length := rfl
    rw [hX, hY, h, e, piled_cons]; omega
theorem tupleText_len (ts : List Str) : (tupleText ts).length ≤ 3 + piled ts := by
  unfold tupleText
  rw [strLen_append, strLen_append]
  have e1 : (("(" : String) : Str).length = 1 := rfl
  have e2 : ((if ts.length == 1 then ",)" else ")" : String) : Str).length ≤ 2 := by split <;> decide
  cases ts with
  | nil =>
    have : (Str.join ", " []).length = 0 := by decide
    rw [this, e1]; omega
  | cons t r =>
    have := join_length_add (t :: r) (by simp)
    rw [e1]; omega
mutual
theorem shn_len : ∀ d : D, d.shn = true → (d.toP.shown).length ≤ d.wgt
  | .non, _ => by unfold D.toP D.wgt; simp only [PyData.shown]; decide
  | .bl b, _ => by unfold D.toP D.wgt; simp only [PyData.shown]; cases b <;> decide
  | .int i, h => by
    unfold D.shn at h; unfold D.toP D.wgt; simp only [PyData.shown]
    show (Str.ofString (toString i)).length ≤ _
    rw [PySem.ofString_length]
    split
    · rename_i q
      exact int_text_length_le10 (k := 6) (by decide) (by simpa using q)
    · have := int_text_length_le (k := 1920) (by decide) (of_decide_eq_true h)
      omega
  | .str _, h => by unfold D.shn at h; cases h
  | .ref _, h => by unfold D.shn at h; cases h
  | .ty _, h => by unfold D.shn at h; cases h
  | .lst l, h => by
    unfold D.shn at h; unfold D.toP D.wgt; simp only [PyData.shown]
    have h1 := listText_len (PyData.shownAll (toPs l))
    have h2 := shns_len l h
    omega
  | .tup l, h => by
    unfold D.shn at h; unfold D.toP D.wgt; simp only [PyData.shown]
    have h1 := tupleText_len (PyData.shownAll (toPs l))
    have h2 := shns_len l h
    omega
  | .dk _, h => by unfold D.shn at h; cases h
  | .dt _, h => by unfold D.shn at h; cases h
theorem shns_len : ∀ l : List D, shns l = true → piled (PyData.shownAll (toPs l)) ≤ wgts l
  | [], _ => by unfold toPs wgts; simp only [PyData.shownAll]; rw [piled_nil]; exact Nat.le_refl _
  | d :: l, h => by
    unfold shns at h; unfold toPs wgts; simp only [PyData.shownAll]; rw [piled_cons]
    simp only [Bool.and_eq_true] at h
    have h1 := shn_len d h.1
    have h2 := shns_len l h.2
    omega
end
mutual
theorem shn_noDict : ∀ d : D, d.toP.hasDict = false
  | .non => by unfold D.toP; simp [PyData.hasDict]
  | .bl _ => by unfold D.toP; simp [PyData.hasDict]
  | .int _ => by unfold D.toP; simp [PyData.hasDict]
  | .str _ => by unfold D.toP; simp [PyData.hasDict]
  | .ref _ => by unfold D.toP; simp [PyData.hasDict]
  | .ty _ => by unfold D.toP; simp [PyData.hasDict]
  | .lst l => by unfold D.toP; simp only [PyData.hasDict]; exact shns_noDict l
  | .tup l => by unfold D.toP; simp only [PyData.hasDict]; exact shns_noDict l
  | .dk _ => by unfold D.toP; simp [PyData.hasDict]
  | .dt _ => by unfold D.toP; simp [PyData.hasDict]
theorem shns_noDict : ∀ l : List D, PyData.hasDictAll (toPs l) = false
  | [] => by unfold toPs; simp [PyData.hasDictAll]
  | d :: l => by unfold toPs; simp only [PyData.hasDictAll, Bool.or_eq_false_iff]; exact ⟨shn_noDict d, shns_noDict l⟩
end
def D.isSeq : D → Bool
  | .lst _ => true
  | .tup _ => true
  | _ => false
def D.rpr (d : D) : Bool := d.isSeq && d.shn && decide (d.toP.depth ≤ 60) && decide (d.wgt ≤ 16000000)
def kRepr : BA := fun os K => ∃ o, os = [o] ∧ o.noIns = true ∧ o.er.rpr = true ∧ K (.sh (.str o.er.toP.shown))
def rRepr (K : PySem.W.Frag) : List V → Hp → VK → Prop := fun xs H Q => ∃ a d, xs = [.ref a] ∧ Dp K H (.ref a) d ∧ d.showable = true ∧ d.hasDict = false ∧ d.depth ≤ 60 ∧ d.shown.length ≤ sizeLine ∧ Q (.str d.shown) H
theorem call_repr {X : Cx} (hu : X.A.units + 64 < cLine) (hg : X.A.guards = some []) : CallR X (.builtin "repr") (rRepr X.K) := by
  intro pins s σ H xs us Q I r h
  obtain ⟨a, d, rfl, hd, hs, hn, hp, hz, q⟩ := h
  obtain ⟨u, rfl, ru⟩ := Vals.one r
  cases ru
  obtain ⟨as, rd⟩ := Dp.reads I d (.ref a) (.ref a) hd rfl
  refine repr_of_reads' rd hs (PyData.noDict_hsm hn) hg (by omega) (fun _ _ e => e) (fun h' u tk hk => ?_) hz
  exact ⟨.str d.shown, H, I.kept (t' := tk) hk, ⟨u, rfl⟩, q⟩
theorem cal_repr {K0 : PySem.W.Frag} : Cal (rRepr K0) kRepr := by
  rintro Z S H vs os ps Q K ll W ⟨o, rfl, ni, hr, hk⟩ post
  obtain ⟨v, rfl⟩ := ents1 ll
  obtain ⟨S', ls, W', hv⟩ := one_er W ni
  unfold D.rpr at hr
  simp only [Bool.and_eq_true, decide_eq_true_eq] at hr
  obtain ⟨⟨⟨h1, h2⟩, h3⟩, h4⟩ := hr
  have hp := dp_of (K := K0) W'.sub _ _ (shn_flat _ h2) hv
  have e : ∃ a, v = .ref a := by
    generalize o.er = d at *
    cases d <;> first | (unfold D.isSeq at h1; cases h1; done) | (unfold IsD at hv; obtain ⟨a, _, e, _⟩ := hv; exact ⟨a, e⟩)
  obtain ⟨a, rfl⟩ := e
  exact ⟨a, _, rfl, hp, shn_showable _ h2, shn_noDict _, h3, Nat.le_trans (shn_len _ h2) (by rw [sizeLine_eq]; omega), post _ hk _ H S' ls (W'.push (by unfold IsD; rfl))⟩
/-! ### count -/
def rCntD (K : PySem.W.Frag) : V → List V → Hp → VK → Prop := fun x xs H Q => ∃ (a : Addr) (y : V) (d : PyData) (ds : List PyData), x = V.ref a ∧ xs = [y] ∧ Dp K H (V.ref a) (.list ds) ∧ Dp K H y d ∧
  SeqAt.shaped (.list ds) = true ∧ SeqAt.shaped d = true ∧ Q (.int ((ds.countP fun z => PyData.eqv z d : Nat) : Int)) H
theorem mt_cntD {X : Cx} (hu : X.A.units + 65 < cLine) : MtR X "list.count" (rCntD X.K) := by
  intro pins s σ H x xs v us Q I rx rxs h
  obtain ⟨a, y, d, ds, rfl, rfl, hl, hy, sl, sd, q⟩ := h
  cases rx
  obtain ⟨uy, rfl, ry⟩ := rxs.one
  obtain ⟨bs, r1⟩ := Dp.reads I d y uy hy ry
  have hxs : PyData.canLayAll0 ds = true := SeqAt.canLay_of_shaped sl
  have hroom : X.A.units + 1 + min (PyData.depthAll ds) d.depth < cLine := room_in_shaped sd hu
  cases hl with
  | lst hs ha =>
    obtain ⟨its, rv, ⟨⟨cls, dd, data, sls⟩, n, ho, hc, hdn, hdt⟩, hlen⟩ := I.list hs
    simp only at hc hdt
    subst hc hdt
    obtain ⟨as, h4⟩ := Dp.readsAll I ds _ its ha rv
    have hmap : its.map (SeqAt.readOf s.heap) = ds := SeqAt.readsAll_map ds its as hxs h4
    refine call_meets PySem.F.slot_list_count ⟨_, ho, rfl⟩ PySem.F.entry_list_count (PySem.F.args_list_count_2 _ _)
      (SeqAt.list_countAt a its.toArray n dd sls uy (fun u => PyData.eqv (SeqAt.readOf s.heap u) d)) ⟨ho, SeqAt.items_eqAt (vs := its.toArray) (show ReadsAll s.heap its.toArray.toList ds as from h4) r1 hxs (SeqAt.canLay_of_shaped sd) hroom, ?_⟩
    have e : its.toArray.toList.countP (fun u => PyData.eqv (SeqAt.readOf s.heap u) d) = ds.countP fun z => PyData.eqv z d := by
      rw [← hmap, List.countP_map]; rfl
    rw [e]
    exact ⟨.int _, H, I.tok _, ⟨_, rfl⟩, q⟩
section
variable {X : Cx} {e r : Expr} {f : OE} {g : OA} {apos cpos : Pos}
def oCnt (f : OE) (g : OA) : OE := fun γ Q => f γ fun x γ1 => x.noIns = true ∧ ∃ l, x.er = .lst l ∧ g γ1 fun os γ2 => ∃ o, os = [o] ∧ o.noIns = true ∧ (D.lst l).shp = true ∧ o.er.shp = true ∧ Q (.sh (.int ((l.countP fun z => z.eqv o.er : Nat) : Int))) γ2
theorem countP_toPs (p : PyData → Bool) : ∀ l : List D, (toPs l).countP p = l.countP fun z => p z.toP
  | [] => by unfold toPs; rfl
  | d :: l => by unfold toPs; rw [List.countP_cons, List.countP_cons, countP_toPs p l]
theorem je_cnt (hu : X.A.units + 65 < cLine) (hr : JE X r f) (ha : JA X [e] g)
    (hbase : attributeBase r "count" X.env (eval r X.env) = eval r X.env := by rfl)
    (hfew : ((backTo cpos (starEach [e] X.env)).all (fun x => !x.1) && (backToKw cpos (keywordEach [] X.env)).all (fun x => x.1.isSome)
      && decide (([e] : List Expr).length + ([] : List Keyword).length + (if ([] : List Keyword).isEmpty then 0 else 1) < 30)) = true := by rfl)
    (hline : (apos.endLine == cpos.line) = true := by rfl) (hs : starEach [e] X.env = (false, eval e X.env) :: starEach [] X.env := by rfl) (hplain : (backTo cpos (starEach [] X.env)).any (·.1) = false := by rfl) :
    JE X (.Call (.Attribute r "count" apos) [e] [] cpos) (oCnt f g) := by
  refine PE.imp (pe_bm PySem.F.plainAttrs_list PySem.F.slot_list_count PySem.F.type_list_count (mt_cntD hu) hr ha hbase hfew hline hs hplain) fun σ H Q hh => ?_
  obtain ⟨Z, S, T, γ, K, hl, W, hf, post⟩ := hh
  refine ⟨Z, S, T, γ, _, hl, W, hf, ?_⟩
  rintro ox γ1 ⟨ni, l, el, hg⟩ l1 x H1 S1 ls1 W1
  obtain ⟨S2, ls2, W2⟩ := W1.mid.share ni
  rw [el] at W2
  have hx := id W2.isD
  unfold IsD at hx
  obtain ⟨a, vs, rfl, hav, hds⟩ := hx
  refine ⟨.inl ⟨rfl, vs, .inl (.inl (W2.sub.lst hav))⟩, Z, S2, _, γ1, _, by omega, World.unmid W2, hg, ?_⟩
  rintro _ γ2 ⟨o, rfl, no, sl, so, k⟩ l2 ws H2 S3 ls3 lw W3
  obtain ⟨w, rfl⟩ := ents1 lw
  have W4 : World Z S3 H2 ((some w, some o) :: (some (.ref a), some (.sh (.lst l))) :: (σ.zip γ2 ++ T)) := W3.perm (List.perm_middle.trans (List.Perm.cons _ List.perm_middle))
  obtain ⟨S4, ls4, W5, hw⟩ := one_er W4 no
  have hx := W5.isD
  unfold D.shp at sl so
  simp only [Bool.and_eq_true] at sl so
  have pl := dp_of (K := X.K) W5.sub _ _ sl.1 hx
  have po := dp_of (K := X.K) W5.sub _ _ so.1 hw
  unfold D.toP at pl
  have s2 := sl.2
  unfold D.toP at s2
  refine ⟨a, w, _, _, rfl, rfl, pl, po, s2, so.2, ?_⟩
  rw [countP_toPs]
  exact post _ γ2 k (by omega) _ H2 S4 (ls1.trans (ls2.trans (ls3.trans ls4))) (W5.tail.push (by unfold IsD; rfl)).unmid
end
end FN
end
section
namespace FN
open PySem PySem.Spec L2
open PyProof.Rows hiding St

/-! ### a dict of one's own is read alone from here on -/
def tFrz (t : TE) : TE := fun σ H Q => t σ H fun v H1 => ∃ d u, v = .ref d ∧ H1 d = some u ∧ Mut (some u) ∧ ∀ od, Q v (upd H1 d (.frz od u))
theorem pe_frz {X : Cx} {e : Expr} {t : TE} (h : PE X e t) : PE X e (tFrz t) := by
  refine ⟨fun pins s σ H Q I hw => ?_⟩
  refine thn (h.run pins s σ H _ I hw) fun u s1 ⟨x, H1, I1, rx, d, w, ex, hd, mu, q⟩ => ?_
  obtain ⟨od, I2⟩ := I1.lock hd mu
  exact ⟨x, _, I2, rx, q od⟩
theorem OwnK.share' {S H S' : Hp} (h : Le S S') {l : List (Key × O)} {vs : List (Key × V)} {fp : List Addr} (n : noInsK l = true) (x : OwnK S H l vs fp) (k : ∀ a ∈ fp, S' a = H a) : IsDk S' (erK l) vs := OwnK.share h l vs fp n x k
theorem World.freeze {Z S H : Hp} {v : V} {l : List (Key × O)} {ps : List En} (W : World Z S H ((some v, some (.dk l)) :: ps)) (ni : noInsK l = true) :
    ∃ a vs S', v = .ref a ∧ H a = some (.dK vs) ∧ Le S S' ∧ S' a = some (.dK vs) ∧ IsDk S' (erK l) vs ∧ ∀ od, World (upd Z a (.frz od (.dK vs))) S' (upd H a (.frz od (.dK vs))) ps ∧ World Z S' (upd H a (.frz od (.dK vs))) ps := by
  obtain ⟨fp, ⟨u, f1, f2, e1, e2, e3, e4⟩, n, k⟩ := id W.own
  cases e1
  have e2' := e2
  unfold Own at e2'
  obtain ⟨a, vs, f, h1, h2, h3, h4, h5⟩ := e2'
  subst h1 h4 e4
  obtain ⟨S', ls, W1⟩ := W.share (by unfold O.noIns; exact ni)
  have hd := id W1.isD
  unfold O.er IsD at hd
  obtain ⟨a', vs', q1, q2, q3⟩ := hd
  cases q1
  have hv : vs' = vs := by
    have hz : Z a = none := (k a (by simp)).2
    rcases W1.sub a _ q2 with x | ⟨_, o, x⟩
    · rw [h2] at x; cases x; rfl
    · rw [h2] at x; cases x
  subst hv
  have W2 := W1.tail
  have hZ : Z a = none := (k a (by simp)).2
  obtain ⟨fq, y, m, kq⟩ := W2.own
  have nd : ∀ b ∈ fq, b ≠ a := fun b hb e => by rw [e] at hb; rw [(kq a hb).1] at q2; cases q2
  refine ⟨a, vs', S', rfl, h2, ls, q2, q3, fun od => ⟨⟨fun b w e => ?_, fun b w e => ?_, fq, OwnP.stay (Le.refl S') _ _ y fun b hb => upd_ne (nd b hb), m, fun b hb => ⟨(kq b hb).1, by rw [upd_ne (nd b hb)]; exact (kq b hb).2⟩⟩, ⟨fun b w e => ?_, fun b w e => ?_, fq, OwnP.stay (Le.refl S') _ _ y fun b hb => upd_ne (nd b hb), m, kq⟩⟩⟩
  · by_cases q : b = a
    · subst q; rw [q2] at e; cases e; rw [upd_same]; exact .inr ⟨trivial, od, rfl⟩
    · rw [upd_ne q]; exact W2.sub b w e
  · by_cases q : b = a
    · subst q; rw [upd_same] at e ⊢; exact e
    · rw [upd_ne q] at e ⊢; exact W2.pin b w e
  · by_cases q : b = a
    · subst q; rw [q2] at e; cases e; rw [upd_same]; exact .inr ⟨trivial, od, rfl⟩
    · rw [upd_ne q]; exact W2.sub b w e
  · by_cases q : b = a
    · subst q; rw [hZ] at e; cases e
    · rw [upd_ne q]; exact W2.pin b w e
/-- a dict of one's own is walked -/
def iDw (k : DW) (f : OE) : OI := fun γ Q => f γ fun o γ1 => ∃ l, o = .dk l ∧ noInsK l = true ∧ Q (k.os (erK l)) γ1
section
variable {X : Cx} {tg e : Expr} {f : OE} {apos cpos : Pos}
theorem tDw_of (k : DW) {σ : L2.St} {H : Hp} {R : It → Hp → Prop} (hh : tI (iDw k f) σ H R) : tFrz (tE f) σ H fun x H1 => ∃ d o kvs, x = .ref d ∧ H1 d = some (.frz o (.dK kvs)) ∧ R (k.it d o kvs) H1 := by
  obtain ⟨Z, S, T, γ, K, hl, W, hf, post⟩ := hh
  refine ⟨Z, S, T, γ, _, hl, W, hf, ?_⟩
  rintro _ γ1 ⟨l, rfl, ni, kk⟩ l1 v H1 S1 ls W1
  obtain ⟨a, vs, S2, rfl, ha, ls2, hs, hk, W2⟩ := W1.mid.freeze ni
  refine ⟨a, _, rfl, ha, trivial, fun od => ⟨a, od, vs, rfl, upd_same, ?_⟩⟩
  have hz : Z a = none := by
    obtain ⟨fp, ⟨u, f1, f2, e1, e2, e3, e4⟩, n, kf⟩ := W1.mid.own
    cases e1
    unfold Own at e2
    obtain ⟨a', vs', f', q1, q2, q3, q4, q5⟩ := e2
    cases q1
    subst q4 e4
    exact (kf a (by simp)).2
  exact post _ γ1 kk l1 _ _ S2 (fun _ => []) (upd Z a (.frz od (.dK vs))) (ls.trans ls2) (fun b u e => by rw [upd_ne (fun q => by rw [q, hz] at e; cases e)]; exact e) (src_dw k upd_same hk) (W2 od).1
theorem ji_keysO (he : JE X e f) : JI X tg e (iDw .keys f) := PI.imp (pi_keys (pe_frz he)) fun σ H R hh => by
  obtain ⟨Z, S, T, γ, K, hl, W, hf, post⟩ := tDw_of .keys hh
  refine ⟨Z, S, T, γ, K, hl, W, hf, fun o γ' k l v H' S' ls W' => ?_⟩
  obtain ⟨d, u, e1, e2, e3, e4⟩ := post o γ' k l v H' S' ls W'
  refine ⟨d, u, e1, e2, e3, fun od => ?_⟩
  obtain ⟨d', o', kvs, q1, q2, q3⟩ := e4 od
  exact ⟨d', o', q1, .inl ⟨kvs, q2, q3⟩⟩
theorem ji_valsO (he : JE X e f) (hbase : attributeBase e "values" X.env (eval e X.env) = eval e X.env := by rfl) (hline : (apos.endLine == cpos.line) = true := by rfl) : JI X tg (.Call (.Attribute e "values" apos) [] [] cpos) (iDw .vals f) :=
  PI.imp (pi_values (pe_frz he) hbase hline) fun σ H R hh => tDw_of .vals hh
theorem ji_itemsO {elts : List Expr} {kk : Nat} {tpos : Pos} (he : JE X e f) (hbase : attributeBase e "items" X.env (eval e X.env) = eval e X.env := by rfl) (hline : (apos.endLine == cpos.line) = true := by rfl) :
    JI X (.Tuple elts kk tpos) (.Call (.Attribute e "items" apos) [] [] cpos) (iDw .items f) := PI.imp (pi_items (pe_frz he) hbase hline) fun σ H R hh => tDw_of .items hh
end
/-! ### dict comprehensions -/
theorem World.putK {Z S H : Hp} {u : V} {o : O} {a : Addr} {l : List (Key × O)} {k : Key} {ps : List En} (W : World Z S H ((some u, some o) :: (some (.ref a), some (.dk l)) :: ps)) :
    ∃ vs, H a = some (.dK vs) ∧ vs.length = l.length ∧ World Z S (upd H a (.dK (L2.putK vs k u))) ((some (.ref a), some (.dk (putR l k o))) :: ps) := by
  obtain ⟨fp, ⟨w1, f1, r1, e1, o1, ⟨w2, f2, r2, e2, o2, _⟩, _⟩, _⟩ := id W.own
  cases e1; cases e2
  unfold Own at o2
  obtain ⟨b, vs, f, h1, h2, h3, h4, h5⟩ := o2
  cases h1
  have kk := OwnK.keys h3
  refine ⟨vs, h2, by simpa using congrArg List.length kk, ?_⟩
  rw [putK_eq k u (by rw [kk]; exact h5)]
  refine World.redo (es := [(some u, some o), (some (.ref a), some (.dk l))]) (es' := [(some (.ref a), some (.dk (putR l k o)))]) W ?_
  rintro fp n ⟨w1', g1, s1, x1, y1, ⟨w2', g2, s2, x2, y2, x3, x4⟩, x5⟩
  cases x1; cases x2
  have x3' : s2 = [] := x3
  subst x3' x4 x5
  unfold Own at y2
  obtain ⟨a', vs', f', z1, z2, z3, z4, z5⟩ := y2
  cases z1
  rw [h2] at z2; cases z2
  subst z4
  rw [List.append_nil] at n ⊢
  have nn := (List.perm_middle (a := a) (l₁ := g1) (l₂ := f')).nodup_iff.mp n
  have na := (List.nodup_cons.mp nn).1
  have t1 := Own.stay (H' := upd H a (.dK (putR vs k u))) (Le.refl S) _ _ _ y1 fun b hb => upd_ne fun q => na (q ▸ List.mem_append_left _ hb)
  have t2 := OwnK.stay (H' := upd H a (.dK (putR vs k u))) (Le.refl S) _ _ _ z3 fun b hb => upd_ne fun q => na (q ▸ List.mem_append_right _ hb)
  obtain ⟨fq, q1, q2⟩ := OwnK.put (k := k) t2 t1
  refine ⟨by simp, a :: fq ++ [], ⟨.ref a, a :: fq, [], rfl, by unfold Own; exact ⟨a, _, fq, rfl, upd_same, q1, rfl, putR_nodup z5⟩, rfl, rfl⟩, ?_⟩
  rw [List.append_nil]
  exact ((Pt0.refl [a]).app q2).trans (.of_perm List.perm_middle)
theorem World.newD {Z S H : Hp} {ps : List En} {p : Addr} (W : World Z S H ps) (hp : H p = none) : World Z S (upd H p (.dK [])) ((some (.ref p), some (.dk [])) :: ps) :=
  World.newBy (vs := []) (os := []) W rfl hp fun f h => by
    unfold OwnL at h
    unfold Own
    exact ⟨p, [], f, rfl, upd_same, by unfold OwnK; exact ⟨rfl, h.2⟩, rfl, List.nodup_nil⟩
def compD (ag : AG) (t : OT) (fk fv : OE) (vs : List Nat) : List O → List (Key × O) → Gm → (List (Key × O) → Gm → Prop) → Prop
  | [], acc, γ, Q => Q acc γ
  | o :: os, acc, γ, Q => ag o γ fun γ1 => t γ1 fun b γ2 => if b = true then fk γ2 fun kd γ3 => fv γ3 fun y γ4 => ∃ d k, kd = .sh d ∧ isKey d = some k ∧ compD ag t fk fv vs os (putR acc k y) (wipeC γ4 vs) Q else compD ag t fk fv vs os acc (wipeC γ2 vs) Q
theorem wipeC_wipeC (γ : Gm) (vs : List Nat) : wipeC (wipeC γ vs) vs = wipeC γ vs := by
  refine List.ext_getElem? fun j => ?_
  by_cases q : j ∈ vs
  · have kk : ∀ (τ : Gm) (us : List Nat), j ∈ us → (wipeC τ us)[j]? = if j < τ.length then some none else none := fun τ us => by
      induction us with
      | nil => intro h; cases h
      | cons u us ih =>
        intro hm
        unfold wipeC
        by_cases e : u = j
        · subst e
          rw [List.getElem?_set_self']
          by_cases hh : u < τ.length
          · have : u < (wipeC τ us).length := by rw [wipeC_len]; exact hh
            rw [if_pos hh, List.getElem?_eq_getElem this]; rfl
          · have : ¬ u < (wipeC τ us).length := by rw [wipeC_len]; exact hh
            rw [if_neg hh, List.getElem?_eq_none (by omega)]; rfl
        · rw [List.getElem?_set_ne e]
          exact ih (by rcases List.mem_cons.mp hm with z | z; exact absurd z.symm e; exact z)
    rw [kk _ vs q, kk _ vs q, wipeC_len]
  · have kk : ∀ (τ : Gm) (us : List Nat), j ∉ us → (wipeC τ us)[j]? = τ[j]? := fun τ us => by
      induction us with
      | nil => intro _; rfl
      | cons u us ih =>
        intro hm
        simp at hm
        unfold wipeC
        rw [List.getElem?_set_ne (fun e => hm.1 e.symm)]
        exact ih hm.2
    rw [kk _ vs q]
theorem dcomp_core {Z S1 : Hp} {H1 : Hp} {σ : L2.St} {γ1 : Gm} {T : List En} {os : List O} {Rn : Nat → List En} {Jt : It} {K : List (Key × O) → Gm → Prop} {Q : VK} {ag : AG} {t : OT} {fk fv : OE} {vs : List Nat} (hl : σ.length = γ1.length)
    (W1 : World Z S1 H1 (σ.zip γ1 ++ (Rn 0 ++ T))) (src : Src Z S1 Jt os Rn) (hz : os.length ≤ 1000000) (hf : compD ag t fk fv vs os [] (wipeC γ1 vs) K)
    (P : ∀ acc γ', K acc γ' → γ'.length = γ1.length → ∀ v H' S', Le S1 S' → World Z S' H' (σ.zip (wipeC γ' vs) ++ (some v, some (.dk acc)) :: T) → Q v H') :
    ∀ D, H1 D = none → ∃ W0 : Nat → Nat → Hp → Prop, (∃ m, W0 0 m (upd H1 D (.dK []))) ∧ ∀ i m H, W0 i m H →
      (Jt.stop i H ∧ Q (.ref D) H) ∨ (Jt.go i H ∧ ∃ Nx : Hp → Prop, (∀ H', Nx H' → ∃ m', m' < m ∧ W0 (i + 1) m' H') ∧ ∀ x H', Jt.yld i H x H' → tG vs ag x (wipe σ vs) H' fun σ2 H2 => wipe σ2 vs = wipe σ vs ∧ tT t σ2 H2 fun b H3 =>
        if b = true then tE fk σ2 H3 fun y H4 => tE fv σ2 H4 fun z H5 => ∃ kvs k, y = kV k ∧ H5 D = some (.dK kvs) ∧ kvs.length < sizeLine ∧ Nx (upd H5 D (.dK (L2.putK kvs k z))) else Nx H3) := by
  intro D hD
  have W2 : World Z S1 (upd H1 D (.dK [])) ((some (.ref D), some (.dk [])) :: (σ.zip γ1 ++ (Rn 0 ++ T))) := W1.newD hD
  have W3 : World Z S1 (upd H1 D (.dK [])) ((wipe σ vs).zip (wipeC γ1 vs) ++ (Rn 0 ++ ((some (.ref D), some (.dk [])) :: T))) := by
    have := (World.unmid W2).wiped vs
    refine this.perm (List.Perm.append_left _ ?_)
    exact List.perm_middle.symm
  refine ⟨fun i m H2 => m = os.length - i ∧ i ≤ os.length ∧ ∃ S2 γ2 acc, γ2.length = γ1.length ∧ Le S1 S2 ∧ acc.length ≤ i ∧ World Z S2 H2 ((wipe σ vs).zip (wipeC γ2 vs) ++ (Rn i ++ ((some (.ref D), some (.dk acc)) :: T))) ∧ compD ag t fk fv vs (os.drop i) acc (wipeC γ2 vs) K,
    ⟨os.length, by simp, Nat.zero_le _, S1, γ1, [], rfl, Le.refl S1, by simp, W3, hf⟩, ?_⟩
  rintro i m H2 ⟨rfl, hi, S2, γ2, acc, l2, ls, la, W4, hv⟩
  have ll2 : (wipe σ vs).length = (wipeC γ2 vs).length := by rw [wipe_length, wipeC_len]; omega
  by_cases hlt : i < os.length
  · refine .inr ⟨src.go i hlt Z S2 H2 _ (Le.refl Z) ls W4.mids, fun H' => ∃ S2 γ2 acc, γ2.length = γ1.length ∧ Le S1 S2 ∧ acc.length ≤ i + 1 ∧ World Z S2 H' ((wipe σ vs).zip (wipeC γ2 vs) ++ (Rn (i + 1) ++ ((some (.ref D), some (.dk acc)) :: T))) ∧ compD ag t fk fv vs (os.drop (i + 1)) acc (wipeC γ2 vs) K,
      fun H' n => ⟨os.length - (i + 1), by omega, rfl, hlt, n⟩, fun x H' y => ?_⟩
    obtain ⟨S3, ls3, W5⟩ := src.yld i os[i] (List.getElem?_eq_getElem hlt) Z S2 H2 _ x H' (Le.refl Z) ls W4.mids y
    rw [List.drop_eq_getElem_cons hlt] at hv
    have W6 : World Z S3 H' ((wipe σ vs).zip (wipeC γ2 vs) ++ (some x, some os[i]) :: (Rn (i + 1) ++ ((some (.ref D), some (.dk acc)) :: T))) := by
      refine W5.perm ?_
      refine (List.Perm.cons _ ?_).trans List.perm_middle.symm
      rw [← List.append_assoc, ← List.append_assoc]
      exact List.perm_append_comm.append_right _
    refine ⟨Z, S3, _, wipeC γ2 vs, os[i], _, ll2, W6, hv, ?_⟩
    intro γ3 hb σ3 H3 S4 l3 on ls4 W7
    have ew : wipe σ3 vs = wipe σ vs := (wipe_only on).trans (wipe_wipe vs)
    refine ⟨ew, Z, S4, _, γ3, _, by rw [on.1]; omega, W7, hb, ?_⟩
    intro b γ4 hb4 l4 H4 S5 ls5 W8
    have l3' : γ3.length = γ1.length := by rw [l3, wipeC_len]; omega
    have turn : ∀ {S' H' : Hp} {γ' : Gm} {acc' : List (Key × O)}, γ'.length = γ1.length → Le S1 S' → acc'.length ≤ i + 1 → World Z S' H' (σ3.zip γ' ++ (Rn (i + 1) ++ ((some (.ref D), some (.dk acc')) :: T))) → compD ag t fk fv vs (os.drop (i + 1)) acc' (wipeC γ' vs) K →
        ∃ S2 γ2 acc, γ2.length = γ1.length ∧ Le S1 S2 ∧ acc.length ≤ i + 1 ∧ World Z S2 H' ((wipe σ vs).zip (wipeC γ2 vs) ++ (Rn (i + 1) ++ ((some (.ref D), some (.dk acc)) :: T))) ∧ compD ag t fk fv vs (os.drop (i + 1)) acc (wipeC γ2 vs) K :=
      fun {S' H' γ' acc'} q1 q2 q3 q4 q5 => ⟨S', γ', acc', q1, q2, q3, by rw [← ew]; exact q4.wiped vs, q5⟩
    cases b with
    | false =>
      simp only [Bool.false_eq_true, if_false] at hb4 ⊢
      exact turn (by omega) (ls.trans (ls3.trans (ls4.trans ls5))) (by omega) W8 hb4
    | true =>
      simp only [if_true] at hb4 ⊢
      refine ⟨Z, S5, _, γ4, _, by rw [on.1]; omega, W8, hb4, ?_⟩
      intro kd γ5 hb5 l5 y' H5 S6 ls6 W9
      refine ⟨Z, S6, _, γ5, _, by rw [on.1]; omega, W9, hb5, ?_⟩
      rintro o γ6 ⟨d, k, rfl, hk, hb6⟩ l6 v H6 S7 ls7 W10
      have hky := isKey_v (W10.mid.tail.mid.isD) hk
      have W11 : World Z S7 H6 ((some v, some o) :: (some (.ref D), some (.dk acc)) :: (σ3.zip γ6 ++ (Rn (i + 1) ++ T))) := by
        have := W10.perm (List.perm_middle.trans (List.Perm.cons _ List.perm_middle))
        have W' := this.swap.tail
        refine W'.perm (List.Perm.cons _ ?_)
        rw [← List.append_assoc, ← List.append_assoc]
        exact List.perm_middle
      obtain ⟨ws, hD5, lw, W12⟩ := W11.putK (k := k)
      refine ⟨ws, k, hky, hD5, by rw [sizeLine_eq]; omega, ?_⟩
      have := putR_len k o acc
      refine turn (γ' := γ6) (acc' := putR acc k o) (by omega) (ls.trans (ls3.trans (ls4.trans (ls5.trans (ls6.trans ls7))))) (by omega) ?_ hb6
      refine W12.perm ?_
      rw [← List.append_assoc, ← List.append_assoc]
      exact List.perm_middle.symm
  · have e : i = os.length := by omega
    subst e
    rw [List.drop_length] at hv
    refine .inl ⟨src.stop Z S2 H2 _ (Le.refl Z) ls W4.mids, ?_⟩
    have W5 := World.unwiped (σ := σ) (by omega) W4
    refine P acc (wipeC γ2 vs) hv (by rw [wipeC_len]; exact l2) (.ref D) H2 S2 ls ?_
    have W6 := W5.dropMid
    rw [wipeC_wipeC]
    exact W6
def vDc (f : OI) (ag : AG) (t : OT) (fk fv : OE) (vs : List Nat) : OE := fun γ Q => f γ fun os γ1 => os.length ≤ 1000000 ∧ compD ag t fk fv vs os [] (wipeC γ1 vs) fun acc γ2 => Q (.dk acc) (wipeC γ2 vs)
section
variable {X : Cx}
theorem je_dc {kx vx tg iter : Expr} {ifs : List Expr} {scope : Scope} {own : List (Str × Nat)} {pos : Pos} {f : OI} {ag : AG} {t : OT} {fk fv : OE} (hc : X.calm = true) (hN : X.N.Nodup) (hi : JI X tg iter f) (ok : BlkOk X.N X.env.scope scope own)
    (hg : ∀ (s : Shared) (H : Hp) (C : Addr) (cl : List (Str × Addr)) (fp : List Addr), JG (own.map (·.2)) (X.blk s H scope (compEnvC scope cl C X.env) fp) tg ag) (ht : ∀ (s : Shared) (H : Hp) (C : Addr) (cl : List (Str × Addr)) (fp : List Addr), JTs (X.blk s H scope (compEnvC scope cl C X.env) fp) ifs t)
    (hk : ∀ (s : Shared) (H : Hp) (C : Addr) (cl : List (Str × Addr)) (fp : List Addr), JE (X.blk s H scope (compEnvC scope cl C X.env) fp) kx fk)
    (he : ∀ (s : Shared) (H : Hp) (C : Addr) (cl : List (Str × Addr)) (fp : List Addr), JE (X.blk s H scope (compEnvC scope cl C X.env) fp) vx fv) (hs : ∀ x, foldedSetIterable iter X.env x = pure x := by intro _; rfl) :
    JE X (.DictComp kx vx [⟨tg, iter, ifs, 0⟩] scope pos) (vDc f ag t fk fv (own.map (·.2))) := by
  refine PE.imp (pe_dc hc hN hi ok hg ht hk he hs) fun σ H Q hh => ?_
  obtain ⟨Z, S, T, γ, K, hl, W, hf, post⟩ := hh
  exact ⟨Z, S, T, γ, _, hl, W, hf, fun os γ1 ⟨hz, k⟩ l Jt H1 S1 Rn Z' ls lz src W1 => dcomp_core (by omega) W1 src hz k fun acc γ' kk l' v H' S' ls' W' => post _ _ kk (by rw [wipeC_len]; omega) v H' S' (ls.trans ls') (W'.unpin lz)⟩
end
end FN
end
section
namespace FN
open PySem PySem.Spec L2
open PyProof.Rows hiding St

/-! ### a def, called where no repr is under way -/
structure FnG (P : Program) (w : PySem.World) (K : PySem.W.Frag) (mg : Str → Option Value) (base : Heap) (CX : CXT) (k : Nat) (f : Addr) (fd : FuncData) (ps : List Str) (sp : Sp) : Prop where
  size : ∀ vs H Q E, sp vs H Q E → vs.length = ps.length
  go : ∀ (A : Around) (outer : List Env) (s : Shared) (H : Hp) (args : Args) (us : List Value) (vs : List V) (Q : VK) (E : XK), Room k A → A.guards = some [] → Env0 P w K mg base A outer s H → BindsTo s fd args (ps.zip us) →
    Vals vs us → sp vs H Q E → codeAny (model P w) A (.call (.ref f) args) (CR CX outer P w H s Q E) s
theorem FnG.deep {P : Program} {w : PySem.World} {K : PySem.W.Frag} {mg : Str → Option Value} {base : Heap} {CX : CXT} {j k : Nat} {f : Addr} {fd : FuncData} {ps : List Str} {sp : Sp} (F : FnG P w K mg base CX j f fd ps sp) (h : j ≤ k) : FnG P w K mg base CX k f fd ps sp :=
  ⟨F.size, fun A outer s H args us vs Q E room quiet => F.go A outer s H args us vs Q E (room.mono h) quiet⟩
/-- by its body -/
theorem fnG_of {CX : CXT} {P : Program} {w : PySem.World} {K : PySem.W.Frag} {mg : Str → Option Value} {base : Heap} {k : Nat} {f : Addr} {x qual : Str} {params : Arguments} {body : List Stmt} {scope : Scope} {dvs : List V} {kws : List (Str × V)} {fd : FuncData} {N ps : List Str} {sp : Sp}
    (F : FunD K x qual params body scope dvs kws f fd) (sc : FnScope N ps scope) (size : ∀ vs H Q E, sp vs H Q E → vs.length = ps.length)
    (hb : ∀ (cdv : Value) (A : Around) (outer : List Env) (s : Shared) (H : Hp) (vs : List V) (Q : VK) (E : XK), Room k (A.deeper (envOfC qual scope s.heap.objs.size f cdv)) → (A.deeper (envOfC qual scope s.heap.objs.size f cdv)).guards = some [] → sp vs H Q E →
      ∃ t, PSs (cxOf CX P w K mg base N qual scope f cdv A outer s H E) body t ∧ t { nx := fun _ H' => Q .non H', rt := Q } (start N vs) H) : FnG P w K mg base CX (k + 1) f fd ps sp := by
  obtain ⟨ocls, odict, dfl, kwd, docv, pmod, anns, cdv, clo, oslots, rfl, found, code, _, _⟩ := F.ex
  refine ⟨size, fun A outer s H args us vs Q E room quiet env0 binds rel promise => ?_⟩
  have inHeap : K.In s.heap := env0.mod.kin.keeps fun b o e => (env0.bs b o e).1
  have kinds : ∀ y ∈ ps.zip us, scope.names.lookup y.1 = some .local ∨ (scope.names.lookup y.1 = some .cell ∧ ((cellsFrom (s.heap.objs.size + 1) scope.names []).lookup y.1).isSome = true) := by
    rintro ⟨n, v⟩ hy
    rcases sc.par n (List.of_mem_zip hy).1 with c | c
    · exact Or.inl c
    · exact Or.inr ⟨c, PySem.W.cellsFrom_some _ _ _ (Or.inl c)⟩
  refine codeAny_call_function room.depth (inHeap _ _ found) rfl sc.co sc.gen rfl (PySem.W.codeRec_of inHeap code) (binds _ _ _ _ ?_)
  refine wpAny_newFunctionEnv_cells sc.kind kinds fun env isEnv s1 laid => ?_
  subst isEnv
  refine ⟨(env0.mod.nolimit.keeps fun b o e => (env0.bs b o e).1).keeps laid.toInCall.keep, codeAny_func ?_⟩
  obtain ⟨t, runs, reads⟩ := hb cdv A outer s H vs Q E (room.deeper _) quiet promise
  have begin_ : Inv (cxOf CX P w K mg base N qual scope f cdv A outer s H E) [] (start N vs) H s1 := inv_start sc room.hd env0 (size _ _ _ _ promise) rel laid
  refine wpAny_mono (runs.run [] s1 (start N vs) H _ begin_ reads) (fun fl s' back => ?_) fun e s' back => back
  cases fl with
  | ret u => obtain ⟨v, σ', H', J, rv, q⟩ := back; exact ⟨v, H', J.os, J.bare, J.base, J.hok, rv, q⟩
  | next => obtain ⟨σ', H', J, q⟩ := back; exact ⟨V.non, H', J.os, J.bare, J.base, J.hok, rfl, q⟩
  | brk => obtain ⟨_, _, _, q⟩ := back; exact q.elim
  | cont => obtain ⟨_, _, _, q⟩ := back; exact q.elim
section
variable {X : Cx} {CX : CXT} {k : Nat} {f : Addr} {fd : FuncData} {ps : List Str} {sp : Sp} {E : XK}
theorem goG {args : Args} {pins : List (Addr × Obj)} {σ : L2.St} {H : Hp} {s : Shared} {Q : VK} {us : List Value} {vs : List V} (F : FnG X.prog X.w X.K X.mg X.base CX k f fd ps sp) (room : Room k X.A) (quiet : X.A.guards = some []) (ex : Passes CX X E)
    (I : Inv X pins σ H s) (binds : BindsTo s fd args (ps.zip us)) (rel : Vals vs us) (promise : sp vs H Q E) : wpAny (model X.prog X.w) X.A (call (.ref f) args.pos args.kw) (EP X pins σ Q) X.xe s := by
  refine wpAny_call (codeAny_mono (F.go X.A X.stack s H args us vs Q E room quiet I.env0 binds rel promise) fun r s' back => ?_)
  match r, back with
  | .error e, back => exact ex pins σ H s e s' I back
  | .ok (.ret u), back => exact I.after back
/-- f(e, ..) -/
theorem pe_callG {x : Str} {p pos : Pos} {e : Expr} {es : List Expr} {t : TA} (F : FnG X.prog X.w X.K X.mg X.base CX k f fd ps sp) (room : Room k X.A) (quiet : X.A.guards = some []) (glo : Gl X x) (isf : X.mg x = some (.ref f)) (keeps : PySem.W.keepIn X.K (.ref f) = true) (binds : Binds X.K fd ps [])
    (ex : Passes CX X E) (ha : PA X (e :: es) t) (hdb : (x == ("__debug__" : Str)) = false := by decide) (he : starEach (e :: es) X.env = (false, eval e X.env) :: starEach es X.env := by rfl) (hpl : (backTo pos (starEach es X.env)).any (·.1) = false := by rfl) :
    PE X (.Call (.Name x p) (e :: es) [] pos) (fun σ H Q => t σ H fun vs H1 => sp vs H1 Q E) := by
  refine ⟨fun pins s σ H Q I reads => ?_⟩
  refine wpAny_Call_Name_kw (ld_glob I glo isf ?_ hdb)
  refine PySem.W.callWith_K (h₀ := X.base) I.ok.mod.kin keeps (thn (ha.run pos pins s σ H _ I reads) fun us s1 ⟨vs, H1, I1, rel, promise⟩ => ⟨I1.kIn, ?_⟩) he hpl
  have l : (us ++ []).length = ps.length := by rw [List.append_nil, ← rel.length]; exact F.size _ _ _ _ promise
  have b := binds s1 us I1.kIn l
  rw [List.append_nil] at b
  exact goG (args := ⟨us, []⟩) F room quiet ex I1 b rel promise
/-- f(k = e, ..) -/
theorem pe_callGK {x : Str} {p pos : Pos} {kws : List Keyword} {ks : List Str} {t : TA} {g : {α : Type} → List α → List α} (F : FnG X.prog X.w X.K X.mg X.base CX k f fd ps sp) (room : Room k X.A) (quiet : X.A.guards = some []) (glo : Gl X x) (isf : X.mg x = some (.ref f)) (keeps : PySem.W.keepIn X.K (.ref f) = true)
    (binds : ∀ (s : Shared) (ws : List Value), X.K.In s.heap → ws.length = ks.length → BindsTo s fd ⟨[], ks.zip ws⟩ (ps.zip (g ws))) (rel : ∀ {vs : List V} {us : List Value}, Vals vs us → Vals (g vs) (g us))
    (ex : Passes CX X E) (ha : PK X kws t) (hall : (backToKw pos (keywordEach kws X.env)).all (·.1.isSome) = true := by rfl) (hks : (backToKw pos (keywordEach kws X.env)).filterMap (·.1) = ks := by rfl) (hdb : (x == ("__debug__" : Str)) = false := by decide)
    (hpl : ((backTo pos (starEach [] X.env)).any (·.1) || (backToKw pos (keywordEach kws X.env)).any (·.1.isNone)) = false := by rfl) :
    PE X (.Call (.Name x p) [] kws pos) (fun σ H Q => t σ H fun vs H1 => vs.length = ks.length ∧ sp (g vs) H1 Q E) := by
  refine ⟨fun pins s σ H Q I reads => ?_⟩
  refine wpAny_Call_Name_kw (ld_glob I glo isf ?_ hdb)
  refine PySem.W.callWith_KW0 (h₀ := X.base) I.ok.mod.kin keeps hall (thn (ha.run pos pins s σ H _ I reads) fun ws s1 ⟨vs, H1, I1, r, hl, promise⟩ => ⟨I1.kIn, ?_⟩) hpl
  rw [hks]
  exact goG (args := ⟨[], ks.zip ws⟩) F room quiet ex I1 (binds s1 ws I1.kIn (r.length.symm.trans hl)) (rel r) promise
end
/-! ### promises by values -/
/-- all arguments are handed over -/
def spP (n : Nat) (F : BA) : Sp := fun vs H Q _ => vs.length = n ∧ ∃ (Z S : Hp) (T : List En) (os : List O) (K : O → Prop), os.length = n ∧ World Z S H (ents vs os ++ T) ∧ F os K ∧
  ∀ o, K o → ∀ v H' S', Le S S' → World Z S' H' ((some v, some o) :: T) → Q v H'
/-- the first argument is lent: what it is behind the call is told -/
abbrev BB := O → List O → (O → O → Prop) → Prop
def spB (n : Nat) (F : BB) : Sp := fun vs H Q _ => vs.length = n + 1 ∧ ∃ (Z S : Hp) (T : List En) (a : V) (ws : List V) (c : O) (os : List O) (K : O → O → Prop), vs = a :: ws ∧ os.length = n ∧ World Z S H ((some a, some c) :: (ents ws os ++ T)) ∧ F c os K ∧
  ∀ o c', K o c' → ∀ v H' S', Le S S' → World Z S' H' ((some v, some o) :: (some a, some c') :: T) → Q v H'
theorem World.padN {Z S H : Hp} {ps : List En} (W : World Z S H ps) : ∀ n : Nat, World Z S H (List.replicate n (none, none) ++ ps)
  | 0 => W
  | n + 1 => by rw [List.replicate_succ, List.cons_append]; exact (World.padN W n).pad none
/-- a frame at its start -/
theorem zip_start {N : List Str} : ∀ (vs : List V) (os : List O), vs.length = os.length → (start N vs).zip (os.map some ++ List.replicate (N.length - os.length) none) = ents vs os ++ List.replicate (N.length - os.length) (none, none) := by
  intro vs os hl
  unfold L2.start
  have key : ∀ (vs : List V) (os : List O) (m : Nat), vs.length = os.length → (vs.map some ++ List.replicate m none).zip (os.map some ++ List.replicate m none) = ents vs os ++ List.replicate m ((none : Option V), (none : Option O)) := by
    intro vs
    induction vs with
    | nil =>
      intro os m h
      cases os with
      | nil =>
        simp only [List.map_nil, List.nil_append]
        induction m with
        | zero => rfl
        | succ m ih => rw [List.replicate_succ, List.replicate_succ, List.zip_cons_cons, ih]; rfl
      | cons o os => simp at h
    | cons v vs ih =>
      intro os m h
      cases os with
      | nil => simp at h
      | cons o os =>
        rw [List.map_cons, List.map_cons, List.cons_append, List.cons_append, List.zip_cons_cons, ih os m (by simpa using h)]
        rfl
  rw [hl]
  exact key vs os _ hl
theorem start_len {N : List Str} {vs : List V} (h : vs.length ≤ N.length) : (start N vs).length = N.length := by
  unfold L2.start
  rw [List.length_append, List.length_map, List.length_replicate]; omega
/-- the frame's values at the start -/
def g0 (n : Nat) (os : List O) : Gm := os.map some ++ List.replicate (n - os.length) none
theorem spP_of {N : List Str} {n : Nat} {F : BA} {vs : List V} {H : Hp} {Q : VK} {E : XK} {b : VS} (hN : n ≤ N.length) (hb : ∀ os K, os.length = n → F os K → b { nx := fun _ => K (.sh .non), rt := fun o _ => K o } (g0 N.length os))
    (h : spP n F vs H Q E) : tS [] b { nx := fun _ H' => Q .non H', rt := Q } (start N vs) H := by
  obtain ⟨hv, Z, S, T, os, K, lo, W, hF, post⟩ := h
  have ll : vs.length = os.length := by omega
  have W1 : World Z S H ((start N vs).zip (g0 N.length os) ++ T) := by
    unfold g0
    rw [zip_start vs os ll, List.append_assoc]
    exact World.mids (World.padN W _)
  refine tS_of (by rw [start_len (by omega)]; unfold g0; simp; omega) W1 (hb os K lo hF) ⟨?_, ?_, fun _ h => h.elim, fun _ h => h.elim⟩
  · intro γ' k σ' H' S' l1 l2 fx ls W'
    refine post _ k .non H' S' ls (World.push ?_ (by unfold IsD; rfl))
    exact World.dropMid (A := []) W'
  · intro o γ' k v σ' H' S' l1 l2 fx ls W'
    exact post _ k v H' S' ls (World.dropMid (A := []) W')
theorem spB_of {N : List Str} {n : Nat} {F : BB} {vs : List V} {H : Hp} {Q : VK} {E : XK} {b : VS} (hN : n + 1 ≤ N.length)
    (hb : ∀ c os K, os.length = n → F c os K → b { nx := fun γ => ∃ c', γ[0]? = some (some c') ∧ K (.sh .non) c', rt := fun o γ => ∃ c', γ[0]? = some (some c') ∧ K o c' } (g0 N.length (c :: os)))
    (h : spB n F vs H Q E) : tS [0] b { nx := fun _ H' => Q .non H', rt := Q } (start N vs) H := by
  obtain ⟨hv, Z, S, T, a, ws, c, os, K, rfl, lo, W, hF, post⟩ := h
  have ll : (a :: ws).length = (c :: os).length := by simp at hv ⊢; omega
  have W1 : World Z S H ((start N (a :: ws)).zip (g0 N.length (c :: os)) ++ T) := by
    unfold g0
    rw [zip_start (a :: ws) (c :: os) ll, List.append_assoc]
    refine World.mids (World.padN ?_ _)
    exact W
  have l0 : (start N (a :: ws)).length = (g0 N.length (c :: os)).length := by rw [start_len (by rw [hv]; exact hN)]; unfold g0; simp; omega
  have s0 : (start N (a :: ws))[0]? = some (some a) := by unfold L2.start; rfl
  refine tS_of l0 W1 (hb c os K lo hF) ⟨?_, ?_, fun _ h => h.elim, fun _ h => h.elim⟩
  · rintro γ' ⟨c', hc, k⟩ σ' H' S' l1 l2 fx ls W'
    obtain ⟨v, hv', W2⟩ := W'.take l2 hc
    have e : v = a := by
      have := fx 0 (by simp)
      rw [s0, hv'] at this
      exact Option.some.inj (Option.some.inj this)
    subst e
    refine post _ _ k .non H' S' ls (World.push ?_ (by unfold IsD; rfl))
    exact World.dropMid (A := []) W2
  · rintro o γ' ⟨c', hc, k⟩ v σ' H' S' l1 l2 fx ls W'
    obtain ⟨w, hw, W2⟩ := W'.take l2 hc
    have e : w = a := by
      have := fx 0 (by simp)
      rw [s0, hw] at this
      exact Option.some.inj (Option.some.inj this)
    subst e
    have W3 := World.dropMid (A := []) W2
    exact post _ _ k v H' S' ls (World.swap W3)
/-! ### calls by values -/
def kArg (n : Nat) (F : BA) : BA := fun os K => os.length = n ∧ F os K
section
variable {X : Cx} {k n : Nat} {f : Addr} {fd : FuncData} {ps : List Str} {x : Str} {p pos : Pos} {e : Expr} {es : List Expr} {g : OA}
theorem je_call {F : BA} (G : FnG X.prog X.w X.K X.mg X.base CX0 k f fd ps (spP n F)) (hr : Room k X.A) (hq : X.A.guards = some []) (hg : Gl X x) (hm : X.mg x = some (.ref f)) (hk : PySem.W.keepIn X.K (.ref f) = true) (hb : Binds X.K fd ps []) (ha : JA X (e :: es) g)
    (hdb : (x == ("__debug__" : Str)) = false := by decide) (he : starEach (e :: es) X.env = (false, eval e X.env) :: starEach es X.env := by rfl) (hpl : (backTo pos (starEach es X.env)).any (·.1) = false := by rfl) :
    JE X (.Call (.Name x p) (e :: es) [] pos) (oCall (kArg n F) g) := by
  refine PE.imp (pe_callG (E := E0) G hr hq hg hm hk hb pass0 ha hdb he hpl) fun σ H Q hh => ?_
  obtain ⟨Z, S, T, γ, K, hl, W, hf, post⟩ := hh
  refine ⟨Z, S, T, γ, _, hl, W, hf, ?_⟩
  rintro os γ1 ⟨lo, hF⟩ l1 vs H1 S1 ls1 ll W1
  exact ⟨ll.trans lo, Z, S1, σ.zip γ1 ++ T, os, _, lo, W1.mids, hF, fun o ko v H' S' ls W' => post o γ1 ko l1 v H' S' (ls1.trans ls) W'.unmid⟩
/-- f(name, e, ..): the name's thing is lent -/
def oCallB (i n : Nat) (F : BB) (g : OA) : OE := fun γ Q => (∃ c, γ[i]? = some (some c)) ∧ g γ fun os γ1 => os.length = n ∧ ∃ c, γ1[i]? = some (some c) ∧ F c os fun o c' => Q o (γ1.set i (some c'))
theorem je_callL (i : Nat) {y : Str} {py : Pos} {F : BB} (G : FnG X.prog X.w X.K X.mg X.base CX0 k f fd ps (spB n F)) (hr : Room k X.A) (hq : X.A.guards = some []) (hg : Gl X x) (hm : X.mg x = some (.ref f)) (hk : PySem.W.keepIn X.K (.ref f) = true) (hb : Binds X.K fd ps []) (ha : JA X es g)
    (hN : X.N[i]? = some y := by rfl) (hv : Vis X.env.scope y := by first | exact Or.inl rfl | exact Or.inr (Or.inl rfl) | exact Or.inr (Or.inr rfl)) (hyd : (y == ("__debug__" : Str)) = false := by decide)
    (hcd : (y == ("__classdict__" : Str)) = false := by decide)
    (hdb : (x == ("__debug__" : Str)) = false := by decide) (he : starEach (.Name y py :: es) X.env = (false, eval (.Name y py) X.env) :: starEach es X.env := by rfl) (hpl : (backTo pos (starEach es X.env)).any (·.1) = false := by rfl) :
    JE X (.Call (.Name x p) (.Name y py :: es) [] pos) (oCallB i n F g) := by
  refine PE.imp (pe_callG (E := E0) G hr hq hg hm hk hb pass0 (pa_cons (pe_var hN hv hyd hcd) ha he) hdb he hpl) fun σ H Q hh => ?_
  obtain ⟨Z, S, T, γ, K, hl, W, ⟨⟨c0, h0⟩, hf⟩, post⟩ := hh
  obtain ⟨v, hv, W0⟩ := W.take hl h0
  refine ⟨v, hv, Z, S, T, γ, _, hl, W, hf, ?_⟩
  rintro os γ1 ⟨lo, c, h1, hF⟩ l1 vs H1 S1 ls1 ll W1
  obtain ⟨v', hv', W2⟩ := W1.take (by omega) h1
  rw [hv] at hv'; cases hv'
  have hi : i < γ1.length := (List.getElem?_eq_some_iff.mp h1).1
  refine ⟨by simp; omega, Z, S1, σ.zip (γ1.set i none) ++ T, v, vs, c, os, _, rfl, lo, ?_, hF, fun o c' ko w H' S' ls W' => ?_⟩
  · refine W2.perm ?_
    refine List.perm_middle.trans (List.Perm.cons _ ?_)
    rw [← List.append_assoc, ← List.append_assoc]
    exact List.perm_append_comm.append_right T
  · have W3 := (World.unmid (l1 := σ.zip (γ1.set i none)) (l2 := (some w, some o) :: T) (e := (some v, some c')) (by
      refine W'.perm ?_
      exact (List.Perm.swap _ _ _).trans (List.Perm.cons _ List.perm_middle.symm))).back (i := i) (by simp; omega) (by simpa using hi) hv
    rw [List.set_set] at W3
    exact post o _ ko (by simpa using l1) w H' S' (ls1.trans ls) W3
/-! ### by keywords -/
abbrev JK (X : Cx) (kws : List Keyword) (f : OA) : Prop := PK X kws (tA f)
theorem PK.imp {kws : List Keyword} {t u : TA} (h : PK X kws t) (k : ∀ σ H Q, u σ H Q → t σ H Q) : PK X kws u := ⟨fun pos pins s σ H Q I hw => h.run pos pins s σ H Q I (k _ _ _ hw)⟩
theorem jk_nil : JK X [] oNil := by
  refine PK.imp pk_nil fun σ H Q h => ?_
  obtain ⟨Z, S, T, γ, K, hl, W, h, post⟩ := h
  exact post [] γ h rfl [] H S (Le.refl S) rfl W
theorem jk_cons {kws : List Keyword} {f : OE} {nm : Option Str} {kpos : Pos} (ha : JE X e f) (hr : JK X kws g) : JK X (⟨nm, e, kpos⟩ :: kws) (oCons f g) := by
  refine PK.imp (pk_cons ha hr) fun σ H Q h => ?_
  obtain ⟨Z, S, T, γ, K, hl, W, h, post⟩ := h
  refine ⟨Z, S, T, γ, _, hl, W, h, fun o γ1 h1 l1 v H1 S1 ls1 W1 => ?_⟩
  refine ⟨Z, S1, (some v, some o) :: T, γ1, _, by omega, W1, h1, fun os γ2 h2 l2 vs H2 S2 ls2 ll W2 => ?_⟩
  refine post (o :: os) γ2 h2 (l2.trans l1) (v :: vs) H2 S2 (ls1.trans ls2) (by simp [ll]) ?_
  refine W2.perm ?_
  rw [ents_cons, List.cons_append]
  exact List.Perm.append_left _ List.perm_middle
def picks {α : Type} (ix : List Nat) (l : List α) : List α := ix.filterMap fun i => l[i]?
theorem picks_perm {α : Type} {ix : List Nat} {l : List α} (h : ix.Perm (List.range l.length)) : (picks ix l).Perm l := by
  refine (h.filterMap _).trans (.of_eq ?_)
  have key : ∀ (m : List α) (a : List α), (List.range' a.length m.length).filterMap (fun i => (a ++ m)[i]?) = m := by
    intro m
    induction m with
    | nil => intro a; rfl
    | cons x m ih =>
      intro a
      rw [List.length_cons, List.range'_succ, List.filterMap_cons]
      have e : (a ++ x :: m)[a.length]? = some x := by simp
      rw [e]
      have := ih (a ++ [x])
      rw [List.length_append, List.length_singleton, List.append_assoc] at this
      simpa using this
  have := key l []
  rw [List.range_eq_range']
  simpa using this
theorem picks_ents {ix : List Nat} {vs : List V} {os : List O} (hl : vs.length = os.length) : picks ix (ents vs os) = ents (picks ix vs) (picks ix os) := by
  induction ix with
  | nil => rfl
  | cons i ix ih =>
    unfold picks at ih ⊢
    rw [List.filterMap_cons, List.filterMap_cons, List.filterMap_cons, ih]
    unfold ents
    rw [List.getElem?_zipWith]
    by_cases h : i < vs.length
    · rw [List.getElem?_eq_getElem h, List.getElem?_eq_getElem (show i < os.length by omega)]; rfl
    · rw [List.getElem?_eq_none (by omega), List.getElem?_eq_none (show os.length ≤ i by omega)]
theorem picks_vals {ix : List Nat} {vs : List V} {us : List Value} (r : Vals vs us) : Vals (picks ix vs) (picks ix us) := by
  induction ix with
  | nil => exact .nil
  | cons i ix ih =>
    unfold picks at ih ⊢
    rw [List.filterMap_cons, List.filterMap_cons]
    by_cases h : i < vs.length
    · obtain ⟨u, hu, ru⟩ := r.get (List.getElem?_eq_getElem h)
      rw [List.getElem?_eq_getElem h, hu]
      exact .cons ru ih
    · rw [List.getElem?_eq_none (by omega), List.getElem?_eq_none (show us.length ≤ i by rw [← r.length]; omega)]
      exact ih
theorem picks_len {α : Type} {ix : List Nat} {l : List α} (h : ix.Perm (List.range l.length)) : (picks ix l).length = l.length := (picks_perm h).length_eq
def kKey (n : Nat) (ix : List Nat) (F : BA) : BA := fun os K => os.length = n ∧ F (picks ix os) K
theorem je_callK {F : BA} {kws : List Keyword} {ks : List Str} {ix : List Nat} (G : FnG X.prog X.w X.K X.mg X.base CX0 k f fd ps (spP n F)) (hr : Room k X.A) (hq : X.A.guards = some []) (hg : Gl X x) (hm : X.mg x = some (.ref f)) (hk : PySem.W.keepIn X.K (.ref f) = true)
    (hb : ∀ (s : Shared) (ws : List Value), X.K.In s.heap → ws.length = ks.length → BindsTo s fd ⟨[], ks.zip ws⟩ (ps.zip (picks ix ws))) (hix : ix.Perm (List.range n)) (hkl : ks.length = n) (ha : JK X kws g)
    (hall : (backToKw pos (keywordEach kws X.env)).all (·.1.isSome) = true := by rfl) (hks : (backToKw pos (keywordEach kws X.env)).filterMap (·.1) = ks := by rfl) (hdb : (x == ("__debug__" : Str)) = false := by decide)
    (hpl : ((backTo pos (starEach [] X.env)).any (·.1) || (backToKw pos (keywordEach kws X.env)).any (·.1.isNone)) = false := by rfl) :
    JE X (.Call (.Name x p) [] kws pos) (oCall (kKey n ix F) g) := by
  refine PE.imp (pe_callGK (g := fun l => picks ix l) (E := E0) G hr hq hg hm hk hb (fun r => picks_vals r) pass0 ha hall hks hdb hpl) fun σ H Q hh => ?_
  obtain ⟨Z, S, T, γ, K, hl, W, hf, post⟩ := hh
  refine ⟨Z, S, T, γ, _, hl, W, hf, ?_⟩
  rintro os γ1 ⟨lo, hF⟩ l1 vs H1 S1 ls1 ll W1
  have lv : vs.length = n := by omega
  refine ⟨by omega, by rw [picks_len (by rw [lv]; exact hix)]; exact lv, Z, S1, σ.zip γ1 ++ T, picks ix os, _, by rw [picks_len (by rw [lo]; exact hix)]; exact lo, ?_, hF, fun o ko v H' S' ls W' => post o γ1 ko l1 v H' S' (ls1.trans ls) W'.unmid⟩
  rw [← picks_ents ll]
  have le : (ents vs os).length = n := by unfold ents; simp; omega
  exact W1.mids.perm ((picks_perm (by rw [le]; exact hix)).symm.append_right _)
end
end FN
end
section
namespace FN
open PySem PySem.Spec L2
open PyProof.Rows hiding St

/-! ### the script -/
theorem sqL_any {K : PySem.W.Frag} {H : Hp} {a : Addr} {xs : List V} (h : SqL K (fun _ => none) a xs) : SqL K H a xs := by
  rcases h with (h | ⟨o, h⟩) | h
  · cases h
  · cases h
  · exact .inr h
section
variable {X : Cx} {pos p p2 p3 : Pos}
/-- script[:n] -/
def oScr (K : PySem.W.Frag) (i : Nat) (n : Int) : OE := fun γ Q => ∃ ns, γ[i]? = some (some (.scr K ns)) ∧ Q (.lst ((cutD (ns.map D.int) none (some n)).map O.sh)) γ
theorem je_scr (i : Nat) {x : Str} {n : Int} {j : Nat} (hN : X.N[i]? = some x := by rfl) (hv : Vis X.env.scope x := by first | exact Or.inl rfl | exact Or.inr (Or.inl rfl) | exact Or.inr (Or.inr rfl)) (hd : (x == ("__debug__" : Str)) = false := by decide)
    (hcd : (x == ("__classdict__" : Str)) = false := by decide) : JE X (.Subscript (.Name x p) (.Slice none (some (.Constant (.int n) j p3)) none p2) pos) (oScr X.K i n) := by
  refine PE.imp (pe_slice sl_list (pe_var hN hv hd hcd) po_none (po_some pe_int)) fun σ H Q hh => ?_
  obtain ⟨Z, S, T, γ, K, hl, W, ⟨ns, hs, hk⟩, post⟩ := hh
  obtain ⟨v, hv, W1⟩ := W.take hl hs
  have at_ : ∃ a, v = .ref a ∧ SqL X.K H a (ns.map V.int) := by
    obtain ⟨fp, ⟨u, f1, f2, e1, e2, _⟩, _⟩ := W1.mid.own
    cases e1
    unfold Own at e2
    obtain ⟨a, e3, ⟨o, e4, e5⟩ | ⟨e4, e5⟩⟩ := e2
    · exact ⟨a, e3, .inl (.inr ⟨o, e4⟩)⟩
    · exact ⟨a, e3, sqL_any e4⟩
  obtain ⟨a, rfl, ha⟩ := at_
  refine ⟨.ref a, hv, n, rfl, a, ns.map V.int, rfl, ha, fun q hq => ?_⟩
  have hc : IsDs S (cutD (ns.map D.int) none (some n)) (cutV (ns.map V.int) none (some n)) := by
    unfold cutD cutV
    rw [List.length_map, List.length_map]
    exact ((isDs_ints ns).drop _).take _
  exact post _ γ hk rfl _ _ S (Le.refl S) (W.newLs hc hq).unmid
end
theorem cutD_take (l : List D) (n : Nat) : cutD l none (some ((n : Nat) : Int)) = l.take n := by
  unfold cutD
  rw [HT.sIx_none, HT.sIx_nat, List.drop_zero, Nat.sub_zero]
  by_cases h : n ≤ l.length
  · rw [Nat.min_eq_left h]
  · rw [Nat.min_eq_right (by omega), List.take_length, List.take_of_length_le (by omega)]
/-! ### the law -/
/-- at most m ints are handed in, True comes out -/
def spLaw (K : PySem.W.Frag) (m : Nat) : L2.Sp := fun vs H Q _ => ∃ (Z S : Hp) (a : V) (ns : List Int), vs = [a] ∧ ns.length ≤ m ∧ World Z S H [(some a, some (.scr K ns))] ∧ ∀ H', Q (.bl true) H'
theorem spLaw_of {N : List Str} {K : PySem.W.Frag} {m : Nat} {vs : List V} {H : Hp} {Q : VK} {E : XK} {b : VS} (hN : 1 ≤ N.length)
    (hb : ∀ ns : List Int, ns.length ≤ m → b { nx := fun _ => False, rt := fun o _ => o = .sh (.bl true) } (g0 N.length [.scr K ns])) (h : spLaw K m vs H Q E) : tS [] b { nx := fun _ H' => Q .non H', rt := Q } (L2.start N vs) H := by
  obtain ⟨Z, S, a, ns, rfl, hm, W, post⟩ := h
  have W1 : World Z S H ((L2.start N [a]).zip (g0 N.length [.scr K ns]) ++ []) := by
    unfold g0
    rw [zip_start [a] [.scr K ns] rfl, List.append_assoc]
    exact World.mids (World.padN W _)
  refine tS_of (by rw [start_len (by simpa using hN)]; unfold g0; simp; omega) W1 (hb ns hm) ⟨fun _ h => h.elim, ?_, fun _ h => h.elim, fun _ h => h.elim⟩
  rintro o γ' rfl v σ' H' S' l1 l2 fx ls W'
  have := W'.mid.isD
  unfold IsD at this
  subst this
  exact post H'
theorem world_of {K : PySem.W.Frag} {H : Hp} {a : Addr} {ns : List Int} (_hO : L2.Only H) (hS : SqL K H a (ns.map V.int)) : World (fun _ => none) (fun _ => none) H [(some (.ref a), some (.scr K ns))] := by
  rcases hO : H a with _ | u
  · have hK : SqL K (fun _ => none) a (ns.map V.int) := by
      rcases hS with (h | ⟨o, h⟩) | h
      · rw [hO] at h; cases h
      · rw [hO] at h; cases h
      · exact .inr h
    exact ⟨fun b u e => (by cases e), fun b u e => (by cases e), [], ⟨.ref a, [], [], rfl, by unfold Own; exact ⟨a, rfl, .inr ⟨hK, rfl⟩⟩, rfl, rfl⟩, List.nodup_nil, fun b hb => by simp at hb⟩
  · rcases _hO a with z | ⟨o, xs, z⟩
    · rw [hO] at z; cases z
    · rcases hS with (h | ⟨o', h⟩) | ⟨o', arr, n, h1, h2⟩
      · rw [z] at h; cases h
      · rw [z] at h; cases h
        exact ⟨fun b u e => (by cases e), fun b u e => (by cases e), [a], ⟨.ref a, [a], [], rfl, by unfold Own; exact ⟨a, rfl, .inl ⟨o, z, rfl⟩⟩, rfl, rfl⟩, by simp, fun b hb => ⟨rfl, rfl⟩⟩
      · exact ⟨fun b u e => (by cases e), fun b u e => (by cases e), [], ⟨.ref a, [], [], rfl, by unfold Own; exact ⟨a, rfl, .inr ⟨.inr ⟨o', arr, n, h1, h2⟩, rfl⟩⟩, rfl, rfl⟩, List.nodup_nil, fun b hb => by simp at hb⟩
/-- the call of the law from outside -/
theorem callG {P : Program} {w : PySem.World} {K : PySem.W.Frag} {mg mb : Str → Option Value} {CX : CXT} {k : Nat} {fa a : Addr} {fd : FuncData} {x : Str} {sp : L2.Sp} {s1 : Shared} {vals : List Value} {ns : List Int}
    (inK : K.In s1.heap) (globals_ : s1.heap.Ns mainGlobals mg) (builtins_ : s1.heap.Ns builtinsNs mb) (boot_ : ∀ x : Str, x ≠ "__name__" → mb x = bootBuiltins x) (nolimit_ : s1.heap.NoLimit) (nogens : s1.gens = #[])
    (script_ : s1.heap.get? a = some { cls := .type "list", data := .seq vals.toArray }) (ints_ : IntsAre vals ns) (short_ : ns.length ≤ sizeLine) (room : Room k callerA)
    (F : ∀ base : Heap, K.In base → base.Ns mainGlobals mg → FnG P w K mg base CX k fa fd [x] sp) (binds_ : ∀ (s : Shared) (u : Value), BindsTo s fd ⟨[u], []⟩ [(x, u)])
    (promise : ∀ H : Hp, L2.Only H → SqL K H a (ns.map V.int) → sp [.ref a] H (fun v _ => v = .bl true) fun _ _ _ => False)
    (noCX : ∀ H e s', CX [] H s1 (fun _ _ _ => False) e s' → False) :
    codeAny (model P w) callerA (.call (.ref fa) ⟨[.ref a], []⟩) (fun r s' => r = .ok (.ret (.bool true)) ∧ OldK s1.heap s'.heap ∧ s'.os = s1.os ∧ AllBare s'.gens) s1 := by
  have relv := vals_ints ints_
  have enough := ints_.length
  -- for any heap of ours that tells at most of the script
  have main_ : ∀ H : Hp, L2.Only H → SqL K H a (ns.map V.int) → HOk P w H s1.heap → (∀ b, H b ≠ none → b = a) → (H a ≠ none → K.lookup a = none) →
      codeAny (model P w) callerA (.call (.ref fa) ⟨[.ref a], []⟩) (fun r s' => r = .ok (.ret (.bool true)) ∧ OldK s1.heap s'.heap ∧ s'.os = s1.os ∧ AllBare s'.gens) s1 := by
    intro H only there okH alone apartK
    have isA : ∀ {b : Addr}, H b ≠ none → b = a := fun {b} h => alone b h
    have hidden : ∀ {b : Addr} {o : Obj}, s1.heap.get? b = some o → H b = none → (hidT s1.heap H).get? b = some o := fun h n => hidT_get h n
    have noDict : ∀ {b : Addr} {o : Obj} {es : Array DictEntry} {ep : Nat}, s1.heap.get? b = some o → o.data = .dict es ep → H b = none := by
      intro b o es ep h1 h2
      by_cases z : H b = none
      · exact z
      · have e' := isA z
        subst e'
        rw [script_] at h1
        cases h1
        have q : Data.seq vals.toArray _ = Data.dict es ep := h2
        cases q
    have namesIn : ∀ {b : Addr} {m : Str → Option Value}, s1.heap.Ns b m → (hidT s1.heap H).Ns b m := fun {b m} ⟨o, es, ep, h1, h2, h3⟩ => ⟨o, es, ep, hidden h1 (noDict h1 h2), h2, h3⟩
    have inBase : K.In (hidT s1.heap H) := by
      intro b o h
      refine hidden (inK b o h) ?_
      by_cases z : H b = none
      · exact z
      · have e' := isA z
        subst e'
        rw [apartK z] at h; cases h
    have modOk : Mod K mg (hidT s1.heap H) := by
      obtain ⟨lm, l1, l2⟩ := nolimit_
      exact ⟨inBase, namesIn globals_, ⟨mb, namesIn builtins_, boot_⟩, lm, namesIn l1, l2⟩
    have entry : Env0 P w K mg (hidT s1.heap H) callerA [] s1 H :=
      { frames := rfl, mod := modOk, bs := fun b o h => of_hidT h, bsz := Nat.le_of_eq (hidT_size _ _), funs := trivial, frf := fun b hb => absurd (show b ∈ ([] : List Addr) from hb) (by simp), hok := okH, bare := .of_eq nogens }
    refine codeAny_mono ((F _ inBase (namesIn globals_)).go callerA [] s1 H ⟨[.ref a], []⟩ [.ref a] [.ref a] _ _ room rfl entry (binds_ s1 (.ref a)) (.cons rfl .nil) (promise H only there)) fun r s' back => ?_
    match r, back with
    | .error e, back => exact (noCX H e s' back).elim
    | .ok (.ret u), back =>
      obtain ⟨v, H', sameOs, stillBare, un, okH', relU, isTrue_⟩ := back
      have isTrue_ : v = .bl true := isTrue_
      subst isTrue_
      obtain rfl : u = Value.bool true := relU
      refine ⟨rfl, OldK.of_keep fun b o h => ?_, sameOs, stillBare⟩
      rcases only b with z | ⟨ob, xs, z⟩
      · exact un.keep b o h z (fun q => absurd (show b ∈ ([] : List Addr) from q) (by simp)) (by simp)
      · obtain ⟨p1, _⟩ := okH b _ z
        obtain ⟨p2, _⟩ := okH' b _ (un.frzs b ob _ z)
        rw [h] at p1; cases p1
        exact p2
  rcases kk : K.lookup a with _ | o
  · let HS : Hp := fun b => if b = a then some (.frz { cls := .type "list", data := .seq vals.toArray } (.lst (ns.map V.int))) else none
    have atA : HS a = some (.frz { cls := .type "list", data := .seq vals.toArray } (.lst (ns.map V.int))) := if_pos rfl
    have off : ∀ {b}, b ≠ a → HS b = none := fun {b} n => if_neg n
    refine main_ HS (fun b => ?_) (.inl (.inr ⟨_, atA⟩)) (fun b u z => ?_) (fun b z => ?_) fun _ => kk
    · by_cases q : b = a
      · subst q; exact .inr ⟨_, _, atA⟩
      · exact .inl (off q)
    · by_cases q : b = a
      · subst q
        rw [atA] at z; cases z
        exact ⟨script_, by rw [List.length_map]; exact short_, vals, _, relv, script_⟩
      · rw [off q] at z; cases z
    · by_cases q : b = a
      · exact q
      · exact absurd (off q) z
  · have same_ := inK a o kk
    rw [script_] at same_
    cases same_
    refine main_ (fun _ => none) (fun _ => .inl rfl) (.inr ⟨_, vals.toArray, _, kk, rfl, rfl, rfl, by rw [List.size_toArray, enough]; exact short_, by simpa using relv⟩) (fun b u z => ?_) (fun b z => absurd rfl z) fun z => absurd rfl z
    have z : (none : Option HO) = some u := z
    cases z
theorem walkG {l : PySem.W.OpenLaw} {n k : Nat} {q : Program} {loose : List Str} {XP : (Str → Option Value) → Heap → Prop} {YP : PySem.World → Heap → Prop} {d : DefRec} {CX : CXT} {x : Str}
    (most : l.most = some n) (short_ : n ≤ sizeLine) (nodef : d.params.defaults = []) (room : Room k callerA)
    (F : ∀ (w : PySem.World) (mg : Str → Option Value) (fa : Addr) (h : Heap), YP w h → h.Ns mainGlobals mg → mg d.name = some (.ref fa) →
      ∃ (K : PySem.W.Frag) (fd : FuncData), K.In h ∧ (∀ (s : Shared) (u : Value), BindsTo s fd ⟨[u], []⟩ [(x, u)]) ∧
        ∀ base : Heap, K.In base → base.Ns mainGlobals mg → FnG l.prog w K mg base CX k fa fd [x] (spLaw K n))
    (noCX : ∀ (H : Hp) (s : Shared) (e : Value) (s' : Shared), CX [] H s (fun _ _ _ => False) e s' → False) :
    PySem.W.WalkO q loose XP YP l.row.toRowW d [] (fun f vs => PySem.call f vs) := by
  refine Att.attach_call most nodef fun w s₀ s₁ mg mb fa o pm cd doc a vals ns G Y ho hd hcd isLaw script_ ints_ few nogens => ?_
  obtain ⟨K, fd, inK, binds_, promise⟩ := F w mg fa _ Y G.T.g isLaw
  exact callG inK G.T.g G.T.b G.T.builtins G.T.nolimit nogens script_ ints_ (Nat.le_trans few short_) room promise binds_ (fun H only there => ⟨_, _, _, ns, rfl, few, world_of only there, fun _ => rfl⟩) fun H e s' => noCX H s₁ e s'
end FN
end
section
namespace FN
open PySem PySem.Spec L2
open PyProof.Rows hiding St
section
variable {X : Cx}
/-- a dict comprehension, stored at once -/
theorem ps_setDc {i : Nat} {y : Str} {py : Pos} {kx vx tg iter : Expr} {ifs : List Expr} {scope : Scope} {own : List (Str × Nat)} {pos spos : Pos} {wi : TI} {g : TG} {tt : TT} {tk tv : TE} (calm_ : X.calm = true) (nodup_ : X.N.Nodup) (at_ : X.N[i]? = some y) (local_ : X.env.scope.names.lookup y = some .local)
    (used : swapsWith (.DictComp kx vx [⟨tg, iter, ifs, 0⟩] scope pos) (some (.Name y py)) spos.line X.env = pure true) (hi : PI X tg iter wi) (ok : BlkOk X.N X.env.scope scope own)
    (hg : ∀ (s : Shared) (H : Hp) (C : Addr) (cl : List (Str × Addr)) (fp : List Addr), PG (X.blk s H scope (compEnvC scope cl C X.env) fp) tg g) (ht : ∀ (s : Shared) (H : Hp) (C : Addr) (cl : List (Str × Addr)) (fp : List Addr), PTs (X.blk s H scope (compEnvC scope cl C X.env) fp) ifs tt)
    (hk : ∀ (s : Shared) (H : Hp) (C : Addr) (cl : List (Str × Addr)) (fp : List Addr), PE (X.blk s H scope (compEnvC scope cl C X.env) fp) kx tk)
    (he : ∀ (s : Shared) (H : Hp) (C : Addr) (cl : List (Str × Addr)) (fp : List Addr), PE (X.blk s H scope (compEnvC scope cl C X.env) fp) vx tv) (hs : ∀ x, foldedSetIterable iter X.env x = pure x := by intro _; rfl) :
    PS X (.Assign [.Name y py] (.DictComp kx vx [⟨tg, iter, ifs, 0⟩] scope pos) spos) (tAsg (tDc wi g tt tk tv (own.map (·.2))) (gName i)) := by
  refine ⟨fun pins s σ H D I reads => ?_⟩
  rw [exec_Assign_Name_used _ _ _ _ used]
  refine wpAny_bind (wpAny_standAt (wpAny_bind ?_))
  have reads : tDc wi g tt tk tv (own.map (·.2)) σ H (fun x H1 => gName i x σ H1 D.nx) := reads
  refine wpAny_bind (thn (dc_core (Qf := fun _ s' => SP X pins D .next s') calm_ nodup_ I hi ok hg ht hk he hs reads fun B C s' m H' I' q hn apart => ?_) fun _ s' q => wpAny_pure (wpAny_pure q))
  refine wpAny_assign_Name (store_ok2 (v := V.ref B) I' nodup_ at_ (.inl local_) rfl (fun s2 I2 ⟨a, but, isa⟩ => ?_) (.inr local_))
  obtain ⟨k0, k1, k2, k3, k4, k5⟩ := apart
  have ne : C ≠ a := by
    rcases isa with z | z
    · rw [z]; exact k1
    · exact fun e => k4 y a z e.symm
  exact ⟨m, hn.sameBut but ne, fun h3 but3 => ⟨_, H', I2.turned (t' := s2.toks) (fun b o hb e => (but3.2 b hb).trans e) k0 k1 k3 k4 k5, q⟩⟩
theorem js_setDc {J : List Nat} {i : Nat} {y : Str} {py : Pos} {kx vx tg iter : Expr} {ifs : List Expr} {scope : Scope} {own : List (Str × Nat)} {pos spos : Pos} {f : OI} {ag : AG} {t : OT} {fk fv : OE} (hc : X.calm = true) (hN : X.N.Nodup) (hy : X.N[i]? = some y) (hyl : X.env.scope.names.lookup y = some .local) (hJ : i ∉ J)
    (hsw : swapsWith (.DictComp kx vx [⟨tg, iter, ifs, 0⟩] scope pos) (some (.Name y py)) spos.line X.env = pure true) (hi : JI X tg iter f) (ok : BlkOk X.N X.env.scope scope own)
    (hg : ∀ (s : Shared) (H : Hp) (C : Addr) (cl : List (Str × Addr)) (fp : List Addr), JG (own.map (·.2)) (X.blk s H scope (compEnvC scope cl C X.env) fp) tg ag) (ht : ∀ (s : Shared) (H : Hp) (C : Addr) (cl : List (Str × Addr)) (fp : List Addr), JTs (X.blk s H scope (compEnvC scope cl C X.env) fp) ifs t)
    (hk : ∀ (s : Shared) (H : Hp) (C : Addr) (cl : List (Str × Addr)) (fp : List Addr), JE (X.blk s H scope (compEnvC scope cl C X.env) fp) kx fk)
    (he : ∀ (s : Shared) (H : Hp) (C : Addr) (cl : List (Str × Addr)) (fp : List Addr), JE (X.blk s H scope (compEnvC scope cl C X.env) fp) vx fv) (hs : ∀ x, foldedSetIterable iter X.env x = pure x := by intro _; rfl) :
    JS J X (.Assign [.Name y py] (.DictComp kx vx [⟨tg, iter, ifs, 0⟩] scope pos) spos) (vAsg (vDc f ag t fk fv (own.map (·.2))) (aName i)) := by
  refine PS.imp (ps_setDc hc hN hy hyl hsw hi ok hg ht hk he hs) fun D σ H hh => ?_
  obtain ⟨Z, S, T, γ, K, hl, W, hf, P⟩ := of_tS hh
  refine ⟨Z, S, T, γ, _, hl, W, hf, fun os γ1 ⟨hz, k⟩ l Jt H1 S1 Rn Z' ls lz src W1 => dcomp_core (Q := fun x H1 => gName i x σ H1 D.nx) (by omega) W1 src hz k ?_⟩
  rintro acc γ' ⟨hi, kk⟩ l' v H' S' ls' W'
  have on : Only [i] σ (σ.set i (some v)) := Only.set (by simp)
  exact P.nx _ kk _ H' S' (by rw [List.length_set, wipeC_len]; omega) (by rw [List.length_set, List.length_set, wipeC_len]; omega) (on.fix (by simpa using hJ)) (ls.trans ls') ((W'.unpin lz).store (by rw [wipeC_len]; omega) hi)
end
/-! ### promises over shared arguments -/
abbrev DA := List D → (O → Prop) → Prop
abbrev DB := O → List D → (O → O → Prop) → Prop
def baOf (F : DA) : BA := fun os K => noInsL os = true ∧ F (erL os) K
def bbOf (F : DB) : BB := fun c os K => noInsL os = true ∧ F c (erL os) K
abbrev spD (n : Nat) (F : DA) : L2.Sp := spP n (baOf F)
abbrev spL (n : Nat) (F : DB) : L2.Sp := spB n (bbOf F)
theorem World.shareAll {Z H : Hp} : ∀ (vs : List V) (os : List O) (S : Hp) (T : List En), vs.length = os.length → noInsL os = true → World Z S H (ents vs os ++ T) → ∃ S', Le S S' ∧ World Z S' H (ents vs ((erL os).map O.sh) ++ T)
  | [], [], S, T, _, _, W => ⟨S, Le.refl S, W⟩
  | v :: vs, o :: os, S, T, hl, ni, W => by
    unfold noInsL at ni
    simp only [Bool.and_eq_true] at ni
    obtain ⟨S1, l1, W1⟩ := World.share (ps := ents vs os ++ T) W ni.1
    obtain ⟨S2, l2, W2⟩ := World.shareAll vs os S1 ((some v, some (.sh o.er)) :: T) (by simpa using hl) ni.2 W1.unmid
    refine ⟨S2, l1.trans l2, ?_⟩
    unfold erL
    exact W2.mid
theorem erL_len : ∀ os : List O, (erL os).length = os.length
  | [] => rfl
  | o :: os => by unfold erL; rw [List.length_cons, List.length_cons, erL_len os]
theorem spD_of {N : List Str} {n : Nat} {F : DA} {vs : List V} {H : Hp} {Q : VK} {E : XK} {b : VS} (hN : n ≤ N.length) (hb : ∀ ds K, ds.length = n → F ds K → b { nx := fun _ => K (.sh .non), rt := fun o _ => K o } (g0 N.length (ds.map O.sh)))
    (h : spD n F vs H Q E) : tS [] b { nx := fun _ H' => Q .non H', rt := Q } (L2.start N vs) H := by
  obtain ⟨hv, Z, S, T, os, K, lo, W, ⟨ni, hF⟩, post⟩ := h
  obtain ⟨S', ls, W'⟩ := World.shareAll vs os S T (by omega) ni W
  refine spP_of (E := E) (F := fun os K => ∃ ds, os = ds.map O.sh ∧ F ds K) (by omega) (fun os' K' lo' ⟨ds, e, hF⟩ => ?_) ⟨hv, Z, S', T, (erL os).map O.sh, K, by rw [List.length_map, erL_len]; exact lo, W', ⟨_, rfl, hF⟩, fun o ko v H' S'' ls' W'' => post o ko v H' S'' (ls.trans ls') W''⟩
  subst e
  exact hb ds K' (by simpa using lo') hF
theorem spL_of {N : List Str} {n : Nat} {F : DB} {vs : List V} {H : Hp} {Q : VK} {E : XK} {b : VS} (hN : n + 1 ≤ N.length)
    (hb : ∀ c ds K, ds.length = n → F c ds K → b { nx := fun γ => ∃ c', γ[0]? = some (some c') ∧ K (.sh .non) c', rt := fun o γ => ∃ c', γ[0]? = some (some c') ∧ K o c' } (g0 N.length (c :: ds.map O.sh)))
    (h : spL n F vs H Q E) : tS [0] b { nx := fun _ H' => Q .non H', rt := Q } (L2.start N vs) H := by
  obtain ⟨hv, Z, S, T, a, ws, c, os, K, rfl, lo, W, ⟨ni, hF⟩, post⟩ := h
  have lw : ws.length = os.length := by simp at hv; omega
  obtain ⟨S', ls, W'⟩ := World.shareAll ws os S ((some a, some c) :: T) lw ni (World.unmid W)
  refine spB_of (E := E) (F := fun c os K => ∃ ds, os = ds.map O.sh ∧ F c ds K) hN (fun c' os' K' lo' ⟨ds, e, hF⟩ => ?_) ⟨hv, Z, S', T, a, ws, c, (erL os).map O.sh, K, rfl, by rw [List.length_map, erL_len]; exact lo, W'.mid, ⟨_, rfl, hF⟩, fun o c' ko v H' S'' ls' W'' => post o c' ko v H' S'' (ls.trans ls') W''⟩
  subst e
  exact hb c' ds K' (by simpa using lo') hF
def kSorted : BA := kInts (fun ns => ns.length < 64) fun ns => .lst ((srtI ns).map fun i => .sh (.int i))
theorem kSorted_ok {K0 : PySem.W.Frag} : Cal (rSorted K0) kSorted := cal_sorted
end FN
end
section
namespace FN
open PySem PySem.Spec L2
open PyProof.Rows hiding St

/-! ### == of anything -/
def ngB (neg b : Bool) : Bool := if neg then !b else b
def kQ (neg : Bool) : B2 := fun x y K => match x, y with
  | .sh (.int i), .sh (.int j) => K (.sh (.bl (ngB neg (decide (i = j)))))
  | .sh (.str a), .sh (.str b) => K (.sh (.bl (ngB neg (decide (a = b)))))
  | x, y => kEq neg x y K
theorem bin_qEq {K0 : PySem.W.Frag} : Bin (fun x y H Q => rEqD K0 x y H Q ∨ rEq x y H Q) (kQ false) := by
  intro Z S H x y ox oy ps Q K W hk post
  unfold kQ at hk
  split at hk
  · obtain ⟨rfl, rfl, W0⟩ := ints_of W
    refine .inr ⟨rfl, ?_⟩
    rename_i i j
    have e : decide (V.int i = V.int j) = ngB false (decide (i = j)) := by unfold ngB; simp
    rw [e]
    exact post _ hk _ H S (Le.refl S) (W0.push (by unfold IsD; rfl))
  · have h1 := W.isD
    have h2 := W.tail.isD
    unfold IsD at h1 h2
    subst h1 h2
    refine .inr ⟨rfl, ?_⟩
    rename_i i j
    have e : decide (V.str i = V.str j) = ngB false (decide (i = j)) := by unfold ngB; simp
    rw [e]
    exact post _ hk _ H S (Le.refl S) (W.tail.tail.push (by unfold IsD; rfl))
  · exact .inl (bin_eqD (K0 := K0) Z S H x y _ _ ps Q K W hk post)
theorem bin_qNe {K0 : PySem.W.Frag} : Bin (fun x y H Q => rNeD K0 x y H Q ∨ rNe x y H Q) (kQ true) := by
  intro Z S H x y ox oy ps Q K W hk post
  unfold kQ at hk
  split at hk
  · obtain ⟨rfl, rfl, W0⟩ := ints_of W
    refine .inr ⟨rfl, ?_⟩
    rename_i i j
    have e : (!decide (V.int i = V.int j)) = ngB true (decide (i = j)) := by unfold ngB; simp
    rw [e]
    exact post _ hk _ H S (Le.refl S) (W0.push (by unfold IsD; rfl))
  · have h1 := W.isD
    have h2 := W.tail.isD
    unfold IsD at h1 h2
    subst h1 h2
    refine .inr ⟨rfl, ?_⟩
    rename_i i j
    have e : (!decide (V.str i = V.str j)) = ngB true (decide (i = j)) := by unfold ngB; simp
    rw [e]
    exact post _ hk _ H S (Le.refl S) (W.tail.tail.push (by unfold IsD; rfl))
  · exact .inl (bin_neD (K0 := K0) Z S H x y _ _ ps Q K W hk post)

/-! ### data without bools -/
mutual
def D.pl : D → Bool
  | .non => true
  | .int _ => true
  | .lst l => pls l
  | .tup l => pls l
  | _ => false
def pls : List D → Bool
  | [] => true
  | d :: l => d.pl && pls l
end
mutual
def D.dep : D → Nat
  | .lst l => deps l + 1
  | .tup l => deps l + 1
  | _ => 0
def deps : List D → Nat
  | [] => 0
  | d :: l => max d.dep (deps l)
end
mutual
theorem dep_eq : ∀ d : D, d.toP.depth = d.dep
  | .non => by unfold D.toP D.dep; simp [PyData.depth]
  | .bl _ => by unfold D.toP D.dep; simp [PyData.depth]
  | .int _ => by unfold D.toP D.dep; simp [PyData.depth]
  | .str _ => by unfold D.toP D.dep; simp [PyData.depth]
  | .ref _ => by unfold D.toP D.dep; simp [PyData.depth]
  | .ty _ => by unfold D.toP D.dep; simp [PyData.depth]
  | .lst l => by unfold D.toP D.dep; simp only [PyData.depth]; rw [deps_eq l]
  | .tup l => by unfold D.toP D.dep; simp only [PyData.depth]; rw [deps_eq l]
  | .dk _ => by unfold D.toP D.dep; simp [PyData.depth]
  | .dt _ => by unfold D.toP D.dep; simp [PyData.depth]
theorem deps_eq : ∀ l : List D, PyData.depthAll (toPs l) = deps l
  | [] => by unfold toPs deps; simp [PyData.depthAll]
  | d :: l => by unfold toPs deps; simp only [PyData.depthAll]; rw [dep_eq d, deps_eq l]
end
mutual
theorem pl_lay : ∀ d : D, d.pl = true → d.flat = true ∧ d.toP.canLay0 = true
  | .non, _ => by unfold D.flat D.toP; simp [PyData.canLay0]
  | .bl _, h => by unfold D.pl at h; cases h
  | .int _, _ => by unfold D.flat D.toP; simp [PyData.canLay0]
  | .str _, h => by unfold D.pl at h; cases h
  | .ref _, h => by unfold D.pl at h; cases h
  | .ty _, h => by unfold D.pl at h; cases h
  | .lst l, h => by unfold D.pl at h; unfold D.flat D.toP; simp only [PyData.canLay0]; exact pls_lay l h
  | .tup l, h => by unfold D.pl at h; unfold D.flat D.toP; simp only [PyData.canLay0]; exact pls_lay l h
  | .dk _, h => by unfold D.pl at h; cases h
  | .dt _, h => by unfold D.pl at h; cases h
theorem pls_lay : ∀ l : List D, pls l = true → flats l = true ∧ PyData.canLayAll0 (toPs l) = true
  | [], _ => by unfold flats toPs; simp [PyData.canLayAll0]
  | d :: l, h => by
    unfold pls at h; unfold flats toPs; simp only [PyData.canLayAll0, Bool.and_eq_true] at h ⊢
    have h1 := pl_lay d h.1
    have h2 := pls_lay l h.2
    exact ⟨⟨h1.1, h2.1⟩, h1.2, h2.2⟩
end
theorem pl_shp {d : D} (h : d.pl = true) (hd : d.dep ≤ 64) : d.shp = true := by
  have h1 := pl_lay d h
  unfold D.shp SeqAt.shaped
  rw [h1.1, h1.2, dep_eq]
  simp [hd]
mutual
theorem pl_eqv : ∀ a b : D, a.pl = true → b.pl = true → (a.eqv b = true ↔ a = b)
  | .non, b, _, h => by cases b <;> simp [D.eqv, D.toP, PyData.eqv, D.pl] at h ⊢
  | .int i, b, _, h => by cases b <;> simp [D.eqv, D.toP, PyData.eqv, D.pl] at h ⊢
  | .lst l, b, ha, h => by
    unfold D.pl at ha
    cases b with
    | lst m =>
      unfold D.pl at h
      have := pls_eqv l m ha h
      unfold D.eqv D.toP; simp only [PyData.eqv]
      rw [this]; simp
    | _ => simp [D.eqv, D.toP, PyData.eqv, D.pl] at h ⊢
  | .tup l, b, ha, h => by
    unfold D.pl at ha
    cases b with
    | tup m =>
      unfold D.pl at h
      have := pls_eqv l m ha h
      unfold D.eqv D.toP; simp only [PyData.eqv]
      rw [this]; simp
    | _ => simp [D.eqv, D.toP, PyData.eqv, D.pl] at h ⊢
  | .bl _, b, ha, _ => by unfold D.pl at ha; cases ha
  | .str _, b, ha, _ => by unfold D.pl at ha; cases ha
  | .ref _, b, ha, _ => by unfold D.pl at ha; cases ha
  | .ty _, b, ha, _ => by unfold D.pl at ha; cases ha
  | .dk _, b, ha, _ => by unfold D.pl at ha; cases ha
  | .dt _, b, ha, _ => by unfold D.pl at ha; cases ha
theorem pls_eqv : ∀ a b : List D, pls a = true → pls b = true → (PyData.eqvAll (toPs a) (toPs b) = true ↔ a = b)
  | [], [], _, _ => by unfold toPs; simp [PyData.eqvAll]
  | [], d :: l, _, _ => by simp [toPs, PyData.eqvAll]
  | d :: l, [], _, _ => by simp [toPs, PyData.eqvAll]
  | d :: l, e :: m, ha, hb => by
    unfold pls at ha hb
    simp only [Bool.and_eq_true] at ha hb
    have h1 := pl_eqv d e ha.1 hb.1
    have h2 := pls_eqv l m ha.2 hb.2
    unfold toPs; simp only [PyData.eqvAll, Bool.and_eq_true]
    unfold D.eqv at h1
    rw [h1, h2]; simp
end
/-! ### readings, by cases -/
section
variable {K : O → Prop} {i j : Int}
theorem kI_int {C : Int → Int → Prop} {g : Int → Int → Int} : kI C g (.sh (.int i)) (.sh (.int j)) K ↔ C i j ∧ K (.sh (.int (g i j))) := by
  constructor
  · rintro ⟨_, _, h1, h2, c, k⟩; cases h1; cases h2; exact ⟨c, k⟩
  · rintro ⟨c, k⟩; exact ⟨i, j, rfl, rfl, c, k⟩
theorem kI0_int {g : Int → Int → Int} : kI0 g (.sh (.int i)) (.sh (.int j)) K ↔ K (.sh (.int (g i j))) := by
  constructor
  · rintro ⟨_, _, h1, h2, k⟩; cases h1; cases h2; exact k
  · exact fun k => ⟨i, j, rfl, rfl, k⟩
theorem kB0_int {g : Int → Int → Bool} : kB0 g (.sh (.int i)) (.sh (.int j)) K ↔ K (.sh (.bl (g i j))) := by
  constructor
  · rintro ⟨_, _, h1, h2, k⟩; cases h1; cases h2; exact k
  · exact fun k => ⟨i, j, rfl, rfl, k⟩
theorem kAdd_int : kAdd (.sh (.int i)) (.sh (.int j)) K ↔ K (.sh (.int (i + j))) := Iff.rfl
theorem kAdd_lst {x y : O} {l m : List O} (ex : x.items = some l) (ey : y.items = some m) (hz : l.length + m.length ≤ 1000000) (k : K (.lst (l ++ m))) : kAdd x y K := by
  unfold kAdd
  split
  · simp [O.items] at ex
  · exact ⟨l, m, ex, ey, hz, k⟩
theorem kQ_int {neg : Bool} : kQ neg (.sh (.int i)) (.sh (.int j)) K ↔ K (.sh (.bl (ngB neg (decide (i = j))))) := Iff.rfl
theorem kQ_str {neg : Bool} {a b : Str} : kQ neg (.sh (.str a)) (.sh (.str b)) K ↔ K (.sh (.bl (ngB neg (decide (a = b))))) := Iff.rfl
theorem kQ_pl {neg : Bool} {x y : O} (nx : x.noIns = true) (ny : y.noIns = true) (px : x.er.pl = true) (py : y.er.pl = true) (dx : x.er.dep ≤ 64) (dy : y.er.dep ≤ 64) (k : ∀ b : Bool, (b = true ↔ x.er = y.er) → K (.sh (.bl (ngB neg b)))) : kQ neg x y K := by
  have h : kEq neg x y K := ⟨nx, ny, pl_shp px dx, pl_shp py dy, k _ (pl_eqv _ _ px py)⟩
  unfold kQ
  split
  · refine k _ ?_
    simp only [O.er, D.int.injEq, decide_eq_true_eq]
  · simp [O.er, D.pl] at px
  · exact h
theorem kInt_int : kInt [.sh (.int i)] K ↔ K (.sh (.int i)) := by
  constructor
  · rintro ⟨_, h, k⟩; cases h; exact k
  · exact fun k => ⟨i, rfl, k⟩
theorem kMin2_int : kMin2 [.sh (.int i), .sh (.int j)] K ↔ K (.sh (.int (min i j))) := by
  constructor
  · rintro ⟨_, _, h, k⟩; cases h; exact k
  · exact fun k => ⟨i, j, rfl, k⟩
/-- isinstance, by the names of the types -/
def isiD (d : D) (n : String) : Option Bool := (tyD d).bind fun T => kitB T n
theorem kIsi_iff {d : D} {n : String} : kIsi [.sh d, .sh (.ty n)] K ↔ ∃ b, isiD d n = some b ∧ K (.sh (.bl b)) := by
  constructor
  · rintro ⟨o, T, m, b, h, ni, h1, h2, k⟩
    simp only [List.cons.injEq, O.sh.injEq, D.ty.injEq, and_true] at h
    obtain ⟨rfl, rfl⟩ := h
    unfold O.er at h1
    exact ⟨b, by unfold isiD; rw [h1]; exact h2, k⟩
  · rintro ⟨b, h, k⟩
    unfold isiD at h
    obtain ⟨T, h1, h2⟩ := Option.bind_eq_some_iff.mp h
    exact ⟨.sh d, T, n, b, rfl, rfl, by unfold O.er; exact h1, h2, k⟩
theorem kLen_iff {x : O} : kLen [x] K ↔ x.noIns = true ∧ ∃ n : Nat, lenD x.er = some n ∧ K (.sh (.int n)) := by
  constructor
  · rintro ⟨o, n, h, ni, e, k⟩; cases h; exact ⟨ni, n, e, k⟩
  · rintro ⟨ni, n, e, k⟩; exact ⟨x, n, rfl, ni, e, k⟩
theorem kSub_iff {x y : O} : kSub x y K ↔ x.noIns = true ∧ y.noIns = true ∧ ∃ d, subD x.er y.er = some d ∧ K (.sh d) := Iff.rfl
theorem kIn_iff {neg : Bool} {x y : O} : kIn neg x y K ↔ x.noIns = true ∧ y.noIns = true ∧ ∃ b, inD x.er y.er = some b ∧ K (.sh (.bl (ngB neg b))) := Iff.rfl
theorem kRepr_iff {x : O} : kRepr [x] K ↔ x.noIns = true ∧ x.er.rpr = true ∧ K (.sh (.str x.er.toP.shown)) := by
  constructor
  · rintro ⟨o, h, ni, e, k⟩; cases h; exact ⟨ni, e, k⟩
  · rintro ⟨ni, e, k⟩; exact ⟨x, rfl, ni, e, k⟩
theorem kList_iff {x : O} : kList [x] K ↔ x.noIns = true ∧ ∃ l, seqD x.er = some l ∧ K (.lst (l.map O.sh)) := by
  constructor
  · rintro ⟨o, l, h, ni, e, k⟩; cases h; exact ⟨ni, l, e, k⟩
  · rintro ⟨ni, l, e, k⟩; exact ⟨x, l, rfl, ni, e, k⟩
theorem kInts_iff {P : List Int → Prop} {r : List Int → O} {x : O} : kInts P r [x] K ↔ x.noIns = true ∧ ∃ ns, x.er = .lst (ns.map D.int) ∧ P ns ∧ K (r ns) := by
  constructor
  · rintro ⟨o, ns, h, ni, e, p, k⟩; cases h; exact ⟨ni, ns, e, p, k⟩
  · rintro ⟨ni, ns, e, p, k⟩; exact ⟨x, ns, rfl, ni, e, p, k⟩
theorem kBls_iff {r : List Bool → O} {x : O} : kBls r [x] K ↔ x.noIns = true ∧ ∃ bs, x.er = .lst (bs.map D.bl) ∧ K (r bs) := by
  constructor
  · rintro ⟨o, bs, h, ni, e, k⟩; cases h; exact ⟨ni, bs, e, k⟩
  · rintro ⟨ni, bs, e, k⟩; exact ⟨x, bs, rfl, ni, e, k⟩
theorem kSorted_iff {x : O} : kSorted [x] K ↔ x.noIns = true ∧ ∃ ns, x.er = .lst (ns.map D.int) ∧ ns.length < 64 ∧ K (.lst ((srtI ns).map fun i => .sh (.int i))) := kInts_iff
end
/-! ### loops -/
theorem forV_by {ag : AG} {b : VS} {E : VE} (P : List O → Gm → Prop) (hn : ∀ γ, P [] γ → E.nx γ)
    (hs : ∀ o rest γ, P (o :: rest) γ → ∀ N : Gm → Prop, (∀ γ', P rest γ' → N γ') → ag o γ fun γ1 => b { nx := N, rt := E.rt, bk := E.nx, ct := N } γ1) : ∀ os γ, P os γ → forV ag b os E γ
  | [], γ, h => hn γ h
  | o :: os, γ, h => by
    unfold forV
    exact hs o os γ h _ fun γ' h' => forV_by P hn hs os γ' h'
theorem compV_by {ag : AG} {t : OT} {f : OE} {vs : List Nat} {Q : List O → Gm → Prop} (P : List O → List O → Gm → Prop) (hn : ∀ acc γ, P [] acc γ → Q acc γ)
    (hs : ∀ o rest acc γ, P (o :: rest) acc γ → ∀ N : List O → Gm → Prop, (∀ acc' γ', P rest acc' γ' → N acc' γ') → ag o γ fun γ1 => t γ1 fun b γ2 => if b = true then f γ2 fun y γ3 => N (acc ++ [y]) (wipeC γ3 vs) else N acc (wipeC γ2 vs)) :
    ∀ os acc γ, P os acc γ → compV ag t f vs os acc γ Q
  | [], acc, γ, h => hn acc γ h
  | o :: os, acc, γ, h => by
    unfold compV
    exact hs o os acc γ h (fun acc' γ' => compV ag t f vs os acc' γ' Q) fun acc' γ' h' => compV_by P hn hs os acc' γ' h'
/-- a comprehension that leaves the frame as it is: g says what each turn gives -/
theorem compV_map {ag : AG} {t : OT} {f : OE} {vs : List Nat} {Q : List O → Gm → Prop} {γ : Gm} (g : O → Option O) {os : List O} 
    (hs : ∀ o ∈ os, ∀ N : Option O → Gm → Prop, N (g o) γ → ag o γ fun γ1 => t γ1 fun b γ2 => if b = true then f γ2 fun y γ3 => N (some y) (wipeC γ3 vs) else N none (wipeC γ2 vs)) :
    ∀ acc, Q (acc ++ os.filterMap g) γ → compV ag t f vs os acc γ Q := by
  induction os with
  | nil => intro acc h; simpa [compV] using h
  | cons o os ih =>
    intro acc h
    unfold compV
    have ih' := ih fun o' ho' => hs o' (List.mem_cons_of_mem _ ho')
    refine hs o List.mem_cons_self (fun r γ' => match r with
      | some y => compV ag t f vs os (acc ++ [y]) γ' Q
      | none => compV ag t f vs os acc γ' Q) ?_
    rw [List.filterMap_cons] at h
    cases e : g o with
    | none => rw [e] at h; exact ih' acc h
    | some y => rw [e] at h; exact ih' (acc ++ [y]) (by simpa using h)
theorem compD_by {ag : AG} {t : OT} {fk fv : OE} {vs : List Nat} {Q : List (Key × O) → Gm → Prop} (P : List O → List (Key × O) → Gm → Prop) (hn : ∀ acc γ, P [] acc γ → Q acc γ)
    (hs : ∀ o rest acc γ, P (o :: rest) acc γ → ∀ N : List (Key × O) → Gm → Prop, (∀ acc' γ', P rest acc' γ' → N acc' γ') →
      ag o γ fun γ1 => t γ1 fun b γ2 => if b = true then fk γ2 fun kd γ3 => fv γ3 fun y γ4 => ∃ d k, kd = .sh d ∧ isKey d = some k ∧ N (putR acc k y) (wipeC γ4 vs) else N acc (wipeC γ2 vs)) :
    ∀ os acc γ, P os acc γ → compD ag t fk fv vs os acc γ Q
  | [], acc, γ, h => hn acc γ h
  | o :: os, acc, γ, h => by
    unfold compD
    exact hs o os acc γ h (fun acc' γ' => compD ag t fk fv vs os acc' γ' Q) fun acc' γ' h' => compD_by P hn hs os acc' γ' h'
theorem items_sh (l : List D) : O.items (.sh (.lst l)) = some (l.map O.sh) := rfl
theorem items_lst (l : List O) : O.items (.lst l) = some l := rfl
theorem noInsL_sh : ∀ l : List D, noInsL (l.map O.sh) = true
  | [] => rfl
  | d :: l => by rw [List.map_cons]; unfold noInsL; rw [noInsL_sh l]; rfl
theorem erL_sh : ∀ l : List D, erL (l.map O.sh) = l
  | [] => rfl
  | d :: l => by rw [List.map_cons]; unfold erL; rw [erL_sh l]; rfl
theorem ngB_f (b : Bool) : ngB false b = b := rfl
theorem ngB_t (b : Bool) : ngB true b = !b := rfl
theorem forV_at {ag : AG} {b : VS} {E : VE} {os : List O} (P : Nat → Gm → Prop) (hn : ∀ γ, P os.length γ → E.nx γ)
    (hs : ∀ k o γ, os[k]? = some o → P k γ → ∀ N : Gm → Prop, (∀ γ', P (k + 1) γ' → N γ') → ag o γ fun γ1 => b { nx := N, rt := E.rt, bk := E.nx, ct := N } γ1) {γ : Gm} (h0 : P 0 γ) : forV ag b os E γ := by
  refine forV_by (fun rest γ => ∃ k, k ≤ os.length ∧ rest = os.drop k ∧ P k γ) ?_ ?_ os γ ⟨0, Nat.zero_le _, rfl, h0⟩
  · rintro γ ⟨k, hk, e, h⟩
    have : os.length ≤ k := by
      by_cases q : k < os.length
      · rw [List.drop_eq_getElem_cons q] at e; cases e
      · omega
    have : k = os.length := by omega
    subst this
    exact hn γ h
  · rintro o rest γ ⟨k, hk, e, h⟩ N hN
    have q : k < os.length := by
      by_cases q : k < os.length
      · exact q
      · rw [List.drop_eq_nil_of_le (by omega)] at e; cases e
    rw [List.drop_eq_getElem_cons q] at e
    obtain ⟨e1, e2⟩ := List.cons.inj e
    exact hs k o γ (by rw [e1]; exact List.getElem?_eq_getElem q) h N fun γ' h' => hN γ' ⟨k + 1, q, e2, h'⟩
theorem compV_at {ag : AG} {t : OT} {f : OE} {vs : List Nat} {Q : List O → Gm → Prop} {os : List O} (P : Nat → List O → Gm → Prop) (hn : ∀ acc γ, P os.length acc γ → Q acc γ)
    (hs : ∀ k o acc γ, os[k]? = some o → P k acc γ → ∀ N : List O → Gm → Prop, (∀ acc' γ', P (k + 1) acc' γ' → N acc' γ') → ag o γ fun γ1 => t γ1 fun b γ2 => if b = true then f γ2 fun y γ3 => N (acc ++ [y]) (wipeC γ3 vs) else N acc (wipeC γ2 vs)) {γ : Gm} (h0 : P 0 [] γ) :
    compV ag t f vs os [] γ Q := by
  refine compV_by (fun rest acc γ => ∃ k, k ≤ os.length ∧ rest = os.drop k ∧ P k acc γ) ?_ ?_ os [] γ ⟨0, Nat.zero_le _, rfl, h0⟩
  · rintro acc γ ⟨k, hk, e, h⟩
    have : os.length ≤ k := by
      by_cases q : k < os.length
      · rw [List.drop_eq_getElem_cons q] at e; cases e
      · omega
    have : k = os.length := by omega
    subst this
    exact hn acc γ h
  · rintro o rest acc γ ⟨k, hk, e, h⟩ N hN
    have q : k < os.length := by
      by_cases q : k < os.length
      · exact q
      · rw [List.drop_eq_nil_of_le (by omega)] at e; cases e
    rw [List.drop_eq_getElem_cons q] at e
    obtain ⟨e1, e2⟩ := List.cons.inj e
    exact hs k o acc γ (by rw [e1]; exact List.getElem?_eq_getElem q) h N fun acc' γ' h' => hN acc' γ' ⟨k + 1, q, e2, h'⟩
theorem compD_at {ag : AG} {t : OT} {fk fv : OE} {vs : List Nat} {Q : List (Key × O) → Gm → Prop} {os : List O} (P : Nat → List (Key × O) → Gm → Prop) (hn : ∀ acc γ, P os.length acc γ → Q acc γ)
    (hs : ∀ k o acc γ, os[k]? = some o → P k acc γ → ∀ N : List (Key × O) → Gm → Prop, (∀ acc' γ', P (k + 1) acc' γ' → N acc' γ') →
      ag o γ fun γ1 => t γ1 fun b γ2 => if b = true then fk γ2 fun kd γ3 => fv γ3 fun y γ4 => ∃ d k, kd = .sh d ∧ isKey d = some k ∧ N (putR acc k y) (wipeC γ4 vs) else N acc (wipeC γ2 vs)) {γ : Gm} (h0 : P 0 [] γ) :
    compD ag t fk fv vs os [] γ Q := by
  refine compD_by (fun rest acc γ => ∃ k, k ≤ os.length ∧ rest = os.drop k ∧ P k acc γ) ?_ ?_ os [] γ ⟨0, Nat.zero_le _, rfl, h0⟩
  · rintro acc γ ⟨k, hk, e, h⟩
    have : os.length ≤ k := by
      by_cases q : k < os.length
      · rw [List.drop_eq_getElem_cons q] at e; cases e
      · omega
    have : k = os.length := by omega
    subst this
    exact hn acc γ h
  · rintro o rest acc γ ⟨k, hk, e, h⟩ N hN
    have q : k < os.length := by
      by_cases q : k < os.length
      · exact q
      · rw [List.drop_eq_nil_of_le (by omega)] at e; cases e
    rw [List.drop_eq_getElem_cons q] at e
    obtain ⟨e1, e2⟩ := List.cons.inj e
    exact hs k o acc γ (by rw [e1]; exact List.getElem?_eq_getElem q) h N fun acc' γ' h' => hN acc' γ' ⟨k + 1, q, e2, h'⟩
/-! ### tables -/
theorem noInsK_iff : ∀ {l : List (Key × O)}, noInsK l = true ↔ ∀ p ∈ l, p.2.noIns = true
  | [] => by unfold noInsK; simp
  | (k, o) :: l => by unfold noInsK; rw [Bool.and_eq_true, noInsK_iff, List.forall_mem_cons]
theorem erK_eq : ∀ l : List (Key × O), erK l = l.map fun p => (p.1, p.2.er)
  | [] => rfl
  | (k, o) :: l => by unfold erK; rw [erK_eq l]; rfl
/-- keys 1 to n -/
def tabR {α : Type} (n : Nat) (f : Nat → α) : List (Key × α) := (List.range n).map fun i => (.inl ((i + 1 : Nat) : Int), f (i + 1))
theorem tabR_succ {α : Type} (n : Nat) (f : Nat → α) : tabR (n + 1) f = tabR n f ++ [(.inl ((n + 1 : Nat) : Int), f (n + 1))] := by
  unfold tabR; rw [List.range_succ, List.map_append]; rfl
theorem tabR_congr {α : Type} {n : Nat} {f g : Nat → α} (h : ∀ i, 1 ≤ i → i ≤ n → f i = g i) : tabR n f = tabR n g := by
  unfold tabR
  refine List.map_congr_left fun i hi => ?_
  rw [h (i + 1) (by omega) (by have := List.mem_range.mp hi; omega)]
theorem tabR_len {α : Type} (n : Nat) (f : Nat → α) : (tabR n f).length = n := by simp [tabR]
theorem valR_cons {κ α : Type} [DecidableEq κ] (k k' : κ) (v : α) (l : List (κ × α)) : valR ((k', v) :: l) k = if k' = k then some v else valR l k := rfl
theorem putR_cons {κ α : Type} [DecidableEq κ] (k k' : κ) (v w : α) (l : List (κ × α)) : putR ((k', w) :: l) k v = if k' = k then (k', v) :: l else (k', w) :: putR l k v := rfl
theorem valR_app {κ α : Type} [DecidableEq κ] (k : κ) (l m : List (κ × α)) : valR (l ++ m) k = match valR l k with | some v => some v | none => valR m k := by
  induction l with
  | nil => rfl
  | cons p l ih =>
    obtain ⟨k', v⟩ := p
    rw [List.cons_append, valR_cons, valR_cons]
    by_cases q : k' = k
    · rw [if_pos q, if_pos q]
    · rw [if_neg q, if_neg q]; exact ih
theorem putR_app {κ α : Type} [DecidableEq κ] (k : κ) (v : α) (l m : List (κ × α)) : putR (l ++ m) k v = match valR l k with | some _ => putR l k v ++ m | none => l ++ putR m k v := by
  induction l with
  | nil => rfl
  | cons p l ih =>
    obtain ⟨k', w⟩ := p
    rw [List.cons_append, putR_cons, valR_cons, putR_cons]
    by_cases q : k' = k
    · rw [if_pos q, if_pos q, if_pos q]; rfl
    · rw [if_neg q, if_neg q, if_neg q, ih]
      cases valR l k <;> rfl
theorem valR_tab {α : Type} {f : Nat → α} {k : Nat} (h : 1 ≤ k) : ∀ n : Nat, valR (tabR n f) (.inl ((k : Nat) : Int) : Key) = if k ≤ n then some (f k) else none
  | 0 => by rw [if_neg (by omega)]; rfl
  | n + 1 => by
    rw [tabR_succ, valR_app, valR_tab h n]
    by_cases q : k ≤ n
    · rw [if_pos q, if_pos (by omega)]
    · rw [if_neg q]
      show valR [(Sum.inl ((n + 1 : Nat) : Int), f (n + 1))] _ = _
      unfold valR valR
      by_cases e : n + 1 = k
      · subst e; rw [if_pos rfl, if_pos (Nat.le_refl _)]
      · rw [if_neg (fun z => e (by have := Sum.inl.inj z; omega)), if_neg (by omega)]
theorem putR_tab {α : Type} {f : Nat → α} {k : Nat} {v : α} (h : 1 ≤ k) : ∀ n : Nat, k ≤ n → putR (tabR n f) (.inl ((k : Nat) : Int) : Key) v = tabR n fun j => if j = k then v else f j
  | 0, hk => by omega
  | n + 1, hk => by
    rw [tabR_succ, putR_app, valR_tab h n, tabR_succ]
    by_cases q : k ≤ n
    · rw [if_pos q, if_neg (show ¬ n + 1 = k by omega)]
      show putR (tabR n f) _ v ++ _ = _
      rw [putR_tab h n q]
    · have e : k = n + 1 := by omega
      subst e
      rw [if_neg q, if_pos rfl]
      show tabR n f ++ putR _ _ v = _
      unfold putR
      rw [if_pos rfl]
      congr 1
      exact tabR_congr fun i _ hi => by rw [if_neg (by omega)]
theorem putR_next {α : Type} {f : Nat → α} {v : α} (n : Nat) (hv : v = f (n + 1)) : putR (tabR n f) (.inl ((n + 1 : Nat) : Int) : Key) v = tabR (n + 1) f := by
  have e : valR (tabR n f) (.inl ((n + 1 : Nat) : Int) : Key) = none := by rw [valR_tab (by omega), if_neg (by omega)]
  have := putR_app (.inl ((n + 1 : Nat) : Int) : Key) v (tabR n f) []
  rw [List.append_nil, e] at this
  rw [this, tabR_succ, hv]; rfl
theorem valD_tab {α : Type} {f : Nat → α} {k n : Nat} (h : 1 ≤ k) : valD (tabR n f) (.inl ((k : Nat) : Int) : Key) = if k ≤ n then some (f k) else none := by rw [valR_eq, valR_tab h]
theorem erK_tab {n : Nat} {f : Nat → O} : erK (tabR n f) = tabR n fun j => (f j).er := by
  rw [erK_eq]; unfold tabR; rw [List.map_map]; rfl
theorem noInsK_tab {n : Nat} {f : Nat → O} (h : ∀ j, (f j).noIns = true) : noInsK (tabR n f) = true := by
  refine noInsK_iff.mpr fun p hp => ?_
  obtain ⟨i, _, rfl⟩ := List.mem_map.mp hp
  exact h _
theorem tabR_get {α : Type} {n k : Nat} {f : Nat → α} {p : Key × α} (h : (tabR n f)[k]? = some p) : k < n ∧ p = (.inl ((k + 1 : Nat) : Int), f (k + 1)) := by
  unfold tabR at h
  rw [List.getElem?_map] at h
  by_cases q : k < n
  · rw [List.getElem?_range q] at h; exact ⟨q, (Option.some.inj h).symm⟩
  · rw [List.getElem?_eq_none (by simpa using q)] at h; cases h
/-! ### places, by cases -/
theorem oAppL1 {i : Nat} {h : Gm → D → Prop} {g : OA} {γ : Gm} {Q : O → Gm → Prop} (d : D) (c : O) (l : List O) (hd : h γ d) (hc : γ[i]? = some (some c)) (hl : getO c d = some (.lst l))
    (hg : g (γ.set i none) fun os γ1 => ∃ o, os = [o] ∧ l.length < 1000000 ∧ Q (.sh .non) (γ1.set i (some (setO c d (.lst (l ++ [o])))))) : oAppL i (pAt pHere h) g γ Q := by
  refine ⟨[d], c, l, ⟨[], d, rfl, rfl, hd⟩, hc, ?_, ?_⟩
  · show (getO c d).bind (fun o => getP o []) = some (.lst l)
    rw [hl]; rfl
  · have e : ∀ o, setP c [d] o = setO c d o := fun o => by
      show (match getO c d with | some c1 => setO c d (setP c1 [] o) | none => c) = _
      rw [hl]; rfl
    simp only [e]
    exact hg
theorem oAppL2 {i : Nat} {h h2 : Gm → D → Prop} {g : OA} {γ : Gm} {Q : O → Gm → Prop} (d d2 : D) (c c1 : O) (l : List O) (hd : h γ d) (hd2 : h2 γ d2) (hc : γ[i]? = some (some c)) (hl1 : getO c d = some c1) (hl : getO c1 d2 = some (.lst l))
    (hg : g (γ.set i none) fun os γ1 => ∃ o, os = [o] ∧ l.length < 1000000 ∧ Q (.sh .non) (γ1.set i (some (setO c d (setO c1 d2 (.lst (l ++ [o]))))))) : oAppL i (pAt (pAt pHere h) h2) g γ Q := by
  refine ⟨[d, d2], c, l, ⟨[d], d2, rfl, ⟨[], d, rfl, rfl, hd⟩, hd2⟩, hc, ?_, ?_⟩
  · show (getO c d).bind (fun o => (getO o d2).bind fun o => getP o []) = some (.lst l)
    rw [hl1]
    show (getO c1 d2).bind (fun o => getP o []) = some (.lst l)
    rw [hl]; rfl
  · have e : ∀ o, setP c [d, d2] o = setO c d (setO c1 d2 o) := fun o => by
      show (match getO c d with | some c1 => setO c d (match getO c1 d2 with | some c2 => setO c1 d2 (setP c2 [] o) | none => c1) | none => c) = _
      rw [hl1]
      show setO c d (match getO c1 d2 with | some c2 => setO c1 d2 (setP c2 [] o) | none => c1) = _
      rw [hl]; rfl
    simp only [e]
    exact hg
theorem aPut0 {i : Nat} {f : OE} {o c : O} {γ : Gm} {Q : Gm → Prop} (hc : γ[i]? = some (some c)) (hf : f (γ.set i none) fun kd γ1 => ∃ d c', kd = .sh d ∧ putO c d o = some c' ∧ Q (γ1.set i (some c'))) : aPut i pHere f o γ Q :=
  ⟨[], c, c, rfl, hc, rfl, hf⟩
/-! ### a part of a thing of one's own, taken out -/
def kTake : B2 := fun x y K => (∃ d o, y = .sh d ∧ getO x d = some o ∧ K o) ∨ kSub x y K
theorem bin_take {K0 : PySem.W.Frag} : Bin (fun x y H Q => rIx K0 x y H Q ∨ rIxD x y H Q) kTake := by
  rintro Z S H x y ox oy ps Q K W (⟨d, o, rfl, ho, hk⟩ | h) post
  · have hy := W.isD
    obtain ⟨a, u, rfl, sa, W2⟩ := World.pull W.tail ho
    exact rix_of (sa S y hy) (post o hk u H S (Le.refl S) (W2.perm (.refl _) |> fun W => (World.swap W).tail))
  · exact bin_sub (K0 := K0) Z S H x y ox oy ps Q K W h post
theorem je_take {X : Cx} {a b : Expr} {f g : OE} {pos : Pos} (hu : X.A.units + 1 < cLine) (ha : JE X a f) (hb : JE X b g) (hs : PlainIx b := by exact fun _ _ => rfl) : JE X (.Subscript a b pos) (o2 kTake f g) :=
  PE.imp (pe_ix (ix_seq.or (ix_dict hu)) ha hb hs) fun _ _ _ h => tOp_of (bin_take (K0 := X.K)) h
theorem kTake_own {x o : O} {d : D} {K : O → Prop} (h : getO x d = some o) (k : K o) : kTake x (.sh d) K := .inl ⟨d, o, rfl, h, k⟩
theorem kTake_sub {x y : O} {K : O → Prop} (h : kSub x y K) : kTake x y K := .inr h
/-! ### what repr shows, in bounds -/
structure D.R (d : D) (h w : Nat) : Prop where
  sh : d.shn = true
  dp : d.dep ≤ h
  wg : d.wgt ≤ w
structure RS (l : List D) (h w : Nat) : Prop where
  sh : shns l = true
  dp : deps l ≤ h
  wg : wgts l ≤ w
theorem R_int {i : Int} (h : i.natAbs < 1000000) : (D.int i).R 0 7 := by
  refine ⟨?_, by unfold D.dep; omega, by unfold D.wgt; rw [if_pos h]; omega⟩
  unfold D.shn
  have : i.natAbs.log2 < 20 := PySem.Flt.log2_lt_of (by omega) (by omega)
  simp; omega
theorem R_non : (D.non).R 0 4 := ⟨rfl, by unfold D.dep; omega, by unfold D.wgt; omega⟩
theorem RS_nil : RS [] 0 0 := ⟨rfl, Nat.le_refl _, Nat.le_refl _⟩
theorem RS_cons {d : D} {l : List D} {h w h' w' : Nat} (a : d.R h w) (b : RS l h' w') : RS (d :: l) (max h h') (w + 2 + w') :=
  ⟨by unfold shns; rw [a.sh, b.sh]; rfl, by unfold deps; have := a.dp; have := b.dp; omega, by unfold wgts; have := a.wg; have := b.wg; omega⟩
theorem R_lst {l : List D} {h w : Nat} (a : RS l h w) : (D.lst l).R (h + 1) (w + 2) := ⟨by unfold D.shn; exact a.sh, by unfold D.dep; have := a.dp; omega, by unfold D.wgt; have := a.wg; omega⟩
theorem R_tup {l : List D} {h w : Nat} (a : RS l h w) : (D.tup l).R (h + 1) (w + 3) := ⟨by unfold D.shn; exact a.sh, by unfold D.dep; have := a.dp; omega, by unfold D.wgt; have := a.wg; omega⟩
theorem RS_map {α : Type} {f : α → D} {h w : Nat} : ∀ {l : List α}, (∀ a ∈ l, (f a).R h w) → RS (l.map f) h (l.length * (w + 2))
  | [], _ => ⟨rfl, Nat.zero_le _, Nat.zero_le _⟩
  | a :: l, k => by
    have h1 := k a List.mem_cons_self
    have h2 := RS_map (l := l) fun b hb => k b (List.mem_cons_of_mem _ hb)
    have h3 := RS_cons h1 h2
    refine ⟨h3.sh, by have := h3.dp; rw [List.map_cons]; omega, ?_⟩
    have := h3.wg
    rw [List.map_cons, List.length_cons, Nat.add_mul]
    omega
theorem D.R.more {d : D} {h w h' w' : Nat} (a : d.R h w) (h1 : h ≤ h') (h2 : w ≤ w') : d.R h' w' := ⟨a.sh, Nat.le_trans a.dp h1, Nat.le_trans a.wg h2⟩
theorem D.R.rpr {d : D} {h w : Nat} (a : d.R h w) (hs : d.isSeq = true) (h1 : h ≤ 60) (h2 : w ≤ 16000000) : d.rpr = true := by
  unfold D.rpr
  rw [hs, a.sh, dep_eq]
  have := a.dp
  have := a.wg
  simp
  omega
/-! ### small numbers -/
theorem mulW {i j : Int} (hi : i.natAbs < 2 ^ 64) (hj : j.natAbs < 2 ^ 64) : CMulW i j := wide_mul hi hj (by decide) (by decide) (by decide)
theorem divW {i j : Int} (h : 0 < j) (hj : j.natAbs < 2 ^ 64) : CDivW i j := wide_div h hj (by decide) (by decide)
end FN
end
section
namespace FN
open PySem PySem.Spec L2
open PyProof.Rows hiding St
/-- is_whole: slots 0 thing -/
def r_is_whole  : VS :=
  (vRet (oAndV (oCall kIsi (oCons (oN 0) (oCons (oC (.ty "int")) oNil))) (oNotV (oCall kIsi (oCons (oN 0) (oCons (oC (.ty "bool")) oNil))))))
def nn_is_whole : Nat := 1
/-- check_number: slots 0 number, 1 least, 2 most -/
def r_check_number (F_is_whole : DA) : VS :=
  (vIf (oOr (oNot (oB (oCall (kArg 1 (baOf F_is_whole)) (oCons (oN 0) oNil)))) (oNot (oB (oChain (kB0 fun i j => decide (i ≤ j)) (kB0 fun i j => decide (i ≤ j)) (oN 1) (oN 0) (oN 2))))) vNever vNil)
def nn_check_number : Nat := 3
/-- is_place: slots 0 thing, 1 places -/
def r_is_place (F_is_whole : DA) : VS :=
  (vRet (oAndV (oCall (kArg 1 (baOf F_is_whole)) (oCons (oN 0) oNil)) (oChain (kB0 fun i j => decide (i ≤ j)) (kB0 fun i j => decide (i ≤ j)) (oC (.int 1)) (oN 0) (oN 1))))
def nn_is_place : Nat := 2
/-- is_line: slots 0 thing, 1 places, 2 place -/
def r_is_line (F_is_place : DA) : VS :=
  (vSeq (vIf (oOr (oNot (oB (oCall kIsi (oCons (oN 0) (oCons (oC (.ty "list")) oNil))))) (oOr (oB (o2 (kQ true) (oCall kLen (oCons (oN 0) oNil)) (oC (.int 2)))) (oNot (oB (oCall (kBls fun bs => .sh (.bl (bs.all id))) (oCons (vLc (iLst (oN 0)) (aName 2) oYes (oCall (kArg 2 (baOf F_is_place)) (oCons (oN 2) (oCons (oN 1) oNil))) [2]) oNil)))))) (vRet (oC (.bl false))) vNil)
    (vRet (o2 (kQ true) (o2 kSub (oN 0) (oC (.int 0))) (o2 kSub (oN 0) (oC (.int 1))))))
def nn_is_line : Nat := 3
/-- check_lines: slots 0 lines, 1 places, 2 index, 3 line -/
def r_check_lines (F_is_line : DA) : VS :=
  (vSeq (vIf (oNot (oB (oCall kIsi (oCons (oN 0) (oCons (oC (.ty "list")) oNil))))) vNever vNil)
    (vFor (iEnumO (oCons (oN 0) oNil)) (aTup [2, 3]) (vIf (oOr (oNot (oB (oCall (kArg 2 (baOf F_is_line)) (oCons (oN 3) (oCons (oN 1) oNil))))) (oOr (oB (o2 (kIn false) (oN 3) (oSl (oN 0) pNone (pSome (oN 2))))) (oB (o2 (kIn false) (oRev (oN 3)) (oSl (oN 0) pNone (pSome (oN 2))))))) vNever vNil)))
def nn_check_lines : Nat := 4
/-- check_net: slots 0 places, 1 lines -/
def r_check_net (F_check_number : DA) (F_check_lines : DA) : VS :=
  (vSeq (vEx (oCall (kArg 3 (baOf F_check_number)) (oCons (oN 0) (oCons (oC (.int 1)) (oCons (oC (.int 12)) oNil)))))
    (vEx (oCall (kArg 2 (baOf F_check_lines)) (oCons (oN 1) (oCons (oN 0) oNil)))))
def nn_check_net : Nat := 2
/-- check_place: slots 0 place, 1 places -/
def r_check_place (F_is_place : DA) : VS :=
  (vIf (oNot (oB (oCall (kArg 2 (baOf F_is_place)) (oCons (oN 0) (oCons (oN 1) oNil))))) vNever vNil)
def nn_check_place : Nat := 2
/-- beside_in: slots 0 places, 1 lines, 2 told, 3 one, 4 two, 5 place, 6 some -/
def r_beside_in  : VS :=
  (vSeq (vAsg (vDc (iRange2 (oCons (oC (.int 1)) (oCons (o2 kAdd (oN 0) (oC (.int 1))) oNil))) (aName 5) oYes (oN 5) (oLst (oCons (oN 5) oNil)) [5]) (aName 2))
    (vSeq (vFor (iLst (oN 1)) (aTup [3, 4]) (vSeq (vEx (oAppL 2 (pAt pHere (xN 3)) (oCons (oN 4) oNil)))
    (vEx (oAppL 2 (pAt pHere (xN 4)) (oCons (oN 3) oNil)))))
    (vRet (vDc (iDw .items (oMv 2)) (aTup [5, 6]) oYes (oN 5) (oCall kSorted (oCons (oN 6) oNil)) [5, 6]))))
def nn_beside_in : Nat := 7
/-- beside: slots 0 places, 1 lines, 2 place -/
def r_beside (F_check_net : DA) (F_check_place : DA) (F_beside_in : DA) : VS :=
  (vSeq (vEx (oCall (kArg 2 (baOf F_check_net)) (oCons (oN 0) (oCons (oN 1) oNil))))
    (vSeq (vEx (oCall (kArg 2 (baOf F_check_place)) (oCons (oN 2) (oCons (oN 0) oNil))))
    (vRet (o2 kTake (oCall (kArg 2 (baOf F_beside_in)) (oCons (oN 0) (oCons (oN 1) oNil))) (oN 2)))))
def nn_beside : Nat := 3
/-- product: slots 0 places, 1 lines, 2 more, 3 ties, 4 near, 5 far, 6 told, 7 one, 8 two -/
def r_product (F_check_net : DA) (F_check_number : DA) (F_beside_in : DA) : VS :=
  (vSeq (vEx (oCall (kArg 2 (baOf F_check_net)) (oCons (oN 0) (oCons (oN 1) oNil))))
    (vSeq (vEx (oCall (kArg 2 (baOf F_check_net)) (oCons (oN 2) (oCons (oN 3) oNil))))
    (vSeq (vEx (oCall (kArg 3 (baOf F_check_number)) (oCons (oN 2) (oCons (oC (.int 1)) (oCons (o2 (kI CDivW fun i j => i / j) (oC (.int 12)) (oN 0)) oNil)))))
    (vSeq (vPar 4 5 (oCons (oCall (kArg 2 (baOf F_beside_in)) (oCons (oN 0) (oCons (oN 1) oNil))) (oCons (oCall (kArg 2 (baOf F_beside_in)) (oCons (oN 2) (oCons (oN 3) oNil))) oNil)))
    (vSeq (vAsg (oLst oNil) (aName 6))
    (vSeq (vFor (iRange1 (oCons (o2 (kI CMulW fun i j => i * j) (oN 0) (oN 2)) oNil)) (aName 7) (vFor (iRange2 (oCons (o2 kAdd (oN 7) (oC (.int 1))) (oCons (o2 (kI CMulW fun i j => i * j) (oN 0) (oN 2)) oNil))) (aName 8) (vIf (oAnd (oB (o2 (kIn false) (o2 kAdd (o2 (kI CDivW fun i j => i / j) (oN 8) (oN 2)) (oC (.int 1))) (o2 kSub (oN 4) (o2 kAdd (o2 (kI CDivW fun i j => i / j) (oN 7) (oN 2)) (oC (.int 1)))))) (oB (o2 (kIn false) (o2 kAdd (o2 (kI (fun _ j => 0 < j) fun i j => i % j) (oN 8) (oN 2)) (oC (.int 1))) (o2 kSub (oN 5) (o2 kAdd (o2 (kI (fun _ j => 0 < j) fun i j => i % j) (oN 7) (oN 2)) (oC (.int 1))))))) (vEx (oApp 6 (oCons (oLst (oCons (o2 kAdd (oN 7) (oC (.int 1))) (oCons (o2 kAdd (oN 8) (oC (.int 1))) oNil))) oNil))) vNil)))
    (vRet (oTup (oCons (o2 (kI CMulW fun i j => i * j) (oN 0) (oN 2)) (oCons (oMv 6) oNil))))))))))
def nn_product : Nat := 9
/-- _law_draws: slots 0 _law_cell -/
def r_law_draws  : VS :=
  (vRet (oLst (oCons (o2 (kI (fun _ j => 0 < j) fun i j => i % j) (oCall kInt (oCons (oN 0) oNil)) (o2 (kI CPowW fun i j => i ^ j.toNat) (o2 (kI CPowW fun i j => i ^ j.toNat) (o2 (kI CPowW fun i j => i ^ j.toNat) (oC (.int 10)) (oC (.int 60))) (oC (.int 60))) (oC (.int 4)))) (oCons (oC (.int 0)) (oCons (o2 (kB0 fun i j => decide (j ≤ i)) (oN 0) (o2 (kI CPowW fun i j => i ^ j.toNat) (oC (.int 10)) (oC (.int 18)))) oNil)))))
def nn_law_draws : Nat := 1
/-- _law_next: slots 0 _law_draws_here, 1 _law_k, 2 _law_drawn -/
def r_law_next  : VS :=
  (vSeq (vAsg (o2 kAdd (oPeek (o2 kSub (oN 0) (oC (.int 1)))) (oC (.int 1))) (aPut 0 pHere (oC (.int 1))))
    (vSeq (vAsg (oPeek (o2 kSub (oN 0) (oC (.int 1)))) (aName 1))
    (vSeq (vIf (oPeekT (oB (o2 kSub (oN 0) (oC (.int 2))))) (vSeq (vAsg (o2 (kI (fun _ j => 0 < j) fun i j => i % j) (oPeek (oCall kInt (oCons (o2 kSub (oN 0) (oC (.int 0))) oNil))) (o2 (kI CPowW fun i j => i ^ j.toNat) (oC (.int 10)) (oC (.int 6)))) (aName 2))
    (vSeq (vAsg (o2 (kI CDivW fun i j => i / j) (oPeek (o2 kSub (oN 0) (oC (.int 0)))) (o2 (kI CPowW fun i j => i ^ j.toNat) (oC (.int 10)) (oC (.int 6)))) (aPut 0 pHere (oC (.int 0))))
    (vRet (oMv 2)))) vNil)
    (vSeq (vAsg (o2 (kI (fun _ j => 0 < j) fun i j => i % j) (oPeek (oCall kInt (oCons (o2 (kI CMulW fun i j => i * j) (o2 kAdd (o2 kAdd (o2 (kI (fun _ j => 0 < j) fun i j => i % j) (oCall kInt (oCons (o2 kSub (oN 0) (oC (.int 0))) oNil)) (oC (.int 1000003))) (o2 (kI CMulW fun i j => i * j) (o2 (kI CMulW fun i j => i * j) (oN 1) (oN 1)) (oC (.int 7919)))) (oN 1)) (oC (.int 48271))) oNil))) (oC (.int 2147483629))) (aName 2))
    (vSeq (vAsg (o2 (kI (fun _ j => 0 < j) fun i j => i % j) (oCall kInt (oCons (o2 (kI CMulW fun i j => i * j) (oN 2) (oN 2)) oNil)) (oC (.int 2147483587))) (aName 2))
    (vRet (o2 (kI CDivW fun i j => i / j) (o2 (kI (fun _ j => 0 < j) fun i j => i % j) (oCall kInt (oCons (o2 (kI CMulW fun i j => i * j) (oN 2) (o2 kAdd (oN 2) (oC (.int 2)))) oNil)) (oC (.int 2147483579))) (oC (.int 7)))))))))
def nn_law_next : Nat := 3
/-- _law_shuffled: slots 0 _law_draws_here, 1 _law_things, 2 _law_left, 3 _law_told -/
def r_law_shuffled (F_law_next : DB) : VS :=
  (vSeq (vAsg (oCall kList (oCons (oN 1) oNil)) (aName 2))
    (vSeq (vAsg (oLst oNil) (aName 3))
    (vSeq (vWhile (oPeekT (oB (o2 (kQ true) (oN 2) (oLst oNil)))) (vEx (oApp 3 (oCons (oPopAt 2 (oCons (o2 (kI (fun _ j => 0 < j) fun i j => i % j) (oCall kInt (oCons (oCallB 0 0 (bbOf F_law_next) oNil) oNil)) (oPeek (oCall kLen (oCons (oN 2) oNil)))) oNil)) oNil))))
    (vRet (oMv 3)))))
def nn_law_shuffled : Nat := 4
/-- _law_grown: slots 0 _law_draws_here, 1 _law_size, 2 _law_sides, 3 _law_start, 4 _law_told, 5 _law_spot, 6 _law_goal, 7 _law_some, 8 _law_side, 9 _law_low, 10 _law_high, 11 _law_mate -/
def r_law_grown (F_law_next : DB) : VS :=
  (vSeq (vAsg (vLc (iLst (oN 2)) (aName 8) oYes (oCall kList (oCons (oN 8) oNil)) [8]) (aName 4))
    (vSeq (vFor (iRange2 (oCons (oN 3) (oCons (o2 kAdd (oN 1) (oC (.int 1))) oNil))) (aName 5) (vSeq (vAsg (o2 kAdd (oC (.int 1)) (o2 (kI (fun _ j => 0 < j) fun i j => i % j) (oCall kInt (oCons (oCallB 0 0 (bbOf F_law_next) oNil) oNil)) (o2 (kI0 fun i j => i - j) (oN 5) (oC (.int 1))))) (aName 6))
    (vSeq (vAsg (vLc (iLst (oN 4)) (aTup [9, 10]) (oB (o2 (kIn false) (oN 6) (oLst (oCons (oN 9) (oCons (oN 10) oNil))))) (o2 (kI0 fun i j => i - j) (o2 kAdd (oN 9) (oN 10)) (oN 6)) [9, 10]) (aName 7))
    (vAsg (o2 kAdd (o2 kAdd (oN 4) (oLst (oCons (oLst (oCons (oN 6) (oCons (oN 5) oNil))) oNil))) (vLc (iLst (oN 7)) (aName 11) (oB (o2 (kQ false) (o2 (kI (fun _ j => 0 < j) fun i j => i % j) (oCall kInt (oCons (oCallB 0 0 (bbOf F_law_next) oNil) oNil)) (oC (.int 2))) (oC (.int 0)))) (oLst (oCons (oN 11) (oCons (oN 5) oNil))) [11])) (aName 4)))))
    (vRet (oMv 4))))
def nn_law_grown : Nat := 12
def r_law_web_t3 (F_law_next : DB) (F_law_grown : DB) (F_law_shuffled : DB) : VS :=
  (vSeq (vAsg (o2 kAdd (oLst (oCons (oC (.int 0)) oNil)) (oCallB 0 1 (bbOf F_law_shuffled) (oCons (oLR (rng2 (oC (.int 1)) (o2 kAdd (oN 1) (oC (.int 1))))) oNil))) (aName 8))
    (vSeq (vAsg (vLc (iLst (oN 4)) (aTup [5, 9]) oYes (oLst (oCons (o2 kSub (oN 8) (oN 5)) (oCons (o2 kSub (oN 8) (oN 9)) oNil))) [5, 9]) (aName 4))
    (vRet (oCallB 0 1 (bbOf F_law_shuffled) (oCons (vLc (iLst (oN 4)) (aName 11) oYes (oStep (oN 11) (o2 kSub (oLst (oCons (oC (.int 1)) (oCons (oNeg (oC (.int 1))) oNil))) (o2 (kI (fun _ j => 0 < j) fun i j => i % j) (oCall kInt (oCons (oCallB 0 0 (bbOf F_law_next) oNil) oNil)) (oC (.int 2))))) [11]) oNil)))))
/-- _law_web: slots 0 _law_draws_here, 1 _law_size, 2 _law_kind, 3 _law_step, 4 _law_told, 5 _law_low, 6 _law_far, 7 _law_ring, 8 _law_names, 9 _law_high, 10 _law_spot, 11 _law_side -/
def r_law_web (F_law_next : DB) (F_law_grown : DB) (F_law_shuffled : DB) : VS :=
  (vSeq (vIf (oB (o2 (kQ false) (oN 2) (oC (.int 0)))) (vSeq (vAsg (o2 kAdd (oC (.int 2)) (o2 (kI (fun _ j => 0 < j) fun i j => i % j) (oCall kInt (oCons (oCallB 0 0 (bbOf F_law_next) oNil) oNil)) (oC (.int 3)))) (aName 3))
    (vSeq (vAsg (oLst oNil) (aName 4))
    (vFor (iRange2 (oCons (oC (.int 1)) (oCons (o2 kAdd (oN 1) (oC (.int 1))) oNil))) (aName 5) (vAsg (o2 kAdd (oN 4) (vLc (iRange2 (oCons (o2 kAdd (oN 5) (oC (.int 1))) (oCons (o2 kAdd (oN 1) (oC (.int 1))) oNil))) (aName 9) (oB (o2 (kQ false) (o2 (kI (fun _ j => 0 < j) fun i j => i % j) (oCall kInt (oCons (oCallB 0 0 (bbOf F_law_next) oNil) oNil)) (oN 3)) (oC (.int 0)))) (oLst (oCons (oN 5) (oCons (oN 9) oNil))) [9])) (aName 4))))) vNil)
    (vSeq (vIf (oB (o2 (kQ false) (oN 2) (oC (.int 1)))) (vAsg (oCallB 0 3 (bbOf F_law_grown) (oCons (oN 1) (oCons (oLst oNil) (oCons (oC (.int 2)) oNil)))) (aName 4)) vNil)
    (vSeq (vIf (oB (o2 (kQ false) (oN 2) (oC (.int 2)))) (vSeq (vAsg (oCall kMin2 (oCons (oN 1) (oCons (o2 kAdd (oC (.int 4)) (o2 (kI (fun _ j => 0 < j) fun i j => i % j) (oCall kInt (oCons (oCallB 0 0 (bbOf F_law_next) oNil) oNil)) (oC (.int 4)))) oNil))) (aName 6))
    (vSeq (vAsg (oIf (oB (o2 (kB0 fun i j => decide (j < i)) (oN 6) (oC (.int 2)))) (vLc (iRange2 (oCons (oC (.int 1)) (oCons (o2 kAdd (oN 6) (oC (.int 1))) oNil))) (aName 10) oYes (oLst (oCons (oN 10) (oCons (o2 kAdd (o2 (kI (fun _ j => 0 < j) fun i j => i % j) (oN 10) (oN 6)) (oC (.int 1))) oNil))) [10]) (oLst oNil)) (aName 7))
    (vAsg (oCallB 0 3 (bbOf F_law_grown) (oCons (oN 1) (oCons (oN 7) (oCons (o2 kAdd (oN 6) (oC (.int 1))) oNil)))) (aName 4)))) vNil)
    (r_law_web_t3 F_law_next F_law_grown F_law_shuffled))))
def nn_law_web : Nat := 12
/-- _law_near: slots 0 _law_size, 1 _law_sides, 2 _law_told, 3 _law_low, 4 _law_high, 5 _law_spot -/
def r_law_near  : VS :=
  (vSeq (vAsg (o2 kAdd (oLst (oCons (oLst oNil) oNil)) (vLc (iRange2 (oCons (oC (.int 1)) (oCons (o2 kAdd (oN 0) (oC (.int 1))) oNil))) (aName 5) oYes (oLst (oCons (oN 5) oNil)) [5])) (aName 2))
    (vSeq (vFor (iLst (oN 1)) (aTup [3, 4]) (vSeq (vEx (oAppL 2 (pAt pHere (xN 3)) (oCons (oN 4) oNil)))
    (vEx (oAppL 2 (pAt pHere (xN 4)) (oCons (oN 3) oNil)))))
    (vRet (oMv 2))))
def nn_law_near : Nat := 6
/-- _law_right: slots 0 _law_size, 1 _law_sides, 2 _law_before, 3 _law_near_here, 4 _law_spot, 5 _law_due, 6 _law_told -/
def r_law_right (F_law_near : DA) (F_beside : DA) : VS :=
  (vSeq (vAsg (oCall kRepr (oCons (oN 1) oNil)) (aName 2))
    (vSeq (vAsg (oCall (kArg 2 (baOf F_law_near)) (oCons (oN 0) (oCons (oN 1) oNil))) (aName 3))
    (vSeq (vFor (iRange2 (oCons (oC (.int 1)) (oCons (o2 kAdd (oN 0) (oC (.int 1))) oNil))) (aName 4) (vSeq (vAsg (oCall kSorted (oCons (o2 kSub (oN 3) (oN 4)) oNil)) (aName 5))
    (vSeq (vAsg (oLst (oCons (oCall (kArg 3 (baOf F_beside)) (oCons (oN 0) (oCons (oN 1) (oCons (oN 4) oNil)))) (oCons (oCall (kKey 3 [2, 1, 0] (baOf F_beside)) (oCons (oN 4) (oCons (oN 1) (oCons (oN 0) oNil)))) oNil))) (aName 6))
    (vSeq (vIf (oOr (oPeekT (oB (o2 (kQ true) (oCall kRepr (oCons (oN 6) oNil)) (oCall kRepr (oCons (oLst (oCons (oN 5) (oCons (oN 5) oNil))) oNil))))) (oB (o2 (kQ true) (oCall kRepr (oCons (oN 1) oNil)) (oN 2)))) (vRet (oC (.bl false))) vNil)
    (vSeq (vEx (oAppL 6 (pAt pHere (xInt 0)) (oCons (oC .non) oNil)))
    (vIf (oB (o2 (kQ true) (oCall kRepr (oCons (oCall (kArg 3 (baOf F_beside)) (oCons (oN 0) (oCons (oN 1) (oCons (oN 4) oNil)))) oNil)) (oCall kRepr (oCons (oN 5) oNil)))) (vRet (oC (.bl false))) vNil))))))
    (vRet (oC (.bl true))))))
def nn_law_right : Nat := 7
/-- _law_product: slots 0 _law_size, 1 _law_sides, 2 _law_far, 3 _law_bars, 4 _law_near_here, 5 _law_beyond, 6 _law_spots, 7 _law_one, 8 _law_told, 9 _law_at, 10 _law_pair, 11 _law_later, 12 _law_mate, 13 _law_two -/
def r_law_product (F_law_near : DA) : VS :=
  (vSeq (vPar 4 5 (oCons (oCall (kArg 2 (baOf F_law_near)) (oCons (oN 0) (oCons (oN 1) oNil))) (oCons (oCall (kArg 2 (baOf F_law_near)) (oCons (oN 2) (oCons (oN 3) oNil))) oNil)))
    (vSeq (vAsg (oLst oNil) (aName 6))
    (vSeq (vFor (iRange2 (oCons (oC (.int 1)) (oCons (o2 kAdd (oN 0) (oC (.int 1))) oNil))) (aName 7) (vAsg (o2 kAdd (oN 6) (vLc (iRange2 (oCons (oC (.int 1)) (oCons (o2 kAdd (oN 2) (oC (.int 1))) oNil))) (aName 13) oYes (oTup (oCons (oN 7) (oCons (oN 13) oNil))) [13])) (aName 6)))
    (vSeq (vAsg (oLst oNil) (aName 8))
    (vSeq (vFor (iEnumO (oCons (oN 6) oNil)) (aTup [9, 10]) (vFor (iEnumO (oCons (oN 6) oNil)) (aTup [11, 12]) (vIf (oAnd (oB (o2 (kB0 fun i j => decide (j < i)) (oN 11) (oN 9))) (oAnd (oB (o2 (kIn false) (o2 kSub (oN 12) (oC (.int 0))) (o2 kSub (oN 4) (o2 kSub (oN 10) (oC (.int 0)))))) (oB (o2 (kIn false) (o2 kSub (oN 12) (oC (.int 1))) (o2 kSub (oN 5) (o2 kSub (oN 10) (oC (.int 1)))))))) (vEx (oApp 8 (oCons (oLst (oCons (o2 kAdd (oN 9) (oC (.int 1))) (oCons (o2 kAdd (oN 11) (oC (.int 1))) oNil))) oNil))) vNil)))
    (vRet (oTup (oCons (o2 (kI CMulW fun i j => i * j) (oN 0) (oN 2)) (oCons (oMv 8) oNil)))))))))
def nn_law_product : Nat := 14
/-- _law_product_right: slots 0 _law_size, 1 _law_sides, 2 _law_far, 3 _law_bars, 4 _law_before, 5 _law_due, 6 _law_told, 7 _law_side -/
def r_law_product_right (F_law_product : DA) (F_product : DA) : VS :=
  (vSeq (vAsg (oCall kRepr (oCons (oLst (oCons (oN 1) (oCons (oN 3) oNil))) oNil)) (aName 4))
    (vSeq (vAsg (oCall (kArg 4 (baOf F_law_product)) (oCons (oN 0) (oCons (oN 1) (oCons (oN 2) (oCons (oN 3) oNil))))) (aName 5))
    (vSeq (vAsg (oLst (oCons (oCall (kArg 4 (baOf F_product)) (oCons (oN 0) (oCons (oN 1) (oCons (oN 2) (oCons (oN 3) oNil))))) (oCons (oCall (kKey 4 [3, 2, 1, 0] (baOf F_product)) (oCons (oN 3) (oCons (oN 2) (oCons (oN 1) (oCons (oN 0) oNil))))) oNil))) (aName 6))
    (vSeq (vIf (oOr (oPeekT (oB (o2 (kQ true) (oCall kRepr (oCons (oN 6) oNil)) (oCall kRepr (oCons (oLst (oCons (oN 5) (oCons (oN 5) oNil))) oNil))))) (oB (o2 (kQ true) (oCall kRepr (oCons (oLst (oCons (oN 1) (oCons (oN 3) oNil))) oNil)) (oN 4)))) (vRet (oC (.bl false))) vNil)
    (vSeq (vForIn 6 7 (pAt (pAt pHere (xInt 0)) (xInt 1)) (vEx (oApp 7 (oCons (oC .non) oNil))))
    (vSeq (vIf (oPeekT (oB (o2 (kQ true) (vLc (iLst (o2 kSub (o2 kSub (oN 6) (oC (.int 0))) (oC (.int 1)))) (aName 7) (oB (o2 (kQ true) (oCnt (oN 7) (oCons (oC .non) oNil)) (oC (.int 1)))) (oN 7) [7]) (oLst oNil)))) (vRet (oC (.bl false))) vNil)
    (vSeq (vEx (oAppL 6 (pAt (pAt pHere (xInt 0)) (xInt 1)) (oCons (oC .non) oNil)))
    (vRet (o2 (kQ false) (oCall kRepr (oCons (oCall (kArg 4 (baOf F_product)) (oCons (oN 0) (oCons (oN 1) (oCons (oN 2) (oCons (oN 3) oNil))))) oNil)) (oCall kRepr (oCons (oN 5) oNil)))))))))))
def nn_law_product_right : Nat := 8
def r_law_t1 (KF : PySem.W.Frag) (F_law_next : DB) (F_law_web : DB) (F_law_right : DA) (F_law_shuffled : DB) (F_law_product_right : DA) (F_law_draws : DA) (F_beside : DA) (F_product : DA) : VS :=
  (vSeq (vIf (oOr (oB (o2 (kQ true) (oCall (kArg 3 (baOf F_beside)) (oCons (oC (.int 4)) (oCons (oLst (oCons (oLst (oCons (oC (.int 2)) (oCons (oC (.int 1)) oNil))) (oCons (oLst (oCons (oC (.int 2)) (oCons (oC (.int 3)) oNil))) (oCons (oLst (oCons (oC (.int 3)) (oCons (oC (.int 4)) oNil))) oNil)))) (oCons (oC (.int 2)) oNil)))) (oLst (oCons (oC (.int 1)) (oCons (oC (.int 2)) (oCons (oC (.int 3)) oNil)))))) (oB (o2 (kQ true) (oCall (kArg 3 (baOf F_beside)) (oCons (oC (.int 1)) (oCons (oLst oNil) (oCons (oC (.int 1)) oNil)))) (oLst (oCons (oC (.int 1)) oNil))))) (vRet (oC (.bl false))) vNil)
    (vSeq (vAsg (oLst (oCons (oLst (oCons (oC (.int 1)) (oCons (oC (.int 2)) oNil))) (oCons (oLst (oCons (oC (.int 2)) (oCons (oC (.int 3)) oNil))) (oCons (oLst (oCons (oC (.int 3)) (oCons (oC (.int 4)) oNil))) (oCons (oLst (oCons (oC (.int 4)) (oCons (oC (.int 1)) oNil))) oNil))))) (aName 7))
    (vSeq (vIf (oOr (oNot (oB (oCall (kArg 4 (baOf F_law_product_right)) (oCons (oC (.int 4)) (oCons (oN 7) (oCons (oC (.int 3)) (oCons (oLst (oCons (oLst (oCons (oC (.int 1)) (oCons (oC (.int 2)) oNil))) (oCons (oLst (oCons (oC (.int 2)) (oCons (oC (.int 3)) oNil))) oNil))) oNil))))))) (oNot (oB (oCall (kArg 4 (baOf F_law_product_right)) (oCons (oC (.int 1)) (oCons (oLst oNil) (oCons (oC (.int 12)) (oCons (oLst oNil) oNil)))))))) (vRet (oC (.bl false))) vNil)
    (vRet (oAndV (o2 (kQ false) (oCall (kArg 4 (baOf F_product)) (oCons (oC (.int 2)) (oCons (oLst (oCons (oLst (oCons (oC (.int 1)) (oCons (oC (.int 2)) oNil))) oNil)) (oCons (oC (.int 2)) (oCons (oLst oNil) oNil))))) (oTup (oCons (oC (.int 4)) (oCons (oLst (oCons (oLst (oCons (oC (.int 1)) (oCons (oC (.int 3)) oNil))) (oCons (oLst (oCons (oC (.int 2)) (oCons (oC (.int 4)) oNil))) oNil))) oNil)))) (oCall (kArg 4 (baOf F_law_product_right)) (oCons (oC (.int 12)) (oCons (oLst oNil) (oCons (oC (.int 1)) (oCons (oLst oNil) oNil))))))))))
/-- law: slots 0 _law_script, 1 _law_draws_here, 2 _law_kind, 3 _law_size, 4 _law_sides, 5 _law_far, 6 _law_bars, 7 _law_ring, 8 _law_cell -/
def r_law (KF : PySem.W.Frag) (F_law_next : DB) (F_law_web : DB) (F_law_right : DA) (F_law_shuffled : DB) (F_law_product_right : DA) (F_law_draws : DA) (F_beside : DA) (F_product : DA) : VS :=
  (vSeq (vFor (iLst (vLc (iLst (o2 kAdd (oScr KF 0 6) (oLst (oCons (oC (.int 0)) oNil)))) (aName 8) oYes (oCall (kArg 1 (baOf F_law_draws)) (oCons (oN 8) oNil)) [8])) (aName 1) (vFor (iRange1 (oCons (oC (.int 3)) oNil)) (aName 2) (vSeq (vAsg (o2 kAdd (oC (.int 1)) (o2 (kI (fun _ j => 0 < j) fun i j => i % j) (oCall kInt (oCons (oCallB 1 0 (bbOf F_law_next) oNil) oNil)) (oC (.int 12)))) (aName 3))
    (vSeq (vAsg (oCallB 1 2 (bbOf F_law_web) (oCons (oN 3) (oCons (oN 2) oNil))) (aName 4))
    (vSeq (vIf (oOr (oNot (oB (oCall (kArg 2 (baOf F_law_right)) (oCons (oN 3) (oCons (oN 4) oNil))))) (oNot (oB (oCall (kArg 2 (baOf F_law_right)) (oCons (oN 3) (oCons (oCallB 1 1 (bbOf F_law_shuffled) (oCons (oN 4) oNil)) oNil)))))) (vRet (oC (.bl false))) vNil)
    (vSeq (vAsg (o2 kAdd (oC (.int 1)) (o2 (kI (fun _ j => 0 < j) fun i j => i % j) (oCall kInt (oCons (oCallB 1 0 (bbOf F_law_next) oNil) oNil)) (oC (.int 12)))) (aName 3))
    (vSeq (vAsg (o2 kAdd (oC (.int 1)) (o2 (kI (fun _ j => 0 < j) fun i j => i % j) (oCall kInt (oCons (oCallB 1 0 (bbOf F_law_next) oNil) oNil)) (o2 (kI CDivW fun i j => i / j) (oC (.int 12)) (oN 3)))) (aName 5))
    (vSeq (vAsg (oCallB 1 2 (bbOf F_law_web) (oCons (oN 5) (oCons (o2 (kI (fun _ j => 0 < j) fun i j => i % j) (oCall kInt (oCons (oCallB 1 0 (bbOf F_law_next) oNil) oNil)) (oC (.int 3))) oNil))) (aName 6))
    (vIf (oNot (oB (oCall (kArg 4 (baOf F_law_product_right)) (oCons (oN 3) (oCons (oCallB 1 2 (bbOf F_law_web) (oCons (oN 3) (oCons (oN 2) oNil))) (oCons (oN 5) (oCons (oN 6) oNil))))))) (vRet (oC (.bl false))) vNil)))))))))
    (r_law_t1 KF F_law_next F_law_web F_law_right F_law_shuffled F_law_product_right F_law_draws F_beside F_product))
def nn_law : Nat := 9
end FN
end
section
namespace FN
open PySem PySem.Spec L2
open PyProof.Rows hiding St
def D.kn : D → Bool
  | .ref _ => false
  | .ty _ => false
  | .dt _ => false
  | _ => true
def wholeD : D → Bool
  | .int _ => true
  | _ => false
theorem isi_int {d : D} (h : d.kn = true) : isiD d "int" = some (match d with | .int _ => true | .bl _ => true | _ => false) := by
  cases d <;> first | (simp [D.kn] at h; done) | decide +kernel | rfl
theorem isi_bool {d : D} (h : d.kn = true) : isiD d "bool" = some (match d with | .bl _ => true | _ => false) := by
  cases d <;> first | (simp [D.kn] at h; done) | decide +kernel | rfl
theorem isi_list {d : D} (h : d.kn = true) : isiD d "list" = some (match d with | .lst _ => true | _ => false) := by
  cases d <;> first | (simp [D.kn] at h; done) | decide +kernel | rfl
def F_is_whole : DA
  | [d], K => d.kn = true ∧ K (.sh (.bl (wholeD d)))
  | _, _ => False
theorem q_is_whole (ds : List D) (Q : O → Prop) (_ : ds.length = 1) (h : F_is_whole ds Q) : r_is_whole { nx := fun _ => Q (.sh .non), rt := fun o _ => Q o } (g0 nn_is_whole (ds.map O.sh)) := by
  unfold F_is_whole at h
  split at h
  · obtain ⟨hk, h⟩ := h
    simp only [r_is_whole, nn_is_whole, isi_int hk, isi_bool hk, vSeq, vAsg, vEx, vRet, vRetN, vIf, vNil, vFor, oN, oMv, oC, oCall, oCons, oNil, kArg, kKey, baOf, bbOf, aName, aTup, aNames, oB, oNot, oOr, oAnd, oV, oAndV, oOrV, oNotV, o2, kI_int, kI0_int, kB0_int, kAdd_int, kQ_int, kQ_str, kInt_int, kMin2_int, kIsi_iff, kLen_iff, kSub_iff, kIn_iff, kRepr_iff, kList_iff, kInts_iff, kBls_iff, kSorted_iff, oLst, oTup, oIf, oChain, oNeg, oPeek, oPeekT, iLst, iRange1, iRange2, iEnumO, oYes, vLc, vDc, oSl, oRev, oStep, pNone, pSome, rng1, rng2, oLR, oTR, oApp, oPopAt, oCallB, xN, vPar, g0, List.map_cons, List.map_nil, List.length_cons, List.length_nil, List.replicate, List.cons_append, List.nil_append, List.getElem?_cons_zero, List.getElem?_cons_succ, List.set_cons_zero, List.set_cons_succ, O.noIns, O.er, noInsL, erL, Bool.and_true, Bool.true_and, Option.some.injEq, exists_eq_left', exists_eq_left, true_and, and_true, Nat.reduceAdd, Nat.reduceSub, Nat.reduceLT, exists_and_left, exists_and_right, O.sh.injEq, D.int.injEq, D.bl.injEq, D.lst.injEq, List.cons.injEq, reduceCtorEq, exists_const, List.append_nil, List.singleton_append, and_self, exists_eq, exists_eq', Nat.lt_add_left_iff_pos, Nat.zero_lt_succ, wipeC, frzC, List.map_set, if_true, ite_true, Bool.false_eq_true, if_false, O.lst.injEq, O.dk.injEq, noInsL_sh, erL_sh, ngB_f, ngB_t, items_sh, items_lst, Nat.zero_add, Nat.reduceLeDiff, and_self, and_assoc]
    rename_i d _
    cases d <;> simpa [wholeD] using h
  · exact h.elim
/-- ok alone -/
def F_check_number : DA
  | [.int i, .int l, .int m], K => l ≤ i ∧ i ≤ m ∧ K (.sh .non)
  | _, _ => False
theorem q_check_number (ds : List D) (Q : O → Prop) (_ : ds.length = 3) (h : F_check_number ds Q) : r_check_number F_is_whole { nx := fun _ => Q (.sh .non), rt := fun o _ => Q o } (g0 nn_check_number (ds.map O.sh)) := by
  unfold F_check_number at h
  split at h
  · obtain ⟨h1, h2, h⟩ := h
    simp only [r_check_number, nn_check_number, F_is_whole, D.kn, wholeD, h1, h2, decide_true, Bool.not_true, vSeq, vAsg, vEx, vRet, vRetN, vIf, vNil, vFor, oN, oMv, oC, oCall, oCons, oNil, kArg, kKey, baOf, bbOf, aName, aTup, aNames, oB, oNot, oOr, oAnd, oV, oAndV, oOrV, oNotV, o2, kI_int, kI0_int, kB0_int, kAdd_int, kQ_int, kQ_str, kInt_int, kMin2_int, kIsi_iff, kLen_iff, kSub_iff, kIn_iff, kRepr_iff, kList_iff, kInts_iff, kBls_iff, kSorted_iff, oLst, oTup, oIf, oChain, oNeg, oPeek, oPeekT, iLst, iRange1, iRange2, iEnumO, oYes, vLc, vDc, oSl, oRev, oStep, pNone, pSome, rng1, rng2, oLR, oTR, oApp, oPopAt, oCallB, xN, vPar, g0, List.map_cons, List.map_nil, List.length_cons, List.length_nil, List.replicate, List.cons_append, List.nil_append, List.getElem?_cons_zero, List.getElem?_cons_succ, List.set_cons_zero, List.set_cons_succ, O.noIns, O.er, noInsL, erL, Bool.and_true, Bool.true_and, Option.some.injEq, exists_eq_left', exists_eq_left, true_and, and_true, Nat.reduceAdd, Nat.reduceSub, Nat.reduceLT, exists_and_left, exists_and_right, O.sh.injEq, D.int.injEq, D.bl.injEq, D.lst.injEq, List.cons.injEq, reduceCtorEq, exists_const, List.append_nil, List.singleton_append, and_self, exists_eq, exists_eq', Nat.lt_add_left_iff_pos, Nat.zero_lt_succ, wipeC, frzC, List.map_set, if_true, ite_true, Bool.false_eq_true, if_false, O.lst.injEq, O.dk.injEq, noInsL_sh, erL_sh, ngB_f, ngB_t, items_sh, items_lst, Nat.zero_add, Nat.reduceLeDiff, and_self, and_assoc]
    exact h
  · exact h.elim
def placeD (d : D) (n : Int) : Bool := match d with
  | .int i => decide (1 ≤ i) && decide (i ≤ n)
  | _ => false
def F_is_place : DA
  | [d, .int n], K => d.kn = true ∧ K (.sh (.bl (placeD d n)))
  | _, _ => False
theorem q_is_place (ds : List D) (Q : O → Prop) (_ : ds.length = 2) (h : F_is_place ds Q) : r_is_place F_is_whole { nx := fun _ => Q (.sh .non), rt := fun o _ => Q o } (g0 nn_is_place (ds.map O.sh)) := by
  unfold F_is_place at h
  split at h
  · obtain ⟨hk, h⟩ := h
    rename_i d n _
    simp only [r_is_place, nn_is_place, F_is_whole, hk, vSeq, vAsg, vEx, vRet, vRetN, vIf, vNil, vFor, oN, oMv, oC, oCall, oCons, oNil, kArg, kKey, baOf, bbOf, aName, aTup, aNames, oB, oNot, oOr, oAnd, oV, oAndV, oOrV, oNotV, o2, kI_int, kI0_int, kB0_int, kAdd_int, kQ_int, kQ_str, kInt_int, kMin2_int, kIsi_iff, kLen_iff, kSub_iff, kIn_iff, kRepr_iff, kList_iff, kInts_iff, kBls_iff, kSorted_iff, oLst, oTup, oIf, oChain, oNeg, oPeek, oPeekT, iLst, iRange1, iRange2, iEnumO, oYes, vLc, vDc, oSl, oRev, oStep, pNone, pSome, rng1, rng2, oLR, oTR, oApp, oPopAt, oCallB, xN, vPar, g0, List.map_cons, List.map_nil, List.length_cons, List.length_nil, List.replicate, List.cons_append, List.nil_append, List.getElem?_cons_zero, List.getElem?_cons_succ, List.set_cons_zero, List.set_cons_succ, O.noIns, O.er, noInsL, erL, Bool.and_true, Bool.true_and, Option.some.injEq, exists_eq_left', exists_eq_left, true_and, and_true, Nat.reduceAdd, Nat.reduceSub, Nat.reduceLT, exists_and_left, exists_and_right, O.sh.injEq, D.int.injEq, D.bl.injEq, D.lst.injEq, List.cons.injEq, reduceCtorEq, exists_const, List.append_nil, List.singleton_append, and_self, exists_eq, exists_eq', Nat.lt_add_left_iff_pos, Nat.zero_lt_succ, wipeC, frzC, List.map_set, if_true, ite_true, Bool.false_eq_true, if_false, O.lst.injEq, O.dk.injEq, noInsL_sh, erL_sh, ngB_f, ngB_t, items_sh, items_lst, Nat.zero_add, Nat.reduceLeDiff, and_self, and_assoc]
    cases d with
    | int i =>
      simp only [wholeD, placeD, vSeq, vAsg, vEx, vRet, vRetN, vIf, vNil, vFor, oN, oMv, oC, oCall, oCons, oNil, kArg, kKey, baOf, bbOf, aName, aTup, aNames, oB, oNot, oOr, oAnd, oV, oAndV, oOrV, oNotV, o2, kI_int, kI0_int, kB0_int, kAdd_int, kQ_int, kQ_str, kInt_int, kMin2_int, kIsi_iff, kLen_iff, kSub_iff, kIn_iff, kRepr_iff, kList_iff, kInts_iff, kBls_iff, kSorted_iff, oLst, oTup, oIf, oChain, oNeg, oPeek, oPeekT, iLst, iRange1, iRange2, iEnumO, oYes, vLc, vDc, oSl, oRev, oStep, pNone, pSome, rng1, rng2, oLR, oTR, oApp, oPopAt, oCallB, xN, vPar, g0, List.map_cons, List.map_nil, List.length_cons, List.length_nil, List.replicate, List.cons_append, List.nil_append, List.getElem?_cons_zero, List.getElem?_cons_succ, List.set_cons_zero, List.set_cons_succ, O.noIns, O.er, noInsL, erL, Bool.and_true, Bool.true_and, Option.some.injEq, exists_eq_left', exists_eq_left, true_and, and_true, Nat.reduceAdd, Nat.reduceSub, Nat.reduceLT, exists_and_left, exists_and_right, O.sh.injEq, D.int.injEq, D.bl.injEq, D.lst.injEq, List.cons.injEq, reduceCtorEq, exists_const, List.append_nil, List.singleton_append, and_self, exists_eq, exists_eq', Nat.lt_add_left_iff_pos, Nat.zero_lt_succ, wipeC, frzC, List.map_set, if_true, ite_true, Bool.false_eq_true, if_false, O.lst.injEq, O.dk.injEq, noInsL_sh, erL_sh, ngB_f, ngB_t, items_sh, items_lst, Nat.zero_add, Nat.reduceLeDiff, and_self, and_assoc] at h ⊢
      by_cases h1 : 1 ≤ i
      · simpa [h1] using h
      · simpa [h1] using h
    | _ => simpa [wholeD, placeD] using h
  · exact h.elim
def F_check_place : DA
  | [.int i, .int n], K => 1 ≤ i ∧ i ≤ n ∧ K (.sh .non)
  | _, _ => False
theorem q_check_place (ds : List D) (Q : O → Prop) (_ : ds.length = 2) (h : F_check_place ds Q) : r_check_place F_is_place { nx := fun _ => Q (.sh .non), rt := fun o _ => Q o } (g0 nn_check_place (ds.map O.sh)) := by
  unfold F_check_place at h
  split at h
  · obtain ⟨h1, h2, h⟩ := h
    simp only [r_check_place, nn_check_place, F_is_place, D.kn, placeD, h1, h2, decide_true, Bool.and_self, Bool.not_true, vSeq, vAsg, vEx, vRet, vRetN, vIf, vNil, vFor, oN, oMv, oC, oCall, oCons, oNil, kArg, kKey, baOf, bbOf, aName, aTup, aNames, oB, oNot, oOr, oAnd, oV, oAndV, oOrV, oNotV, o2, kI_int, kI0_int, kB0_int, kAdd_int, kQ_int, kQ_str, kInt_int, kMin2_int, kIsi_iff, kLen_iff, kSub_iff, kIn_iff, kRepr_iff, kList_iff, kInts_iff, kBls_iff, kSorted_iff, oLst, oTup, oIf, oChain, oNeg, oPeek, oPeekT, iLst, iRange1, iRange2, iEnumO, oYes, vLc, vDc, oSl, oRev, oStep, pNone, pSome, rng1, rng2, oLR, oTR, oApp, oPopAt, oCallB, xN, vPar, g0, List.map_cons, List.map_nil, List.length_cons, List.length_nil, List.replicate, List.cons_append, List.nil_append, List.getElem?_cons_zero, List.getElem?_cons_succ, List.set_cons_zero, List.set_cons_succ, O.noIns, O.er, noInsL, erL, Bool.and_true, Bool.true_and, Option.some.injEq, exists_eq_left', exists_eq_left, true_and, and_true, Nat.reduceAdd, Nat.reduceSub, Nat.reduceLT, exists_and_left, exists_and_right, O.sh.injEq, D.int.injEq, D.bl.injEq, D.lst.injEq, List.cons.injEq, reduceCtorEq, exists_const, List.append_nil, List.singleton_append, and_self, exists_eq, exists_eq', Nat.lt_add_left_iff_pos, Nat.zero_lt_succ, wipeC, frzC, List.map_set, if_true, ite_true, Bool.false_eq_true, if_false, O.lst.injEq, O.dk.injEq, noInsL_sh, erL_sh, ngB_f, ngB_t, items_sh, items_lst, Nat.zero_add, Nat.reduceLeDiff, and_self, and_assoc]
    exact h
  · exact h.elim
/-- a line, if it is one -/
def F_is_line : DA
  | [.lst [.int a, .int b], .int n], K => 1 ≤ a ∧ a ≤ n ∧ 1 ≤ b ∧ b ≤ n ∧ a ≠ b ∧ K (.sh (.bl true))
  | _, _ => False
theorem sub_0 {a b : D} : subD (.lst [a, b]) (.int 0) = some a := rfl
theorem sub_1 {a b : D} : subD (.lst [a, b]) (.int 1) = some b := rfl
theorem q_is_line (ds : List D) (Q : O → Prop) (_ : ds.length = 2) (h : F_is_line ds Q) : r_is_line F_is_place { nx := fun _ => Q (.sh .non), rt := fun o _ => Q o } (g0 nn_is_line (ds.map O.sh)) := by
  unfold F_is_line at h
  split at h
  · obtain ⟨h1, h2, h3, h4, h5, h⟩ := h
    rename_i a b n _
    simp only [r_is_line, nn_is_line, F_is_place, isi_list (d := .lst [.int a, .int b]) rfl, lenD, compV, D.kn, placeD, h1, h2, h3, h4, decide_true, Bool.and_self, sub_0, sub_1, vSeq, vAsg, vEx, vRet, vRetN, vIf, vNil, vFor, oN, oMv, oC, oCall, oCons, oNil, kArg, kKey, baOf, bbOf, aName, aTup, aNames, oB, oNot, oOr, oAnd, oV, oAndV, oOrV, oNotV, o2, kI_int, kI0_int, kB0_int, kAdd_int, kQ_int, kQ_str, kInt_int, kMin2_int, kIsi_iff, kLen_iff, kSub_iff, kIn_iff, kRepr_iff, kList_iff, kInts_iff, kBls_iff, kSorted_iff, oLst, oTup, oIf, oChain, oNeg, oPeek, oPeekT, iLst, iRange1, iRange2, iEnumO, oYes, vLc, vDc, oSl, oRev, oStep, pNone, pSome, rng1, rng2, oLR, oTR, oApp, oPopAt, oCallB, xN, vPar, g0, List.map_cons, List.map_nil, List.length_cons, List.length_nil, List.replicate, List.cons_append, List.nil_append, List.getElem?_cons_zero, List.getElem?_cons_succ, List.set_cons_zero, List.set_cons_succ, O.noIns, O.er, noInsL, erL, Bool.and_true, Bool.true_and, Option.some.injEq, exists_eq_left', exists_eq_left, true_and, and_true, Nat.reduceAdd, Nat.reduceSub, Nat.reduceLT, exists_and_left, exists_and_right, O.sh.injEq, D.int.injEq, D.bl.injEq, D.lst.injEq, List.cons.injEq, reduceCtorEq, exists_const, List.append_nil, List.singleton_append, and_self, exists_eq, exists_eq', Nat.lt_add_left_iff_pos, Nat.zero_lt_succ, wipeC, frzC, List.map_set, if_true, ite_true, Bool.false_eq_true, if_false, O.lst.injEq, O.dk.injEq, noInsL_sh, erL_sh, ngB_f, ngB_t, items_sh, items_lst, Nat.zero_add, Nat.reduceLeDiff, and_self, and_assoc]
    refine ⟨[true, true], rfl, ?_⟩
    simpa [ngB, h5] using h
  · exact h.elim
/-! ### nets -/
def lnD (p : Nat × Nat) : D := .lst [.int (p.1 : Nat), .int (p.2 : Nat)]
def lsD (ls : List (Nat × Nat)) : D := .lst (ls.map lnD)
def lnOk (n : Nat) (p : Nat × Nat) : Prop := 1 ≤ p.1 ∧ p.1 ≤ n ∧ 1 ≤ p.2 ∧ p.2 ≤ n ∧ p.1 ≠ p.2
/-- a net of n places -/
structure NetOk (n : Nat) (ls : List (Nat × Nat)) : Prop where
  lo : 1 ≤ n
  hi : n ≤ 12
  ok : ∀ p ∈ ls, lnOk n p
  nd : ls.Pairwise fun p q => p ≠ q ∧ p ≠ (q.2, q.1)
def F_check_lines : DA
  | [d, .int n], K => ∃ (m : Nat) (ls : List (Nat × Nat)), d = lsD ls ∧ n = (m : Nat) ∧ ls.length ≤ 1000 ∧ (∀ p ∈ ls, lnOk m p) ∧ (ls.Pairwise fun p q => p ≠ q ∧ p ≠ (q.2, q.1)) ∧ K (.sh .non)
  | _, _ => False
theorem lnD_inj {p q : Nat × Nat} : lnD p = lnD q ↔ p = q := by
  obtain ⟨a, b⟩ := p
  obtain ⟨c, d⟩ := q
  unfold lnD
  simp
  omega
theorem lnD_pl (p : Nat × Nat) : (lnD p).pl = true := by unfold lnD; simp [D.pl, pls]
theorem pls_map {α : Type} {f : α → D} (h : ∀ a, (f a).pl = true) : ∀ l : List α, pls (l.map f) = true
  | [] => rfl
  | a :: l => by rw [List.map_cons]; unfold pls; rw [h a, pls_map h l]; rfl
theorem deps_map {α : Type} {f : α → D} {k : Nat} (h : ∀ a, (f a).dep ≤ k) : ∀ l : List α, deps (l.map f) ≤ k
  | [] => Nat.zero_le _
  | a :: l => by
    rw [List.map_cons]; unfold deps
    exact Nat.max_le.mpr ⟨h a, deps_map h l⟩
theorem lnD_dep (p : Nat × Nat) : (lnD p).dep ≤ 1 := by unfold lnD; simp [D.dep, deps]
/-- x in a list of data without bools -/
theorem in_pl {d : D} {l : List D} (h1 : d.pl = true) (h2 : pls l = true) (d1 : d.dep ≤ 60) (d2 : deps l ≤ 60) : ∃ b, inD d (.lst l) = some b ∧ (b = true ↔ d ∈ l) := by
  have s1 := pl_shp h1 (by omega)
  have s2 : (D.lst l).shp = true := pl_shp (by unfold D.pl; exact h2) (by unfold D.dep; omega)
  refine ⟨l.any fun z => z.eqv d, by unfold inD; simp [s1, s2], ?_⟩
  have key : ∀ l : List D, pls l = true → ((l.any fun z => z.eqv d) = true ↔ d ∈ l) := by
    intro l
    induction l with
    | nil => intro _; simp
    | cons e l ih =>
      intro h
      unfold pls at h
      simp only [Bool.and_eq_true] at h
      rw [List.any_cons, Bool.or_eq_true, ih h.2, pl_eqv e d h.1 h1, List.mem_cons]
      exact ⟨fun h => h.imp Eq.symm id, fun h => h.imp Eq.symm id⟩
  exact key l h2
theorem in_not {d : D} {l : List D} (h1 : d.pl = true) (h2 : pls l = true) (d1 : d.dep ≤ 60) (d2 : deps l ≤ 60) (h : d ∉ l) : inD d (.lst l) = some false := by
  obtain ⟨b, e, q⟩ := in_pl h1 h2 d1 d2
  cases b with
  | false => exact e
  | true => exact absurd (q.mp rfl) h
theorem cutD_to (l : List D) (n : Nat) : cutD l none (some ((n : Nat) : Int)) = l.take n := cutD_take l n
theorem q_check_lines (ds : List D) (Q : O → Prop) (_ : ds.length = 2) (h : F_check_lines ds Q) : r_check_lines F_is_line { nx := fun _ => Q (.sh .non), rt := fun o _ => Q o } (g0 nn_check_lines (ds.map O.sh)) := by
  unfold F_check_lines at h
  split at h
  · obtain ⟨m, ls, rfl, rfl, hl, hok, hnd, h⟩ := h
    simp only [r_check_lines, nn_check_lines, isi_list (d := .lst (ls.map lnD)) rfl, lsD, Bool.not_true, vSeq, vAsg, vEx, vRet, vRetN, vIf, vNil, vFor, oN, oMv, oC, oCall, oCons, oNil, kArg, kKey, baOf, bbOf, aName, aTup, aNames, oB, oNot, oOr, oAnd, oV, oAndV, oOrV, oNotV, o2, kI_int, kI0_int, kB0_int, kAdd_int, kQ_int, kQ_str, kInt_int, kMin2_int, kIsi_iff, kLen_iff, kSub_iff, kIn_iff, kRepr_iff, kList_iff, kInts_iff, kBls_iff, kSorted_iff, oLst, oTup, oIf, oChain, oNeg, oPeek, oPeekT, iLst, iRange1, iRange2, iEnumO, oYes, vLc, vDc, oSl, oRev, oStep, pNone, pSome, rng1, rng2, oLR, oTR, oApp, oPopAt, oCallB, xN, vPar, g0, List.map_cons, List.map_nil, List.length_cons, List.length_nil, List.replicate, List.cons_append, List.nil_append, List.getElem?_cons_zero, List.getElem?_cons_succ, List.set_cons_zero, List.set_cons_succ, O.noIns, O.er, noInsL, erL, Bool.and_true, Bool.true_and, Option.some.injEq, exists_eq_left', exists_eq_left, true_and, and_true, Nat.reduceAdd, Nat.reduceSub, Nat.reduceLT, exists_and_left, exists_and_right, O.sh.injEq, D.int.injEq, D.bl.injEq, D.lst.injEq, List.cons.injEq, reduceCtorEq, exists_const, List.append_nil, List.singleton_append, and_self, exists_eq, exists_eq', Nat.lt_add_left_iff_pos, Nat.zero_lt_succ, wipeC, frzC, List.map_set, if_true, ite_true, Bool.false_eq_true, if_false, O.lst.injEq, O.dk.injEq, noInsL_sh, erL_sh, ngB_f, ngB_t, items_sh, items_lst, Nat.zero_add, Nat.reduceLeDiff, and_self, and_assoc]
    refine forV_at (fun k γ => ∃ (x y : Option O), γ = [some (.sh (.lst (ls.map lnD))), some (.sh (.int (m : Nat))), x, y]) ?_ ?_ ⟨none, none, rfl⟩
    · intro γ _; exact h
    · rintro k o γ ho ⟨x, y, rfl⟩ N hN
      obtain ⟨u, hu, rfl⟩ := enumO_get ho
      rw [List.getElem?_map, List.getElem?_map] at hu
      obtain ⟨d, hd, rfl⟩ := Option.map_eq_some_iff.mp hu
      obtain ⟨p, hp, rfl⟩ := Option.map_eq_some_iff.mp hd
      obtain ⟨hk, rfl⟩ := List.getElem?_eq_some_iff.mp hp
      have ok := hok _ (List.getElem_mem hk)
      have hdis : ∀ q ∈ ls.take k, q ≠ ls[k] ∧ q ≠ (ls[k].2, ls[k].1) := by
        intro q hq
        obtain ⟨j, hj, rfl⟩ := List.getElem_of_mem hq
        rw [List.length_take] at hj
        rw [List.getElem_take]
        exact List.pairwise_iff_getElem.mp hnd j k (by omega) hk (by omega)
      have t1 : (lnD ls[k]) ∉ (ls.map lnD).take k := by
        rw [← List.map_take]
        intro hm
        obtain ⟨q, hq, e⟩ := List.mem_map.mp hm
        exact (hdis q hq).1 (lnD_inj.mp e)
      have rev : (lnD ls[k]) = .lst [.int (ls[k].1 : Nat), .int (ls[k].2 : Nat)] := rfl
      have rev2 : D.lst ([D.int (ls[k].1 : Nat), D.int (ls[k].2 : Nat)].reverse) = lnD (ls[k].2, ls[k].1) := rfl
      have t2 : lnD (ls[k].2, ls[k].1) ∉ (ls.map lnD).take k := by
        rw [← List.map_take]
        intro hm
        obtain ⟨q, hq, e⟩ := List.mem_map.mp hm
        exact (hdis q hq).2 (lnD_inj.mp e)
      have pk : pls ((ls.map lnD).take k) = true := by rw [← List.map_take]; exact pls_map lnD_pl _
      have dk : deps ((ls.map lnD).take k) ≤ 60 := by rw [← List.map_take]; exact Nat.le_trans (deps_map lnD_dep _) (by omega)
      have i1 := in_not (lnD_pl ls[k]) pk (Nat.le_trans (lnD_dep _) (by omega)) dk t1
      have i2 := in_not (lnD_pl (ls[k].2, ls[k].1)) pk (Nat.le_trans (lnD_dep _) (by omega)) dk t2
      have fl : ∀ K, K (.sh (.bl true)) → F_is_line [lnD ls[k], .int (m : Nat)] K := fun K hK => by
        rw [rev]; unfold F_is_line
        obtain ⟨a1, a2, a3, a4, a5⟩ := ok
        exact ⟨by omega, by omega, by omega, by omega, by omega, hK⟩
      refine ⟨[.sh (.int (k : Nat)), .sh (lnD ls[k])], rfl, rfl, ?_⟩
      simp only [vSeq, vAsg, vEx, vRet, vRetN, vIf, vNil, vFor, oN, oMv, oC, oCall, oCons, oNil, kArg, kKey, baOf, bbOf, aName, aTup, aNames, oB, oNot, oOr, oAnd, oV, oAndV, oOrV, oNotV, o2, kI_int, kI0_int, kB0_int, kAdd_int, kQ_int, kQ_str, kInt_int, kMin2_int, kIsi_iff, kLen_iff, kSub_iff, kIn_iff, kRepr_iff, kList_iff, kInts_iff, kBls_iff, kSorted_iff, oLst, oTup, oIf, oChain, oNeg, oPeek, oPeekT, iLst, iRange1, iRange2, iEnumO, oYes, vLc, vDc, oSl, oRev, oStep, pNone, pSome, rng1, rng2, oLR, oTR, oApp, oPopAt, oCallB, xN, vPar, g0, List.map_cons, List.map_nil, List.length_cons, List.length_nil, List.replicate, List.cons_append, List.nil_append, List.getElem?_cons_zero, List.getElem?_cons_succ, List.set_cons_zero, List.set_cons_succ, O.noIns, O.er, noInsL, erL, Bool.and_true, Bool.true_and, Option.some.injEq, exists_eq_left', exists_eq_left, true_and, and_true, Nat.reduceAdd, Nat.reduceSub, Nat.reduceLT, exists_and_left, exists_and_right, O.sh.injEq, D.int.injEq, D.bl.injEq, D.lst.injEq, List.cons.injEq, reduceCtorEq, exists_const, List.append_nil, List.singleton_append, and_self, exists_eq, exists_eq', Nat.lt_add_left_iff_pos, Nat.zero_lt_succ, wipeC, frzC, List.map_set, if_true, ite_true, Bool.false_eq_true, if_false, O.lst.injEq, O.dk.injEq, noInsL_sh, erL_sh, ngB_f, ngB_t, items_sh, items_lst, Nat.zero_add, Nat.reduceLeDiff, and_self, and_assoc]
      refine fl _ ?_
      simp only [vSeq, vAsg, vEx, vRet, vRetN, vIf, vNil, vFor, oN, oMv, oC, oCall, oCons, oNil, kArg, kKey, baOf, bbOf, aName, aTup, aNames, oB, oNot, oOr, oAnd, oV, oAndV, oOrV, oNotV, o2, kI_int, kI0_int, kB0_int, kAdd_int, kQ_int, kQ_str, kInt_int, kMin2_int, kIsi_iff, kLen_iff, kSub_iff, kIn_iff, kRepr_iff, kList_iff, kInts_iff, kBls_iff, kSorted_iff, oLst, oTup, oIf, oChain, oNeg, oPeek, oPeekT, iLst, iRange1, iRange2, iEnumO, oYes, vLc, vDc, oSl, oRev, oStep, pNone, pSome, rng1, rng2, oLR, oTR, oApp, oPopAt, oCallB, xN, vPar, g0, List.map_cons, List.map_nil, List.length_cons, List.length_nil, List.replicate, List.cons_append, List.nil_append, List.getElem?_cons_zero, List.getElem?_cons_succ, List.set_cons_zero, List.set_cons_succ, O.noIns, O.er, noInsL, erL, Bool.and_true, Bool.true_and, Option.some.injEq, exists_eq_left', exists_eq_left, true_and, and_true, Nat.reduceAdd, Nat.reduceSub, Nat.reduceLT, exists_and_left, exists_and_right, O.sh.injEq, D.int.injEq, D.bl.injEq, D.lst.injEq, List.cons.injEq, reduceCtorEq, exists_const, List.append_nil, List.singleton_append, and_self, exists_eq, exists_eq', Nat.lt_add_left_iff_pos, Nat.zero_lt_succ, wipeC, frzC, List.map_set, if_true, ite_true, Bool.false_eq_true, if_false, O.lst.injEq, O.dk.injEq, noInsL_sh, erL_sh, ngB_f, ngB_t, items_sh, items_lst, Nat.zero_add, Nat.reduceLeDiff, and_self, and_assoc, Bool.not_true, cutD_take, i1]
      refine ⟨_, rev, ?_⟩
      rw [rev2, i2]
      simp only [vSeq, vAsg, vEx, vRet, vRetN, vIf, vNil, vFor, oN, oMv, oC, oCall, oCons, oNil, kArg, kKey, baOf, bbOf, aName, aTup, aNames, oB, oNot, oOr, oAnd, oV, oAndV, oOrV, oNotV, o2, kI_int, kI0_int, kB0_int, kAdd_int, kQ_int, kQ_str, kInt_int, kMin2_int, kIsi_iff, kLen_iff, kSub_iff, kIn_iff, kRepr_iff, kList_iff, kInts_iff, kBls_iff, kSorted_iff, oLst, oTup, oIf, oChain, oNeg, oPeek, oPeekT, iLst, iRange1, iRange2, iEnumO, oYes, vLc, vDc, oSl, oRev, oStep, pNone, pSome, rng1, rng2, oLR, oTR, oApp, oPopAt, oCallB, xN, vPar, g0, List.map_cons, List.map_nil, List.length_cons, List.length_nil, List.replicate, List.cons_append, List.nil_append, List.getElem?_cons_zero, List.getElem?_cons_succ, List.set_cons_zero, List.set_cons_succ, O.noIns, O.er, noInsL, erL, Bool.and_true, Bool.true_and, Option.some.injEq, exists_eq_left', exists_eq_left, true_and, and_true, Nat.reduceAdd, Nat.reduceSub, Nat.reduceLT, exists_and_left, exists_and_right, O.sh.injEq, D.int.injEq, D.bl.injEq, D.lst.injEq, List.cons.injEq, reduceCtorEq, exists_const, List.append_nil, List.singleton_append, and_self, exists_eq, exists_eq', Nat.lt_add_left_iff_pos, Nat.zero_lt_succ, wipeC, frzC, List.map_set, if_true, ite_true, Bool.false_eq_true, if_false, O.lst.injEq, O.dk.injEq, noInsL_sh, erL_sh, ngB_f, ngB_t, items_sh, items_lst, Nat.zero_add, Nat.reduceLeDiff, and_self, and_assoc]
      exact hN _ ⟨_, _, rfl⟩
  · exact h.elim
def F_check_net : DA
  | [.int n, d], K => ∃ (m : Nat) (ls : List (Nat × Nat)), d = lsD ls ∧ n = (m : Nat) ∧ ls.length ≤ 1000 ∧ NetOk m ls ∧ K (.sh .non)
  | _, _ => False
theorem q_check_net (ds : List D) (Q : O → Prop) (_ : ds.length = 2) (h : F_check_net ds Q) : r_check_net F_check_number F_check_lines { nx := fun _ => Q (.sh .non), rt := fun o _ => Q o } (g0 nn_check_net (ds.map O.sh)) := by
  unfold F_check_net at h
  split at h
  · obtain ⟨m, ls, rfl, rfl, hl, ok, h⟩ := h
    simp only [r_check_net, nn_check_net, F_check_number, vSeq, vAsg, vEx, vRet, vRetN, vIf, vNil, vFor, oN, oMv, oC, oCall, oCons, oNil, kArg, kKey, baOf, bbOf, aName, aTup, aNames, oB, oNot, oOr, oAnd, oV, oAndV, oOrV, oNotV, o2, kI_int, kI0_int, kB0_int, kAdd_int, kQ_int, kQ_str, kInt_int, kMin2_int, kIsi_iff, kLen_iff, kSub_iff, kIn_iff, kRepr_iff, kList_iff, kInts_iff, kBls_iff, kSorted_iff, oLst, oTup, oIf, oChain, oNeg, oPeek, oPeekT, iLst, iRange1, iRange2, iEnumO, oYes, vLc, vDc, oSl, oRev, oStep, pNone, pSome, rng1, rng2, oLR, oTR, oApp, oPopAt, oCallB, xN, vPar, g0, List.map_cons, List.map_nil, List.length_cons, List.length_nil, List.replicate, List.cons_append, List.nil_append, List.getElem?_cons_zero, List.getElem?_cons_succ, List.set_cons_zero, List.set_cons_succ, O.noIns, O.er, noInsL, erL, Bool.and_true, Bool.true_and, Option.some.injEq, exists_eq_left', exists_eq_left, true_and, and_true, Nat.reduceAdd, Nat.reduceSub, Nat.reduceLT, exists_and_left, exists_and_right, O.sh.injEq, D.int.injEq, D.bl.injEq, D.lst.injEq, List.cons.injEq, reduceCtorEq, exists_const, List.append_nil, List.singleton_append, and_self, exists_eq, exists_eq', Nat.lt_add_left_iff_pos, Nat.zero_lt_succ, wipeC, frzC, List.map_set, if_true, ite_true, Bool.false_eq_true, if_false, O.lst.injEq, O.dk.injEq, noInsL_sh, erL_sh, ngB_f, ngB_t, items_sh, items_lst, Nat.zero_add, Nat.reduceLeDiff, and_self, and_assoc]
    refine ⟨by have := ok.lo; omega, by have := ok.hi; omega, ?_⟩
    exact ⟨m, ls, rfl, rfl, hl, ok.ok, ok.nd, h⟩
  · exact h.elim
end FN
end
section
namespace FN
open PySem PySem.Spec L2
open PyProof.Rows hiding St
/-- the other place of a line -/
def oth (k : Nat) (p : Nat × Nat) : List Nat := (if p.1 = k then [p.2] else []) ++ (if p.2 = k then [p.1] else [])
/-- what is beside a place, as it comes -/
def bes (ls : List (Nat × Nat)) (k : Nat) : List Nat := k :: ls.flatMap (oth k)
def itO (k : Nat) : O := .sh (.int (k : Nat))
def itD (k : Nat) : D := .int (k : Nat)
theorem map_er_it (l : List Nat) : erL (l.map itO) = l.map itD := by
  induction l with
  | nil => rfl
  | cons a l ih => rw [List.map_cons]; unfold erL; rw [ih]; rfl
theorem noIns_it (l : List Nat) : noInsL (l.map itO) = true := by
  induction l with
  | nil => rfl
  | cons a l ih => rw [List.map_cons]; unfold noInsL; rw [ih]; rfl
theorem bes_take (ls : List (Nat × Nat)) (k i : Nat) (hi : i < ls.length) : bes (ls.take (i + 1)) k = bes (ls.take i) k ++ oth k ls[i] := by
  unfold bes
  rw [List.take_add_one, List.getElem?_eq_getElem hi, List.flatMap_append, List.cons_append]
  simp
theorem NetOk.beside {n : Nat} {ls : List (Nat × Nat)} (h : NetOk n ls) {k : Nat} (hk : 1 ≤ k ∧ k ≤ n) : (bes ls k).Nodup ∧ ∀ x ∈ bes ls k, 1 ≤ x ∧ x ≤ n := by
  have one : ∀ p ∈ ls, ∀ x ∈ oth k p, (p = (k, x) ∨ p = (x, k)) ∧ 1 ≤ x ∧ x ≤ n ∧ x ≠ k := by
    rintro ⟨a, b⟩ hp x hx
    obtain ⟨h1, h2, h3, h4, h5⟩ := h.ok _ hp
    simp only [oth, List.mem_append] at hx h1 h2 h3 h4 h5
    rcases hx with hx | hx <;> split at hx <;> simp at hx
    · subst hx; rename_i e; subst e; exact ⟨.inl rfl, by omega, by omega, by omega⟩
    · subst hx; rename_i e; subst e; exact ⟨.inr rfl, by omega, by omega, by omega⟩
  have hall : ∀ x ∈ bes ls k, 1 ≤ x ∧ x ≤ n := by
    intro x hx
    rcases List.mem_cons.mp hx with rfl | hx
    · exact hk
    · obtain ⟨p, hp, hx⟩ := List.mem_flatMap.mp hx
      exact ⟨(one p hp x hx).2.1, (one p hp x hx).2.2.1⟩
  refine ⟨List.nodup_cons.mpr ⟨fun hx => ?_, ?_⟩, hall⟩
  · obtain ⟨p, hp, hx⟩ := List.mem_flatMap.mp hx
    exact (one p hp k hx).2.2.2 rfl
  · have nd := h.nd
    have ok := h.ok
    clear hall
    induction ls with
    | nil => simp
    | cons p ls ih =>
      rw [List.flatMap_cons]
      have nd2 := List.pairwise_cons.mp nd
      refine List.nodup_append.mpr ⟨?_, ih ⟨h.lo, h.hi, fun q hq => ok q (List.mem_cons_of_mem _ hq), nd2.2⟩ (fun q hq => one q (List.mem_cons_of_mem _ hq)) nd2.2 (fun q hq => ok q (List.mem_cons_of_mem _ hq)), ?_⟩
      · obtain ⟨h1, h2, h3, h4, h5⟩ := ok p (by simp)
        unfold oth
        split <;> split <;> simp
        omega
      · intro x hx y hy e
        subst e
        obtain ⟨q, hq, hy⟩ := List.mem_flatMap.mp hy
        have a1 := (one p (by simp) x hx).1
        have a2 := (one q (List.mem_cons_of_mem _ hq) x hy).1
        have a3 := nd2.1 q hq
        rcases a1 with rfl | rfl <;> rcases a2 with rfl | rfl
        · exact a3.1 rfl
        · exact a3.2 rfl
        · exact a3.2 rfl
        · exact a3.1 rfl
theorem NetOk.few {n : Nat} {ls : List (Nat × Nat)} (h : NetOk n ls) {k : Nat} (hk : 1 ≤ k ∧ k ≤ n) : (bes ls k).length ≤ 12 := by
  obtain ⟨h1, h2⟩ := h.beside hk
  have := List.Nodup.length_le_of_subset h1 (l₂ := List.range (n + 1)) fun x hx => List.mem_range.mpr (by have := h2 x hx; omega)
  rw [List.length_range] at this
  obtain ⟨h3, h4⟩ := h.beside hk
  have h5 := List.Nodup.length_le_of_subset h3 (l₂ := (List.range n).map (· + 1)) fun x hx => by
    have := h4 x hx
    exact List.mem_map.mpr ⟨x - 1, List.mem_range.mpr (by omega), by omega⟩
  rw [List.length_map, List.length_range] at h5
  have := h.hi
  omega
/-- ascending -/
def besS (ls : List (Nat × Nat)) (k : Nat) : List Int := srtI ((bes ls k).map fun x : Nat => (x : Int))
def siO (l : List Int) : O := .lst (l.map fun i => .sh (.int i))
def siD (l : List Int) : D := .lst (l.map D.int)
theorem siO_er (l : List Int) : (siO l).er = siD l := by
  unfold siO siD O.er
  congr 1
  induction l with
  | nil => rfl
  | cons a l ih => rw [List.map_cons]; unfold erL; rw [ih]; rfl
theorem siO_no (l : List Int) : (siO l).noIns = true := by
  unfold siO O.noIns
  induction l with
  | nil => rfl
  | cons a l ih => rw [List.map_cons]; unfold noInsL; rw [ih]; rfl
def besO (n : Nat) (ls : List (Nat × Nat)) : O := .dk (tabR n fun k => siO (besS ls k))
def F_beside_in : DA
  | [.int n, d], K => ∃ (m : Nat) (ls : List (Nat × Nat)), d = lsD ls ∧ n = (m : Nat) ∧ ls.length ≤ 1000 ∧ NetOk m ls ∧ K (besO m ls)
  | _, _ => False
theorem rng1_get {n k : Nat} {o : O} (h : (rngO 1 n)[k]? = some o) : k < n ∧ o = itO (k + 1) := by
  obtain ⟨h1, rfl⟩ := rngO_get h
  refine ⟨h1, ?_⟩
  unfold itO
  congr 2
  omega
theorem q_beside_in (ds : List D) (Q : O → Prop) (_ : ds.length = 2) (h : F_beside_in ds Q) : r_beside_in { nx := fun _ => Q (.sh .non), rt := fun o _ => Q o } (g0 nn_beside_in (ds.map O.sh)) := by
  unfold F_beside_in at h
  split at h
  · obtain ⟨m, ls, rfl, rfl, hl, ok, h⟩ := h
    have hm := ok.hi
    simp only [r_beside_in, nn_beside_in, lsD, vSeq, vAsg, vEx, vRet, vRetN, vIf, vNil, vFor, oN, oMv, oC, oCall, oCons, oNil, kArg, kKey, baOf, bbOf, aName, aTup, aNames, oB, oNot, oOr, oAnd, oV, oAndV, oOrV, oNotV, o2, kI_int, kI0_int, kB0_int, kAdd_int, kQ_int, kQ_str, kInt_int, kMin2_int, kIsi_iff, kLen_iff, kSub_iff, kIn_iff, kRepr_iff, kList_iff, kInts_iff, kBls_iff, kSorted_iff, oLst, oTup, oIf, oChain, oNeg, oPeek, oPeekT, iLst, iRange1, iRange2, iEnumO, oYes, vLc, vDc, oSl, oRev, oStep, pNone, pSome, rng1, rng2, oLR, oTR, oApp, oPopAt, oCallB, xN, vPar, g0, List.map_cons, List.map_nil, List.length_cons, List.length_nil, List.replicate, List.cons_append, List.nil_append, List.getElem?_cons_zero, List.getElem?_cons_succ, List.set_cons_zero, List.set_cons_succ, O.noIns, O.er, noInsL, erL, Bool.and_true, Bool.true_and, Option.some.injEq, exists_eq_left', exists_eq_left, true_and, and_true, Nat.reduceAdd, Nat.reduceSub, Nat.reduceLT, exists_and_left, exists_and_right, O.sh.injEq, D.int.injEq, D.bl.injEq, D.lst.injEq, List.cons.injEq, reduceCtorEq, exists_const, List.append_nil, List.singleton_append, and_self, exists_eq, exists_eq', Nat.lt_add_left_iff_pos, Nat.zero_lt_succ, wipeC, frzC, List.map_set, if_true, ite_true, Bool.false_eq_true, if_false, O.lst.injEq, O.dk.injEq, noInsL_sh, erL_sh, ngB_f, ngB_t, items_sh, items_lst, Nat.zero_add, Nat.reduceLeDiff, and_self, and_assoc]
    refine ⟨by omega, by omega, by omega, by omega, ?_, ?_⟩
    · rw [rngO_len]; omega
    have em : ((m : Int) + 1 - 1).toNat = m := by omega
    rw [em]
    refine compD_at (fun k acc γ => acc = tabR k (fun j => .lst [itO j]) ∧ γ = [some (.sh (.int (m : Nat))), some (.sh (.lst (ls.map lnD))), none, none, none, none, none]) ?_ ?_ ⟨rfl, rfl⟩
    · rintro acc γ ⟨rfl, rfl⟩
      rw [rngO_len]
      simp only [vSeq, vAsg, vEx, vRet, vRetN, vIf, vNil, vFor, oN, oMv, oC, oCall, oCons, oNil, kArg, kKey, baOf, bbOf, aName, aTup, aNames, oB, oNot, oOr, oAnd, oV, oAndV, oOrV, oNotV, o2, kI_int, kI0_int, kB0_int, kAdd_int, kQ_int, kQ_str, kInt_int, kMin2_int, kIsi_iff, kLen_iff, kSub_iff, kIn_iff, kRepr_iff, kList_iff, kInts_iff, kBls_iff, kSorted_iff, oLst, oTup, oIf, oChain, oNeg, oPeek, oPeekT, iLst, iRange1, iRange2, iEnumO, oYes, vLc, vDc, oSl, oRev, oStep, pNone, pSome, rng1, rng2, oLR, oTR, oApp, oPopAt, oCallB, xN, vPar, g0, List.map_cons, List.map_nil, List.length_cons, List.length_nil, List.replicate, List.cons_append, List.nil_append, List.getElem?_cons_zero, List.getElem?_cons_succ, List.set_cons_zero, List.set_cons_succ, O.noIns, O.er, noInsL, erL, Bool.and_true, Bool.true_and, Option.some.injEq, exists_eq_left', exists_eq_left, true_and, and_true, Nat.reduceAdd, Nat.reduceSub, Nat.reduceLT, exists_and_left, exists_and_right, O.sh.injEq, D.int.injEq, D.bl.injEq, D.lst.injEq, List.cons.injEq, reduceCtorEq, exists_const, List.append_nil, List.singleton_append, and_self, exists_eq, exists_eq', Nat.lt_add_left_iff_pos, Nat.zero_lt_succ, wipeC, frzC, List.map_set, if_true, ite_true, Bool.false_eq_true, if_false, O.lst.injEq, O.dk.injEq, noInsL_sh, erL_sh, ngB_f, ngB_t, items_sh, items_lst, Nat.zero_add, Nat.reduceLeDiff, and_self, and_assoc]
      refine forV_at (fun k γ => ∃ x y, γ = [some (.sh (.int (m : Nat))), some (.sh (.lst (ls.map lnD))), some (.dk (tabR m fun j => .lst ((bes (ls.take k) j).map itO))), x, y, none, none]) ?_ ?_ ⟨none, none, ?_⟩
      · rintro γ ⟨x, y, rfl⟩
        rw [List.length_map, List.length_map, List.take_length]
        simp only [iDw, vSeq, vAsg, vEx, vRet, vRetN, vIf, vNil, vFor, oN, oMv, oC, oCall, oCons, oNil, kArg, kKey, baOf, bbOf, aName, aTup, aNames, oB, oNot, oOr, oAnd, oV, oAndV, oOrV, oNotV, o2, kI_int, kI0_int, kB0_int, kAdd_int, kQ_int, kQ_str, kInt_int, kMin2_int, kIsi_iff, kLen_iff, kSub_iff, kIn_iff, kRepr_iff, kList_iff, kInts_iff, kBls_iff, kSorted_iff, oLst, oTup, oIf, oChain, oNeg, oPeek, oPeekT, iLst, iRange1, iRange2, iEnumO, oYes, vLc, vDc, oSl, oRev, oStep, pNone, pSome, rng1, rng2, oLR, oTR, oApp, oPopAt, oCallB, xN, vPar, g0, List.map_cons, List.map_nil, List.length_cons, List.length_nil, List.replicate, List.cons_append, List.nil_append, List.getElem?_cons_zero, List.getElem?_cons_succ, List.set_cons_zero, List.set_cons_succ, O.noIns, O.er, noInsL, erL, Bool.and_true, Bool.true_and, Option.some.injEq, exists_eq_left', exists_eq_left, true_and, and_true, Nat.reduceAdd, Nat.reduceSub, Nat.reduceLT, exists_and_left, exists_and_right, O.sh.injEq, D.int.injEq, D.bl.injEq, D.lst.injEq, List.cons.injEq, reduceCtorEq, exists_const, List.append_nil, List.singleton_append, and_self, exists_eq, exists_eq', Nat.lt_add_left_iff_pos, Nat.zero_lt_succ, wipeC, frzC, List.map_set, if_true, ite_true, Bool.false_eq_true, if_false, O.lst.injEq, O.dk.injEq, noInsL_sh, erL_sh, ngB_f, ngB_t, items_sh, items_lst, Nat.zero_add, Nat.reduceLeDiff, and_self, and_assoc]
        refine ⟨noInsK_tab fun j => ?_, ?_⟩
        · unfold O.noIns; exact noIns_it _
        have e1 : erK (tabR m fun j => O.lst ((bes ls j).map itO)) = tabR m fun j => .lst ((bes ls j).map itD) := by
          rw [erK_tab]
          congr 1
          funext j
          unfold O.er
          rw [map_er_it]
        rw [e1]
        refine ⟨by unfold DW.os ditems; rw [List.length_map, tabR_len]; omega, ?_⟩
        refine compD_at (fun k acc γ => acc = tabR k (fun j => siO (besS ls j)) ∧ γ = [some (.sh (.int (m : Nat))), some (.sh (.lst (ls.map lnD))), none, x, y, none, none]) ?_ ?_ ⟨rfl, rfl⟩
        · rintro acc γ ⟨rfl, rfl⟩
          have e : (DW.os DW.items (tabR m fun j => D.lst ((bes ls j).map itD))).length = m := by unfold DW.os ditems; rw [List.length_map, tabR_len]
          rw [e]
          exact h
        · rintro k o acc γ ho ⟨rfl, rfl⟩ N hN
          unfold DW.os ditems at ho
          rw [List.getElem?_map] at ho
          obtain ⟨p, hp, rfl⟩ := Option.map_eq_some_iff.mp ho
          obtain ⟨hk, rfl⟩ := tabR_get hp
          refine ⟨[.sh (itD (k + 1)), .sh (.lst ((bes ls (k + 1)).map itD))], rfl, rfl, ?_⟩
          simp only [vSeq, vAsg, vEx, vRet, vRetN, vIf, vNil, vFor, oN, oMv, oC, oCall, oCons, oNil, kArg, kKey, baOf, bbOf, aName, aTup, aNames, oB, oNot, oOr, oAnd, oV, oAndV, oOrV, oNotV, o2, kI_int, kI0_int, kB0_int, kAdd_int, kQ_int, kQ_str, kInt_int, kMin2_int, kIsi_iff, kLen_iff, kSub_iff, kIn_iff, kRepr_iff, kList_iff, kInts_iff, kBls_iff, kSorted_iff, oLst, oTup, oIf, oChain, oNeg, oPeek, oPeekT, iLst, iRange1, iRange2, iEnumO, oYes, vLc, vDc, oSl, oRev, oStep, pNone, pSome, rng1, rng2, oLR, oTR, oApp, oPopAt, oCallB, xN, vPar, g0, List.map_cons, List.map_nil, List.length_cons, List.length_nil, List.replicate, List.cons_append, List.nil_append, List.getElem?_cons_zero, List.getElem?_cons_succ, List.set_cons_zero, List.set_cons_succ, O.noIns, O.er, noInsL, erL, Bool.and_true, Bool.true_and, Option.some.injEq, exists_eq_left', exists_eq_left, true_and, and_true, Nat.reduceAdd, Nat.reduceSub, Nat.reduceLT, exists_and_left, exists_and_right, O.sh.injEq, D.int.injEq, D.bl.injEq, D.lst.injEq, List.cons.injEq, reduceCtorEq, exists_const, List.append_nil, List.singleton_append, and_self, exists_eq, exists_eq', Nat.lt_add_left_iff_pos, Nat.zero_lt_succ, wipeC, frzC, List.map_set, if_true, ite_true, Bool.false_eq_true, if_false, O.lst.injEq, O.dk.injEq, noInsL_sh, erL_sh, ngB_f, ngB_t, items_sh, items_lst, Nat.zero_add, Nat.reduceLeDiff, and_self, and_assoc]
          have ei : (bes ls (k + 1)).map itD = ((bes ls (k + 1)).map fun x : Nat => (x : Int)).map D.int := by rw [List.map_map]; rfl
          refine ⟨_, ei, by have := ok.few (k := k + 1) (by omega); rw [List.length_map]; omega, ?_⟩
          refine ⟨_, rfl, ?_⟩
          refine hN _ _ ⟨putR_next k rfl, rfl⟩
      · rintro k o γ ho ⟨x, y, rfl⟩ N hN
        rw [List.getElem?_map, List.getElem?_map] at ho
        obtain ⟨d, hd, rfl⟩ := Option.map_eq_some_iff.mp ho
        obtain ⟨p, hp, rfl⟩ := Option.map_eq_some_iff.mp hd
        obtain ⟨hk, rfl⟩ := List.getElem?_eq_some_iff.mp hp
        obtain ⟨a1, a2, a3, a4, a5⟩ := ok.ok _ (List.getElem_mem hk)
        refine ⟨[itO ls[k].1, itO ls[k].2], rfl, rfl, ?_⟩
        simp only [vSeq, vAsg, vEx, vRet, vRetN, vIf, vNil, vFor, oN, oMv, oC, oCall, oCons, oNil, kArg, kKey, baOf, bbOf, aName, aTup, aNames, oB, oNot, oOr, oAnd, oV, oAndV, oOrV, oNotV, o2, kI_int, kI0_int, kB0_int, kAdd_int, kQ_int, kQ_str, kInt_int, kMin2_int, kIsi_iff, kLen_iff, kSub_iff, kIn_iff, kRepr_iff, kList_iff, kInts_iff, kBls_iff, kSorted_iff, oLst, oTup, oIf, oChain, oNeg, oPeek, oPeekT, iLst, iRange1, iRange2, iEnumO, oYes, vLc, vDc, oSl, oRev, oStep, pNone, pSome, rng1, rng2, oLR, oTR, oApp, oPopAt, oCallB, xN, vPar, g0, List.map_cons, List.map_nil, List.length_cons, List.length_nil, List.replicate, List.cons_append, List.nil_append, List.getElem?_cons_zero, List.getElem?_cons_succ, List.set_cons_zero, List.set_cons_succ, O.noIns, O.er, noInsL, erL, Bool.and_true, Bool.true_and, Option.some.injEq, exists_eq_left', exists_eq_left, true_and, and_true, Nat.reduceAdd, Nat.reduceSub, Nat.reduceLT, exists_and_left, exists_and_right, O.sh.injEq, D.int.injEq, D.bl.injEq, D.lst.injEq, List.cons.injEq, reduceCtorEq, exists_const, List.append_nil, List.singleton_append, and_self, exists_eq, exists_eq', Nat.lt_add_left_iff_pos, Nat.zero_lt_succ, wipeC, frzC, List.map_set, if_true, ite_true, Bool.false_eq_true, if_false, O.lst.injEq, O.dk.injEq, noInsL_sh, erL_sh, ngB_f, ngB_t, items_sh, items_lst, Nat.zero_add, Nat.reduceLeDiff, and_self, and_assoc]
        have few : ∀ j, (bes (ls.take k) j).length ≤ 3000 := fun j => by
          unfold bes
          rw [List.length_cons, List.length_flatMap]
          have : ∀ l : List (Nat × Nat), (l.map fun p => (oth j p).length).sum ≤ 2 * l.length := fun l => by
            induction l with
            | nil => simp
            | cons p l ih =>
              rw [List.map_cons, List.sum_cons, List.length_cons]
              have : (oth j p).length ≤ 2 := by unfold oth; split <;> split <;> simp
              omega
          have h1 := this (ls.take k)
          have h2 : (ls.take k).length ≤ 1000 := by rw [List.length_take]; omega
          omega
        refine oAppL1 (itD ls[k].1) _ ((bes (ls.take k) ls[k].1).map itO) ?_ rfl ?_ ?_
        · simp only [itO, itD, vSeq, vAsg, vEx, vRet, vRetN, vIf, vNil, vFor, oN, oMv, oC, oCall, oCons, oNil, kArg, kKey, baOf, bbOf, aName, aTup, aNames, oB, oNot, oOr, oAnd, oV, oAndV, oOrV, oNotV, o2, kI_int, kI0_int, kB0_int, kAdd_int, kQ_int, kQ_str, kInt_int, kMin2_int, kIsi_iff, kLen_iff, kSub_iff, kIn_iff, kRepr_iff, kList_iff, kInts_iff, kBls_iff, kSorted_iff, oLst, oTup, oIf, oChain, oNeg, oPeek, oPeekT, iLst, iRange1, iRange2, iEnumO, oYes, vLc, vDc, oSl, oRev, oStep, pNone, pSome, rng1, rng2, oLR, oTR, oApp, oPopAt, oCallB, xN, vPar, g0, List.map_cons, List.map_nil, List.length_cons, List.length_nil, List.replicate, List.cons_append, List.nil_append, List.getElem?_cons_zero, List.getElem?_cons_succ, List.set_cons_zero, List.set_cons_succ, O.noIns, O.er, noInsL, erL, Bool.and_true, Bool.true_and, Option.some.injEq, exists_eq_left', exists_eq_left, true_and, and_true, Nat.reduceAdd, Nat.reduceSub, Nat.reduceLT, exists_and_left, exists_and_right, O.sh.injEq, D.int.injEq, D.bl.injEq, D.lst.injEq, List.cons.injEq, reduceCtorEq, exists_const, List.append_nil, List.singleton_append, and_self, exists_eq, exists_eq', Nat.lt_add_left_iff_pos, Nat.zero_lt_succ, wipeC, frzC, List.map_set, if_true, ite_true, Bool.false_eq_true, if_false, O.lst.injEq, O.dk.injEq, noInsL_sh, erL_sh, ngB_f, ngB_t, items_sh, items_lst, Nat.zero_add, Nat.reduceLeDiff, and_self, and_assoc]
        · show valR _ (Sum.inl ((ls[k].1 : Nat) : Int) : Key) = _
          rw [valR_tab a1, if_pos a2]
        simp only [itO, vSeq, vAsg, vEx, vRet, vRetN, vIf, vNil, vFor, oN, oMv, oC, oCall, oCons, oNil, kArg, kKey, baOf, bbOf, aName, aTup, aNames, oB, oNot, oOr, oAnd, oV, oAndV, oOrV, oNotV, o2, kI_int, kI0_int, kB0_int, kAdd_int, kQ_int, kQ_str, kInt_int, kMin2_int, kIsi_iff, kLen_iff, kSub_iff, kIn_iff, kRepr_iff, kList_iff, kInts_iff, kBls_iff, kSorted_iff, oLst, oTup, oIf, oChain, oNeg, oPeek, oPeekT, iLst, iRange1, iRange2, iEnumO, oYes, vLc, vDc, oSl, oRev, oStep, pNone, pSome, rng1, rng2, oLR, oTR, oApp, oPopAt, oCallB, xN, vPar, g0, List.map_cons, List.map_nil, List.length_cons, List.length_nil, List.replicate, List.cons_append, List.nil_append, List.getElem?_cons_zero, List.getElem?_cons_succ, List.set_cons_zero, List.set_cons_succ, O.noIns, O.er, noInsL, erL, Bool.and_true, Bool.true_and, Option.some.injEq, exists_eq_left', exists_eq_left, true_and, and_true, Nat.reduceAdd, Nat.reduceSub, Nat.reduceLT, exists_and_left, exists_and_right, O.sh.injEq, D.int.injEq, D.bl.injEq, D.lst.injEq, List.cons.injEq, reduceCtorEq, exists_const, List.append_nil, List.singleton_append, and_self, exists_eq, exists_eq', Nat.lt_add_left_iff_pos, Nat.zero_lt_succ, wipeC, frzC, List.map_set, if_true, ite_true, Bool.false_eq_true, if_false, O.lst.injEq, O.dk.injEq, noInsL_sh, erL_sh, ngB_f, ngB_t, items_sh, items_lst, Nat.zero_add, Nat.reduceLeDiff, and_self, and_assoc]
        refine ⟨by rw [List.length_map]; have := few ls[k].1; omega, ?_⟩
        have s1 : setO (.dk (tabR m fun j => .lst ((bes (ls.take k) j).map itO))) (itD ls[k].1) (.lst ((bes (ls.take k) ls[k].1).map itO ++ [itO ls[k].2])) =
            .dk (tabR m fun j => if j = ls[k].1 then .lst ((bes (ls.take k) j).map itO ++ [itO ls[k].2]) else .lst ((bes (ls.take k) j).map itO)) := by
          show O.dk (putR _ (Sum.inl ((ls[k].1 : Nat) : Int) : Key) _) = _
          rw [putR_tab a1 m a2]
          congr 2
          funext j
          by_cases e : j = ls[k].1
          · rw [if_pos e, if_pos e, e]
          · rw [if_neg e, if_neg e]
        have eo : ([O.sh (D.int ((ls[k].2 : Nat) : Int))] : List O) = [itO ls[k].2] := rfl
        rw [eo]
        rw [s1]
        refine oAppL1 (itD ls[k].2) _ ((bes (ls.take k) ls[k].2).map itO) ?_ rfl ?_ ?_
        · simp only [itO, itD, vSeq, vAsg, vEx, vRet, vRetN, vIf, vNil, vFor, oN, oMv, oC, oCall, oCons, oNil, kArg, kKey, baOf, bbOf, aName, aTup, aNames, oB, oNot, oOr, oAnd, oV, oAndV, oOrV, oNotV, o2, kI_int, kI0_int, kB0_int, kAdd_int, kQ_int, kQ_str, kInt_int, kMin2_int, kIsi_iff, kLen_iff, kSub_iff, kIn_iff, kRepr_iff, kList_iff, kInts_iff, kBls_iff, kSorted_iff, oLst, oTup, oIf, oChain, oNeg, oPeek, oPeekT, iLst, iRange1, iRange2, iEnumO, oYes, vLc, vDc, oSl, oRev, oStep, pNone, pSome, rng1, rng2, oLR, oTR, oApp, oPopAt, oCallB, xN, vPar, g0, List.map_cons, List.map_nil, List.length_cons, List.length_nil, List.replicate, List.cons_append, List.nil_append, List.getElem?_cons_zero, List.getElem?_cons_succ, List.set_cons_zero, List.set_cons_succ, O.noIns, O.er, noInsL, erL, Bool.and_true, Bool.true_and, Option.some.injEq, exists_eq_left', exists_eq_left, true_and, and_true, Nat.reduceAdd, Nat.reduceSub, Nat.reduceLT, exists_and_left, exists_and_right, O.sh.injEq, D.int.injEq, D.bl.injEq, D.lst.injEq, List.cons.injEq, reduceCtorEq, exists_const, List.append_nil, List.singleton_append, and_self, exists_eq, exists_eq', Nat.lt_add_left_iff_pos, Nat.zero_lt_succ, wipeC, frzC, List.map_set, if_true, ite_true, Bool.false_eq_true, if_false, O.lst.injEq, O.dk.injEq, noInsL_sh, erL_sh, ngB_f, ngB_t, items_sh, items_lst, Nat.zero_add, Nat.reduceLeDiff, and_self, and_assoc]
        · show valR _ (Sum.inl ((ls[k].2 : Nat) : Int) : Key) = _
          rw [valR_tab a3, if_pos a4, if_neg (fun e => a5 e.symm)]
        simp only [itO, vSeq, vAsg, vEx, vRet, vRetN, vIf, vNil, vFor, oN, oMv, oC, oCall, oCons, oNil, kArg, kKey, baOf, bbOf, aName, aTup, aNames, oB, oNot, oOr, oAnd, oV, oAndV, oOrV, oNotV, o2, kI_int, kI0_int, kB0_int, kAdd_int, kQ_int, kQ_str, kInt_int, kMin2_int, kIsi_iff, kLen_iff, kSub_iff, kIn_iff, kRepr_iff, kList_iff, kInts_iff, kBls_iff, kSorted_iff, oLst, oTup, oIf, oChain, oNeg, oPeek, oPeekT, iLst, iRange1, iRange2, iEnumO, oYes, vLc, vDc, oSl, oRev, oStep, pNone, pSome, rng1, rng2, oLR, oTR, oApp, oPopAt, oCallB, xN, vPar, g0, List.map_cons, List.map_nil, List.length_cons, List.length_nil, List.replicate, List.cons_append, List.nil_append, List.getElem?_cons_zero, List.getElem?_cons_succ, List.set_cons_zero, List.set_cons_succ, O.noIns, O.er, noInsL, erL, Bool.and_true, Bool.true_and, Option.some.injEq, exists_eq_left', exists_eq_left, true_and, and_true, Nat.reduceAdd, Nat.reduceSub, Nat.reduceLT, exists_and_left, exists_and_right, O.sh.injEq, D.int.injEq, D.bl.injEq, D.lst.injEq, List.cons.injEq, reduceCtorEq, exists_const, List.append_nil, List.singleton_append, and_self, exists_eq, exists_eq', Nat.lt_add_left_iff_pos, Nat.zero_lt_succ, wipeC, frzC, List.map_set, if_true, ite_true, Bool.false_eq_true, if_false, O.lst.injEq, O.dk.injEq, noInsL_sh, erL_sh, ngB_f, ngB_t, items_sh, items_lst, Nat.zero_add, Nat.reduceLeDiff, and_self, and_assoc]
        refine ⟨by rw [List.length_map]; have := few ls[k].2; omega, ?_⟩
        have s2 : setO (.dk (tabR m fun j => if j = ls[k].1 then .lst ((bes (ls.take k) j).map itO ++ [itO ls[k].2]) else .lst ((bes (ls.take k) j).map itO))) (itD ls[k].2) (.lst ((bes (ls.take k) ls[k].2).map itO ++ [itO ls[k].1])) =
            .dk (tabR m fun j => .lst ((bes (ls.take (k + 1)) j).map itO)) := by
          show O.dk (putR _ (Sum.inl ((ls[k].2 : Nat) : Int) : Key) _) = _
          rw [putR_tab a3 m a4]
          congr 2
          funext j
          rw [bes_take ls j k hk, List.map_append]
          unfold oth
          by_cases e : j = ls[k].2
          · subst e
            rw [if_pos rfl, if_neg a5, if_pos rfl]; rfl
          · rw [if_neg e, if_neg (show ¬ ls[k].2 = j from fun z => e z.symm)]
            by_cases e2 : j = ls[k].1
            · subst e2
              rw [if_pos rfl, if_pos rfl]; rfl
            · rw [if_neg e2, if_neg (show ¬ ls[k].1 = j from fun z => e2 z.symm)]; simp
        have eo1 : ([O.sh (D.int ((ls[k].1 : Nat) : Int))] : List O) = [itO ls[k].1] := rfl
        rw [eo1]
        refine hN _ ⟨some (itO ls[k].1), some (itO ls[k].2), ?_⟩
        exact congrArg (fun z => ([some (itO m), some (.sh (.lst (ls.map lnD))), some z, some (itO ls[k].1), some (itO ls[k].2), none, none] : Gm)) s2
      · rfl
    · rintro k o acc γ ho ⟨rfl, rfl⟩ N hN
      obtain ⟨hk, rfl⟩ := rng1_get ho
      simp only [itO, vSeq, vAsg, vEx, vRet, vRetN, vIf, vNil, vFor, oN, oMv, oC, oCall, oCons, oNil, kArg, kKey, baOf, bbOf, aName, aTup, aNames, oB, oNot, oOr, oAnd, oV, oAndV, oOrV, oNotV, o2, kI_int, kI0_int, kB0_int, kAdd_int, kQ_int, kQ_str, kInt_int, kMin2_int, kIsi_iff, kLen_iff, kSub_iff, kIn_iff, kRepr_iff, kList_iff, kInts_iff, kBls_iff, kSorted_iff, oLst, oTup, oIf, oChain, oNeg, oPeek, oPeekT, iLst, iRange1, iRange2, iEnumO, oYes, vLc, vDc, oSl, oRev, oStep, pNone, pSome, rng1, rng2, oLR, oTR, oApp, oPopAt, oCallB, xN, vPar, g0, List.map_cons, List.map_nil, List.length_cons, List.length_nil, List.replicate, List.cons_append, List.nil_append, List.getElem?_cons_zero, List.getElem?_cons_succ, List.set_cons_zero, List.set_cons_succ, O.noIns, O.er, noInsL, erL, Bool.and_true, Bool.true_and, Option.some.injEq, exists_eq_left', exists_eq_left, true_and, and_true, Nat.reduceAdd, Nat.reduceSub, Nat.reduceLT, exists_and_left, exists_and_right, O.sh.injEq, D.int.injEq, D.bl.injEq, D.lst.injEq, List.cons.injEq, reduceCtorEq, exists_const, List.append_nil, List.singleton_append, and_self, exists_eq, exists_eq', Nat.lt_add_left_iff_pos, Nat.zero_lt_succ, wipeC, frzC, List.map_set, if_true, ite_true, Bool.false_eq_true, if_false, O.lst.injEq, O.dk.injEq, noInsL_sh, erL_sh, ngB_f, ngB_t, items_sh, items_lst, Nat.zero_add, Nat.reduceLeDiff, and_self, and_assoc]
      refine ⟨_, rfl, ?_⟩
      exact hN _ _ ⟨putR_next k rfl, rfl⟩
  · exact h.elim
def F_beside : DA
  | [.int n, d, .int p], K => ∃ (m q : Nat) (ls : List (Nat × Nat)), d = lsD ls ∧ n = (m : Nat) ∧ p = (q : Nat) ∧ ls.length ≤ 1000 ∧ NetOk m ls ∧ 1 ≤ q ∧ q ≤ m ∧ K (siO (besS ls q))
  | _, _ => False
theorem besO_no (n : Nat) (ls : List (Nat × Nat)) : (besO n ls).noIns = true := by
  unfold besO O.noIns
  exact noInsK_tab fun j => siO_no _
theorem besO_er (n : Nat) (ls : List (Nat × Nat)) : (besO n ls).er = .dk (tabR n fun k => siD (besS ls k)) := by
  unfold besO O.er
  rw [erK_tab]
  congr 2
  funext j
  exact siO_er _
theorem subD_tab {n k : Nat} {f : Nat → D} (h1 : 1 ≤ k) (h2 : k ≤ n) : subD (.dk (tabR n f)) (.int ((k : Nat) : Int)) = some (f k) := by
  show valD (tabR n f) (Sum.inl ((k : Nat) : Int) : Key) = _
  rw [valD_tab h1, if_pos h2]
theorem q_beside (ds : List D) (Q : O → Prop) (_ : ds.length = 3) (h : F_beside ds Q) : r_beside F_check_net F_check_place F_beside_in { nx := fun _ => Q (.sh .non), rt := fun o _ => Q o } (g0 nn_beside (ds.map O.sh)) := by
  unfold F_beside at h
  split at h
  · obtain ⟨m, q, ls, rfl, rfl, rfl, hl, ok, h1, h2, h⟩ := h
    simp only [r_beside, nn_beside, F_check_net, F_check_place, F_beside_in, vSeq, vAsg, vEx, vRet, vRetN, vIf, vNil, vFor, oN, oMv, oC, oCall, oCons, oNil, kArg, kKey, baOf, bbOf, aName, aTup, aNames, oB, oNot, oOr, oAnd, oV, oAndV, oOrV, oNotV, o2, kI_int, kI0_int, kB0_int, kAdd_int, kQ_int, kQ_str, kInt_int, kMin2_int, kIsi_iff, kLen_iff, kSub_iff, kIn_iff, kRepr_iff, kList_iff, kInts_iff, kBls_iff, kSorted_iff, oLst, oTup, oIf, oChain, oNeg, oPeek, oPeekT, iLst, iRange1, iRange2, iEnumO, oYes, vLc, vDc, oSl, oRev, oStep, pNone, pSome, rng1, rng2, oLR, oTR, oApp, oPopAt, oCallB, xN, vPar, g0, List.map_cons, List.map_nil, List.length_cons, List.length_nil, List.replicate, List.cons_append, List.nil_append, List.getElem?_cons_zero, List.getElem?_cons_succ, List.set_cons_zero, List.set_cons_succ, O.noIns, O.er, noInsL, erL, Bool.and_true, Bool.true_and, Option.some.injEq, exists_eq_left', exists_eq_left, true_and, and_true, Nat.reduceAdd, Nat.reduceSub, Nat.reduceLT, exists_and_left, exists_and_right, O.sh.injEq, D.int.injEq, D.bl.injEq, D.lst.injEq, List.cons.injEq, reduceCtorEq, exists_const, List.append_nil, List.singleton_append, and_self, exists_eq, exists_eq', Nat.lt_add_left_iff_pos, Nat.zero_lt_succ, wipeC, frzC, List.map_set, if_true, ite_true, Bool.false_eq_true, if_false, O.lst.injEq, O.dk.injEq, noInsL_sh, erL_sh, ngB_f, ngB_t, items_sh, items_lst, Nat.zero_add, Nat.reduceLeDiff, and_self, and_assoc]
    refine ⟨m, ls, rfl, rfl, hl, ok, ?_⟩
    refine ⟨by omega, by omega, ?_⟩
    refine ⟨m, ls, rfl, rfl, hl, ok, ?_⟩
    refine kTake_own ?_ h
    show valR (tabR m _) (Sum.inl ((q : Nat) : Int) : Key) = _
    rw [valR_tab h1, if_pos h2]
  · exact h.elim
end FN
end
section
namespace FN
open PySem PySem.Spec L2
open PyProof.Rows hiding St
theorem srtI_mem {l : List Int} {x : Int} : x ∈ srtI l ↔ x ∈ l := (srtI_perm l).mem_iff
theorem int_pl (i : Int) : (D.int i).pl = true := rfl
theorem int_dep (i : Int) : (D.int i).dep = 0 := rfl
theorem ints_pl (l : List Int) : pls (l.map D.int) = true := pls_map int_pl l
theorem ints_dep (l : List Int) : deps (l.map D.int) ≤ 0 := deps_map (fun i => Nat.le_of_eq (int_dep i)) l
/-- x in a list of ints -/
theorem in_ints (i : Int) (l : List Int) : inD (.int i) (.lst (l.map D.int)) = some (decide (i ∈ l)) := by
  obtain ⟨b, e, q⟩ := in_pl (int_pl i) (ints_pl l) (by rw [int_dep]; omega) (Nat.le_trans (ints_dep l) (by omega))
  rw [e]
  congr 1
  rw [Bool.eq_iff_iff, q, decide_eq_true_iff, List.mem_map]
  exact ⟨fun ⟨a, h, e⟩ => by cases e; exact h, fun h => ⟨i, h, rfl⟩⟩
theorem nat_mem {k : Nat} {l : List Nat} : ((k : Nat) : Int) ∈ l.map (fun x : Nat => (x : Int)) ↔ k ∈ l := by
  rw [List.mem_map]
  exact ⟨fun ⟨a, h, e⟩ => by have : a = k := by omega
                             subst this; exact h, fun h => ⟨k, h, rfl⟩⟩
theorem in_besS (k : Nat) (ls : List (Nat × Nat)) (j : Nat) : inD (.int ((k : Nat) : Int)) (siD (besS ls j)) = some (decide (k ∈ bes ls j)) := by
  unfold siD besS
  rw [in_ints]
  congr 1
  rw [Bool.eq_iff_iff, decide_eq_true_iff, decide_eq_true_iff, srtI_mem, nat_mem]
/-! ### the product -/
def pc (ls ts : List (Nat × Nat)) (m a b : Nat) : Bool := decide (b / m + 1 ∈ bes ls (a / m + 1)) && decide (b % m + 1 ∈ bes ts (a % m + 1))
def pRow (ls ts : List (Nat × Nat)) (m N a i : Nat) : List (Nat × Nat) := (((List.range i).map (a + 1 + ·)).filter (pc ls ts m a)).map fun b => (a + 1, b + 1)
def pTo (ls ts : List (Nat × Nat)) (m N k : Nat) : List (Nat × Nat) := (List.range k).flatMap fun a => pRow ls ts m N a (N - (a + 1))
def lnO (p : Nat × Nat) : O := .lst [itO p.1, itO p.2]
theorem lnO_er (p : Nat × Nat) : (lnO p).er = lnD p := rfl
theorem lnO_no (p : Nat × Nat) : (lnO p).noIns = true := rfl
def prO (n : Nat) (ls : List (Nat × Nat)) (m : Nat) (ts : List (Nat × Nat)) : O := .tup [itO (n * m), .lst ((pTo ls ts m (n * m) (n * m)).map lnO)]
theorem pRow_succ (ls ts : List (Nat × Nat)) (m N a i : Nat) : pRow ls ts m N a (i + 1) = pRow ls ts m N a i ++ (if pc ls ts m a (a + 1 + i) = true then [(a + 1, a + 1 + i + 1)] else []) := by
  unfold pRow
  rw [List.range_succ, List.map_append, List.filter_append, List.map_append]
  congr 1
  rw [List.map_singleton, List.filter_cons, List.filter_nil]
  split <;> rfl
theorem pRow_len (ls ts : List (Nat × Nat)) (m N a i : Nat) : (pRow ls ts m N a i).length ≤ i := by
  unfold pRow
  rw [List.length_map]
  exact Nat.le_trans (List.length_filter_le _ _) (by simp)
theorem pTo_succ (ls ts : List (Nat × Nat)) (m N k : Nat) : pTo ls ts m N (k + 1) = pTo ls ts m N k ++ pRow ls ts m N k (N - (k + 1)) := by
  unfold pTo
  rw [List.range_succ, List.flatMap_append]; simp
theorem pTo_len (ls ts : List (Nat × Nat)) (m N : Nat) : ∀ k, (pTo ls ts m N k).length ≤ k * N
  | 0 => by simp [pTo]
  | k + 1 => by
    rw [pTo_succ, List.length_append, Nat.add_mul]
    have h1 := pTo_len ls ts m N k
    have h2 := pRow_len ls ts m N k (N - (k + 1))
    omega
def F_product : DA
  | [.int n, d, .int m, e], K => ∃ (a b : Nat) (ls ts : List (Nat × Nat)), n = (a : Nat) ∧ m = (b : Nat) ∧ d = lsD ls ∧ e = lsD ts ∧ ls.length ≤ 1000 ∧ ts.length ≤ 1000 ∧ NetOk a ls ∧ NetOk b ts ∧ a * b ≤ 12 ∧ K (prO a ls b ts)
  | _, _ => False
theorem rngA_get {lo : Int} {n k : Nat} {o : O} (h : (rngO lo n)[k]? = some o) : k < n ∧ o = .sh (.int (lo + (k : Nat))) := rngO_get h
theorem q_product (ds : List D) (Q : O → Prop) (_ : ds.length = 4) (h : F_product ds Q) : r_product F_check_net F_check_number F_beside_in { nx := fun _ => Q (.sh .non), rt := fun o _ => Q o } (g0 nn_product (ds.map O.sh)) := by
  unfold F_product at h
  split at h
  · obtain ⟨n, m, ls, ts, rfl, rfl, rfl, rfl, hl, ht, ok, ok2, hp, h⟩ := h
    have n1 := ok.lo
    have n2 := ok.hi
    have m1 := ok2.lo
    have m2 := ok2.hi
    have en : ((n : Int) * (m : Int)) = ((n * m : Nat) : Int) := by simp
    simp only [r_product, nn_product, F_check_net, F_check_number, F_beside_in, vSeq, vAsg, vEx, vRet, vRetN, vIf, vNil, vFor, oN, oMv, oC, oCall, oCons, oNil, kArg, kKey, baOf, bbOf, aName, aTup, aNames, oB, oNot, oOr, oAnd, oV, oAndV, oOrV, oNotV, o2, kI_int, kI0_int, kB0_int, kAdd_int, kQ_int, kQ_str, kInt_int, kMin2_int, kIsi_iff, kLen_iff, kSub_iff, kIn_iff, kRepr_iff, kList_iff, kInts_iff, kBls_iff, kSorted_iff, oLst, oTup, oIf, oChain, oNeg, oPeek, oPeekT, iLst, iRange1, iRange2, iEnumO, oYes, vLc, vDc, oSl, oRev, oStep, pNone, pSome, rng1, rng2, oLR, oTR, oApp, oPopAt, oCallB, xN, vPar, g0, List.map_cons, List.map_nil, List.length_cons, List.length_nil, List.replicate, List.cons_append, List.nil_append, List.getElem?_cons_zero, List.getElem?_cons_succ, List.set_cons_zero, List.set_cons_succ, O.noIns, O.er, noInsL, erL, Bool.and_true, Bool.true_and, Option.some.injEq, exists_eq_left', exists_eq_left, true_and, and_true, Nat.reduceAdd, Nat.reduceSub, Nat.reduceLT, exists_and_left, exists_and_right, O.sh.injEq, D.int.injEq, D.bl.injEq, D.lst.injEq, List.cons.injEq, reduceCtorEq, exists_const, List.append_nil, List.singleton_append, and_self, exists_eq, exists_eq', Nat.lt_add_left_iff_pos, Nat.zero_lt_succ, wipeC, frzC, List.map_set, if_true, ite_true, Bool.false_eq_true, if_false, O.lst.injEq, O.dk.injEq, noInsL_sh, erL_sh, ngB_f, ngB_t, items_sh, items_lst, Nat.zero_add, Nat.reduceLeDiff, and_self, and_assoc]
    refine ⟨n, ls, rfl, rfl, hl, ok, m, ts, rfl, rfl, ht, ok2, divW (by omega) (by omega), by omega, ?_, n, ls, rfl, rfl, hl, ok, m, ts, rfl, rfl, ht, ok2, ?_⟩
    · have : m ≤ 12 / n := (Nat.le_div_iff_mul_le (by omega)).mpr (by rw [Nat.mul_comm]; exact hp)
      have e : ((12 : Int) / (n : Int)) = ((12 / n : Nat) : Int) := by simp
      rw [e]; omega
    refine ⟨mulW (by omega) (by omega), by rw [en]; omega, by rw [en]; omega, ?_⟩
    have e1 : ((n : Int) * (m : Int)).toNat = n * m := by rw [en]; exact Int.toNat_natCast _
    rw [e1]
    refine forV_at (fun k γ => ∃ x y nr fr, nr.noIns = true ∧ fr.noIns = true ∧ nr.er = .dk (tabR n fun j => siD (besS ls j)) ∧ fr.er = .dk (tabR m fun j => siD (besS ts j)) ∧
      γ = [some (itO n), some (.sh (lsD ls)), some (itO m), some (.sh (lsD ts)), some nr, some fr, some (.lst ((pTo ls ts m (n * m) k).map lnO)), x, y]) ?_ ?_ ⟨none, none, besO n ls, besO m ts, besO_no _ _, besO_no _ _, besO_er _ _, besO_er _ _, rfl⟩
    · rintro γ ⟨x, y, nr, fr, hn1, hf1, hn2, hf2, rfl⟩
      rw [rngO_len]
      simp only [itO, vSeq, vAsg, vEx, vRet, vRetN, vIf, vNil, vFor, oN, oMv, oC, oCall, oCons, oNil, kArg, kKey, baOf, bbOf, aName, aTup, aNames, oB, oNot, oOr, oAnd, oV, oAndV, oOrV, oNotV, o2, kI_int, kI0_int, kB0_int, kAdd_int, kQ_int, kQ_str, kInt_int, kMin2_int, kIsi_iff, kLen_iff, kSub_iff, kIn_iff, kRepr_iff, kList_iff, kInts_iff, kBls_iff, kSorted_iff, oLst, oTup, oIf, oChain, oNeg, oPeek, oPeekT, iLst, iRange1, iRange2, iEnumO, oYes, vLc, vDc, oSl, oRev, oStep, pNone, pSome, rng1, rng2, oLR, oTR, oApp, oPopAt, oCallB, xN, vPar, g0, List.map_cons, List.map_nil, List.length_cons, List.length_nil, List.replicate, List.cons_append, List.nil_append, List.getElem?_cons_zero, List.getElem?_cons_succ, List.set_cons_zero, List.set_cons_succ, O.noIns, O.er, noInsL, erL, Bool.and_true, Bool.true_and, Option.some.injEq, exists_eq_left', exists_eq_left, true_and, and_true, Nat.reduceAdd, Nat.reduceSub, Nat.reduceLT, exists_and_left, exists_and_right, O.sh.injEq, D.int.injEq, D.bl.injEq, D.lst.injEq, List.cons.injEq, reduceCtorEq, exists_const, List.append_nil, List.singleton_append, and_self, exists_eq, exists_eq', Nat.lt_add_left_iff_pos, Nat.zero_lt_succ, wipeC, frzC, List.map_set, if_true, ite_true, Bool.false_eq_true, if_false, O.lst.injEq, O.dk.injEq, noInsL_sh, erL_sh, ngB_f, ngB_t, items_sh, items_lst, Nat.zero_add, Nat.reduceLeDiff, and_self, and_assoc]
      rw [en]
      exact ⟨mulW (by omega) (by omega), h⟩
    · rintro a o γ ho ⟨x, y, nr, fr, hn1, hf1, hn2, hf2, rfl⟩ N hN
      obtain ⟨ha, rfl⟩ := rngA_get ho
      simp only [itO, Int.zero_add, vSeq, vAsg, vEx, vRet, vRetN, vIf, vNil, vFor, oN, oMv, oC, oCall, oCons, oNil, kArg, kKey, baOf, bbOf, aName, aTup, aNames, oB, oNot, oOr, oAnd, oV, oAndV, oOrV, oNotV, o2, kI_int, kI0_int, kB0_int, kAdd_int, kQ_int, kQ_str, kInt_int, kMin2_int, kIsi_iff, kLen_iff, kSub_iff, kIn_iff, kRepr_iff, kList_iff, kInts_iff, kBls_iff, kSorted_iff, oLst, oTup, oIf, oChain, oNeg, oPeek, oPeekT, iLst, iRange1, iRange2, iEnumO, oYes, vLc, vDc, oSl, oRev, oStep, pNone, pSome, rng1, rng2, oLR, oTR, oApp, oPopAt, oCallB, xN, vPar, g0, List.map_cons, List.map_nil, List.length_cons, List.length_nil, List.replicate, List.cons_append, List.nil_append, List.getElem?_cons_zero, List.getElem?_cons_succ, List.set_cons_zero, List.set_cons_succ, O.noIns, O.er, noInsL, erL, Bool.and_true, Bool.true_and, Option.some.injEq, exists_eq_left', exists_eq_left, true_and, and_true, Nat.reduceAdd, Nat.reduceSub, Nat.reduceLT, exists_and_left, exists_and_right, O.sh.injEq, D.int.injEq, D.bl.injEq, D.lst.injEq, List.cons.injEq, reduceCtorEq, exists_const, List.append_nil, List.singleton_append, and_self, exists_eq, exists_eq', Nat.lt_add_left_iff_pos, Nat.zero_lt_succ, wipeC, frzC, List.map_set, if_true, ite_true, Bool.false_eq_true, if_false, O.lst.injEq, O.dk.injEq, noInsL_sh, erL_sh, ngB_f, ngB_t, items_sh, items_lst, Nat.zero_add, Nat.reduceLeDiff, and_self, and_assoc]
      refine ⟨mulW (by omega) (by omega), by omega, by omega, by rw [en]; omega, by rw [en]; omega, ?_⟩
      have e2 : ((n : Int) * (m : Int) - ((a : Int) + 1)).toNat = n * m - (a + 1) := by rw [en]; omega
      rw [e2]
      have lp := pTo_len ls ts m (n * m) a
      have lp2 : a * (n * m) ≤ 144 := Nat.le_trans (Nat.mul_le_mul (show a ≤ 12 by omega) hp) (by decide)
      refine forV_at (fun i γ => ∃ y nr fr, nr.noIns = true ∧ fr.noIns = true ∧ nr.er = .dk (tabR n fun j => siD (besS ls j)) ∧ fr.er = .dk (tabR m fun j => siD (besS ts j)) ∧
        γ = [some (itO n), some (.sh (lsD ls)), some (itO m), some (.sh (lsD ts)), some nr, some fr, some (.lst ((pTo ls ts m (n * m) a ++ pRow ls ts m (n * m) a i).map lnO)), some (itO a), y]) ?_ ?_ ⟨y, nr, fr, hn1, hf1, hn2, hf2, by simp [pRow, itO]⟩
      · rintro γ ⟨y, nr, fr, hn1, hf1, hn2, hf2, rfl⟩
        rw [rngO_len, ← pTo_succ]
        exact hN _ ⟨_, _, nr, fr, hn1, hf1, hn2, hf2, rfl⟩
      · rintro i o γ hi ⟨y, nr, fr, hn1, hf1, hn2, hf2, rfl⟩ N' hN'
        obtain ⟨hi, rfl⟩ := rngA_get hi
        have eb : ((a : Int) + 1 + (i : Nat)) = ((a + 1 + i : Nat) : Int) := by omega
        rw [eb]
        have q1 : (((a + 1 + i : Nat) : Int) / (m : Int)) + 1 = (((a + 1 + i) / m + 1 : Nat) : Int) := by simp
        have q2 : (((a : Nat) : Int) / (m : Int)) + 1 = ((a / m + 1 : Nat) : Int) := by simp
        have q3 : (((a + 1 + i : Nat) : Int) % (m : Int)) + 1 = (((a + 1 + i) % m + 1 : Nat) : Int) := by simp
        have q4 : (((a : Nat) : Int) % (m : Int)) + 1 = ((a % m + 1 : Nat) : Int) := by simp
        have r2 : a / m + 1 ≤ n := by
          have : a / m < n := (Nat.div_lt_iff_lt_mul (by omega)).mpr ha
          exact this
        have r4 : a % m + 1 ≤ m := Nat.mod_lt a (show 0 < m by omega)
        have cm : CDivW ((a + 1 + i : Nat) : Int) (m : Int) := divW (by omega) (by omega)
        have cm2 : CDivW ((a : Nat) : Int) (m : Int) := divW (by omega) (by omega)
        have mp : (0 : Int) < (m : Int) := by omega
        simp only [itO, q1, q2, q3, q4, cm, cm2, mp, hn1, hf1, hn2, hf2, subD_tab (Nat.le_add_left 1 (a / m)) r2, subD_tab (Nat.le_add_left 1 (a % m)) r4, in_besS, vSeq, vAsg, vEx, vRet, vRetN, vIf, vNil, vFor, oN, oMv, oC, oCall, oCons, oNil, kArg, kKey, baOf, bbOf, aName, aTup, aNames, oB, oNot, oOr, oAnd, oV, oAndV, oOrV, oNotV, o2, kI_int, kI0_int, kB0_int, kAdd_int, kQ_int, kQ_str, kInt_int, kMin2_int, kIsi_iff, kLen_iff, kSub_iff, kIn_iff, kRepr_iff, kList_iff, kInts_iff, kBls_iff, kSorted_iff, oLst, oTup, oIf, oChain, oNeg, oPeek, oPeekT, iLst, iRange1, iRange2, iEnumO, oYes, vLc, vDc, oSl, oRev, oStep, pNone, pSome, rng1, rng2, oLR, oTR, oApp, oPopAt, oCallB, xN, vPar, g0, List.map_cons, List.map_nil, List.length_cons, List.length_nil, List.replicate, List.cons_append, List.nil_append, List.getElem?_cons_zero, List.getElem?_cons_succ, List.set_cons_zero, List.set_cons_succ, O.noIns, O.er, noInsL, erL, Bool.and_true, Bool.true_and, Option.some.injEq, exists_eq_left', exists_eq_left, true_and, and_true, Nat.reduceAdd, Nat.reduceSub, Nat.reduceLT, exists_and_left, exists_and_right, O.sh.injEq, D.int.injEq, D.bl.injEq, D.lst.injEq, List.cons.injEq, reduceCtorEq, exists_const, List.append_nil, List.singleton_append, and_self, exists_eq, exists_eq', Nat.lt_add_left_iff_pos, Nat.zero_lt_succ, wipeC, frzC, List.map_set, if_true, ite_true, Bool.false_eq_true, if_false, O.lst.injEq, O.dk.injEq, noInsL_sh, erL_sh, ngB_f, ngB_t, items_sh, items_lst, Nat.zero_add, Nat.reduceLeDiff, and_self, and_assoc]
        have pr := pRow_succ ls ts m (n * m) a i
        unfold pc at pr
        have lr := pRow_len ls ts m (n * m) a i
        have skip : ∀ nr' fr' : O, nr'.noIns = true → fr'.noIns = true → nr'.er = .dk (tabR n fun j => siD (besS ls j)) → fr'.er = .dk (tabR m fun j => siD (besS ts j)) → pRow ls ts m (n * m) a (i + 1) = pRow ls ts m (n * m) a i →
            N' [some (O.sh (.int (n : Nat))), some (.sh (lsD ls)), some (O.sh (.int (m : Nat))), some (.sh (lsD ts)), some nr', some fr', some (.lst ((pTo ls ts m (n * m) a ++ pRow ls ts m (n * m) a i).map lnO)), some (O.sh (.int (a : Nat))), some (O.sh (.int ((a + 1 + i : Nat) : Int)))] := by
          intro nr' fr' a1 a2 a3 a4 e
          refine hN' _ ⟨some (itO (a + 1 + i)), nr', fr', a1, a2, a3, a4, ?_⟩
          rw [e]; rfl
        by_cases c1 : (a + 1 + i) / m + 1 ∈ bes ls (a / m + 1)
        · by_cases c2 : (a + 1 + i) % m + 1 ∈ bes ts (a % m + 1)
          · simp only [c1, c2, decide_true, Bool.and_self, if_true] at pr
            simp only [c1, c2, decide_true, vSeq, vAsg, vEx, vRet, vRetN, vIf, vNil, vFor, oN, oMv, oC, oCall, oCons, oNil, kArg, kKey, baOf, bbOf, aName, aTup, aNames, oB, oNot, oOr, oAnd, oV, oAndV, oOrV, oNotV, o2, kI_int, kI0_int, kB0_int, kAdd_int, kQ_int, kQ_str, kInt_int, kMin2_int, kIsi_iff, kLen_iff, kSub_iff, kIn_iff, kRepr_iff, kList_iff, kInts_iff, kBls_iff, kSorted_iff, oLst, oTup, oIf, oChain, oNeg, oPeek, oPeekT, iLst, iRange1, iRange2, iEnumO, oYes, vLc, vDc, oSl, oRev, oStep, pNone, pSome, rng1, rng2, oLR, oTR, oApp, oPopAt, oCallB, xN, vPar, g0, List.map_cons, List.map_nil, List.length_cons, List.length_nil, List.replicate, List.cons_append, List.nil_append, List.getElem?_cons_zero, List.getElem?_cons_succ, List.set_cons_zero, List.set_cons_succ, O.noIns, O.er, noInsL, erL, Bool.and_true, Bool.true_and, Option.some.injEq, exists_eq_left', exists_eq_left, true_and, and_true, Nat.reduceAdd, Nat.reduceSub, Nat.reduceLT, exists_and_left, exists_and_right, O.sh.injEq, D.int.injEq, D.bl.injEq, D.lst.injEq, List.cons.injEq, reduceCtorEq, exists_const, List.append_nil, List.singleton_append, and_self, exists_eq, exists_eq', Nat.lt_add_left_iff_pos, Nat.zero_lt_succ, wipeC, frzC, List.map_set, if_true, ite_true, Bool.false_eq_true, if_false, O.lst.injEq, O.dk.injEq, noInsL_sh, erL_sh, ngB_f, ngB_t, items_sh, items_lst, Nat.zero_add, Nat.reduceLeDiff, and_self, and_assoc]
            refine ⟨by rw [List.length_map, List.length_append]; omega, ?_⟩
            refine hN' _ ⟨some (itO (a + 1 + i)), .sh (.dk (tabR n fun j => siD (besS ls j))), .sh (.dk (tabR m fun j => siD (besS ts j))), rfl, rfl, rfl, rfl, ?_⟩
            have z : (pTo ls ts m (n * m) a ++ (pRow ls ts m (n * m) a i ++ [(a + 1, a + 1 + i + 1)])).map lnO = (pTo ls ts m (n * m) a ++ pRow ls ts m (n * m) a i).map lnO ++ [lnO (a + 1, a + 1 + i + 1)] := by simp
            rw [pr, z]
            rfl
          · simp only [c1, c2, decide_true, decide_false, Bool.and_false, Bool.false_eq_true, if_false, List.append_nil] at pr
            simp only [c1, c2, decide_true, decide_false, vSeq, vAsg, vEx, vRet, vRetN, vIf, vNil, vFor, oN, oMv, oC, oCall, oCons, oNil, kArg, kKey, baOf, bbOf, aName, aTup, aNames, oB, oNot, oOr, oAnd, oV, oAndV, oOrV, oNotV, o2, kI_int, kI0_int, kB0_int, kAdd_int, kQ_int, kQ_str, kInt_int, kMin2_int, kIsi_iff, kLen_iff, kSub_iff, kIn_iff, kRepr_iff, kList_iff, kInts_iff, kBls_iff, kSorted_iff, oLst, oTup, oIf, oChain, oNeg, oPeek, oPeekT, iLst, iRange1, iRange2, iEnumO, oYes, vLc, vDc, oSl, oRev, oStep, pNone, pSome, rng1, rng2, oLR, oTR, oApp, oPopAt, oCallB, xN, vPar, g0, List.map_cons, List.map_nil, List.length_cons, List.length_nil, List.replicate, List.cons_append, List.nil_append, List.getElem?_cons_zero, List.getElem?_cons_succ, List.set_cons_zero, List.set_cons_succ, O.noIns, O.er, noInsL, erL, Bool.and_true, Bool.true_and, Option.some.injEq, exists_eq_left', exists_eq_left, true_and, and_true, Nat.reduceAdd, Nat.reduceSub, Nat.reduceLT, exists_and_left, exists_and_right, O.sh.injEq, D.int.injEq, D.bl.injEq, D.lst.injEq, List.cons.injEq, reduceCtorEq, exists_const, List.append_nil, List.singleton_append, and_self, exists_eq, exists_eq', Nat.lt_add_left_iff_pos, Nat.zero_lt_succ, wipeC, frzC, List.map_set, if_true, ite_true, Bool.false_eq_true, if_false, O.lst.injEq, O.dk.injEq, noInsL_sh, erL_sh, ngB_f, ngB_t, items_sh, items_lst, Nat.zero_add, Nat.reduceLeDiff, and_self, and_assoc]
            exact skip _ _ rfl rfl rfl rfl pr
        · simp only [c1, decide_false, Bool.false_and, Bool.false_eq_true, if_false, List.append_nil] at pr
          simp only [c1, decide_false, vSeq, vAsg, vEx, vRet, vRetN, vIf, vNil, vFor, oN, oMv, oC, oCall, oCons, oNil, kArg, kKey, baOf, bbOf, aName, aTup, aNames, oB, oNot, oOr, oAnd, oV, oAndV, oOrV, oNotV, o2, kI_int, kI0_int, kB0_int, kAdd_int, kQ_int, kQ_str, kInt_int, kMin2_int, kIsi_iff, kLen_iff, kSub_iff, kIn_iff, kRepr_iff, kList_iff, kInts_iff, kBls_iff, kSorted_iff, oLst, oTup, oIf, oChain, oNeg, oPeek, oPeekT, iLst, iRange1, iRange2, iEnumO, oYes, vLc, vDc, oSl, oRev, oStep, pNone, pSome, rng1, rng2, oLR, oTR, oApp, oPopAt, oCallB, xN, vPar, g0, List.map_cons, List.map_nil, List.length_cons, List.length_nil, List.replicate, List.cons_append, List.nil_append, List.getElem?_cons_zero, List.getElem?_cons_succ, List.set_cons_zero, List.set_cons_succ, O.noIns, O.er, noInsL, erL, Bool.and_true, Bool.true_and, Option.some.injEq, exists_eq_left', exists_eq_left, true_and, and_true, Nat.reduceAdd, Nat.reduceSub, Nat.reduceLT, exists_and_left, exists_and_right, O.sh.injEq, D.int.injEq, D.bl.injEq, D.lst.injEq, List.cons.injEq, reduceCtorEq, exists_const, List.append_nil, List.singleton_append, and_self, exists_eq, exists_eq', Nat.lt_add_left_iff_pos, Nat.zero_lt_succ, wipeC, frzC, List.map_set, if_true, ite_true, Bool.false_eq_true, if_false, O.lst.injEq, O.dk.injEq, noInsL_sh, erL_sh, ngB_f, ngB_t, items_sh, items_lst, Nat.zero_add, Nat.reduceLeDiff, and_self, and_assoc]
          exact skip _ _ rfl hf1 rfl hf2 pr
  · exact h.elim
end FN
end
section
namespace FN
open PySem PySem.Spec L2
open PyProof.Rows hiding St
theorem ixN_of {n k : Nat} (h : k < n) : ixN n ((k : Nat) : Int) = some k := by
  unfold ixN
  rw [if_pos (Int.natCast_nonneg k), if_pos (by exact_mod_cast h), Int.toNat_natCast]
theorem atI_of' {α : Type} {l : List α} {k : Nat} {x : α} (h : l[k]? = some x) : atI l ((k : Nat) : Int) = some x := by
  unfold atI
  rw [ixN_of (List.getElem?_eq_some_iff.mp h).1]
  exact h
theorem itO_no (k : Nat) : (itO k).noIns = true := rfl
theorem itO_sh (k : Nat) : O.sh (itO k).er = itO k := rfl
/-- nothing at 0, then 1 to n -/
def nrL {α : Type} (z : α) (n : Nat) (f : Nat → α) : List α := z :: (List.range n).map fun i => f (i + 1)
theorem nrL_get {α : Type} {z : α} {n k : Nat} {f : Nat → α} (h1 : 1 ≤ k) (h2 : k ≤ n) : (nrL z n f)[k]? = some (f k) := by
  unfold nrL
  obtain ⟨j, rfl⟩ : ∃ j, k = j + 1 := ⟨k - 1, by omega⟩
  rw [List.getElem?_cons_succ, List.getElem?_map, List.getElem?_range (by omega)]; rfl
theorem nrL_len {α : Type} {z : α} {n : Nat} {f : Nat → α} : (nrL z n f).length = n + 1 := by simp [nrL]
theorem nrL_set {α : Type} {z v : α} {n k : Nat} {f : Nat → α} (h1 : 1 ≤ k) (h2 : k ≤ n) : (nrL z n f).set k v = nrL z n fun j => if j = k then v else f j := by
  refine List.ext_getElem? fun i => ?_
  by_cases e : k = i
  · subst e
    rw [List.getElem?_set_self (by rw [nrL_len]; omega), nrL_get h1 h2, if_pos rfl]
  · rw [List.getElem?_set_ne e]
    cases i with
    | zero => rfl
    | succ i =>
      by_cases hi : i + 1 ≤ n
      · rw [nrL_get (by omega) hi, nrL_get (by omega) hi, if_neg (fun q => e q.symm)]
      · rw [List.getElem?_eq_none (by rw [nrL_len]; omega), List.getElem?_eq_none (by rw [nrL_len]; omega)]
theorem getO_nr {z : O} {n k : Nat} {f : Nat → O} (h1 : 1 ≤ k) (h2 : k ≤ n) : getO (.lst (nrL z n f)) (itD k) = some (f k) := atI_of' (nrL_get h1 h2)
theorem setO_nr {z v : O} {n k : Nat} {f : Nat → O} (h1 : 1 ≤ k) (h2 : k ≤ n) : setO (.lst (nrL z n f)) (itD k) v = .lst (nrL z n fun j => if j = k then v else f j) := by
  show (match ixN (nrL z n f).length ((k : Nat) : Int) with | some j => O.lst ((nrL z n f).set j v) | none => _) = _
  rw [ixN_of (by rw [nrL_len]; omega)]
  simp only []
  rw [nrL_set h1 h2]
theorem subD_nr {z : D} {n k : Nat} {f : Nat → D} (h1 : 1 ≤ k) (h2 : k ≤ n) : subD (.lst (nrL z n f)) (.int ((k : Nat) : Int)) = some (f k) := atI_of' (nrL_get h1 h2)
theorem bes_few (ls : List (Nat × Nat)) (hl : ls.length ≤ 1000) (k j : Nat) : (bes (ls.take k) j).length ≤ 3000 := by
  unfold bes
  rw [List.length_cons, List.length_flatMap]
  have : ∀ l : List (Nat × Nat), (l.map fun p => (oth j p).length).sum ≤ 2 * l.length := fun l => by
    induction l with
    | nil => simp
    | cons p l ih =>
      rw [List.map_cons, List.sum_cons, List.length_cons]
      have : (oth j p).length ≤ 2 := by unfold oth; split <;> split <;> simp
      omega
  have h1 := this (ls.take k)
  have h2 : (ls.take k).length ≤ 1000 := by rw [List.length_take]; omega
  omega
/-- a line's places are joined to one another's lists -/
theorem bes_step (ls : List (Nat × Nat)) (k : Nat) (hk : k < ls.length) (hne : ls[k].1 ≠ ls[k].2) (j : Nat) :
    (if j = ls[k].2 then O.lst ((bes (ls.take k) ls[k].2).map itO ++ [itO ls[k].1]) else if j = ls[k].1 then O.lst ((bes (ls.take k) ls[k].1).map itO ++ [itO ls[k].2]) else O.lst ((bes (ls.take k) j).map itO)) = O.lst ((bes (ls.take (k + 1)) j).map itO) := by
  rw [bes_take ls j k hk, List.map_append]
  unfold oth
  by_cases e : j = ls[k].2
  · subst e
    rw [if_pos rfl, if_neg hne, if_pos rfl]; rfl
  · rw [if_neg e, if_neg (show ¬ ls[k].2 = j from fun z => e z.symm)]
    by_cases e2 : j = ls[k].1
    · subst e2
      rw [if_pos rfl, if_pos rfl]; rfl
    · rw [if_neg e2, if_neg (show ¬ ls[k].1 = j from fun z => e2 z.symm)]; simp
def nearO (n : Nat) (ls : List (Nat × Nat)) : O := .lst (nrL (.lst []) n fun j => .lst ((bes ls j).map itO))
def F_law_near : DA
  | [.int n, d], K => ∃ (m : Nat) (ls : List (Nat × Nat)), d = lsD ls ∧ n = (m : Nat) ∧ ls.length ≤ 1000 ∧ NetOk m ls ∧ K (nearO m ls)
  | _, _ => False
theorem q_law_near (ds : List D) (Q : O → Prop) (_ : ds.length = 2) (h : F_law_near ds Q) : r_law_near { nx := fun _ => Q (.sh .non), rt := fun o _ => Q o } (g0 nn_law_near (ds.map O.sh)) := by
  unfold F_law_near at h
  split at h
  · obtain ⟨m, ls, rfl, rfl, hl, ok, h⟩ := h
    have hm := ok.hi
    simp only [r_law_near, nn_law_near, lsD, vSeq, vAsg, vEx, vRet, vRetN, vIf, vNil, vFor, oN, oMv, oC, oCall, oCons, oNil, kArg, kKey, baOf, bbOf, aName, aTup, aNames, oB, oNot, oOr, oAnd, oV, oAndV, oOrV, oNotV, o2, kI_int, kI0_int, kB0_int, kAdd_int, kQ_int, kQ_str, kInt_int, kMin2_int, kIsi_iff, kLen_iff, kSub_iff, kIn_iff, kRepr_iff, kList_iff, kInts_iff, kBls_iff, kSorted_iff, oLst, oTup, oIf, oChain, oNeg, oPeek, oPeekT, iLst, iRange1, iRange2, iEnumO, oYes, vLc, vDc, oSl, oRev, oStep, pNone, pSome, rng1, rng2, oLR, oTR, oApp, oPopAt, oCallB, xN, vPar, g0, List.map_cons, List.map_nil, List.length_cons, List.length_nil, List.replicate, List.cons_append, List.nil_append, List.getElem?_cons_zero, List.getElem?_cons_succ, List.set_cons_zero, List.set_cons_succ, O.noIns, O.er, noInsL, erL, Bool.and_true, Bool.true_and, Option.some.injEq, exists_eq_left', exists_eq_left, true_and, and_true, Nat.reduceAdd, Nat.reduceSub, Nat.reduceLT, exists_and_left, exists_and_right, O.sh.injEq, D.int.injEq, D.bl.injEq, D.lst.injEq, List.cons.injEq, reduceCtorEq, exists_const, List.append_nil, List.singleton_append, and_self, exists_eq, exists_eq', Nat.lt_add_left_iff_pos, Nat.zero_lt_succ, wipeC, frzC, List.map_set, if_true, ite_true, Bool.false_eq_true, if_false, O.lst.injEq, O.dk.injEq, noInsL_sh, erL_sh, ngB_f, ngB_t, items_sh, items_lst, Nat.zero_add, Nat.reduceLeDiff, and_self, and_assoc]
    refine ⟨by omega, by omega, by omega, by omega, by rw [rngO_len]; omega, ?_⟩
    have em : ((m : Int) + 1 - 1).toNat = m := by omega
    rw [em]
    refine compV_at (fun k acc γ => acc = (List.range k).map (fun i => .lst [itO (i + 1)]) ∧ γ = [some (itO m), some (.sh (.lst (ls.map lnD))), none, none, none, none]) ?_ ?_ ⟨rfl, rfl⟩
    · rintro acc γ ⟨rfl, rfl⟩
      rw [rngO_len]
      refine kAdd_lst rfl rfl (by simp; omega) ?_
      simp only [vSeq, vAsg, vEx, vRet, vRetN, vIf, vNil, vFor, oN, oMv, oC, oCall, oCons, oNil, kArg, kKey, baOf, bbOf, aName, aTup, aNames, oB, oNot, oOr, oAnd, oV, oAndV, oOrV, oNotV, o2, kI_int, kI0_int, kB0_int, kAdd_int, kQ_int, kQ_str, kInt_int, kMin2_int, kIsi_iff, kLen_iff, kSub_iff, kIn_iff, kRepr_iff, kList_iff, kInts_iff, kBls_iff, kSorted_iff, oLst, oTup, oIf, oChain, oNeg, oPeek, oPeekT, iLst, iRange1, iRange2, iEnumO, oYes, vLc, vDc, oSl, oRev, oStep, pNone, pSome, rng1, rng2, oLR, oTR, oApp, oPopAt, oCallB, xN, vPar, g0, List.map_cons, List.map_nil, List.length_cons, List.length_nil, List.replicate, List.cons_append, List.nil_append, List.getElem?_cons_zero, List.getElem?_cons_succ, List.set_cons_zero, List.set_cons_succ, O.noIns, O.er, noInsL, erL, Bool.and_true, Bool.true_and, Option.some.injEq, exists_eq_left', exists_eq_left, true_and, and_true, Nat.reduceAdd, Nat.reduceSub, Nat.reduceLT, exists_and_left, exists_and_right, O.sh.injEq, D.int.injEq, D.bl.injEq, D.lst.injEq, List.cons.injEq, reduceCtorEq, exists_const, List.append_nil, List.singleton_append, and_self, exists_eq, exists_eq', Nat.lt_add_left_iff_pos, Nat.zero_lt_succ, wipeC, frzC, List.map_set, if_true, ite_true, Bool.false_eq_true, if_false, O.lst.injEq, O.dk.injEq, noInsL_sh, erL_sh, ngB_f, ngB_t, items_sh, items_lst, Nat.zero_add, Nat.reduceLeDiff, and_self, and_assoc]
      refine forV_at (fun k γ => ∃ x y, γ = [some (itO m), some (.sh (.lst (ls.map lnD))), some (nearO m (ls.take k)), x, y, none]) ?_ ?_ ⟨none, none, rfl⟩
      · rintro γ ⟨x, y, rfl⟩
        rw [List.length_map, List.length_map, List.take_length]
        simp only [vSeq, vAsg, vEx, vRet, vRetN, vIf, vNil, vFor, oN, oMv, oC, oCall, oCons, oNil, kArg, kKey, baOf, bbOf, aName, aTup, aNames, oB, oNot, oOr, oAnd, oV, oAndV, oOrV, oNotV, o2, kI_int, kI0_int, kB0_int, kAdd_int, kQ_int, kQ_str, kInt_int, kMin2_int, kIsi_iff, kLen_iff, kSub_iff, kIn_iff, kRepr_iff, kList_iff, kInts_iff, kBls_iff, kSorted_iff, oLst, oTup, oIf, oChain, oNeg, oPeek, oPeekT, iLst, iRange1, iRange2, iEnumO, oYes, vLc, vDc, oSl, oRev, oStep, pNone, pSome, rng1, rng2, oLR, oTR, oApp, oPopAt, oCallB, xN, vPar, g0, List.map_cons, List.map_nil, List.length_cons, List.length_nil, List.replicate, List.cons_append, List.nil_append, List.getElem?_cons_zero, List.getElem?_cons_succ, List.set_cons_zero, List.set_cons_succ, O.noIns, O.er, noInsL, erL, Bool.and_true, Bool.true_and, Option.some.injEq, exists_eq_left', exists_eq_left, true_and, and_true, Nat.reduceAdd, Nat.reduceSub, Nat.reduceLT, exists_and_left, exists_and_right, O.sh.injEq, D.int.injEq, D.bl.injEq, D.lst.injEq, List.cons.injEq, reduceCtorEq, exists_const, List.append_nil, List.singleton_append, and_self, exists_eq, exists_eq', Nat.lt_add_left_iff_pos, Nat.zero_lt_succ, wipeC, frzC, List.map_set, if_true, ite_true, Bool.false_eq_true, if_false, O.lst.injEq, O.dk.injEq, noInsL_sh, erL_sh, ngB_f, ngB_t, items_sh, items_lst, Nat.zero_add, Nat.reduceLeDiff, and_self, and_assoc]
        exact h
      · rintro k o γ ho ⟨x, y, rfl⟩ N hN
        rw [List.getElem?_map, List.getElem?_map] at ho
        obtain ⟨d, hd, rfl⟩ := Option.map_eq_some_iff.mp ho
        obtain ⟨p, hp, rfl⟩ := Option.map_eq_some_iff.mp hd
        obtain ⟨hk, rfl⟩ := List.getElem?_eq_some_iff.mp hp
        obtain ⟨a1, a2, a3, a4, a5⟩ := ok.ok _ (List.getElem_mem hk)
        refine ⟨[itO ls[k].1, itO ls[k].2], rfl, rfl, ?_⟩
        simp only [vSeq, vAsg, vEx, vRet, vRetN, vIf, vNil, vFor, oN, oMv, oC, oCall, oCons, oNil, kArg, kKey, baOf, bbOf, aName, aTup, aNames, oB, oNot, oOr, oAnd, oV, oAndV, oOrV, oNotV, o2, kI_int, kI0_int, kB0_int, kAdd_int, kQ_int, kQ_str, kInt_int, kMin2_int, kIsi_iff, kLen_iff, kSub_iff, kIn_iff, kRepr_iff, kList_iff, kInts_iff, kBls_iff, kSorted_iff, oLst, oTup, oIf, oChain, oNeg, oPeek, oPeekT, iLst, iRange1, iRange2, iEnumO, oYes, vLc, vDc, oSl, oRev, oStep, pNone, pSome, rng1, rng2, oLR, oTR, oApp, oPopAt, oCallB, xN, vPar, g0, List.map_cons, List.map_nil, List.length_cons, List.length_nil, List.replicate, List.cons_append, List.nil_append, List.getElem?_cons_zero, List.getElem?_cons_succ, List.set_cons_zero, List.set_cons_succ, O.noIns, O.er, noInsL, erL, Bool.and_true, Bool.true_and, Option.some.injEq, exists_eq_left', exists_eq_left, true_and, and_true, Nat.reduceAdd, Nat.reduceSub, Nat.reduceLT, exists_and_left, exists_and_right, O.sh.injEq, D.int.injEq, D.bl.injEq, D.lst.injEq, List.cons.injEq, reduceCtorEq, exists_const, List.append_nil, List.singleton_append, and_self, exists_eq, exists_eq', Nat.lt_add_left_iff_pos, Nat.zero_lt_succ, wipeC, frzC, List.map_set, if_true, ite_true, Bool.false_eq_true, if_false, O.lst.injEq, O.dk.injEq, noInsL_sh, erL_sh, ngB_f, ngB_t, items_sh, items_lst, Nat.zero_add, Nat.reduceLeDiff, and_self, and_assoc]
        refine oAppL1 (itD ls[k].1) _ _ rfl rfl (getO_nr a1 a2) ?_
        simp only [itO_no, itO_sh, vSeq, vAsg, vEx, vRet, vRetN, vIf, vNil, vFor, oN, oMv, oC, oCall, oCons, oNil, kArg, kKey, baOf, bbOf, aName, aTup, aNames, oB, oNot, oOr, oAnd, oV, oAndV, oOrV, oNotV, o2, kI_int, kI0_int, kB0_int, kAdd_int, kQ_int, kQ_str, kInt_int, kMin2_int, kIsi_iff, kLen_iff, kSub_iff, kIn_iff, kRepr_iff, kList_iff, kInts_iff, kBls_iff, kSorted_iff, oLst, oTup, oIf, oChain, oNeg, oPeek, oPeekT, iLst, iRange1, iRange2, iEnumO, oYes, vLc, vDc, oSl, oRev, oStep, pNone, pSome, rng1, rng2, oLR, oTR, oApp, oPopAt, oCallB, xN, vPar, g0, List.map_cons, List.map_nil, List.length_cons, List.length_nil, List.replicate, List.cons_append, List.nil_append, List.getElem?_cons_zero, List.getElem?_cons_succ, List.set_cons_zero, List.set_cons_succ, O.noIns, O.er, noInsL, erL, Bool.and_true, Bool.true_and, Option.some.injEq, exists_eq_left', exists_eq_left, true_and, and_true, Nat.reduceAdd, Nat.reduceSub, Nat.reduceLT, exists_and_left, exists_and_right, O.sh.injEq, D.int.injEq, D.bl.injEq, D.lst.injEq, List.cons.injEq, reduceCtorEq, exists_const, List.append_nil, List.singleton_append, and_self, exists_eq, exists_eq', Nat.lt_add_left_iff_pos, Nat.zero_lt_succ, wipeC, frzC, List.map_set, if_true, ite_true, Bool.false_eq_true, if_false, O.lst.injEq, O.dk.injEq, noInsL_sh, erL_sh, ngB_f, ngB_t, items_sh, items_lst, Nat.zero_add, Nat.reduceLeDiff, and_self, and_assoc]
        refine ⟨by rw [List.length_map]; have := bes_few ls hl k ls[k].1; omega, ?_⟩
        rw [show setO (nearO m (ls.take k)) (itD ls[k].1) (.lst ((bes (ls.take k) ls[k].1).map itO ++ [itO ls[k].2])) = .lst (nrL (.lst []) m fun j => if j = ls[k].1 then .lst ((bes (ls.take k) ls[k].1).map itO ++ [itO ls[k].2]) else .lst ((bes (ls.take k) j).map itO)) from setO_nr a1 a2]
        refine oAppL1 (itD ls[k].2) _ ((bes (ls.take k) ls[k].2).map itO) rfl rfl ((getO_nr a3 a4).trans (by rw [if_neg (fun e => a5 e.symm)])) ?_
        simp only [itO_no, itO_sh, vSeq, vAsg, vEx, vRet, vRetN, vIf, vNil, vFor, oN, oMv, oC, oCall, oCons, oNil, kArg, kKey, baOf, bbOf, aName, aTup, aNames, oB, oNot, oOr, oAnd, oV, oAndV, oOrV, oNotV, o2, kI_int, kI0_int, kB0_int, kAdd_int, kQ_int, kQ_str, kInt_int, kMin2_int, kIsi_iff, kLen_iff, kSub_iff, kIn_iff, kRepr_iff, kList_iff, kInts_iff, kBls_iff, kSorted_iff, oLst, oTup, oIf, oChain, oNeg, oPeek, oPeekT, iLst, iRange1, iRange2, iEnumO, oYes, vLc, vDc, oSl, oRev, oStep, pNone, pSome, rng1, rng2, oLR, oTR, oApp, oPopAt, oCallB, xN, vPar, g0, List.map_cons, List.map_nil, List.length_cons, List.length_nil, List.replicate, List.cons_append, List.nil_append, List.getElem?_cons_zero, List.getElem?_cons_succ, List.set_cons_zero, List.set_cons_succ, O.noIns, O.er, noInsL, erL, Bool.and_true, Bool.true_and, Option.some.injEq, exists_eq_left', exists_eq_left, true_and, and_true, Nat.reduceAdd, Nat.reduceSub, Nat.reduceLT, exists_and_left, exists_and_right, O.sh.injEq, D.int.injEq, D.bl.injEq, D.lst.injEq, List.cons.injEq, reduceCtorEq, exists_const, List.append_nil, List.singleton_append, and_self, exists_eq, exists_eq', Nat.lt_add_left_iff_pos, Nat.zero_lt_succ, wipeC, frzC, List.map_set, if_true, ite_true, Bool.false_eq_true, if_false, O.lst.injEq, O.dk.injEq, noInsL_sh, erL_sh, ngB_f, ngB_t, items_sh, items_lst, Nat.zero_add, Nat.reduceLeDiff, and_self, and_assoc]
        refine ⟨by rw [List.length_map]; have := bes_few ls hl k ls[k].2; omega, ?_⟩
        rw [show setO (.lst (nrL (.lst []) m fun j => if j = ls[k].1 then .lst ((bes (ls.take k) ls[k].1).map itO ++ [itO ls[k].2]) else .lst ((bes (ls.take k) j).map itO))) (itD ls[k].2) (.lst ((bes (ls.take k) ls[k].2).map itO ++ [itO ls[k].1])) =
          nearO m (ls.take (k + 1)) from (setO_nr a3 a4).trans (by unfold nearO; congr 2; funext j; exact bes_step ls k hk a5 j)]
        exact hN _ ⟨_, _, rfl⟩
    · rintro k o acc γ ho ⟨rfl, rfl⟩ N hN
      obtain ⟨hk, rfl⟩ := rng1_get ho
      simp only [itO, vSeq, vAsg, vEx, vRet, vRetN, vIf, vNil, vFor, oN, oMv, oC, oCall, oCons, oNil, kArg, kKey, baOf, bbOf, aName, aTup, aNames, oB, oNot, oOr, oAnd, oV, oAndV, oOrV, oNotV, o2, kI_int, kI0_int, kB0_int, kAdd_int, kQ_int, kQ_str, kInt_int, kMin2_int, kIsi_iff, kLen_iff, kSub_iff, kIn_iff, kRepr_iff, kList_iff, kInts_iff, kBls_iff, kSorted_iff, oLst, oTup, oIf, oChain, oNeg, oPeek, oPeekT, iLst, iRange1, iRange2, iEnumO, oYes, vLc, vDc, oSl, oRev, oStep, pNone, pSome, rng1, rng2, oLR, oTR, oApp, oPopAt, oCallB, xN, vPar, g0, List.map_cons, List.map_nil, List.length_cons, List.length_nil, List.replicate, List.cons_append, List.nil_append, List.getElem?_cons_zero, List.getElem?_cons_succ, List.set_cons_zero, List.set_cons_succ, O.noIns, O.er, noInsL, erL, Bool.and_true, Bool.true_and, Option.some.injEq, exists_eq_left', exists_eq_left, true_and, and_true, Nat.reduceAdd, Nat.reduceSub, Nat.reduceLT, exists_and_left, exists_and_right, O.sh.injEq, D.int.injEq, D.bl.injEq, D.lst.injEq, List.cons.injEq, reduceCtorEq, exists_const, List.append_nil, List.singleton_append, and_self, exists_eq, exists_eq', Nat.lt_add_left_iff_pos, Nat.zero_lt_succ, wipeC, frzC, List.map_set, if_true, ite_true, Bool.false_eq_true, if_false, O.lst.injEq, O.dk.injEq, noInsL_sh, erL_sh, ngB_f, ngB_t, items_sh, items_lst, Nat.zero_add, Nat.reduceLeDiff, and_self, and_assoc]
      refine hN _ _ ⟨?_, rfl⟩
      rw [List.range_succ, List.map_append]; rfl
  · exact h.elim
end FN
end
section
namespace FN
open PySem PySem.Spec L2
open PyProof.Rows hiding St
theorem lnD_R {p : Nat × Nat} (h : p.1 < 1000 ∧ p.2 < 1000) : (lnD p).R 1 20 :=
  (R_lst (RS_cons (R_int (i := (p.1 : Nat)) (by omega)) (RS_cons (R_int (i := (p.2 : Nat)) (by omega)) RS_nil))).more (by omega) (by omega)
theorem lsD_R {ls : List (Nat × Nat)} (h : ∀ p ∈ ls, p.1 < 1000 ∧ p.2 < 1000) (hl : ls.length ≤ 1000) : (lsD ls).R 2 22002 :=
  (R_lst (RS_map (f := lnD) (h := 1) (w := 20) fun p hp => lnD_R (h p hp))).more (by omega) (by omega)
theorem NetOk.small {n : Nat} {ls : List (Nat × Nat)} (ok : NetOk n ls) : ∀ p ∈ ls, p.1 < 1000 ∧ p.2 < 1000 := fun p hp => by
  obtain ⟨h1, h2, h3, h4, h5⟩ := ok.ok p hp
  have := ok.hi
  omega
theorem siD_R {l : List Int} (h : ∀ i ∈ l, i.natAbs < 1000000) (hl : l.length ≤ 1000) : (siD l).R 1 9002 :=
  (R_lst (RS_map (f := D.int) (h := 0) (w := 7) fun i hi => R_int (h i hi))).more (by omega) (by omega)
theorem besS_len (ls : List (Nat × Nat)) (j : Nat) : (besS ls j).length = (bes ls j).length := by
  unfold besS
  rw [(srtI_perm _).length_eq, List.length_map]
theorem besS_R {n : Nat} {ls : List (Nat × Nat)} (ok : NetOk n ls) {j : Nat} (hj : 1 ≤ j ∧ j ≤ n) : (siD (besS ls j)).R 1 9002 := by
  refine siD_R (fun i hi => ?_) (by rw [besS_len]; have := ok.few hj; omega)
  unfold besS at hi
  rw [srtI_mem, List.mem_map] at hi
  obtain ⟨x, hx, rfl⟩ := hi
  have := (ok.beside hj).2 x hx
  have := ok.hi
  omega
def nearD (n : Nat) (ls : List (Nat × Nat)) : D := .lst (nrL (.lst []) n fun j => .lst ((bes ls j).map itD))
theorem erL_eq : ∀ l : List O, erL l = l.map O.er
  | [] => rfl
  | o :: l => by unfold erL; rw [erL_eq l]; rfl
theorem noInsL_iff : ∀ {l : List O}, noInsL l = true ↔ ∀ o ∈ l, o.noIns = true
  | [] => by unfold noInsL; simp
  | o :: l => by unfold noInsL; rw [Bool.and_eq_true, noInsL_iff, List.forall_mem_cons]
theorem nearO_er (n : Nat) (ls : List (Nat × Nat)) : (nearO n ls).er = nearD n ls := by
  unfold nearO nearD O.er
  rw [erL_eq]
  unfold nrL
  rw [List.map_cons, List.map_map]
  congr 2
  refine List.map_congr_left fun i _ => ?_
  show (O.lst ((bes ls (i + 1)).map itO)).er = _
  unfold O.er
  rw [map_er_it]
theorem nearO_no (n : Nat) (ls : List (Nat × Nat)) : (nearO n ls).noIns = true := by
  unfold nearO O.noIns
  refine noInsL_iff.mpr fun o ho => ?_
  rcases List.mem_cons.mp ho with rfl | ho
  · rfl
  · obtain ⟨i, _, rfl⟩ := List.mem_map.mp ho
    unfold O.noIns
    exact noIns_it _
theorem noInsL_si (l : List Int) : noInsL (l.map fun i => O.sh (.int i)) = true := by have := siO_no l; unfold siO O.noIns at this; exact this
theorem erL_si (l : List Int) : erL (l.map fun i => O.sh (.int i)) = l.map D.int := by have := siO_er l; unfold siO siD O.er at this; exact D.lst.inj this
theorem picks3 {α : Type} {a b c : α} : picks [2, 1, 0] [a, b, c] = [c, b, a] := rfl
theorem picks4 {α : Type} {a b c d : α} : picks [3, 2, 1, 0] [a, b, c, d] = [d, c, b, a] := rfl
def F_law_right : DA
  | [.int n, d], K => ∃ (m : Nat) (ls : List (Nat × Nat)), d = lsD ls ∧ n = (m : Nat) ∧ ls.length ≤ 1000 ∧ NetOk m ls ∧ K (.sh (.bl true))
  | _, _ => False
theorem q_law_right (ds : List D) (Q : O → Prop) (_ : ds.length = 2) (h : F_law_right ds Q) : r_law_right F_law_near F_beside { nx := fun _ => Q (.sh .non), rt := fun o _ => Q o } (g0 nn_law_right (ds.map O.sh)) := by
  unfold F_law_right at h
  split at h
  · obtain ⟨m, ls, rfl, rfl, hl, ok, h⟩ := h
    have hm := ok.hi
    have rl : (lsD ls).rpr = true := (lsD_R ok.small hl).rpr rfl (by omega) (by omega)
    simp only [r_law_right, nn_law_right, F_law_near, rl, vSeq, vAsg, vEx, vRet, vRetN, vIf, vNil, vFor, oN, oMv, oC, oCall, oCons, oNil, kArg, kKey, baOf, bbOf, aName, aTup, aNames, oB, oNot, oOr, oAnd, oV, oAndV, oOrV, oNotV, o2, kI_int, kI0_int, kB0_int, kAdd_int, kQ_int, kQ_str, kInt_int, kMin2_int, kIsi_iff, kLen_iff, kSub_iff, kIn_iff, kRepr_iff, kList_iff, kInts_iff, kBls_iff, kSorted_iff, oLst, oTup, oIf, oChain, oNeg, oPeek, oPeekT, iLst, iRange1, iRange2, iEnumO, oYes, vLc, vDc, oSl, oRev, oStep, pNone, pSome, rng1, rng2, oLR, oTR, oApp, oPopAt, oCallB, xN, vPar, g0, List.map_cons, List.map_nil, List.length_cons, List.length_nil, List.replicate, List.cons_append, List.nil_append, List.getElem?_cons_zero, List.getElem?_cons_succ, List.set_cons_zero, List.set_cons_succ, O.noIns, O.er, noInsL, erL, Bool.and_true, Bool.true_and, Option.some.injEq, exists_eq_left', exists_eq_left, true_and, and_true, Nat.reduceAdd, Nat.reduceSub, Nat.reduceLT, exists_and_left, exists_and_right, O.sh.injEq, D.int.injEq, D.bl.injEq, D.lst.injEq, List.cons.injEq, reduceCtorEq, exists_const, List.append_nil, List.singleton_append, and_self, exists_eq, exists_eq', Nat.lt_add_left_iff_pos, Nat.zero_lt_succ, wipeC, frzC, List.map_set, if_true, ite_true, Bool.false_eq_true, if_false, O.lst.injEq, O.dk.injEq, noInsL_sh, erL_sh, ngB_f, ngB_t, items_sh, items_lst, Nat.zero_add, Nat.reduceLeDiff, and_self, and_assoc]
    refine ⟨m, ls, rfl, rfl, hl, ok, by omega, by omega, by omega, by omega, ?_⟩
    have em : ((m : Int) + 1 - 1).toNat = m := by omega
    rw [em]
    refine forV_at (fun k γ => ∃ nr x y z, nr.noIns = true ∧ nr.er = nearD m ls ∧ γ = [some (itO m), some (.sh (lsD ls)), some (.sh (.str (lsD ls).toP.shown)), some nr, x, y, z]) ?_ ?_ ⟨nearO m ls, none, none, none, nearO_no _ _, nearO_er _ _, rfl⟩
    · rintro γ ⟨nr, x, y, z, _, _, rfl⟩
      simp only [vSeq, vAsg, vEx, vRet, vRetN, vIf, vNil, vFor, oN, oMv, oC, oCall, oCons, oNil, kArg, kKey, baOf, bbOf, aName, aTup, aNames, oB, oNot, oOr, oAnd, oV, oAndV, oOrV, oNotV, o2, kI_int, kI0_int, kB0_int, kAdd_int, kQ_int, kQ_str, kInt_int, kMin2_int, kIsi_iff, kLen_iff, kSub_iff, kIn_iff, kRepr_iff, kList_iff, kInts_iff, kBls_iff, kSorted_iff, oLst, oTup, oIf, oChain, oNeg, oPeek, oPeekT, iLst, iRange1, iRange2, iEnumO, oYes, vLc, vDc, oSl, oRev, oStep, pNone, pSome, rng1, rng2, oLR, oTR, oApp, oPopAt, oCallB, xN, vPar, g0, List.map_cons, List.map_nil, List.length_cons, List.length_nil, List.replicate, List.cons_append, List.nil_append, List.getElem?_cons_zero, List.getElem?_cons_succ, List.set_cons_zero, List.set_cons_succ, O.noIns, O.er, noInsL, erL, Bool.and_true, Bool.true_and, Option.some.injEq, exists_eq_left', exists_eq_left, true_and, and_true, Nat.reduceAdd, Nat.reduceSub, Nat.reduceLT, exists_and_left, exists_and_right, O.sh.injEq, D.int.injEq, D.bl.injEq, D.lst.injEq, List.cons.injEq, reduceCtorEq, exists_const, List.append_nil, List.singleton_append, and_self, exists_eq, exists_eq', Nat.lt_add_left_iff_pos, Nat.zero_lt_succ, wipeC, frzC, List.map_set, if_true, ite_true, Bool.false_eq_true, if_false, O.lst.injEq, O.dk.injEq, noInsL_sh, erL_sh, ngB_f, ngB_t, items_sh, items_lst, Nat.zero_add, Nat.reduceLeDiff, and_self, and_assoc]
      exact h
    · rintro k o γ ho ⟨nr, x, y, z, hn1, hn2, rfl⟩ N hN
      obtain ⟨hk, rfl⟩ := rng1_get ho
      have k1 : 1 ≤ k + 1 := by omega
      have k2 : k + 1 ≤ m := by omega
      have s1 : subD (nearD m ls) (.int ((k + 1 : Nat) : Int)) = some (.lst ((bes ls (k + 1)).map itD)) := subD_nr k1 k2
      have rb := besS_R ok ⟨k1, k2⟩
      have r2 : (D.lst [siD (besS ls (k + 1)), siD (besS ls (k + 1))]).rpr = true := (R_lst (RS_cons rb (RS_cons rb RS_nil))).rpr rfl (by decide) (by decide)
      have r1 : (siD (besS ls (k + 1))).rpr = true := rb.rpr rfl (by decide) (by decide)
      have ei : (bes ls (k + 1)).map itD = ((bes ls (k + 1)).map fun x : Nat => (x : Int)).map D.int := by rw [List.map_map]; rfl
      have fb : ∀ K : O → Prop, K (siO (besS ls (k + 1))) → F_beside [.int (m : Nat), lsD ls, .int ((k + 1 : Nat) : Int)] K := fun K hK => ⟨m, k + 1, ls, rfl, rfl, rfl, hl, ok, k1, k2, hK⟩
      simp only [itO, hn1, hn2, s1, picks3, vSeq, vAsg, vEx, vRet, vRetN, vIf, vNil, vFor, oN, oMv, oC, oCall, oCons, oNil, kArg, kKey, baOf, bbOf, aName, aTup, aNames, oB, oNot, oOr, oAnd, oV, oAndV, oOrV, oNotV, o2, kI_int, kI0_int, kB0_int, kAdd_int, kQ_int, kQ_str, kInt_int, kMin2_int, kIsi_iff, kLen_iff, kSub_iff, kIn_iff, kRepr_iff, kList_iff, kInts_iff, kBls_iff, kSorted_iff, oLst, oTup, oIf, oChain, oNeg, oPeek, oPeekT, iLst, iRange1, iRange2, iEnumO, oYes, vLc, vDc, oSl, oRev, oStep, pNone, pSome, rng1, rng2, oLR, oTR, oApp, oPopAt, oCallB, xN, vPar, g0, List.map_cons, List.map_nil, List.length_cons, List.length_nil, List.replicate, List.cons_append, List.nil_append, List.getElem?_cons_zero, List.getElem?_cons_succ, List.set_cons_zero, List.set_cons_succ, O.noIns, O.er, noInsL, erL, Bool.and_true, Bool.true_and, Option.some.injEq, exists_eq_left', exists_eq_left, true_and, and_true, Nat.reduceAdd, Nat.reduceSub, Nat.reduceLT, exists_and_left, exists_and_right, O.sh.injEq, D.int.injEq, D.bl.injEq, D.lst.injEq, List.cons.injEq, reduceCtorEq, exists_const, List.append_nil, List.singleton_append, and_self, exists_eq, exists_eq', Nat.lt_add_left_iff_pos, Nat.zero_lt_succ, wipeC, frzC, List.map_set, if_true, ite_true, Bool.false_eq_true, if_false, O.lst.injEq, O.dk.injEq, noInsL_sh, erL_sh, ngB_f, ngB_t, items_sh, items_lst, Nat.zero_add, Nat.reduceLeDiff, and_self, and_assoc]
      refine ⟨_, ei, by have := ok.few ⟨k1, k2⟩; rw [List.length_map]; omega, ?_⟩
      have es : D.lst ((srtI ((bes ls (k + 1)).map fun x : Nat => (x : Int))).map D.int) = siD (besS ls (k + 1)) := rfl
      simp only [noInsL_si, erL_si, es, vSeq, vAsg, vEx, vRet, vRetN, vIf, vNil, vFor, oN, oMv, oC, oCall, oCons, oNil, kArg, kKey, baOf, bbOf, aName, aTup, aNames, oB, oNot, oOr, oAnd, oV, oAndV, oOrV, oNotV, o2, kI_int, kI0_int, kB0_int, kAdd_int, kQ_int, kQ_str, kInt_int, kMin2_int, kIsi_iff, kLen_iff, kSub_iff, kIn_iff, kRepr_iff, kList_iff, kInts_iff, kBls_iff, kSorted_iff, oLst, oTup, oIf, oChain, oNeg, oPeek, oPeekT, iLst, iRange1, iRange2, iEnumO, oYes, vLc, vDc, oSl, oRev, oStep, pNone, pSome, rng1, rng2, oLR, oTR, oApp, oPopAt, oCallB, xN, vPar, g0, List.map_cons, List.map_nil, List.length_cons, List.length_nil, List.replicate, List.cons_append, List.nil_append, List.getElem?_cons_zero, List.getElem?_cons_succ, List.set_cons_zero, List.set_cons_succ, O.noIns, O.er, noInsL, erL, Bool.and_true, Bool.true_and, Option.some.injEq, exists_eq_left', exists_eq_left, true_and, and_true, Nat.reduceAdd, Nat.reduceSub, Nat.reduceLT, exists_and_left, exists_and_right, O.sh.injEq, D.int.injEq, D.bl.injEq, D.lst.injEq, List.cons.injEq, reduceCtorEq, exists_const, List.append_nil, List.singleton_append, and_self, exists_eq, exists_eq', Nat.lt_add_left_iff_pos, Nat.zero_lt_succ, wipeC, frzC, List.map_set, if_true, ite_true, Bool.false_eq_true, if_false, O.lst.injEq, O.dk.injEq, noInsL_sh, erL_sh, ngB_f, ngB_t, items_sh, items_lst, Nat.zero_add, Nat.reduceLeDiff, and_self, and_assoc]
      refine fb _ ?_
      refine fb _ ?_
      simp only [siO_no, siO_er, r2, r1, rl, decide_true, Bool.not_true, vSeq, vAsg, vEx, vRet, vRetN, vIf, vNil, vFor, oN, oMv, oC, oCall, oCons, oNil, kArg, kKey, baOf, bbOf, aName, aTup, aNames, oB, oNot, oOr, oAnd, oV, oAndV, oOrV, oNotV, o2, kI_int, kI0_int, kB0_int, kAdd_int, kQ_int, kQ_str, kInt_int, kMin2_int, kIsi_iff, kLen_iff, kSub_iff, kIn_iff, kRepr_iff, kList_iff, kInts_iff, kBls_iff, kSorted_iff, oLst, oTup, oIf, oChain, oNeg, oPeek, oPeekT, iLst, iRange1, iRange2, iEnumO, oYes, vLc, vDc, oSl, oRev, oStep, pNone, pSome, rng1, rng2, oLR, oTR, oApp, oPopAt, oCallB, xN, vPar, g0, List.map_cons, List.map_nil, List.length_cons, List.length_nil, List.replicate, List.cons_append, List.nil_append, List.getElem?_cons_zero, List.getElem?_cons_succ, List.set_cons_zero, List.set_cons_succ, O.noIns, O.er, noInsL, erL, Bool.and_true, Bool.true_and, Option.some.injEq, exists_eq_left', exists_eq_left, true_and, and_true, Nat.reduceAdd, Nat.reduceSub, Nat.reduceLT, exists_and_left, exists_and_right, O.sh.injEq, D.int.injEq, D.bl.injEq, D.lst.injEq, List.cons.injEq, reduceCtorEq, exists_const, List.append_nil, List.singleton_append, and_self, exists_eq, exists_eq', Nat.lt_add_left_iff_pos, Nat.zero_lt_succ, wipeC, frzC, List.map_set, if_true, ite_true, Bool.false_eq_true, if_false, O.lst.injEq, O.dk.injEq, noInsL_sh, erL_sh, ngB_f, ngB_t, items_sh, items_lst, Nat.zero_add, Nat.reduceLeDiff, and_self, and_assoc]
      refine oAppL1 (.int 0) _ _ rfl rfl (show getO (.lst [siO (besS ls (k + 1)), siO (besS ls (k + 1))]) (.int 0) = some (.lst ((besS ls (k + 1)).map fun i => .sh (.int i))) from rfl) ?_
      simp only [vSeq, vAsg, vEx, vRet, vRetN, vIf, vNil, vFor, oN, oMv, oC, oCall, oCons, oNil, kArg, kKey, baOf, bbOf, aName, aTup, aNames, oB, oNot, oOr, oAnd, oV, oAndV, oOrV, oNotV, o2, kI_int, kI0_int, kB0_int, kAdd_int, kQ_int, kQ_str, kInt_int, kMin2_int, kIsi_iff, kLen_iff, kSub_iff, kIn_iff, kRepr_iff, kList_iff, kInts_iff, kBls_iff, kSorted_iff, oLst, oTup, oIf, oChain, oNeg, oPeek, oPeekT, iLst, iRange1, iRange2, iEnumO, oYes, vLc, vDc, oSl, oRev, oStep, pNone, pSome, rng1, rng2, oLR, oTR, oApp, oPopAt, oCallB, xN, vPar, g0, List.map_cons, List.map_nil, List.length_cons, List.length_nil, List.replicate, List.cons_append, List.nil_append, List.getElem?_cons_zero, List.getElem?_cons_succ, List.set_cons_zero, List.set_cons_succ, O.noIns, O.er, noInsL, erL, Bool.and_true, Bool.true_and, Option.some.injEq, exists_eq_left', exists_eq_left, true_and, and_true, Nat.reduceAdd, Nat.reduceSub, Nat.reduceLT, exists_and_left, exists_and_right, O.sh.injEq, D.int.injEq, D.bl.injEq, D.lst.injEq, List.cons.injEq, reduceCtorEq, exists_const, List.append_nil, List.singleton_append, and_self, exists_eq, exists_eq', Nat.lt_add_left_iff_pos, Nat.zero_lt_succ, wipeC, frzC, List.map_set, if_true, ite_true, Bool.false_eq_true, if_false, O.lst.injEq, O.dk.injEq, noInsL_sh, erL_sh, ngB_f, ngB_t, items_sh, items_lst, Nat.zero_add, Nat.reduceLeDiff, and_self, and_assoc]
      refine ⟨by rw [List.length_map, besS_len]; have := ok.few ⟨k1, k2⟩; omega, ?_⟩
      refine fb _ ?_
      simp only [noInsL_si, erL_si, es, siO_no, siO_er, r2, r1, rl, decide_true, Bool.not_true, vSeq, vAsg, vEx, vRet, vRetN, vIf, vNil, vFor, oN, oMv, oC, oCall, oCons, oNil, kArg, kKey, baOf, bbOf, aName, aTup, aNames, oB, oNot, oOr, oAnd, oV, oAndV, oOrV, oNotV, o2, kI_int, kI0_int, kB0_int, kAdd_int, kQ_int, kQ_str, kInt_int, kMin2_int, kIsi_iff, kLen_iff, kSub_iff, kIn_iff, kRepr_iff, kList_iff, kInts_iff, kBls_iff, kSorted_iff, oLst, oTup, oIf, oChain, oNeg, oPeek, oPeekT, iLst, iRange1, iRange2, iEnumO, oYes, vLc, vDc, oSl, oRev, oStep, pNone, pSome, rng1, rng2, oLR, oTR, oApp, oPopAt, oCallB, xN, vPar, g0, List.map_cons, List.map_nil, List.length_cons, List.length_nil, List.replicate, List.cons_append, List.nil_append, List.getElem?_cons_zero, List.getElem?_cons_succ, List.set_cons_zero, List.set_cons_succ, O.noIns, O.er, noInsL, erL, Bool.and_true, Bool.true_and, Option.some.injEq, exists_eq_left', exists_eq_left, true_and, and_true, Nat.reduceAdd, Nat.reduceSub, Nat.reduceLT, exists_and_left, exists_and_right, O.sh.injEq, D.int.injEq, D.bl.injEq, D.lst.injEq, List.cons.injEq, reduceCtorEq, exists_const, List.append_nil, List.singleton_append, and_self, exists_eq, exists_eq', Nat.lt_add_left_iff_pos, Nat.zero_lt_succ, wipeC, frzC, List.map_set, if_true, ite_true, Bool.false_eq_true, if_false, O.lst.injEq, O.dk.injEq, noInsL_sh, erL_sh, ngB_f, ngB_t, items_sh, items_lst, Nat.zero_add, Nat.reduceLeDiff, and_self, and_assoc]
      exact hN _ ⟨.sh (nearD m ls), _, _, _, rfl, rfl, rfl⟩
  · exact h.elim
/-! ### the law's own product -/
def sptL (n m : Nat) : List (Nat × Nat) := (List.range (n * m)).map fun i => (i / m + 1, i % m + 1)
theorem sptL_succ (k m : Nat) (hm : 0 < m) : sptL (k + 1) m = sptL k m ++ (List.range m).map fun b => (k + 1, b + 1) := by
  unfold sptL
  rw [Nat.add_mul, Nat.one_mul, List.range_add, List.map_append, List.map_map]
  congr 1
  refine List.map_congr_left fun b hb => ?_
  have hb := List.mem_range.mp hb
  show ((k * m + b) / m + 1, (k * m + b) % m + 1) = _
  rw [Nat.mul_comm k m, Nat.mul_add_div hm, Nat.mul_add_mod, Nat.div_eq_of_lt hb, Nat.mod_eq_of_lt hb, Nat.add_zero]
def tpO (p : Nat × Nat) : O := .tup [itO p.1, itO p.2]
def tpD (p : Nat × Nat) : D := .tup [itD p.1, itD p.2]
theorem tpO_er (p : Nat × Nat) : (tpO p).er = tpD p := rfl
theorem tpO_no (p : Nat × Nat) : (tpO p).noIns = true := rfl
theorem erL_map {α : Type} {f : α → O} {g : α → D} (h : ∀ a, (f a).er = g a) : ∀ l : List α, erL (l.map f) = l.map g
  | [] => rfl
  | a :: l => by rw [List.map_cons, List.map_cons]; unfold erL; rw [h a, erL_map h l]
theorem noInsL_map {α : Type} {f : α → O} (h : ∀ a, (f a).noIns = true) : ∀ l : List α, noInsL (l.map f) = true
  | [] => rfl
  | a :: l => by rw [List.map_cons]; unfold noInsL; rw [h a, noInsL_map h l]; rfl
theorem nat_pl (k : Nat) : (itD k).pl = true := rfl
/-- x in a list of places -/
theorem in_its (k : Nat) (l : List Nat) : inD (.int ((k : Nat) : Int)) (.lst (l.map itD)) = some (decide (k ∈ l)) := by
  have e : l.map itD = (l.map fun x : Nat => (x : Int)).map D.int := by rw [List.map_map]; rfl
  rw [e, in_ints]
  congr 1
  rw [Bool.eq_iff_iff, decide_eq_true_iff, decide_eq_true_iff, nat_mem]
def lRow (ls ts : List (Nat × Nat)) (m a i : Nat) : List (Nat × Nat) := ((List.range i).filter fun b => decide (a < b) && pc ls ts m a b).map fun b => (a + 1, b + 1)
theorem lRow_succ (ls ts : List (Nat × Nat)) (m a i : Nat) : lRow ls ts m a (i + 1) = lRow ls ts m a i ++ (if (decide (a < i) && pc ls ts m a i) = true then [(a + 1, i + 1)] else []) := by
  unfold lRow
  rw [List.range_succ, List.filter_append, List.map_append]
  congr 1
  rw [List.filter_cons, List.filter_nil]
  split <;> rfl
theorem lRow_eq (ls ts : List (Nat × Nat)) (m N a : Nat) (h : a < N) : lRow ls ts m a N = pRow ls ts m N a (N - (a + 1)) := by
  unfold lRow pRow
  have e : N = (a + 1) + (N - (a + 1)) := by omega
  rw [e, List.range_add, List.filter_append]
  have z : (List.range (a + 1)).filter (fun b => decide (a < b) && pc ls ts m a b) = [] := by
    refine List.filter_eq_nil_iff.mpr fun b hb => ?_
    have := List.mem_range.mp hb
    simp; omega
  rw [z, List.nil_append, ← e]
  congr 1
  refine List.filter_congr fun b hb => ?_
  obtain ⟨i, _, rfl⟩ := List.mem_map.mp hb
  have : a < a + 1 + i := by omega
  simp [this]
theorem lRow_len (ls ts : List (Nat × Nat)) (m a i : Nat) : (lRow ls ts m a i).length ≤ i := by
  unfold lRow
  rw [List.length_map]
  exact Nat.le_trans (List.length_filter_le _ _) (by simp)
def F_law_product : DA := F_product
theorem noInsL_app (a b : List O) : noInsL (a ++ b) = (noInsL a && noInsL b) := by
  rw [Bool.eq_iff_iff, Bool.and_eq_true, noInsL_iff, noInsL_iff, noInsL_iff]
  simp only [List.mem_append]
  exact ⟨fun h => ⟨fun o ho => h o (.inl ho), fun o ho => h o (.inr ho)⟩, fun h o ho => ho.elim (h.1 o) (h.2 o)⟩
theorem erL_app (a b : List O) : erL (a ++ b) = erL a ++ erL b := by rw [erL_eq, erL_eq, erL_eq, List.map_append]
theorem enum_sh {l : List D} {k : Nat} {o : O} (h : (enumO (l.map O.sh))[k]? = some o) : ∃ d, l[k]? = some d ∧ o = .tup [itO k, .sh d] := by
  obtain ⟨u, hu, rfl⟩ := enumO_get h
  rw [List.getElem?_map] at hu
  obtain ⟨d, hd, rfl⟩ := Option.map_eq_some_iff.mp hu
  exact ⟨d, hd, rfl⟩
theorem sub_t0 {a b : D} : subD (.tup [a, b]) (.int 0) = some a := rfl
theorem sub_t1 {a b : D} : subD (.tup [a, b]) (.int 1) = some b := rfl
theorem q_law_product (ds : List D) (Q : O → Prop) (_ : ds.length = 4) (h : F_law_product ds Q) : r_law_product F_law_near { nx := fun _ => Q (.sh .non), rt := fun o _ => Q o } (g0 nn_law_product (ds.map O.sh)) := by
  unfold F_law_product F_product at h
  split at h
  · obtain ⟨n, m, ls, ts, rfl, rfl, rfl, rfl, hl, ht, ok, ok2, hp, h⟩ := h
    have n1 := ok.lo
    have n2 := ok.hi
    have m1 := ok2.lo
    have m2 := ok2.hi
    have en : ((n : Int) * (m : Int)) = ((n * m : Nat) : Int) := by simp
    simp only [r_law_product, nn_law_product, F_law_near, vSeq, vAsg, vEx, vRet, vRetN, vIf, vNil, vFor, oN, oMv, oC, oCall, oCons, oNil, kArg, kKey, baOf, bbOf, aName, aTup, aNames, oB, oNot, oOr, oAnd, oV, oAndV, oOrV, oNotV, o2, kI_int, kI0_int, kB0_int, kAdd_int, kQ_int, kQ_str, kInt_int, kMin2_int, kIsi_iff, kLen_iff, kSub_iff, kIn_iff, kRepr_iff, kList_iff, kInts_iff, kBls_iff, kSorted_iff, oLst, oTup, oIf, oChain, oNeg, oPeek, oPeekT, iLst, iRange1, iRange2, iEnumO, oYes, vLc, vDc, oSl, oRev, oStep, pNone, pSome, rng1, rng2, oLR, oTR, oApp, oPopAt, oCallB, xN, vPar, g0, List.map_cons, List.map_nil, List.length_cons, List.length_nil, List.replicate, List.cons_append, List.nil_append, List.getElem?_cons_zero, List.getElem?_cons_succ, List.set_cons_zero, List.set_cons_succ, O.noIns, O.er, noInsL, erL, Bool.and_true, Bool.true_and, Option.some.injEq, exists_eq_left', exists_eq_left, true_and, and_true, Nat.reduceAdd, Nat.reduceSub, Nat.reduceLT, exists_and_left, exists_and_right, O.sh.injEq, D.int.injEq, D.bl.injEq, D.lst.injEq, List.cons.injEq, reduceCtorEq, exists_const, List.append_nil, List.singleton_append, and_self, exists_eq, exists_eq', Nat.lt_add_left_iff_pos, Nat.zero_lt_succ, wipeC, frzC, List.map_set, if_true, ite_true, Bool.false_eq_true, if_false, O.lst.injEq, O.dk.injEq, noInsL_sh, erL_sh, ngB_f, ngB_t, items_sh, items_lst, Nat.zero_add, Nat.reduceLeDiff, and_self, and_assoc]
    refine ⟨n, ls, rfl, rfl, hl, ok, m, ts, rfl, rfl, ht, ok2, by omega, by omega, by omega, by omega, ?_⟩
    have em : ((n : Int) + 1 - 1).toNat = n := by omega
    rw [em]
    refine forV_at (fun k γ => ∃ s x, s.noIns = true ∧ s.er = .lst ((sptL k m).map tpD) ∧ γ = [some (itO n), some (.sh (lsD ls)), some (itO m), some (.sh (lsD ts)), some (nearO n ls), some (nearO m ts), some s, x, none, none, none, none, none, none]) ?_ ?_ ⟨.lst [], none, rfl, by simp [sptL, O.er, erL], rfl⟩
    · rintro γ ⟨s, x, s1, s3, rfl⟩
      rw [rngO_len] at s3
      simp only [s1, s3, vSeq, vAsg, vEx, vRet, vRetN, vIf, vNil, vFor, oN, oMv, oC, oCall, oCons, oNil, kArg, kKey, baOf, bbOf, aName, aTup, aNames, oB, oNot, oOr, oAnd, oV, oAndV, oOrV, oNotV, o2, kI_int, kI0_int, kB0_int, kAdd_int, kQ_int, kQ_str, kInt_int, kMin2_int, kIsi_iff, kLen_iff, kSub_iff, kIn_iff, kRepr_iff, kList_iff, kInts_iff, kBls_iff, kSorted_iff, oLst, oTup, oIf, oChain, oNeg, oPeek, oPeekT, iLst, iRange1, iRange2, iEnumO, oYes, vLc, vDc, oSl, oRev, oStep, pNone, pSome, rng1, rng2, oLR, oTR, oApp, oPopAt, oCallB, xN, vPar, g0, List.map_cons, List.map_nil, List.length_cons, List.length_nil, List.replicate, List.cons_append, List.nil_append, List.getElem?_cons_zero, List.getElem?_cons_succ, List.set_cons_zero, List.set_cons_succ, O.noIns, O.er, noInsL, erL, Bool.and_true, Bool.true_and, Option.some.injEq, exists_eq_left', exists_eq_left, true_and, and_true, Nat.reduceAdd, Nat.reduceSub, Nat.reduceLT, exists_and_left, exists_and_right, O.sh.injEq, D.int.injEq, D.bl.injEq, D.lst.injEq, List.cons.injEq, reduceCtorEq, exists_const, List.append_nil, List.singleton_append, and_self, exists_eq, exists_eq', Nat.lt_add_left_iff_pos, Nat.zero_lt_succ, wipeC, frzC, List.map_set, if_true, ite_true, Bool.false_eq_true, if_false, O.lst.injEq, O.dk.injEq, noInsL_sh, erL_sh, ngB_f, ngB_t, items_sh, items_lst, Nat.zero_add, Nat.reduceLeDiff, and_self, and_assoc]
      have sg : ∀ {i : Nat} {o : O}, (enumO (((sptL n m).map tpD).map O.sh))[i]? = some o → i < n * m ∧ o = .tup [itO i, .sh (tpD (i / m + 1, i % m + 1))] := by
        intro i o hi
        obtain ⟨d, hd, rfl⟩ := enum_sh hi
        unfold sptL at hd
        rw [List.getElem?_map, List.getElem?_map] at hd
        by_cases q : i < n * m
        · rw [List.getElem?_range q] at hd
          exact ⟨q, by rw [← Option.some.inj hd]⟩
        · rw [List.getElem?_eq_none (by simpa using q)] at hd; cases hd
      have sl : (enumO (((sptL n m).map tpD).map O.sh)).length = n * m := by rw [enumO_len]; simp [sptL]
      refine forV_at (fun k γ => ∃ nr fr y1 y2 y3 y4, nr.noIns = true ∧ fr.noIns = true ∧ nr.er = nearD n ls ∧ fr.er = nearD m ts ∧ γ = [some (itO n), some (.sh (lsD ls)), some (itO m), some (.sh (lsD ts)), some nr, some fr, some (.sh (.lst ((sptL n m).map tpD))), x,
        some (.lst ((pTo ls ts m (n * m) k).map lnO)), y1, y2, y3, y4, none]) ?_ ?_ ⟨nearO n ls, nearO m ts, none, none, none, none, nearO_no _ _, nearO_no _ _, nearO_er _ _, nearO_er _ _, rfl⟩
      · rintro γ ⟨nr, fr, y1, y2, y3, y4, a1, a2, a3, a4, rfl⟩
        rw [sl]
        simp only [itO, vSeq, vAsg, vEx, vRet, vRetN, vIf, vNil, vFor, oN, oMv, oC, oCall, oCons, oNil, kArg, kKey, baOf, bbOf, aName, aTup, aNames, oB, oNot, oOr, oAnd, oV, oAndV, oOrV, oNotV, o2, kI_int, kI0_int, kB0_int, kAdd_int, kQ_int, kQ_str, kInt_int, kMin2_int, kIsi_iff, kLen_iff, kSub_iff, kIn_iff, kRepr_iff, kList_iff, kInts_iff, kBls_iff, kSorted_iff, oLst, oTup, oIf, oChain, oNeg, oPeek, oPeekT, iLst, iRange1, iRange2, iEnumO, oYes, vLc, vDc, oSl, oRev, oStep, pNone, pSome, rng1, rng2, oLR, oTR, oApp, oPopAt, oCallB, xN, vPar, g0, List.map_cons, List.map_nil, List.length_cons, List.length_nil, List.replicate, List.cons_append, List.nil_append, List.getElem?_cons_zero, List.getElem?_cons_succ, List.set_cons_zero, List.set_cons_succ, O.noIns, O.er, noInsL, erL, Bool.and_true, Bool.true_and, Option.some.injEq, exists_eq_left', exists_eq_left, true_and, and_true, Nat.reduceAdd, Nat.reduceSub, Nat.reduceLT, exists_and_left, exists_and_right, O.sh.injEq, D.int.injEq, D.bl.injEq, D.lst.injEq, List.cons.injEq, reduceCtorEq, exists_const, List.append_nil, List.singleton_append, and_self, exists_eq, exists_eq', Nat.lt_add_left_iff_pos, Nat.zero_lt_succ, wipeC, frzC, List.map_set, if_true, ite_true, Bool.false_eq_true, if_false, O.lst.injEq, O.dk.injEq, noInsL_sh, erL_sh, ngB_f, ngB_t, items_sh, items_lst, Nat.zero_add, Nat.reduceLeDiff, and_self, and_assoc]
        rw [en]
        exact ⟨mulW (by omega) (by omega), h⟩
      · rintro a o γ ha ⟨nr, fr, y1, y2, y3, y4, a1, a2, a3, a4, rfl⟩ N hN
        obtain ⟨ha', rfl⟩ := sg ha
        clear ha
        have ha := ha'
        refine ⟨[itO a, .sh (tpD (a / m + 1, a % m + 1))], rfl, rfl, ?_⟩
        simp only [vSeq, vAsg, vEx, vRet, vRetN, vIf, vNil, vFor, oN, oMv, oC, oCall, oCons, oNil, kArg, kKey, baOf, bbOf, aName, aTup, aNames, oB, oNot, oOr, oAnd, oV, oAndV, oOrV, oNotV, o2, kI_int, kI0_int, kB0_int, kAdd_int, kQ_int, kQ_str, kInt_int, kMin2_int, kIsi_iff, kLen_iff, kSub_iff, kIn_iff, kRepr_iff, kList_iff, kInts_iff, kBls_iff, kSorted_iff, oLst, oTup, oIf, oChain, oNeg, oPeek, oPeekT, iLst, iRange1, iRange2, iEnumO, oYes, vLc, vDc, oSl, oRev, oStep, pNone, pSome, rng1, rng2, oLR, oTR, oApp, oPopAt, oCallB, xN, vPar, g0, List.map_cons, List.map_nil, List.length_cons, List.length_nil, List.replicate, List.cons_append, List.nil_append, List.getElem?_cons_zero, List.getElem?_cons_succ, List.set_cons_zero, List.set_cons_succ, O.noIns, O.er, noInsL, erL, Bool.and_true, Bool.true_and, Option.some.injEq, exists_eq_left', exists_eq_left, true_and, and_true, Nat.reduceAdd, Nat.reduceSub, Nat.reduceLT, exists_and_left, exists_and_right, O.sh.injEq, D.int.injEq, D.bl.injEq, D.lst.injEq, List.cons.injEq, reduceCtorEq, exists_const, List.append_nil, List.singleton_append, and_self, exists_eq, exists_eq', Nat.lt_add_left_iff_pos, Nat.zero_lt_succ, wipeC, frzC, List.map_set, if_true, ite_true, Bool.false_eq_true, if_false, O.lst.injEq, O.dk.injEq, noInsL_sh, erL_sh, ngB_f, ngB_t, items_sh, items_lst, Nat.zero_add, Nat.reduceLeDiff, and_self, and_assoc]
        have lp := pTo_len ls ts m (n * m) a
        have lp2 : a * (n * m) ≤ 144 := Nat.le_trans (Nat.mul_le_mul (show a ≤ 12 by omega) hp) (by decide)
        have r2 : a / m + 1 ≤ n := (Nat.div_lt_iff_lt_mul (by omega)).mpr ha
        have r4 : a % m + 1 ≤ m := Nat.mod_lt a (show 0 < m by omega)
        refine forV_at (fun i γ => ∃ nr fr y3 y4, nr.noIns = true ∧ fr.noIns = true ∧ nr.er = nearD n ls ∧ fr.er = nearD m ts ∧ γ = [some (itO n), some (.sh (lsD ls)), some (itO m), some (.sh (lsD ts)), some nr, some fr, some (.sh (.lst ((sptL n m).map tpD))), x,
          some (.lst ((pTo ls ts m (n * m) a ++ lRow ls ts m a i).map lnO)), some (itO a), some (.sh (tpD (a / m + 1, a % m + 1))), y3, y4, none]) ?_ ?_ ⟨nr, fr, y3, y4, a1, a2, a3, a4, by simp [lRow, itO]⟩
        · rintro γ ⟨nr, fr, y3, y4, a1, a2, a3, a4, rfl⟩
          rw [sl, lRow_eq _ _ _ _ _ ha, ← pTo_succ]
          exact hN _ ⟨nr, fr, _, _, _, _, a1, a2, a3, a4, rfl⟩
        · rintro i o γ hi ⟨nr, fr, y3, y4, a1, a2, a3, a4, rfl⟩ N' hN'
          obtain ⟨hi', rfl⟩ := sg hi
          refine ⟨[itO i, .sh (tpD (i / m + 1, i % m + 1))], rfl, rfl, ?_⟩
          have t1 : ∀ k : Nat, subD (tpD (k / m + 1, k % m + 1)) (.int 0) = some (itD (k / m + 1)) := fun _ => rfl
          have t2 : ∀ k : Nat, subD (tpD (k / m + 1, k % m + 1)) (.int 1) = some (itD (k % m + 1)) := fun _ => rfl
          have u1 : subD (nearD n ls) (itD (a / m + 1)) = some (.lst ((bes ls (a / m + 1)).map itD)) := subD_nr (Nat.le_add_left 1 _) r2
          have u2 : subD (nearD m ts) (itD (a % m + 1)) = some (.lst ((bes ts (a % m + 1)).map itD)) := subD_nr (Nat.le_add_left 1 _) r4
          have v1 : inD (itD (i / m + 1)) (.lst ((bes ls (a / m + 1)).map itD)) = some (decide (i / m + 1 ∈ bes ls (a / m + 1))) := in_its _ _
          have v2 : inD (itD (i % m + 1)) (.lst ((bes ts (a % m + 1)).map itD)) = some (decide (i % m + 1 ∈ bes ts (a % m + 1))) := in_its _ _
          have pr := lRow_succ ls ts m a i
          have lr := lRow_len ls ts m a i
          have skip : ∀ nr' fr' : O, nr'.noIns = true → fr'.noIns = true → nr'.er = nearD n ls → fr'.er = nearD m ts → lRow ls ts m a (i + 1) = lRow ls ts m a i →
              N' [some (O.sh (.int (n : Nat))), some (.sh (lsD ls)), some (O.sh (.int (m : Nat))), some (.sh (lsD ts)), some nr', some fr', some (.sh (.lst ((sptL n m).map tpD))), x,
                some (.lst ((pTo ls ts m (n * m) a ++ lRow ls ts m a i).map lnO)), some (O.sh (.int (a : Nat))), some (.sh (tpD (a / m + 1, a % m + 1))), some (O.sh (.int (i : Nat))), some (.sh (tpD (i / m + 1, i % m + 1))), none] := by
            intro nr' fr' b1 b2 b3 b4 e
            refine hN' _ ⟨nr', fr', some (itO i), some (.sh (tpD (i / m + 1, i % m + 1))), b1, b2, b3, b4, ?_⟩
            rw [e]; rfl
          unfold pc at pr
          simp only [itO, t1, t2, u1, u2, v1, v2, a1, a2, a3, a4, vSeq, vAsg, vEx, vRet, vRetN, vIf, vNil, vFor, oN, oMv, oC, oCall, oCons, oNil, kArg, kKey, baOf, bbOf, aName, aTup, aNames, oB, oNot, oOr, oAnd, oV, oAndV, oOrV, oNotV, o2, kI_int, kI0_int, kB0_int, kAdd_int, kQ_int, kQ_str, kInt_int, kMin2_int, kIsi_iff, kLen_iff, kSub_iff, kIn_iff, kRepr_iff, kList_iff, kInts_iff, kBls_iff, kSorted_iff, oLst, oTup, oIf, oChain, oNeg, oPeek, oPeekT, iLst, iRange1, iRange2, iEnumO, oYes, vLc, vDc, oSl, oRev, oStep, pNone, pSome, rng1, rng2, oLR, oTR, oApp, oPopAt, oCallB, xN, vPar, g0, List.map_cons, List.map_nil, List.length_cons, List.length_nil, List.replicate, List.cons_append, List.nil_append, List.getElem?_cons_zero, List.getElem?_cons_succ, List.set_cons_zero, List.set_cons_succ, O.noIns, O.er, noInsL, erL, Bool.and_true, Bool.true_and, Option.some.injEq, exists_eq_left', exists_eq_left, true_and, and_true, Nat.reduceAdd, Nat.reduceSub, Nat.reduceLT, exists_and_left, exists_and_right, O.sh.injEq, D.int.injEq, D.bl.injEq, D.lst.injEq, List.cons.injEq, reduceCtorEq, exists_const, List.append_nil, List.singleton_append, and_self, exists_eq, exists_eq', Nat.lt_add_left_iff_pos, Nat.zero_lt_succ, wipeC, frzC, List.map_set, if_true, ite_true, Bool.false_eq_true, if_false, O.lst.injEq, O.dk.injEq, noInsL_sh, erL_sh, ngB_f, ngB_t, items_sh, items_lst, Nat.zero_add, Nat.reduceLeDiff, and_self, and_assoc]
          by_cases c0 : (a : Int) < (i : Int)
          · have c0' : a < i := by omega
            by_cases c1 : i / m + 1 ∈ bes ls (a / m + 1)
            · by_cases c2 : i % m + 1 ∈ bes ts (a % m + 1)
              · simp only [c0', c1, c2, decide_true, Bool.and_self, if_true] at pr
                simp only [c0, c1, c2, decide_true, vSeq, vAsg, vEx, vRet, vRetN, vIf, vNil, vFor, oN, oMv, oC, oCall, oCons, oNil, kArg, kKey, baOf, bbOf, aName, aTup, aNames, oB, oNot, oOr, oAnd, oV, oAndV, oOrV, oNotV, o2, kI_int, kI0_int, kB0_int, kAdd_int, kQ_int, kQ_str, kInt_int, kMin2_int, kIsi_iff, kLen_iff, kSub_iff, kIn_iff, kRepr_iff, kList_iff, kInts_iff, kBls_iff, kSorted_iff, oLst, oTup, oIf, oChain, oNeg, oPeek, oPeekT, iLst, iRange1, iRange2, iEnumO, oYes, vLc, vDc, oSl, oRev, oStep, pNone, pSome, rng1, rng2, oLR, oTR, oApp, oPopAt, oCallB, xN, vPar, g0, List.map_cons, List.map_nil, List.length_cons, List.length_nil, List.replicate, List.cons_append, List.nil_append, List.getElem?_cons_zero, List.getElem?_cons_succ, List.set_cons_zero, List.set_cons_succ, O.noIns, O.er, noInsL, erL, Bool.and_true, Bool.true_and, Option.some.injEq, exists_eq_left', exists_eq_left, true_and, and_true, Nat.reduceAdd, Nat.reduceSub, Nat.reduceLT, exists_and_left, exists_and_right, O.sh.injEq, D.int.injEq, D.bl.injEq, D.lst.injEq, List.cons.injEq, reduceCtorEq, exists_const, List.append_nil, List.singleton_append, and_self, exists_eq, exists_eq', Nat.lt_add_left_iff_pos, Nat.zero_lt_succ, wipeC, frzC, List.map_set, if_true, ite_true, Bool.false_eq_true, if_false, O.lst.injEq, O.dk.injEq, noInsL_sh, erL_sh, ngB_f, ngB_t, items_sh, items_lst, Nat.zero_add, Nat.reduceLeDiff, and_self, and_assoc]
                refine ⟨by rw [List.length_map, List.length_append]; omega, ?_⟩
                refine hN' _ ⟨.sh (nearD n ls), .sh (nearD m ts), some (itO i), some (.sh (tpD (i / m + 1, i % m + 1))), rfl, rfl, rfl, rfl, ?_⟩
                have z : (pTo ls ts m (n * m) a ++ (lRow ls ts m a i ++ [(a + 1, i + 1)])).map lnO = (pTo ls ts m (n * m) a ++ lRow ls ts m a i).map lnO ++ [lnO (a + 1, i + 1)] := by simp
                rw [pr, z]
                rfl
              · simp only [c0', c1, c2, decide_true, decide_false, Bool.and_false, Bool.false_eq_true, if_false, List.append_nil] at pr
                simp only [c0, c1, c2, decide_true, decide_false, vSeq, vAsg, vEx, vRet, vRetN, vIf, vNil, vFor, oN, oMv, oC, oCall, oCons, oNil, kArg, kKey, baOf, bbOf, aName, aTup, aNames, oB, oNot, oOr, oAnd, oV, oAndV, oOrV, oNotV, o2, kI_int, kI0_int, kB0_int, kAdd_int, kQ_int, kQ_str, kInt_int, kMin2_int, kIsi_iff, kLen_iff, kSub_iff, kIn_iff, kRepr_iff, kList_iff, kInts_iff, kBls_iff, kSorted_iff, oLst, oTup, oIf, oChain, oNeg, oPeek, oPeekT, iLst, iRange1, iRange2, iEnumO, oYes, vLc, vDc, oSl, oRev, oStep, pNone, pSome, rng1, rng2, oLR, oTR, oApp, oPopAt, oCallB, xN, vPar, g0, List.map_cons, List.map_nil, List.length_cons, List.length_nil, List.replicate, List.cons_append, List.nil_append, List.getElem?_cons_zero, List.getElem?_cons_succ, List.set_cons_zero, List.set_cons_succ, O.noIns, O.er, noInsL, erL, Bool.and_true, Bool.true_and, Option.some.injEq, exists_eq_left', exists_eq_left, true_and, and_true, Nat.reduceAdd, Nat.reduceSub, Nat.reduceLT, exists_and_left, exists_and_right, O.sh.injEq, D.int.injEq, D.bl.injEq, D.lst.injEq, List.cons.injEq, reduceCtorEq, exists_const, List.append_nil, List.singleton_append, and_self, exists_eq, exists_eq', Nat.lt_add_left_iff_pos, Nat.zero_lt_succ, wipeC, frzC, List.map_set, if_true, ite_true, Bool.false_eq_true, if_false, O.lst.injEq, O.dk.injEq, noInsL_sh, erL_sh, ngB_f, ngB_t, items_sh, items_lst, Nat.zero_add, Nat.reduceLeDiff, and_self, and_assoc]
                exact skip _ _ rfl rfl rfl rfl pr
            · simp only [c0', c1, decide_true, decide_false, Bool.and_false, Bool.false_and, Bool.false_eq_true, if_false, List.append_nil] at pr
              simp only [c0, c1, decide_true, decide_false, vSeq, vAsg, vEx, vRet, vRetN, vIf, vNil, vFor, oN, oMv, oC, oCall, oCons, oNil, kArg, kKey, baOf, bbOf, aName, aTup, aNames, oB, oNot, oOr, oAnd, oV, oAndV, oOrV, oNotV, o2, kI_int, kI0_int, kB0_int, kAdd_int, kQ_int, kQ_str, kInt_int, kMin2_int, kIsi_iff, kLen_iff, kSub_iff, kIn_iff, kRepr_iff, kList_iff, kInts_iff, kBls_iff, kSorted_iff, oLst, oTup, oIf, oChain, oNeg, oPeek, oPeekT, iLst, iRange1, iRange2, iEnumO, oYes, vLc, vDc, oSl, oRev, oStep, pNone, pSome, rng1, rng2, oLR, oTR, oApp, oPopAt, oCallB, xN, vPar, g0, List.map_cons, List.map_nil, List.length_cons, List.length_nil, List.replicate, List.cons_append, List.nil_append, List.getElem?_cons_zero, List.getElem?_cons_succ, List.set_cons_zero, List.set_cons_succ, O.noIns, O.er, noInsL, erL, Bool.and_true, Bool.true_and, Option.some.injEq, exists_eq_left', exists_eq_left, true_and, and_true, Nat.reduceAdd, Nat.reduceSub, Nat.reduceLT, exists_and_left, exists_and_right, O.sh.injEq, D.int.injEq, D.bl.injEq, D.lst.injEq, List.cons.injEq, reduceCtorEq, exists_const, List.append_nil, List.singleton_append, and_self, exists_eq, exists_eq', Nat.lt_add_left_iff_pos, Nat.zero_lt_succ, wipeC, frzC, List.map_set, if_true, ite_true, Bool.false_eq_true, if_false, O.lst.injEq, O.dk.injEq, noInsL_sh, erL_sh, ngB_f, ngB_t, items_sh, items_lst, Nat.zero_add, Nat.reduceLeDiff, and_self, and_assoc]
              exact skip _ _ rfl a2 rfl a4 pr
          · have c0' : ¬ a < i := by omega
            simp only [c0', decide_false, Bool.false_and, Bool.false_eq_true, if_false, List.append_nil] at pr
            simp only [c0, decide_false, vSeq, vAsg, vEx, vRet, vRetN, vIf, vNil, vFor, oN, oMv, oC, oCall, oCons, oNil, kArg, kKey, baOf, bbOf, aName, aTup, aNames, oB, oNot, oOr, oAnd, oV, oAndV, oOrV, oNotV, o2, kI_int, kI0_int, kB0_int, kAdd_int, kQ_int, kQ_str, kInt_int, kMin2_int, kIsi_iff, kLen_iff, kSub_iff, kIn_iff, kRepr_iff, kList_iff, kInts_iff, kBls_iff, kSorted_iff, oLst, oTup, oIf, oChain, oNeg, oPeek, oPeekT, iLst, iRange1, iRange2, iEnumO, oYes, vLc, vDc, oSl, oRev, oStep, pNone, pSome, rng1, rng2, oLR, oTR, oApp, oPopAt, oCallB, xN, vPar, g0, List.map_cons, List.map_nil, List.length_cons, List.length_nil, List.replicate, List.cons_append, List.nil_append, List.getElem?_cons_zero, List.getElem?_cons_succ, List.set_cons_zero, List.set_cons_succ, O.noIns, O.er, noInsL, erL, Bool.and_true, Bool.true_and, Option.some.injEq, exists_eq_left', exists_eq_left, true_and, and_true, Nat.reduceAdd, Nat.reduceSub, Nat.reduceLT, exists_and_left, exists_and_right, O.sh.injEq, D.int.injEq, D.bl.injEq, D.lst.injEq, List.cons.injEq, reduceCtorEq, exists_const, List.append_nil, List.singleton_append, and_self, exists_eq, exists_eq', Nat.lt_add_left_iff_pos, Nat.zero_lt_succ, wipeC, frzC, List.map_set, if_true, ite_true, Bool.false_eq_true, if_false, O.lst.injEq, O.dk.injEq, noInsL_sh, erL_sh, ngB_f, ngB_t, items_sh, items_lst, Nat.zero_add, Nat.reduceLeDiff, and_self, and_assoc]
            exact skip _ _ a1 a2 a3 a4 pr
    · rintro k o γ ho ⟨s, x, s1, s3, rfl⟩ N hN
      obtain ⟨hk, rfl⟩ := rng1_get ho
      simp only [itO_no, itO_sh, s1, s3, itO, vSeq, vAsg, vEx, vRet, vRetN, vIf, vNil, vFor, oN, oMv, oC, oCall, oCons, oNil, kArg, kKey, baOf, bbOf, aName, aTup, aNames, oB, oNot, oOr, oAnd, oV, oAndV, oOrV, oNotV, o2, kI_int, kI0_int, kB0_int, kAdd_int, kQ_int, kQ_str, kInt_int, kMin2_int, kIsi_iff, kLen_iff, kSub_iff, kIn_iff, kRepr_iff, kList_iff, kInts_iff, kBls_iff, kSorted_iff, oLst, oTup, oIf, oChain, oNeg, oPeek, oPeekT, iLst, iRange1, iRange2, iEnumO, oYes, vLc, vDc, oSl, oRev, oStep, pNone, pSome, rng1, rng2, oLR, oTR, oApp, oPopAt, oCallB, xN, vPar, g0, List.map_cons, List.map_nil, List.length_cons, List.length_nil, List.replicate, List.cons_append, List.nil_append, List.getElem?_cons_zero, List.getElem?_cons_succ, List.set_cons_zero, List.set_cons_succ, O.noIns, O.er, noInsL, erL, Bool.and_true, Bool.true_and, Option.some.injEq, exists_eq_left', exists_eq_left, true_and, and_true, Nat.reduceAdd, Nat.reduceSub, Nat.reduceLT, exists_and_left, exists_and_right, O.sh.injEq, D.int.injEq, D.bl.injEq, D.lst.injEq, List.cons.injEq, reduceCtorEq, exists_const, List.append_nil, List.singleton_append, and_self, exists_eq, exists_eq', Nat.lt_add_left_iff_pos, Nat.zero_lt_succ, wipeC, frzC, List.map_set, if_true, ite_true, Bool.false_eq_true, if_false, O.lst.injEq, O.dk.injEq, noInsL_sh, erL_sh, ngB_f, ngB_t, items_sh, items_lst, Nat.zero_add, Nat.reduceLeDiff, and_self, and_assoc]
      refine ⟨by omega, by omega, by omega, by omega, by rw [rngO_len]; omega, ?_⟩
      have em : ((m : Int) + 1 - 1).toNat = m := by omega
      rw [em]
      refine compV_at (fun j acc γ => acc = (List.range j).map (fun b => tpO (k + 1, b + 1)) ∧ γ = [some (itO n), some (.sh (lsD ls)), some (itO m), some (.sh (lsD ts)), some (nearO n ls), some (nearO m ts), some (.sh (.lst ((sptL k m).map tpD))), some (itO (k + 1)), none, none, none, none, none, none]) ?_ ?_ ⟨rfl, rfl⟩
      · rintro acc γ ⟨rfl, rfl⟩
        rw [rngO_len]
        have l1 : k * m ≤ n * m := Nat.mul_le_mul (by omega) (Nat.le_refl _)
        refine kAdd_lst rfl rfl (by simp [sptL]; omega) ?_
        simp only [vSeq, vAsg, vEx, vRet, vRetN, vIf, vNil, vFor, oN, oMv, oC, oCall, oCons, oNil, kArg, kKey, baOf, bbOf, aName, aTup, aNames, oB, oNot, oOr, oAnd, oV, oAndV, oOrV, oNotV, o2, kI_int, kI0_int, kB0_int, kAdd_int, kQ_int, kQ_str, kInt_int, kMin2_int, kIsi_iff, kLen_iff, kSub_iff, kIn_iff, kRepr_iff, kList_iff, kInts_iff, kBls_iff, kSorted_iff, oLst, oTup, oIf, oChain, oNeg, oPeek, oPeekT, iLst, iRange1, iRange2, iEnumO, oYes, vLc, vDc, oSl, oRev, oStep, pNone, pSome, rng1, rng2, oLR, oTR, oApp, oPopAt, oCallB, xN, vPar, g0, List.map_cons, List.map_nil, List.length_cons, List.length_nil, List.replicate, List.cons_append, List.nil_append, List.getElem?_cons_zero, List.getElem?_cons_succ, List.set_cons_zero, List.set_cons_succ, O.noIns, O.er, noInsL, erL, Bool.and_true, Bool.true_and, Option.some.injEq, exists_eq_left', exists_eq_left, true_and, and_true, Nat.reduceAdd, Nat.reduceSub, Nat.reduceLT, exists_and_left, exists_and_right, O.sh.injEq, D.int.injEq, D.bl.injEq, D.lst.injEq, List.cons.injEq, reduceCtorEq, exists_const, List.append_nil, List.singleton_append, and_self, exists_eq, exists_eq', Nat.lt_add_left_iff_pos, Nat.zero_lt_succ, wipeC, frzC, List.map_set, if_true, ite_true, Bool.false_eq_true, if_false, O.lst.injEq, O.dk.injEq, noInsL_sh, erL_sh, ngB_f, ngB_t, items_sh, items_lst, Nat.zero_add, Nat.reduceLeDiff, and_self, and_assoc]
        refine hN _ ⟨_, _, ?_, ?_, rfl⟩
        · show noInsL _ = true
          rw [noInsL_app, noInsL_sh]
          exact noInsL_map (fun b => tpO_no _) _
        · show D.lst (erL _) = _
          rw [erL_app, erL_sh, sptL_succ _ _ (by omega), List.map_append, List.map_map]
          congr 2
          exact erL_map (fun b => tpO_er _) _
      · rintro j o acc γ ho ⟨rfl, rfl⟩ N' hN'
        obtain ⟨hj, rfl⟩ := rng1_get ho
        simp only [itO, vSeq, vAsg, vEx, vRet, vRetN, vIf, vNil, vFor, oN, oMv, oC, oCall, oCons, oNil, kArg, kKey, baOf, bbOf, aName, aTup, aNames, oB, oNot, oOr, oAnd, oV, oAndV, oOrV, oNotV, o2, kI_int, kI0_int, kB0_int, kAdd_int, kQ_int, kQ_str, kInt_int, kMin2_int, kIsi_iff, kLen_iff, kSub_iff, kIn_iff, kRepr_iff, kList_iff, kInts_iff, kBls_iff, kSorted_iff, oLst, oTup, oIf, oChain, oNeg, oPeek, oPeekT, iLst, iRange1, iRange2, iEnumO, oYes, vLc, vDc, oSl, oRev, oStep, pNone, pSome, rng1, rng2, oLR, oTR, oApp, oPopAt, oCallB, xN, vPar, g0, List.map_cons, List.map_nil, List.length_cons, List.length_nil, List.replicate, List.cons_append, List.nil_append, List.getElem?_cons_zero, List.getElem?_cons_succ, List.set_cons_zero, List.set_cons_succ, O.noIns, O.er, noInsL, erL, Bool.and_true, Bool.true_and, Option.some.injEq, exists_eq_left', exists_eq_left, true_and, and_true, Nat.reduceAdd, Nat.reduceSub, Nat.reduceLT, exists_and_left, exists_and_right, O.sh.injEq, D.int.injEq, D.bl.injEq, D.lst.injEq, List.cons.injEq, reduceCtorEq, exists_const, List.append_nil, List.singleton_append, and_self, exists_eq, exists_eq', Nat.lt_add_left_iff_pos, Nat.zero_lt_succ, wipeC, frzC, List.map_set, if_true, ite_true, Bool.false_eq_true, if_false, O.lst.injEq, O.dk.injEq, noInsL_sh, erL_sh, ngB_f, ngB_t, items_sh, items_lst, Nat.zero_add, Nat.reduceLeDiff, and_self, and_assoc]
        refine hN' _ _ ⟨?_, rfl⟩
        rw [List.range_succ, List.map_append]; rfl
  · exact h.elim
end FN
end
section
namespace FN
open PySem PySem.Spec L2
open PyProof.Rows hiding St
theorem forIn_map {x : Nat} {b : VS} {rt : O → Gm → Prop} {fin : List O → Gm → Prop} {γ : Gm} (g : O → O) (hx : x < γ.length) (hγ : γ.set x none = γ) : ∀ {l : List O} {acc : List O},
    (∀ o ∈ l, ∀ E : VE, E.nx (γ.set x (some (g o))) → b E (γ.set x (some o))) → fin (acc ++ l.map g) γ → forIn x b rt fin acc l γ
  | [], acc, _, h => by simpa [forIn] using h
  | o :: l, acc, hs, h => by
    unfold forIn
    refine ⟨hx, hs o List.mem_cons_self _ ?_⟩
    refine ⟨g o, List.getElem?_set_self hx, ?_⟩
    rw [List.set_set, hγ]
    exact forIn_map g hx hγ (fun o' ho' => hs o' (List.mem_cons_of_mem _ ho')) (by simpa using h)
theorem vForIn2 {i x : Nat} {h h2 : Gm → D → Prop} {b : VS} {E : VE} {γ : Gm} (d d2 : D) (c c1 : O) (l : List O) (hd : h γ d) (hd2 : h2 γ d2) (hc : γ[i]? = some (some c)) (hl1 : getO c d = some c1) (hl : getO c1 d2 = some (.lst l))
    (hg : forIn x b E.rt (fun acc γ' => E.nx (γ'.set i (some (setO c d (setO c1 d2 (.lst acc)))))) [] l (γ.set i none)) : vForIn i x (pAt (pAt pHere h) h2) b E γ := by
  refine ⟨[d, d2], c, l, ⟨[d], d2, rfl, ⟨[], d, rfl, rfl, hd⟩, hd2⟩, hc, ?_, ?_⟩
  · show (getO c d).bind (fun o => (getO o d2).bind fun o => getP o []) = some (.lst l)
    rw [hl1]
    show (getO c1 d2).bind (fun o => getP o []) = some (.lst l)
    rw [hl]; rfl
  · have e : ∀ o, setP c [d, d2] o = setO c d (setO c1 d2 o) := fun o => by
      show (match getO c d with | some c1 => setO c d (match getO c1 d2 with | some c2 => setO c1 d2 (setP c2 [] o) | none => c1) | none => c) = _
      rw [hl1]
      show setO c d (match getO c1 d2 with | some c2 => setO c1 d2 (setP c2 [] o) | none => c1) = _
      rw [hl]; rfl
    simp only [e]
    exact hg
def prD (n : Nat) (ls : List (Nat × Nat)) (m : Nat) (ts : List (Nat × Nat)) : D := .tup [itD (n * m), .lst ((pTo ls ts m (n * m) (n * m)).map lnD)]
theorem prO_er (n m : Nat) (ls ts : List (Nat × Nat)) : (prO n ls m ts).er = prD n ls m ts := by
  unfold prO prD O.er
  show D.tup [_, (O.lst _).er] = _
  unfold O.er
  rw [erL_map lnO_er]
  rfl
theorem prO_no (n m : Nat) (ls ts : List (Nat × Nat)) : (prO n ls m ts).noIns = true := by
  unfold prO O.noIns
  show (true && ((O.lst _).noIns && true)) = true
  unfold O.noIns
  rw [noInsL_map lnO_no]; rfl
theorem pTo_mem {ls ts : List (Nat × Nat)} {m N k : Nat} {p : Nat × Nat} (hk : k ≤ N) (h : p ∈ pTo ls ts m N k) : p.1 ≤ N ∧ p.2 ≤ N := by
  unfold pTo at h
  obtain ⟨a, ha, h⟩ := List.mem_flatMap.mp h
  unfold pRow at h
  obtain ⟨b, hb, rfl⟩ := List.mem_map.mp h
  have h2 := (List.mem_filter.mp hb).1
  obtain ⟨i, hi, rfl⟩ := List.mem_map.mp h2
  have := List.mem_range.mp ha
  have := List.mem_range.mp hi
  simp only
  omega
theorem prD_R {n m : Nat} {ls ts : List (Nat × Nat)} (hp : n * m ≤ 12) : (prD n ls m ts).R 3 4000 := by
  have l1 := pTo_len ls ts m (n * m) (n * m)
  have l2 : n * m * (n * m) ≤ 144 := Nat.mul_le_mul hp hp
  refine (R_tup (RS_cons (R_int (i := (n * m : Nat)) (by omega)) (RS_cons (R_lst (RS_map (f := lnD) (h := 1) (w := 20) (l := pTo ls ts m (n * m) (n * m)) fun p hq => lnD_R ?_)) RS_nil))).more (by omega) (by omega)
  have := pTo_mem (Nat.le_refl _) hq
  omega
def F_law_product_right : DA
  | [.int n, d, .int m, e], K => ∃ (a b : Nat) (ls ts : List (Nat × Nat)), n = (a : Nat) ∧ m = (b : Nat) ∧ d = lsD ls ∧ e = lsD ts ∧ ls.length ≤ 1000 ∧ ts.length ≤ 1000 ∧ NetOk a ls ∧ NetOk b ts ∧ a * b ≤ 12 ∧ K (.sh (.bl true))
  | _, _ => False
/-- a line with something behind it -/
def lnN (o : O) : O := match o with
  | .lst l => .lst (l ++ [.sh .non])
  | _ => o
def lnND (p : Nat × Nat) : D := .lst [itD p.1, itD p.2, .non]
theorem lnN_er (p : Nat × Nat) : (lnN (lnO p)).er = lnND p := rfl
theorem lnN_no (p : Nat × Nat) : (lnN (lnO p)).noIns = true := rfl
theorem lnND_shp (p : Nat × Nat) : (D.lst [itD p.1, itD p.2, .non]).shp = true := pl_shp rfl (by show (1 : Nat) ≤ 64; omega)
theorem non_shp : D.non.shp = true := pl_shp rfl (by decide)
theorem lnND_cnt (p : Nat × Nat) : ([itD p.1, itD p.2, .non].countP fun z => z.eqv .non) = 1 := by
  simp [List.countP_cons, itD, D.eqv, D.toP, PyData.eqv]
theorem q_law_product_right (ds : List D) (Q : O → Prop) (_ : ds.length = 4) (h : F_law_product_right ds Q) : r_law_product_right F_law_product F_product { nx := fun _ => Q (.sh .non), rt := fun o _ => Q o } (g0 nn_law_product_right (ds.map O.sh)) := by
  unfold F_law_product_right at h
  split at h
  · obtain ⟨n, m, ls, ts, rfl, rfl, rfl, rfl, hl, ht, ok, ok2, hp, h⟩ := h
    have rb : (D.lst [lsD ls, lsD ts]).rpr = true := (R_lst (RS_cons (lsD_R ok.small hl) (RS_cons (lsD_R ok2.small ht) RS_nil))).rpr rfl (by decide) (by decide)
    have fp : ∀ K : O → Prop, K (prO n ls m ts) → F_product [.int (n : Nat), lsD ls, .int (m : Nat), lsD ts] K := fun K hK => ⟨n, m, ls, ts, rfl, rfl, rfl, rfl, hl, ht, ok, ok2, hp, hK⟩
    have fl : ∀ K : O → Prop, K (prO n ls m ts) → F_law_product [.int (n : Nat), lsD ls, .int (m : Nat), lsD ts] K := fp
    have r1 : (prD n ls m ts).rpr = true := (prD_R hp).rpr rfl (by decide) (by decide)
    have r2 : (D.lst [prD n ls m ts, prD n ls m ts]).rpr = true := (R_lst (RS_cons (prD_R hp) (RS_cons (prD_R hp) RS_nil))).rpr rfl (by decide) (by decide)
    simp only [r_law_product_right, nn_law_product_right, rb, vSeq, vAsg, vEx, vRet, vRetN, vIf, vNil, vFor, oN, oMv, oC, oCall, oCons, oNil, kArg, kKey, baOf, bbOf, aName, aTup, aNames, oB, oNot, oOr, oAnd, oV, oAndV, oOrV, oNotV, o2, kI_int, kI0_int, kB0_int, kAdd_int, kQ_int, kQ_str, kInt_int, kMin2_int, kIsi_iff, kLen_iff, kSub_iff, kIn_iff, kRepr_iff, kList_iff, kInts_iff, kBls_iff, kSorted_iff, oLst, oTup, oIf, oChain, oNeg, oPeek, oPeekT, iLst, iRange1, iRange2, iEnumO, oYes, vLc, vDc, oSl, oRev, oStep, pNone, pSome, rng1, rng2, oLR, oTR, oApp, oPopAt, oCallB, xN, vPar, g0, List.map_cons, List.map_nil, List.length_cons, List.length_nil, List.replicate, List.cons_append, List.nil_append, List.getElem?_cons_zero, List.getElem?_cons_succ, List.set_cons_zero, List.set_cons_succ, O.noIns, O.er, noInsL, erL, Bool.and_true, Bool.true_and, Option.some.injEq, exists_eq_left', exists_eq_left, true_and, and_true, Nat.reduceAdd, Nat.reduceSub, Nat.reduceLT, exists_and_left, exists_and_right, O.sh.injEq, D.int.injEq, D.bl.injEq, D.lst.injEq, List.cons.injEq, reduceCtorEq, exists_const, List.append_nil, List.singleton_append, and_self, exists_eq, exists_eq', Nat.lt_add_left_iff_pos, Nat.zero_lt_succ, wipeC, frzC, List.map_set, if_true, ite_true, Bool.false_eq_true, if_false, O.lst.injEq, O.dk.injEq, noInsL_sh, erL_sh, ngB_f, ngB_t, items_sh, items_lst, Nat.zero_add, Nat.reduceLeDiff, and_self, and_assoc]
    refine fl _ (fp _ ?_)
    simp only [picks4, vSeq, vAsg, vEx, vRet, vRetN, vIf, vNil, vFor, oN, oMv, oC, oCall, oCons, oNil, kArg, kKey, baOf, bbOf, aName, aTup, aNames, oB, oNot, oOr, oAnd, oV, oAndV, oOrV, oNotV, o2, kI_int, kI0_int, kB0_int, kAdd_int, kQ_int, kQ_str, kInt_int, kMin2_int, kIsi_iff, kLen_iff, kSub_iff, kIn_iff, kRepr_iff, kList_iff, kInts_iff, kBls_iff, kSorted_iff, oLst, oTup, oIf, oChain, oNeg, oPeek, oPeekT, iLst, iRange1, iRange2, iEnumO, oYes, vLc, vDc, oSl, oRev, oStep, pNone, pSome, rng1, rng2, oLR, oTR, oApp, oPopAt, oCallB, xN, vPar, g0, List.map_cons, List.map_nil, List.length_cons, List.length_nil, List.replicate, List.cons_append, List.nil_append, List.getElem?_cons_zero, List.getElem?_cons_succ, List.set_cons_zero, List.set_cons_succ, O.noIns, O.er, noInsL, erL, Bool.and_true, Bool.true_and, Option.some.injEq, exists_eq_left', exists_eq_left, true_and, and_true, Nat.reduceAdd, Nat.reduceSub, Nat.reduceLT, exists_and_left, exists_and_right, O.sh.injEq, D.int.injEq, D.bl.injEq, D.lst.injEq, List.cons.injEq, reduceCtorEq, exists_const, List.append_nil, List.singleton_append, and_self, exists_eq, exists_eq', Nat.lt_add_left_iff_pos, Nat.zero_lt_succ, wipeC, frzC, List.map_set, if_true, ite_true, Bool.false_eq_true, if_false, O.lst.injEq, O.dk.injEq, noInsL_sh, erL_sh, ngB_f, ngB_t, items_sh, items_lst, Nat.zero_add, Nat.reduceLeDiff, and_self, and_assoc]
    refine fp _ ?_
    simp only [prO_no, prO_er, r1, r2, rb, decide_true, Bool.not_true, vSeq, vAsg, vEx, vRet, vRetN, vIf, vNil, vFor, oN, oMv, oC, oCall, oCons, oNil, kArg, kKey, baOf, bbOf, aName, aTup, aNames, oB, oNot, oOr, oAnd, oV, oAndV, oOrV, oNotV, o2, kI_int, kI0_int, kB0_int, kAdd_int, kQ_int, kQ_str, kInt_int, kMin2_int, kIsi_iff, kLen_iff, kSub_iff, kIn_iff, kRepr_iff, kList_iff, kInts_iff, kBls_iff, kSorted_iff, oLst, oTup, oIf, oChain, oNeg, oPeek, oPeekT, iLst, iRange1, iRange2, iEnumO, oYes, vLc, vDc, oSl, oRev, oStep, pNone, pSome, rng1, rng2, oLR, oTR, oApp, oPopAt, oCallB, xN, vPar, g0, List.map_cons, List.map_nil, List.length_cons, List.length_nil, List.replicate, List.cons_append, List.nil_append, List.getElem?_cons_zero, List.getElem?_cons_succ, List.set_cons_zero, List.set_cons_succ, O.noIns, O.er, noInsL, erL, Bool.and_true, Bool.true_and, Option.some.injEq, exists_eq_left', exists_eq_left, true_and, and_true, Nat.reduceAdd, Nat.reduceSub, Nat.reduceLT, exists_and_left, exists_and_right, O.sh.injEq, D.int.injEq, D.bl.injEq, D.lst.injEq, List.cons.injEq, reduceCtorEq, exists_const, List.append_nil, List.singleton_append, and_self, exists_eq, exists_eq', Nat.lt_add_left_iff_pos, Nat.zero_lt_succ, wipeC, frzC, List.map_set, if_true, ite_true, Bool.false_eq_true, if_false, O.lst.injEq, O.dk.injEq, noInsL_sh, erL_sh, ngB_f, ngB_t, items_sh, items_lst, Nat.zero_add, Nat.reduceLeDiff, and_self, and_assoc]
    have lp := pTo_len ls ts m (n * m) (n * m)
    have lp2 : n * m * (n * m) ≤ 144 := Nat.mul_le_mul hp hp
    refine vForIn2 (.int 0) (.int 1) (.lst [prO n ls m ts, prO n ls m ts]) (prO n ls m ts) ((pTo ls ts m (n * m) (n * m)).map lnO) rfl rfl rfl rfl rfl ?_
    refine forIn_map lnN (by show 7 < 8; omega) rfl ?_ ?_
    · intro o ho E hE
      obtain ⟨p, _, rfl⟩ := List.mem_map.mp ho
      simp only [lnO, itO, vSeq, vAsg, vEx, vRet, vRetN, vIf, vNil, vFor, oN, oMv, oC, oCall, oCons, oNil, kArg, kKey, baOf, bbOf, aName, aTup, aNames, oB, oNot, oOr, oAnd, oV, oAndV, oOrV, oNotV, o2, kI_int, kI0_int, kB0_int, kAdd_int, kQ_int, kQ_str, kInt_int, kMin2_int, kIsi_iff, kLen_iff, kSub_iff, kIn_iff, kRepr_iff, kList_iff, kInts_iff, kBls_iff, kSorted_iff, oLst, oTup, oIf, oChain, oNeg, oPeek, oPeekT, iLst, iRange1, iRange2, iEnumO, oYes, vLc, vDc, oSl, oRev, oStep, pNone, pSome, rng1, rng2, oLR, oTR, oApp, oPopAt, oCallB, xN, vPar, g0, List.map_cons, List.map_nil, List.length_cons, List.length_nil, List.replicate, List.cons_append, List.nil_append, List.getElem?_cons_zero, List.getElem?_cons_succ, List.set_cons_zero, List.set_cons_succ, O.noIns, O.er, noInsL, erL, Bool.and_true, Bool.true_and, Option.some.injEq, exists_eq_left', exists_eq_left, true_and, and_true, Nat.reduceAdd, Nat.reduceSub, Nat.reduceLT, exists_and_left, exists_and_right, O.sh.injEq, D.int.injEq, D.bl.injEq, D.lst.injEq, List.cons.injEq, reduceCtorEq, exists_const, List.append_nil, List.singleton_append, and_self, exists_eq, exists_eq', Nat.lt_add_left_iff_pos, Nat.zero_lt_succ, wipeC, frzC, List.map_set, if_true, ite_true, Bool.false_eq_true, if_false, O.lst.injEq, O.dk.injEq, noInsL_sh, erL_sh, ngB_f, ngB_t, items_sh, items_lst, Nat.zero_add, Nat.reduceLeDiff, and_self, and_assoc]
      exact hE
    have eA : setO (.lst [prO n ls m ts, prO n ls m ts]) (.int 0) (setO (prO n ls m ts) (.int 1) (.lst (((pTo ls ts m (n * m) (n * m)).map lnO).map lnN))) = .lst [.tup [itO (n * m), .lst ((pTo ls ts m (n * m) (n * m)).map fun p => lnN (lnO p))], prO n ls m ts] := by
      rw [List.map_map]; rfl
    have n1 : (O.lst ((pTo ls ts m (n * m) (n * m)).map fun p => lnN (lnO p))).noIns = true := by unfold O.noIns; exact noInsL_map lnN_no _
    have n2 : (O.lst ((pTo ls ts m (n * m) (n * m)).map fun p => lnN (lnO p))).er = .lst ((pTo ls ts m (n * m) (n * m)).map lnND) := by unfold O.er; rw [erL_map lnN_er]
    simp only [vSeq, vAsg, vEx, vRet, vRetN, vIf, vNil, vFor, oN, oMv, oC, oCall, oCons, oNil, kArg, kKey, baOf, bbOf, aName, aTup, aNames, oB, oNot, oOr, oAnd, oV, oAndV, oOrV, oNotV, o2, kI_int, kI0_int, kB0_int, kAdd_int, kQ_int, kQ_str, kInt_int, kMin2_int, kIsi_iff, kLen_iff, kSub_iff, kIn_iff, kRepr_iff, kList_iff, kInts_iff, kBls_iff, kSorted_iff, oLst, oTup, oIf, oChain, oNeg, oPeek, oPeekT, iLst, iRange1, iRange2, iEnumO, oYes, vLc, vDc, oSl, oRev, oStep, pNone, pSome, rng1, rng2, oLR, oTR, oApp, oPopAt, oCallB, xN, vPar, g0, List.map_cons, List.map_nil, List.length_cons, List.length_nil, List.replicate, List.cons_append, List.nil_append, List.getElem?_cons_zero, List.getElem?_cons_succ, List.set_cons_zero, List.set_cons_succ, O.noIns, O.er, noInsL, erL, Bool.and_true, Bool.true_and, Option.some.injEq, exists_eq_left', exists_eq_left, true_and, and_true, Nat.reduceAdd, Nat.reduceSub, Nat.reduceLT, exists_and_left, exists_and_right, O.sh.injEq, D.int.injEq, D.bl.injEq, D.lst.injEq, List.cons.injEq, reduceCtorEq, exists_const, List.append_nil, List.singleton_append, and_self, exists_eq, exists_eq', Nat.lt_add_left_iff_pos, Nat.zero_lt_succ, wipeC, frzC, List.map_set, if_true, ite_true, Bool.false_eq_true, if_false, O.lst.injEq, O.dk.injEq, noInsL_sh, erL_sh, ngB_f, ngB_t, items_sh, items_lst, Nat.zero_add, Nat.reduceLeDiff, and_self, and_assoc]
    rw [eA]
    have n3 := noInsL_map lnN_no (pTo ls ts m (n * m) (n * m))
    have n4 := erL_map lnN_er (pTo ls ts m (n * m) (n * m))
    have z0 : subD (D.lst [D.tup [(itO (n * m)).er, D.lst ((pTo ls ts m (n * m) (n * m)).map lnND)], prD n ls m ts]) (.int 0) = some (D.tup [(itO (n * m)).er, D.lst ((pTo ls ts m (n * m) (n * m)).map lnND)]) := rfl
    have z1 : subD (D.tup [(itO (n * m)).er, D.lst ((pTo ls ts m (n * m) (n * m)).map lnND)]) (.int 1) = some (D.lst ((pTo ls ts m (n * m) (n * m)).map lnND)) := rfl
    simp only [n3, n4, z0, z1, prO_no, prO_er, itO_no, vSeq, vAsg, vEx, vRet, vRetN, vIf, vNil, vFor, oN, oMv, oC, oCall, oCons, oNil, kArg, kKey, baOf, bbOf, aName, aTup, aNames, oB, oNot, oOr, oAnd, oV, oAndV, oOrV, oNotV, o2, kI_int, kI0_int, kB0_int, kAdd_int, kQ_int, kQ_str, kInt_int, kMin2_int, kIsi_iff, kLen_iff, kSub_iff, kIn_iff, kRepr_iff, kList_iff, kInts_iff, kBls_iff, kSorted_iff, oLst, oTup, oIf, oChain, oNeg, oPeek, oPeekT, iLst, iRange1, iRange2, iEnumO, oYes, vLc, vDc, oSl, oRev, oStep, pNone, pSome, rng1, rng2, oLR, oTR, oApp, oPopAt, oCallB, xN, vPar, g0, List.map_cons, List.map_nil, List.length_cons, List.length_nil, List.replicate, List.cons_append, List.nil_append, List.getElem?_cons_zero, List.getElem?_cons_succ, List.set_cons_zero, List.set_cons_succ, O.noIns, O.er, noInsL, erL, Bool.and_true, Bool.true_and, Option.some.injEq, exists_eq_left', exists_eq_left, true_and, and_true, Nat.reduceAdd, Nat.reduceSub, Nat.reduceLT, exists_and_left, exists_and_right, O.sh.injEq, D.int.injEq, D.bl.injEq, D.lst.injEq, List.cons.injEq, reduceCtorEq, exists_const, List.append_nil, List.singleton_append, and_self, exists_eq, exists_eq', Nat.lt_add_left_iff_pos, Nat.zero_lt_succ, wipeC, frzC, List.map_set, if_true, ite_true, Bool.false_eq_true, if_false, O.lst.injEq, O.dk.injEq, noInsL_sh, erL_sh, ngB_f, ngB_t, items_sh, items_lst, Nat.zero_add, Nat.reduceLeDiff, and_self, and_assoc]
    refine ⟨by rw [List.length_map, List.length_map]; omega, ?_⟩
    refine compV_map (fun _ => none) ?_ [] ?_
    · intro o ho N hN
      obtain ⟨d, hd, rfl⟩ := List.mem_map.mp ho
      obtain ⟨p, _, rfl⟩ := List.mem_map.mp hd
      simp only [oCnt, lnND, non_shp, lnND_shp, lnND_cnt, vSeq, vAsg, vEx, vRet, vRetN, vIf, vNil, vFor, oN, oMv, oC, oCall, oCons, oNil, kArg, kKey, baOf, bbOf, aName, aTup, aNames, oB, oNot, oOr, oAnd, oV, oAndV, oOrV, oNotV, o2, kI_int, kI0_int, kB0_int, kAdd_int, kQ_int, kQ_str, kInt_int, kMin2_int, kIsi_iff, kLen_iff, kSub_iff, kIn_iff, kRepr_iff, kList_iff, kInts_iff, kBls_iff, kSorted_iff, oLst, oTup, oIf, oChain, oNeg, oPeek, oPeekT, iLst, iRange1, iRange2, iEnumO, oYes, vLc, vDc, oSl, oRev, oStep, pNone, pSome, rng1, rng2, oLR, oTR, oApp, oPopAt, oCallB, xN, vPar, g0, List.map_cons, List.map_nil, List.length_cons, List.length_nil, List.replicate, List.cons_append, List.nil_append, List.getElem?_cons_zero, List.getElem?_cons_succ, List.set_cons_zero, List.set_cons_succ, O.noIns, O.er, noInsL, erL, Bool.and_true, Bool.true_and, Option.some.injEq, exists_eq_left', exists_eq_left, true_and, and_true, Nat.reduceAdd, Nat.reduceSub, Nat.reduceLT, exists_and_left, exists_and_right, O.sh.injEq, D.int.injEq, D.bl.injEq, D.lst.injEq, List.cons.injEq, reduceCtorEq, exists_const, List.append_nil, List.singleton_append, and_self, exists_eq, exists_eq', Nat.lt_add_left_iff_pos, Nat.zero_lt_succ, wipeC, frzC, List.map_set, if_true, ite_true, Bool.false_eq_true, if_false, O.lst.injEq, O.dk.injEq, noInsL_sh, erL_sh, ngB_f, ngB_t, items_sh, items_lst, Nat.zero_add, Nat.reduceLeDiff, and_self, and_assoc]
      have z : (!decide (((1 : Nat) : Int) = 1)) = false := rfl
      rw [z]
      simp only [vSeq, vAsg, vEx, vRet, vRetN, vIf, vNil, vFor, oN, oMv, oC, oCall, oCons, oNil, kArg, kKey, baOf, bbOf, aName, aTup, aNames, oB, oNot, oOr, oAnd, oV, oAndV, oOrV, oNotV, o2, kI_int, kI0_int, kB0_int, kAdd_int, kQ_int, kQ_str, kInt_int, kMin2_int, kIsi_iff, kLen_iff, kSub_iff, kIn_iff, kRepr_iff, kList_iff, kInts_iff, kBls_iff, kSorted_iff, oLst, oTup, oIf, oChain, oNeg, oPeek, oPeekT, iLst, iRange1, iRange2, iEnumO, oYes, vLc, vDc, oSl, oRev, oStep, pNone, pSome, rng1, rng2, oLR, oTR, oApp, oPopAt, oCallB, xN, vPar, g0, List.map_cons, List.map_nil, List.length_cons, List.length_nil, List.replicate, List.cons_append, List.nil_append, List.getElem?_cons_zero, List.getElem?_cons_succ, List.set_cons_zero, List.set_cons_succ, O.noIns, O.er, noInsL, erL, Bool.and_true, Bool.true_and, Option.some.injEq, exists_eq_left', exists_eq_left, true_and, and_true, Nat.reduceAdd, Nat.reduceSub, Nat.reduceLT, exists_and_left, exists_and_right, O.sh.injEq, D.int.injEq, D.bl.injEq, D.lst.injEq, List.cons.injEq, reduceCtorEq, exists_const, List.append_nil, List.singleton_append, and_self, exists_eq, exists_eq', Nat.lt_add_left_iff_pos, Nat.zero_lt_succ, wipeC, frzC, List.map_set, if_true, ite_true, Bool.false_eq_true, if_false, O.lst.injEq, O.dk.injEq, noInsL_sh, erL_sh, ngB_f, ngB_t, items_sh, items_lst, Nat.zero_add, Nat.reduceLeDiff, and_self, and_assoc]
      exact hN
    · have z : ([] : List O) ++ (((pTo ls ts m (n * m) (n * m)).map lnND).map O.sh).filterMap (fun _ => (none : Option O)) = [] := by
        simp [List.filterMap_eq_nil_iff]
      rw [z]
      refine kQ_pl rfl rfl rfl rfl (by decide) (by decide) fun b hb => ?_
      have hb : b = true := hb.mpr rfl
      subst hb
      simp only [Bool.not_true, vSeq, vAsg, vEx, vRet, vRetN, vIf, vNil, vFor, oN, oMv, oC, oCall, oCons, oNil, kArg, kKey, baOf, bbOf, aName, aTup, aNames, oB, oNot, oOr, oAnd, oV, oAndV, oOrV, oNotV, o2, kI_int, kI0_int, kB0_int, kAdd_int, kQ_int, kQ_str, kInt_int, kMin2_int, kIsi_iff, kLen_iff, kSub_iff, kIn_iff, kRepr_iff, kList_iff, kInts_iff, kBls_iff, kSorted_iff, oLst, oTup, oIf, oChain, oNeg, oPeek, oPeekT, iLst, iRange1, iRange2, iEnumO, oYes, vLc, vDc, oSl, oRev, oStep, pNone, pSome, rng1, rng2, oLR, oTR, oApp, oPopAt, oCallB, xN, vPar, g0, List.map_cons, List.map_nil, List.length_cons, List.length_nil, List.replicate, List.cons_append, List.nil_append, List.getElem?_cons_zero, List.getElem?_cons_succ, List.set_cons_zero, List.set_cons_succ, O.noIns, O.er, noInsL, erL, Bool.and_true, Bool.true_and, Option.some.injEq, exists_eq_left', exists_eq_left, true_and, and_true, Nat.reduceAdd, Nat.reduceSub, Nat.reduceLT, exists_and_left, exists_and_right, O.sh.injEq, D.int.injEq, D.bl.injEq, D.lst.injEq, List.cons.injEq, reduceCtorEq, exists_const, List.append_nil, List.singleton_append, and_self, exists_eq, exists_eq', Nat.lt_add_left_iff_pos, Nat.zero_lt_succ, wipeC, frzC, List.map_set, if_true, ite_true, Bool.false_eq_true, if_false, O.lst.injEq, O.dk.injEq, noInsL_sh, erL_sh, ngB_f, ngB_t, items_sh, items_lst, Nat.zero_add, Nat.reduceLeDiff, and_self, and_assoc]
      refine oAppL2 (.int 0) (.int 1) _ _ _ rfl rfl rfl rfl rfl ?_
      simp only [vSeq, vAsg, vEx, vRet, vRetN, vIf, vNil, vFor, oN, oMv, oC, oCall, oCons, oNil, kArg, kKey, baOf, bbOf, aName, aTup, aNames, oB, oNot, oOr, oAnd, oV, oAndV, oOrV, oNotV, o2, kI_int, kI0_int, kB0_int, kAdd_int, kQ_int, kQ_str, kInt_int, kMin2_int, kIsi_iff, kLen_iff, kSub_iff, kIn_iff, kRepr_iff, kList_iff, kInts_iff, kBls_iff, kSorted_iff, oLst, oTup, oIf, oChain, oNeg, oPeek, oPeekT, iLst, iRange1, iRange2, iEnumO, oYes, vLc, vDc, oSl, oRev, oStep, pNone, pSome, rng1, rng2, oLR, oTR, oApp, oPopAt, oCallB, xN, vPar, g0, List.map_cons, List.map_nil, List.length_cons, List.length_nil, List.replicate, List.cons_append, List.nil_append, List.getElem?_cons_zero, List.getElem?_cons_succ, List.set_cons_zero, List.set_cons_succ, O.noIns, O.er, noInsL, erL, Bool.and_true, Bool.true_and, Option.some.injEq, exists_eq_left', exists_eq_left, true_and, and_true, Nat.reduceAdd, Nat.reduceSub, Nat.reduceLT, exists_and_left, exists_and_right, O.sh.injEq, D.int.injEq, D.bl.injEq, D.lst.injEq, List.cons.injEq, reduceCtorEq, exists_const, List.append_nil, List.singleton_append, and_self, exists_eq, exists_eq', Nat.lt_add_left_iff_pos, Nat.zero_lt_succ, wipeC, frzC, List.map_set, if_true, ite_true, Bool.false_eq_true, if_false, O.lst.injEq, O.dk.injEq, noInsL_sh, erL_sh, ngB_f, ngB_t, items_sh, items_lst, Nat.zero_add, Nat.reduceLeDiff, and_self, and_assoc]
      refine ⟨by rw [List.length_map]; omega, ?_⟩
      refine fp _ ?_
      simp only [prO_no, prO_er, r1, decide_true, vSeq, vAsg, vEx, vRet, vRetN, vIf, vNil, vFor, oN, oMv, oC, oCall, oCons, oNil, kArg, kKey, baOf, bbOf, aName, aTup, aNames, oB, oNot, oOr, oAnd, oV, oAndV, oOrV, oNotV, o2, kI_int, kI0_int, kB0_int, kAdd_int, kQ_int, kQ_str, kInt_int, kMin2_int, kIsi_iff, kLen_iff, kSub_iff, kIn_iff, kRepr_iff, kList_iff, kInts_iff, kBls_iff, kSorted_iff, oLst, oTup, oIf, oChain, oNeg, oPeek, oPeekT, iLst, iRange1, iRange2, iEnumO, oYes, vLc, vDc, oSl, oRev, oStep, pNone, pSome, rng1, rng2, oLR, oTR, oApp, oPopAt, oCallB, xN, vPar, g0, List.map_cons, List.map_nil, List.length_cons, List.length_nil, List.replicate, List.cons_append, List.nil_append, List.getElem?_cons_zero, List.getElem?_cons_succ, List.set_cons_zero, List.set_cons_succ, O.noIns, O.er, noInsL, erL, Bool.and_true, Bool.true_and, Option.some.injEq, exists_eq_left', exists_eq_left, true_and, and_true, Nat.reduceAdd, Nat.reduceSub, Nat.reduceLT, exists_and_left, exists_and_right, O.sh.injEq, D.int.injEq, D.bl.injEq, D.lst.injEq, List.cons.injEq, reduceCtorEq, exists_const, List.append_nil, List.singleton_append, and_self, exists_eq, exists_eq', Nat.lt_add_left_iff_pos, Nat.zero_lt_succ, wipeC, frzC, List.map_set, if_true, ite_true, Bool.false_eq_true, if_false, O.lst.injEq, O.dk.injEq, noInsL_sh, erL_sh, ngB_f, ngB_t, items_sh, items_lst, Nat.zero_add, Nat.reduceLeDiff, and_self, and_assoc]
      exact h
  · exact h.elim
end FN
end
section
namespace FN
open PySem PySem.Spec L2
open PyProof.Rows hiding St
/-! ### draws: all that counts is that they are no less than 0 -/
def drO (x : Int) (a : Nat) (b : Bool) : O := .lst [.sh (.int x), .sh (.int (a : Nat)), .sh (.bl b)]
def drD (x : Int) (a : Nat) (b : Bool) : D := .lst [.int x, .int (a : Nat), .bl b]
theorem drO_no (x : Int) (a : Nat) (b : Bool) : (drO x a b).noIns = true := rfl
theorem drO_er (x : Int) (a : Nat) (b : Bool) : (drO x a b).er = drD x a b := rfl
theorem dr0 (x : Int) (a : Nat) (b : Bool) : subD (drD x a b) (.int 0) = some (.int x) := rfl
theorem dr1 (x : Int) (a : Nat) (b : Bool) : subD (drD x a b) (.int 1) = some (.int (a : Nat)) := rfl
theorem dr2 (x : Int) (a : Nat) (b : Bool) : subD (drD x a b) (.int 2) = some (.bl b) := rfl
theorem dp1 (x : Int) (a : Nat) (b : Bool) (a' : Nat) : putO (drO x a b) (.int 1) (.sh (.int (a' : Nat))) = some (drO x a' b) := rfl
theorem dp0 (x : Int) (a : Nat) (b : Bool) (x' : Int) : putO (drO x a b) (.int 0) (.sh (.int x')) = some (drO x' a b) := rfl
theorem sc_int (i : Int) : (D.int i).scalar = true := rfl
theorem sc_bl (i : Bool) : (D.bl i).scalar = true := rfl
theorem sc_str (i : Str) : (D.str i).scalar = true := rfl
def F_law_draws : DA
  | [.int _], K => ∀ x b, K (drO x 0 b)
  | _, _ => False
theorem pw1 : CPowW 10 60 := ⟨by decide, by decide +kernel⟩
theorem pw2 : CPowW (10 ^ (60 : Int).toNat) 60 := ⟨by decide, by decide +kernel⟩
theorem pw3 : CPowW ((10 ^ (60 : Int).toNat) ^ (60 : Int).toNat) 4 := ⟨by decide, by decide +kernel⟩
theorem pw4 : CPowW 10 18 := ⟨by decide, by decide +kernel⟩
theorem pw5 : CPowW 10 6 := ⟨by decide, by decide +kernel⟩
theorem pwp : (0 : Int) < ((10 ^ (60 : Int).toNat) ^ (60 : Int).toNat) ^ (4 : Int).toNat := Int.pow_pos (Int.pow_pos (Int.pow_pos (by decide)))
theorem pw6 : (10 : Int) ^ (6 : Int).toNat = 1000000 := by decide
theorem q_law_draws (ds : List D) (Q : O → Prop) (_ : ds.length = 1) (h : F_law_draws ds Q) : r_law_draws { nx := fun _ => Q (.sh .non), rt := fun o _ => Q o } (g0 nn_law_draws (ds.map O.sh)) := by
  unfold F_law_draws at h
  split at h
  · simp only [r_law_draws, nn_law_draws, pw1, pw2, pw3, pw4, pwp, vSeq, vAsg, vEx, vRet, vRetN, vIf, vNil, vFor, oN, oMv, oC, oCall, oCons, oNil, kArg, kKey, baOf, bbOf, aName, aTup, aNames, oB, oNot, oOr, oAnd, oV, oAndV, oOrV, oNotV, o2, kI_int, kI0_int, kB0_int, kAdd_int, kQ_int, kQ_str, kInt_int, kMin2_int, kIsi_iff, kLen_iff, kSub_iff, kIn_iff, kRepr_iff, kList_iff, kInts_iff, kBls_iff, kSorted_iff, oLst, oTup, oIf, oChain, oNeg, oPeek, oPeekT, iLst, iRange1, iRange2, iEnumO, oYes, vLc, vDc, oSl, oRev, oStep, pNone, pSome, rng1, rng2, oLR, oTR, oApp, oPopAt, oCallB, xN, vPar, g0, List.map_cons, List.map_nil, List.length_cons, List.length_nil, List.replicate, List.cons_append, List.nil_append, List.getElem?_cons_zero, List.getElem?_cons_succ, List.set_cons_zero, List.set_cons_succ, O.noIns, O.er, noInsL, erL, Bool.and_true, Bool.true_and, Option.some.injEq, exists_eq_left', exists_eq_left, true_and, and_true, Nat.reduceAdd, Nat.reduceSub, Nat.reduceLT, exists_and_left, exists_and_right, O.sh.injEq, D.int.injEq, D.bl.injEq, D.lst.injEq, List.cons.injEq, reduceCtorEq, exists_const, List.append_nil, List.singleton_append, and_self, exists_eq, exists_eq', Nat.lt_add_left_iff_pos, Nat.zero_lt_succ, wipeC, frzC, List.map_set, if_true, ite_true, Bool.false_eq_true, if_false, O.lst.injEq, O.dk.injEq, noInsL_sh, erL_sh, ngB_f, ngB_t, items_sh, items_lst, Nat.zero_add, Nat.reduceLeDiff, and_self, and_assoc]
    exact h _ _
  · exact h.elim
def F_law_next : DB
  | c, [], K => ∃ x a b, c = drO x a b ∧ a < 2 ^ 40 ∧ ∀ (r : Nat) x', K (.sh (.int (r : Nat))) (drO x' (a + 1) b)
  | _, _, _ => False
theorem q_law_next (c : O) (ds : List D) (Q : O → O → Prop) (_ : ds.length = 0) (h : F_law_next c ds Q) :
    r_law_next { nx := fun γ => ∃ c', γ[0]? = some (some c') ∧ Q (.sh .non) c', rt := fun o γ => ∃ c', γ[0]? = some (some c') ∧ Q o c' } (g0 nn_law_next (c :: ds.map O.sh)) := by
  unfold F_law_next at h
  split at h
  · obtain ⟨x, a, b, rfl, ha, h⟩ := h
    have e1 : ((a : Int) + 1) = ((a + 1 : Nat) : Int) := rfl
    simp only [r_law_next, nn_law_next, drO_no, drO_er, dr0, dr1, dr2, e1, sc_int, sc_bl, vSeq, vAsg, vEx, vRet, vRetN, vIf, vNil, vFor, oN, oMv, oC, oCall, oCons, oNil, kArg, kKey, baOf, bbOf, aName, aTup, aNames, oB, oNot, oOr, oAnd, oV, oAndV, oOrV, oNotV, o2, kI_int, kI0_int, kB0_int, kAdd_int, kQ_int, kQ_str, kInt_int, kMin2_int, kIsi_iff, kLen_iff, kSub_iff, kIn_iff, kRepr_iff, kList_iff, kInts_iff, kBls_iff, kSorted_iff, oLst, oTup, oIf, oChain, oNeg, oPeek, oPeekT, iLst, iRange1, iRange2, iEnumO, oYes, vLc, vDc, oSl, oRev, oStep, pNone, pSome, rng1, rng2, oLR, oTR, oApp, oPopAt, oCallB, xN, vPar, g0, List.map_cons, List.map_nil, List.length_cons, List.length_nil, List.replicate, List.cons_append, List.nil_append, List.getElem?_cons_zero, List.getElem?_cons_succ, List.set_cons_zero, List.set_cons_succ, O.noIns, O.er, noInsL, erL, Bool.and_true, Bool.true_and, Option.some.injEq, exists_eq_left', exists_eq_left, true_and, and_true, Nat.reduceAdd, Nat.reduceSub, Nat.reduceLT, exists_and_left, exists_and_right, O.sh.injEq, D.int.injEq, D.bl.injEq, D.lst.injEq, List.cons.injEq, reduceCtorEq, exists_const, List.append_nil, List.singleton_append, and_self, exists_eq, exists_eq', Nat.lt_add_left_iff_pos, Nat.zero_lt_succ, wipeC, frzC, List.map_set, if_true, ite_true, Bool.false_eq_true, if_false, O.lst.injEq, O.dk.injEq, noInsL_sh, erL_sh, ngB_f, ngB_t, items_sh, items_lst, Nat.zero_add, Nat.reduceLeDiff, and_self, and_assoc]
    refine aPut0 rfl ?_
    simp only [vSeq, vAsg, vEx, vRet, vRetN, vIf, vNil, vFor, oN, oMv, oC, oCall, oCons, oNil, kArg, kKey, baOf, bbOf, aName, aTup, aNames, oB, oNot, oOr, oAnd, oV, oAndV, oOrV, oNotV, o2, kI_int, kI0_int, kB0_int, kAdd_int, kQ_int, kQ_str, kInt_int, kMin2_int, kIsi_iff, kLen_iff, kSub_iff, kIn_iff, kRepr_iff, kList_iff, kInts_iff, kBls_iff, kSorted_iff, oLst, oTup, oIf, oChain, oNeg, oPeek, oPeekT, iLst, iRange1, iRange2, iEnumO, oYes, vLc, vDc, oSl, oRev, oStep, pNone, pSome, rng1, rng2, oLR, oTR, oApp, oPopAt, oCallB, xN, vPar, g0, List.map_cons, List.map_nil, List.length_cons, List.length_nil, List.replicate, List.cons_append, List.nil_append, List.getElem?_cons_zero, List.getElem?_cons_succ, List.set_cons_zero, List.set_cons_succ, O.noIns, O.er, noInsL, erL, Bool.and_true, Bool.true_and, Option.some.injEq, exists_eq_left', exists_eq_left, true_and, and_true, Nat.reduceAdd, Nat.reduceSub, Nat.reduceLT, exists_and_left, exists_and_right, O.sh.injEq, D.int.injEq, D.bl.injEq, D.lst.injEq, List.cons.injEq, reduceCtorEq, exists_const, List.append_nil, List.singleton_append, and_self, exists_eq, exists_eq', Nat.lt_add_left_iff_pos, Nat.zero_lt_succ, wipeC, frzC, List.map_set, if_true, ite_true, Bool.false_eq_true, if_false, O.lst.injEq, O.dk.injEq, noInsL_sh, erL_sh, ngB_f, ngB_t, items_sh, items_lst, Nat.zero_add, Nat.reduceLeDiff, and_self, and_assoc]
    refine ⟨_, dp1 x a b (a + 1), ?_⟩
    simp only [drO_no, drO_er, dr0, dr1, dr2, pw5, pw6, sc_int, sc_bl, vSeq, vAsg, vEx, vRet, vRetN, vIf, vNil, vFor, oN, oMv, oC, oCall, oCons, oNil, kArg, kKey, baOf, bbOf, aName, aTup, aNames, oB, oNot, oOr, oAnd, oV, oAndV, oOrV, oNotV, o2, kI_int, kI0_int, kB0_int, kAdd_int, kQ_int, kQ_str, kInt_int, kMin2_int, kIsi_iff, kLen_iff, kSub_iff, kIn_iff, kRepr_iff, kList_iff, kInts_iff, kBls_iff, kSorted_iff, oLst, oTup, oIf, oChain, oNeg, oPeek, oPeekT, iLst, iRange1, iRange2, iEnumO, oYes, vLc, vDc, oSl, oRev, oStep, pNone, pSome, rng1, rng2, oLR, oTR, oApp, oPopAt, oCallB, xN, vPar, g0, List.map_cons, List.map_nil, List.length_cons, List.length_nil, List.replicate, List.cons_append, List.nil_append, List.getElem?_cons_zero, List.getElem?_cons_succ, List.set_cons_zero, List.set_cons_succ, O.noIns, O.er, noInsL, erL, Bool.and_true, Bool.true_and, Option.some.injEq, exists_eq_left', exists_eq_left, true_and, and_true, Nat.reduceAdd, Nat.reduceSub, Nat.reduceLT, exists_and_left, exists_and_right, O.sh.injEq, D.int.injEq, D.bl.injEq, D.lst.injEq, List.cons.injEq, reduceCtorEq, exists_const, List.append_nil, List.singleton_append, and_self, exists_eq, exists_eq', Nat.lt_add_left_iff_pos, Nat.zero_lt_succ, wipeC, frzC, List.map_set, if_true, ite_true, Bool.false_eq_true, if_false, O.lst.injEq, O.dk.injEq, noInsL_sh, erL_sh, ngB_f, ngB_t, items_sh, items_lst, Nat.zero_add, Nat.reduceLeDiff, and_self, and_assoc]
    have p6 : (0 : Int) < 1000000 := by decide
    cases b with
    | true =>
      simp only [drO_no, drO_er, dr0, dr1, dr2, pw5, pw6, p6, sc_int, sc_bl, vSeq, vAsg, vEx, vRet, vRetN, vIf, vNil, vFor, oN, oMv, oC, oCall, oCons, oNil, kArg, kKey, baOf, bbOf, aName, aTup, aNames, oB, oNot, oOr, oAnd, oV, oAndV, oOrV, oNotV, o2, kI_int, kI0_int, kB0_int, kAdd_int, kQ_int, kQ_str, kInt_int, kMin2_int, kIsi_iff, kLen_iff, kSub_iff, kIn_iff, kRepr_iff, kList_iff, kInts_iff, kBls_iff, kSorted_iff, oLst, oTup, oIf, oChain, oNeg, oPeek, oPeekT, iLst, iRange1, iRange2, iEnumO, oYes, vLc, vDc, oSl, oRev, oStep, pNone, pSome, rng1, rng2, oLR, oTR, oApp, oPopAt, oCallB, xN, vPar, g0, List.map_cons, List.map_nil, List.length_cons, List.length_nil, List.replicate, List.cons_append, List.nil_append, List.getElem?_cons_zero, List.getElem?_cons_succ, List.set_cons_zero, List.set_cons_succ, O.noIns, O.er, noInsL, erL, Bool.and_true, Bool.true_and, Option.some.injEq, exists_eq_left', exists_eq_left, true_and, and_true, Nat.reduceAdd, Nat.reduceSub, Nat.reduceLT, exists_and_left, exists_and_right, O.sh.injEq, D.int.injEq, D.bl.injEq, D.lst.injEq, List.cons.injEq, reduceCtorEq, exists_const, List.append_nil, List.singleton_append, and_self, exists_eq, exists_eq', Nat.lt_add_left_iff_pos, Nat.zero_lt_succ, wipeC, frzC, List.map_set, if_true, ite_true, Bool.false_eq_true, if_false, O.lst.injEq, O.dk.injEq, noInsL_sh, erL_sh, ngB_f, ngB_t, items_sh, items_lst, Nat.zero_add, Nat.reduceLeDiff, and_self, and_assoc]
      refine ⟨divW (by decide) (by decide), ?_⟩
      refine aPut0 rfl ?_
      simp only [vSeq, vAsg, vEx, vRet, vRetN, vIf, vNil, vFor, oN, oMv, oC, oCall, oCons, oNil, kArg, kKey, baOf, bbOf, aName, aTup, aNames, oB, oNot, oOr, oAnd, oV, oAndV, oOrV, oNotV, o2, kI_int, kI0_int, kB0_int, kAdd_int, kQ_int, kQ_str, kInt_int, kMin2_int, kIsi_iff, kLen_iff, kSub_iff, kIn_iff, kRepr_iff, kList_iff, kInts_iff, kBls_iff, kSorted_iff, oLst, oTup, oIf, oChain, oNeg, oPeek, oPeekT, iLst, iRange1, iRange2, iEnumO, oYes, vLc, vDc, oSl, oRev, oStep, pNone, pSome, rng1, rng2, oLR, oTR, oApp, oPopAt, oCallB, xN, vPar, g0, List.map_cons, List.map_nil, List.length_cons, List.length_nil, List.replicate, List.cons_append, List.nil_append, List.getElem?_cons_zero, List.getElem?_cons_succ, List.set_cons_zero, List.set_cons_succ, O.noIns, O.er, noInsL, erL, Bool.and_true, Bool.true_and, Option.some.injEq, exists_eq_left', exists_eq_left, true_and, and_true, Nat.reduceAdd, Nat.reduceSub, Nat.reduceLT, exists_and_left, exists_and_right, O.sh.injEq, D.int.injEq, D.bl.injEq, D.lst.injEq, List.cons.injEq, reduceCtorEq, exists_const, List.append_nil, List.singleton_append, and_self, exists_eq, exists_eq', Nat.lt_add_left_iff_pos, Nat.zero_lt_succ, wipeC, frzC, List.map_set, if_true, ite_true, Bool.false_eq_true, if_false, O.lst.injEq, O.dk.injEq, noInsL_sh, erL_sh, ngB_f, ngB_t, items_sh, items_lst, Nat.zero_add, Nat.reduceLeDiff, and_self, and_assoc]
      refine ⟨_, dp0 x (a + 1) true _, ?_⟩
      have e : x % 1000000 = ((x % 1000000).toNat : Int) := by have := Int.emod_nonneg x (show (1000000 : Int) ≠ 0 by decide); omega
      rw [e]
      exact h _ _
    | false =>
      simp only [Bool.false_eq_true, if_false]
      generalize hP : ((a + 1 : Nat) : Int) * ((a + 1 : Nat) : Int) = P
      have hA : ((a + 1 : Nat) : Int).natAbs < 2 ^ 41 := by omega
      have hP1 : P.natAbs < 2 ^ 82 := by rw [← hP]; exact wide_lt hA hA
      have hP2 : 0 ≤ P := by rw [← hP]; exact Int.mul_nonneg (by omega) (by omega)
      have hr1 := Int.emod_nonneg x (show (1000003 : Int) ≠ 0 by decide)
      have hr2 := Int.emod_lt_of_pos x (show (0 : Int) < 1000003 by decide)
      refine ⟨by decide, wide_mul hA hA (by decide) (by decide) (by decide), wide_mul (a := 82) (b := 13) hP1 (by decide) (by decide) (by decide) (by decide), ?_⟩
      generalize hS : x % 1000003 + P * 7919 + ((a + 1 : Nat) : Int) = S
      have hS1 : S.natAbs < 2 ^ 100 := by omega
      refine ⟨wide_mul (a := 100) (b := 16) hS1 (by decide) (by decide) (by decide) (by decide), by decide, ?_⟩
      generalize hM : S * 48271 % 2147483629 = M
      have m1 : 0 ≤ M := by rw [← hM]; exact Int.emod_nonneg _ (by decide)
      have m2 : M < 2147483629 := by rw [← hM]; exact Int.emod_lt_of_pos _ (by decide)
      refine ⟨mulW (by omega) (by omega), by decide, ?_⟩
      generalize hL : M * M % 2147483587 = L
      have l1 : 0 ≤ L := by rw [← hL]; exact Int.emod_nonneg _ (by decide)
      have l2 : L < 2147483587 := by rw [← hL]; exact Int.emod_lt_of_pos _ (by decide)
      refine ⟨mulW (by omega) (by omega), by decide, divW (by decide) (by decide), ?_⟩
      generalize hR : L * (L + 2) % 2147483579 = R
      have q1 : 0 ≤ R := by rw [← hR]; exact Int.emod_nonneg _ (by decide)
      have e : R / 7 = ((R / 7).toNat : Int) := by omega
      rw [e]
      exact h _ _
  · exact h.elim
/-! ### shuffled -/
theorem erase_perm {α : Type} : ∀ {l : List α} {j : Nat} (hj : j < l.length), (l[j] :: l.eraseIdx j).Perm l
  | a :: l, 0, _ => .refl _
  | a :: l, j + 1, hj => by
    show (l[j]'(by simpa using hj) :: a :: l.eraseIdx j).Perm (a :: l)
    exact (List.Perm.swap _ _ _).trans (List.Perm.cons a (erase_perm (by simpa using hj)))
theorem erase_map {α β : Type} (f : α → β) : ∀ (l : List α) (j : Nat), (l.map f).eraseIdx j = (l.eraseIdx j).map f
  | [], _ => rfl
  | a :: l, 0 => rfl
  | a :: l, j + 1 => by
    show f a :: (l.map f).eraseIdx j = f a :: (l.eraseIdx j).map f
    rw [erase_map f l j]
def F_law_shuffled : DB
  | c, [.lst l], K => ∃ x a b, c = drO x a b ∧ a + l.length < 2 ^ 40 ∧ l.length ≤ 1000 ∧ pls l = true ∧ deps l ≤ 60 ∧ ∀ (l' : List D) x', l'.Perm l → K (.lst (l'.map O.sh)) (drO x' (a + l.length) b)
  | _, _, _ => False
theorem q_law_shuffled (c : O) (ds : List D) (Q : O → O → Prop) (_ : ds.length = 1) (h : F_law_shuffled c ds Q) :
    r_law_shuffled F_law_next { nx := fun γ => ∃ c', γ[0]? = some (some c') ∧ Q (.sh .non) c', rt := fun o γ => ∃ c', γ[0]? = some (some c') ∧ Q o c' } (g0 nn_law_shuffled (c :: ds.map O.sh)) := by
  unfold F_law_shuffled at h
  split at h
  · obtain ⟨x, a, b, rfl, ha, hl, pl, dl, h⟩ := h
    rename_i l _
    simp only [r_law_shuffled, nn_law_shuffled, seqD, vSeq, vAsg, vEx, vRet, vRetN, vIf, vNil, vFor, oN, oMv, oC, oCall, oCons, oNil, kArg, kKey, baOf, bbOf, aName, aTup, aNames, oB, oNot, oOr, oAnd, oV, oAndV, oOrV, oNotV, o2, kI_int, kI0_int, kB0_int, kAdd_int, kQ_int, kQ_str, kInt_int, kMin2_int, kIsi_iff, kLen_iff, kSub_iff, kIn_iff, kRepr_iff, kList_iff, kInts_iff, kBls_iff, kSorted_iff, oLst, oTup, oIf, oChain, oNeg, oPeek, oPeekT, iLst, iRange1, iRange2, iEnumO, oYes, vLc, vDc, oSl, oRev, oStep, pNone, pSome, rng1, rng2, oLR, oTR, oApp, oPopAt, oCallB, xN, vPar, g0, List.map_cons, List.map_nil, List.length_cons, List.length_nil, List.replicate, List.cons_append, List.nil_append, List.getElem?_cons_zero, List.getElem?_cons_succ, List.set_cons_zero, List.set_cons_succ, O.noIns, O.er, noInsL, erL, Bool.and_true, Bool.true_and, Option.some.injEq, exists_eq_left', exists_eq_left, true_and, and_true, Nat.reduceAdd, Nat.reduceSub, Nat.reduceLT, exists_and_left, exists_and_right, O.sh.injEq, D.int.injEq, D.bl.injEq, D.lst.injEq, List.cons.injEq, reduceCtorEq, exists_const, List.append_nil, List.singleton_append, and_self, exists_eq, exists_eq', Nat.lt_add_left_iff_pos, Nat.zero_lt_succ, wipeC, frzC, List.map_set, if_true, ite_true, Bool.false_eq_true, if_false, O.lst.injEq, O.dk.injEq, noInsL_sh, erL_sh, ngB_f, ngB_t, items_sh, items_lst, Nat.zero_add, Nat.reduceLeDiff, and_self, and_assoc]
    refine ⟨fun m γ => ∃ (x' : Int) (l1 l2 : List D), m = l1.length ∧ (l2 ++ l1).Perm l ∧ γ = [some (drO x' (a + l2.length) b), some (.sh (.lst l)), some (.lst (l1.map O.sh)), some (.lst (l2.map O.sh))], ⟨l.length, x, l, [], rfl, by simp, rfl⟩, ?_⟩
    rintro m γ ⟨x', l1, l2, rfl, hp, rfl⟩
    have sub1 : ∀ d ∈ l1, d ∈ l := fun d hd => hp.mem_iff.mp (List.mem_append_right _ hd)
    have len := hp.length_eq
    rw [List.length_append] at len
    have plI : ∀ m : List D, pls m = true ↔ ∀ d ∈ m, d.pl = true := fun m => by
      induction m with
      | nil => simp [pls]
      | cons d m ih => unfold pls; rw [Bool.and_eq_true, ih, List.forall_mem_cons]
    have dpI : ∀ m : List D, deps m ≤ 60 ↔ ∀ d ∈ m, d.dep ≤ 60 := fun m => by
      induction m with
      | nil => simp [deps]
      | cons d m ih => unfold deps; rw [Nat.max_le, ih, List.forall_mem_cons]
    have p1 : pls l1 = true := (plI l1).mpr fun d hd => (plI l).mp pl d (sub1 d hd)
    have d1 : deps l1 ≤ 60 := (dpI l1).mpr fun d hd => (dpI l).mp dl d (sub1 d hd)
    simp only [drO_no, drO_er, vSeq, vAsg, vEx, vRet, vRetN, vIf, vNil, vFor, oN, oMv, oC, oCall, oCons, oNil, kArg, kKey, baOf, bbOf, aName, aTup, aNames, oB, oNot, oOr, oAnd, oV, oAndV, oOrV, oNotV, o2, kI_int, kI0_int, kB0_int, kAdd_int, kQ_int, kQ_str, kInt_int, kMin2_int, kIsi_iff, kLen_iff, kSub_iff, kIn_iff, kRepr_iff, kList_iff, kInts_iff, kBls_iff, kSorted_iff, oLst, oTup, oIf, oChain, oNeg, oPeek, oPeekT, iLst, iRange1, iRange2, iEnumO, oYes, vLc, vDc, oSl, oRev, oStep, pNone, pSome, rng1, rng2, oLR, oTR, oApp, oPopAt, oCallB, xN, vPar, g0, List.map_cons, List.map_nil, List.length_cons, List.length_nil, List.replicate, List.cons_append, List.nil_append, List.getElem?_cons_zero, List.getElem?_cons_succ, List.set_cons_zero, List.set_cons_succ, O.noIns, O.er, noInsL, erL, Bool.and_true, Bool.true_and, Option.some.injEq, exists_eq_left', exists_eq_left, true_and, and_true, Nat.reduceAdd, Nat.reduceSub, Nat.reduceLT, exists_and_left, exists_and_right, O.sh.injEq, D.int.injEq, D.bl.injEq, D.lst.injEq, List.cons.injEq, reduceCtorEq, exists_const, List.append_nil, List.singleton_append, and_self, exists_eq, exists_eq', Nat.lt_add_left_iff_pos, Nat.zero_lt_succ, wipeC, frzC, List.map_set, if_true, ite_true, Bool.false_eq_true, if_false, O.lst.injEq, O.dk.injEq, noInsL_sh, erL_sh, ngB_f, ngB_t, items_sh, items_lst, Nat.zero_add, Nat.reduceLeDiff, and_self, and_assoc]
    refine kQ_pl rfl rfl (by unfold O.er D.pl; exact p1) rfl (by unfold O.er D.dep; omega) (by decide) fun t ht => ?_
    have ht : t = true ↔ l1 = [] := by rw [ht]; exact ⟨fun e => D.lst.inj e, fun e => by rw [e]; rfl⟩
    by_cases e0 : l1 = []
    · have et : t = true := ht.mpr e0
      subst et e0
      simp only [Bool.not_true, vSeq, vAsg, vEx, vRet, vRetN, vIf, vNil, vFor, oN, oMv, oC, oCall, oCons, oNil, kArg, kKey, baOf, bbOf, aName, aTup, aNames, oB, oNot, oOr, oAnd, oV, oAndV, oOrV, oNotV, o2, kI_int, kI0_int, kB0_int, kAdd_int, kQ_int, kQ_str, kInt_int, kMin2_int, kIsi_iff, kLen_iff, kSub_iff, kIn_iff, kRepr_iff, kList_iff, kInts_iff, kBls_iff, kSorted_iff, oLst, oTup, oIf, oChain, oNeg, oPeek, oPeekT, iLst, iRange1, iRange2, iEnumO, oYes, vLc, vDc, oSl, oRev, oStep, pNone, pSome, rng1, rng2, oLR, oTR, oApp, oPopAt, oCallB, xN, vPar, g0, List.map_cons, List.map_nil, List.length_cons, List.length_nil, List.replicate, List.cons_append, List.nil_append, List.getElem?_cons_zero, List.getElem?_cons_succ, List.set_cons_zero, List.set_cons_succ, O.noIns, O.er, noInsL, erL, Bool.and_true, Bool.true_and, Option.some.injEq, exists_eq_left', exists_eq_left, true_and, and_true, Nat.reduceAdd, Nat.reduceSub, Nat.reduceLT, exists_and_left, exists_and_right, O.sh.injEq, D.int.injEq, D.bl.injEq, D.lst.injEq, List.cons.injEq, reduceCtorEq, exists_const, List.append_nil, List.singleton_append, and_self, exists_eq, exists_eq', Nat.lt_add_left_iff_pos, Nat.zero_lt_succ, wipeC, frzC, List.map_set, if_true, ite_true, Bool.false_eq_true, if_false, O.lst.injEq, O.dk.injEq, noInsL_sh, erL_sh, ngB_f, ngB_t, items_sh, items_lst, Nat.zero_add, Nat.reduceLeDiff, and_self, and_assoc]
      rw [List.append_nil] at hp
      have := h l2 x' hp
      rw [← hp.length_eq] at this
      exact this
    · have et : t = false := by
        cases t with
        | false => rfl
        | true => exact absurd (ht.mp rfl) e0
      subst et
      have l0 : 0 < l1.length := List.length_pos_iff.mpr e0
      simp only [Bool.not_false, drO_no, drO_er, vSeq, vAsg, vEx, vRet, vRetN, vIf, vNil, vFor, oN, oMv, oC, oCall, oCons, oNil, kArg, kKey, baOf, bbOf, aName, aTup, aNames, oB, oNot, oOr, oAnd, oV, oAndV, oOrV, oNotV, o2, kI_int, kI0_int, kB0_int, kAdd_int, kQ_int, kQ_str, kInt_int, kMin2_int, kIsi_iff, kLen_iff, kSub_iff, kIn_iff, kRepr_iff, kList_iff, kInts_iff, kBls_iff, kSorted_iff, oLst, oTup, oIf, oChain, oNeg, oPeek, oPeekT, iLst, iRange1, iRange2, iEnumO, oYes, vLc, vDc, oSl, oRev, oStep, pNone, pSome, rng1, rng2, oLR, oTR, oApp, oPopAt, oCallB, xN, vPar, g0, List.map_cons, List.map_nil, List.length_cons, List.length_nil, List.replicate, List.cons_append, List.nil_append, List.getElem?_cons_zero, List.getElem?_cons_succ, List.set_cons_zero, List.set_cons_succ, O.noIns, O.er, noInsL, erL, Bool.and_true, Bool.true_and, Option.some.injEq, exists_eq_left', exists_eq_left, true_and, and_true, Nat.reduceAdd, Nat.reduceSub, Nat.reduceLT, exists_and_left, exists_and_right, O.sh.injEq, D.int.injEq, D.bl.injEq, D.lst.injEq, List.cons.injEq, reduceCtorEq, exists_const, List.append_nil, List.singleton_append, and_self, exists_eq, exists_eq', Nat.lt_add_left_iff_pos, Nat.zero_lt_succ, wipeC, frzC, List.map_set, if_true, ite_true, Bool.false_eq_true, if_false, O.lst.injEq, O.dk.injEq, noInsL_sh, erL_sh, ngB_f, ngB_t, items_sh, items_lst, Nat.zero_add, Nat.reduceLeDiff, and_self, and_assoc]
      refine ⟨x', a + l2.length, b, rfl, by omega, fun r x2 => ?_⟩
      simp only [drO_no, drO_er, lenD, vSeq, vAsg, vEx, vRet, vRetN, vIf, vNil, vFor, oN, oMv, oC, oCall, oCons, oNil, kArg, kKey, baOf, bbOf, aName, aTup, aNames, oB, oNot, oOr, oAnd, oV, oAndV, oOrV, oNotV, o2, kI_int, kI0_int, kB0_int, kAdd_int, kQ_int, kQ_str, kInt_int, kMin2_int, kIsi_iff, kLen_iff, kSub_iff, kIn_iff, kRepr_iff, kList_iff, kInts_iff, kBls_iff, kSorted_iff, oLst, oTup, oIf, oChain, oNeg, oPeek, oPeekT, iLst, iRange1, iRange2, iEnumO, oYes, vLc, vDc, oSl, oRev, oStep, pNone, pSome, rng1, rng2, oLR, oTR, oApp, oPopAt, oCallB, xN, vPar, g0, List.map_cons, List.map_nil, List.length_cons, List.length_nil, List.replicate, List.cons_append, List.nil_append, List.getElem?_cons_zero, List.getElem?_cons_succ, List.set_cons_zero, List.set_cons_succ, O.noIns, O.er, noInsL, erL, Bool.and_true, Bool.true_and, Option.some.injEq, exists_eq_left', exists_eq_left, true_and, and_true, Nat.reduceAdd, Nat.reduceSub, Nat.reduceLT, exists_and_left, exists_and_right, O.sh.injEq, D.int.injEq, D.bl.injEq, D.lst.injEq, List.cons.injEq, reduceCtorEq, exists_const, List.append_nil, List.singleton_append, and_self, exists_eq, exists_eq', Nat.lt_add_left_iff_pos, Nat.zero_lt_succ, wipeC, frzC, List.map_set, if_true, ite_true, Bool.false_eq_true, if_false, O.lst.injEq, O.dk.injEq, noInsL_sh, erL_sh, ngB_f, ngB_t, items_sh, items_lst, Nat.zero_add, Nat.reduceLeDiff, and_self, and_assoc]
      have ej : ((r : Int) % (l1.length : Int)) = ((r % l1.length : Nat) : Int) := (Int.natCast_emod r l1.length).symm
      have hj : r % l1.length < l1.length := Nat.mod_lt _ l0
      rw [ej]
      refine ⟨rfl, by omega, by omega, by omega, r % l1.length, ?_, .sh l1[r % l1.length], ?_, by rw [List.length_map]; omega, ?_⟩
      · rw [List.length_map]
        exact (ixN_seq (ixN_of hj)).1
      · rw [List.getElem?_map, List.getElem?_eq_getElem hj]; rfl
      · have le := List.length_eraseIdx_of_lt hj
        refine ⟨(l1.eraseIdx (r % l1.length)).length, by omega, x2, l1.eraseIdx (r % l1.length), rfl, l2 ++ [l1[r % l1.length]], ?_, ?_, ?_, ?_⟩
        · refine List.Perm.trans ?_ hp
          rw [List.append_assoc]
          exact List.Perm.append_left l2 (erase_perm hj)
        · rw [List.length_append, List.length_singleton, Nat.add_assoc]
        · rw [erase_map]
        · rw [List.map_append]; rfl
  · exact h.elim
end FN
end
section
namespace FN
open PySem PySem.Spec L2
open PyProof.Rows hiding St
/-- lines of places up to n -/
structure LnsOk (n : Nat) (ls : List (Nat × Nat)) : Prop where
  ok : ∀ p ∈ ls, lnOk n p
  nd : ls.Pairwise fun p q => p ≠ q ∧ p ≠ (q.2, q.1)
theorem LnsOk.net {n : Nat} {ls : List (Nat × Nat)} (h : LnsOk n ls) (h1 : 1 ≤ n) (h2 : n ≤ 12) : NetOk n ls := ⟨h1, h2, h.ok, h.nd⟩
theorem LnsOk.few {n : Nat} {ls : List (Nat × Nat)} (h : LnsOk n ls) (h2 : n ≤ 12) : ls.length ≤ 169 := by
  have nd : ls.Nodup := h.nd.imp fun h => h.1
  have := List.Nodup.length_le_of_subset nd (l₂ := (List.range 13).flatMap fun a => (List.range 13).map fun b => (a, b)) fun p hp => by
    obtain ⟨h1, h2, h3, h4, h5⟩ := h.ok p hp
    exact List.mem_flatMap.mpr ⟨p.1, List.mem_range.mpr (by omega), List.mem_map.mpr ⟨p.2, List.mem_range.mpr (by omega), rfl⟩⟩
  have e : ((List.range 13).flatMap fun a => (List.range 13).map fun b => (a, b)).length = 169 := by decide
  omega
/-- the other places of the lines at g -/
def mates (g : Nat) (L : List (Nat × Nat)) : List Nat := L.filterMap fun p => if g ∈ [p.1, p.2] then some (p.1 + p.2 - g) else none
theorem mates_of {n g : Nat} {L : List (Nat × Nat)} (h : LnsOk n L) : (mates g L).Nodup ∧ ∀ m ∈ mates g L, 1 ≤ m ∧ m ≤ n ∧ m ≠ g := by
  have one : ∀ p ∈ L, ∀ m, (if g ∈ [p.1, p.2] then some (p.1 + p.2 - g) else none) = some m → (p = (g, m) ∨ p = (m, g)) ∧ 1 ≤ m ∧ m ≤ n ∧ m ≠ g := by
    rintro ⟨a, b⟩ hp m e
    obtain ⟨h1, h2, h3, h4, h5⟩ := h.ok _ hp
    simp only at h1 h2 h3 h4 h5
    split at e
    · rename_i hg
      cases e
      simp at hg
      rcases hg with rfl | rfl
      · exact ⟨.inl (by simp), by omega, by omega, by omega⟩
      · exact ⟨.inr (by simp), by omega, by omega, by omega⟩
    · cases e
  refine ⟨?_, fun m hm => ?_⟩
  · unfold mates
    refine List.pairwise_filterMap.mpr (List.Pairwise.imp_of_mem ?_ h.nd)
    intro p q hp hq hpq m1 e1 m2 e2 e
    subst e
    have a1 := (one p hp _ e1).1
    have a2 := (one q hq _ e2).1
    rcases a1 with rfl | rfl <;> rcases a2 with rfl | rfl
    · exact hpq.1 rfl
    · exact hpq.2 rfl
    · exact hpq.2 rfl
    · exact hpq.1 rfl
  · unfold mates at hm
    obtain ⟨p, hp, e⟩ := List.mem_filterMap.mp hm
    exact (one p hp m e).2
theorem LnsOk.grow {q g : Nat} {L : List (Nat × Nat)} {S : List Nat} (h : LnsOk (q - 1) L) (h1 : 1 ≤ g) (h2 : g < q) (hS : S.Sublist (mates g L)) : LnsOk q (L ++ [(g, q)] ++ S.map fun m => (m, q)) := by
  obtain ⟨m1, m2⟩ := mates_of (g := g) h
  have s1 := m1.sublist hS
  have s2 : ∀ m ∈ S, 1 ≤ m ∧ m ≤ q - 1 ∧ m ≠ g := fun m hm => m2 m (hS.subset hm)
  refine ⟨fun p hp => ?_, ?_⟩
  · rw [List.append_assoc] at hp
    rcases List.mem_append.mp hp with hp | hp
    · obtain ⟨a1, a2, a3, a4, a5⟩ := h.ok p hp
      exact ⟨a1, by omega, a3, by omega, a5⟩
    · rcases List.mem_cons.mp hp with rfl | hp
      · exact ⟨h1, by omega, by show 1 ≤ q; omega, Nat.le_refl _, by show g ≠ q; omega⟩
      · obtain ⟨m, hm, rfl⟩ := List.mem_map.mp hp
        have := s2 m hm
        exact ⟨this.1, by show m ≤ q; omega, by show 1 ≤ q; omega, Nat.le_refl _, by show m ≠ q; omega⟩
  · rw [List.append_assoc]
    refine List.pairwise_append.mpr ⟨h.nd, ?_, ?_⟩
    · refine List.pairwise_cons.mpr ⟨fun p hp => ?_, ?_⟩
      · obtain ⟨m, hm, rfl⟩ := List.mem_map.mp hp
        have := s2 m hm
        exact ⟨fun e => this.2.2 (by have := congrArg Prod.fst e; exact this.symm), fun e => by have := congrArg Prod.fst e; simp at this; omega⟩
      · refine List.pairwise_map.mpr (s1.imp_of_mem fun {a b} ha hb hab => ?_)
        have := s2 a ha
        exact ⟨fun e => hab (congrArg Prod.fst e), fun e => by have := congrArg Prod.fst e; simp at this; omega⟩
    · intro p hp r hr
      obtain ⟨a1, a2, a3, a4, a5⟩ := h.ok p hp
      have hr2 : r.2 = q := by
        rcases List.mem_cons.mp hr with rfl | hr
        · rfl
        · obtain ⟨m, hm, rfl⟩ := List.mem_map.mp hr; rfl
      exact ⟨fun e => by rw [e] at a4; omega, fun e => by rw [e] at a2; simp at a2; omega⟩
def F_law_grown : DB
  | c, [.int size, d, .int st0], K => ∃ (n s : Nat) (ls : List (Nat × Nat)) (x : Int) (a : Nat) (b : Bool), c = drO x a b ∧ size = (n : Nat) ∧ st0 = (s : Nat) ∧ d = lsD ls ∧ LnsOk (s - 1) ls ∧ 2 ≤ s ∧ s ≤ n + 1 ∧ n ≤ 12 ∧ a + 10000 < 2 ^ 40 ∧
      ∀ (ls' : List (Nat × Nat)) (x' : Int) (a' : Nat) (o : O), LnsOk n ls' → a' ≤ a + 2400 → o.noIns = true → o.er = lsD ls' → K o (drO x' a' b)
  | _, _, _ => False
def gMate (g : Nat) : O → Option O
  | .sh (.lst [.int a, .int b]) => if (g : Int) = a ∨ (g : Int) = b then some (.sh (.int (a + b - g))) else none
  | _ => none
theorem gMate_one (g : Nat) (p : Nat × Nat) : gMate g (.sh (lnD p)) = (if g ∈ [p.1, p.2] then some (p.1 + p.2 - g) else none).map itO := by
  unfold lnD gMate
  simp only []
  by_cases h : g ∈ [p.1, p.2]
  · have h' : (g : Int) = (p.1 : Int) ∨ (g : Int) = (p.2 : Int) := by simp at h; omega
    rw [if_pos h, if_pos h']
    simp only [Option.map_some, itO]
    have : ((p.1 : Int) + (p.2 : Int) - (g : Int)) = ((p.1 + p.2 - g : Nat) : Int) := by simp at h; omega
    rw [this]
  · have h' : ¬ ((g : Int) = (p.1 : Int) ∨ (g : Int) = (p.2 : Int)) := by simp at h; omega
    rw [if_neg h, if_neg h']; rfl
theorem gMate_of (g : Nat) (L : List (Nat × Nat)) : ((L.map lnD).map O.sh).filterMap (gMate g) = (mates g L).map itO := by
  unfold mates
  induction L with
  | nil => rfl
  | cons p L ih =>
    rw [List.map_cons, List.map_cons, List.filterMap_cons, List.filterMap_cons, gMate_one]
    cases e : (if g ∈ [p.1, p.2] then some (p.1 + p.2 - g) else none) with
    | none => exact ih
    | some m => exact congrArg (itO m :: ·) ih
def gCopy : O → Option O
  | .sh (.lst l) => some (.lst (l.map O.sh))
  | _ => none
theorem gCopy_of : ∀ ls : List (Nat × Nat), ((ls.map lnD).map O.sh).filterMap gCopy = ls.map lnO
  | [] => rfl
  | p :: ls => by
    rw [List.map_cons, List.map_cons, List.filterMap_cons, List.map_cons]
    exact congrArg (lnO p :: ·) (gCopy_of ls)
theorem q_law_grown (c : O) (ds : List D) (Q : O → O → Prop) (_ : ds.length = 3) (h : F_law_grown c ds Q) :
    r_law_grown F_law_next { nx := fun γ => ∃ c', γ[0]? = some (some c') ∧ Q (.sh .non) c', rt := fun o γ => ∃ c', γ[0]? = some (some c') ∧ Q o c' } (g0 nn_law_grown (c :: ds.map O.sh)) := by
  unfold F_law_grown at h
  split at h
  · obtain ⟨n, s, ls, x, a, b, rfl, rfl, rfl, rfl, ok, s1, s2, hn, ha, h⟩ := h
    have l1 := ok.few (by omega)
    simp only [r_law_grown, nn_law_grown, lsD, vSeq, vAsg, vEx, vRet, vRetN, vIf, vNil, vFor, oN, oMv, oC, oCall, oCons, oNil, kArg, kKey, baOf, bbOf, aName, aTup, aNames, oB, oNot, oOr, oAnd, oV, oAndV, oOrV, oNotV, o2, kI_int, kI0_int, kB0_int, kAdd_int, kQ_int, kQ_str, kInt_int, kMin2_int, kIsi_iff, kLen_iff, kSub_iff, kIn_iff, kRepr_iff, kList_iff, kInts_iff, kBls_iff, kSorted_iff, oLst, oTup, oIf, oChain, oNeg, oPeek, oPeekT, iLst, iRange1, iRange2, iEnumO, oYes, vLc, vDc, oSl, oRev, oStep, pNone, pSome, rng1, rng2, oLR, oTR, oApp, oPopAt, oCallB, xN, vPar, g0, List.map_cons, List.map_nil, List.length_cons, List.length_nil, List.replicate, List.cons_append, List.nil_append, List.getElem?_cons_zero, List.getElem?_cons_succ, List.set_cons_zero, List.set_cons_succ, O.noIns, O.er, noInsL, erL, Bool.and_true, Bool.true_and, Option.some.injEq, exists_eq_left', exists_eq_left, true_and, and_true, Nat.reduceAdd, Nat.reduceSub, Nat.reduceLT, exists_and_left, exists_and_right, O.sh.injEq, D.int.injEq, D.bl.injEq, D.lst.injEq, List.cons.injEq, reduceCtorEq, exists_const, List.append_nil, List.singleton_append, and_self, exists_eq, exists_eq', Nat.lt_add_left_iff_pos, Nat.zero_lt_succ, wipeC, frzC, List.map_set, if_true, ite_true, Bool.false_eq_true, if_false, O.lst.injEq, O.dk.injEq, noInsL_sh, erL_sh, ngB_f, ngB_t, items_sh, items_lst, Nat.zero_add, Nat.reduceLeDiff, and_self, and_assoc]
    refine ⟨by rw [List.length_map, List.length_map]; omega, ?_⟩
    refine compV_map gCopy ?_ [] ?_
    · intro o ho N hN
      obtain ⟨d, hd, rfl⟩ := List.mem_map.mp ho
      obtain ⟨p, _, rfl⟩ := List.mem_map.mp hd
      simp only [lnD, seqD, vSeq, vAsg, vEx, vRet, vRetN, vIf, vNil, vFor, oN, oMv, oC, oCall, oCons, oNil, kArg, kKey, baOf, bbOf, aName, aTup, aNames, oB, oNot, oOr, oAnd, oV, oAndV, oOrV, oNotV, o2, kI_int, kI0_int, kB0_int, kAdd_int, kQ_int, kQ_str, kInt_int, kMin2_int, kIsi_iff, kLen_iff, kSub_iff, kIn_iff, kRepr_iff, kList_iff, kInts_iff, kBls_iff, kSorted_iff, oLst, oTup, oIf, oChain, oNeg, oPeek, oPeekT, iLst, iRange1, iRange2, iEnumO, oYes, vLc, vDc, oSl, oRev, oStep, pNone, pSome, rng1, rng2, oLR, oTR, oApp, oPopAt, oCallB, xN, vPar, g0, List.map_cons, List.map_nil, List.length_cons, List.length_nil, List.replicate, List.cons_append, List.nil_append, List.getElem?_cons_zero, List.getElem?_cons_succ, List.set_cons_zero, List.set_cons_succ, O.noIns, O.er, noInsL, erL, Bool.and_true, Bool.true_and, Option.some.injEq, exists_eq_left', exists_eq_left, true_and, and_true, Nat.reduceAdd, Nat.reduceSub, Nat.reduceLT, exists_and_left, exists_and_right, O.sh.injEq, D.int.injEq, D.bl.injEq, D.lst.injEq, List.cons.injEq, reduceCtorEq, exists_const, List.append_nil, List.singleton_append, and_self, exists_eq, exists_eq', Nat.lt_add_left_iff_pos, Nat.zero_lt_succ, wipeC, frzC, List.map_set, if_true, ite_true, Bool.false_eq_true, if_false, O.lst.injEq, O.dk.injEq, noInsL_sh, erL_sh, ngB_f, ngB_t, items_sh, items_lst, Nat.zero_add, Nat.reduceLeDiff, and_self, and_assoc]
      exact hN
    have e0 : ([] : List O) ++ ((ls.map lnD).map O.sh).filterMap gCopy = ls.map lnO := gCopy_of ls
    rw [e0]
    simp only [vSeq, vAsg, vEx, vRet, vRetN, vIf, vNil, vFor, oN, oMv, oC, oCall, oCons, oNil, kArg, kKey, baOf, bbOf, aName, aTup, aNames, oB, oNot, oOr, oAnd, oV, oAndV, oOrV, oNotV, o2, kI_int, kI0_int, kB0_int, kAdd_int, kQ_int, kQ_str, kInt_int, kMin2_int, kIsi_iff, kLen_iff, kSub_iff, kIn_iff, kRepr_iff, kList_iff, kInts_iff, kBls_iff, kSorted_iff, oLst, oTup, oIf, oChain, oNeg, oPeek, oPeekT, iLst, iRange1, iRange2, iEnumO, oYes, vLc, vDc, oSl, oRev, oStep, pNone, pSome, rng1, rng2, oLR, oTR, oApp, oPopAt, oCallB, xN, vPar, g0, List.map_cons, List.map_nil, List.length_cons, List.length_nil, List.replicate, List.cons_append, List.nil_append, List.getElem?_cons_zero, List.getElem?_cons_succ, List.set_cons_zero, List.set_cons_succ, O.noIns, O.er, noInsL, erL, Bool.and_true, Bool.true_and, Option.some.injEq, exists_eq_left', exists_eq_left, true_and, and_true, Nat.reduceAdd, Nat.reduceSub, Nat.reduceLT, exists_and_left, exists_and_right, O.sh.injEq, D.int.injEq, D.bl.injEq, D.lst.injEq, List.cons.injEq, reduceCtorEq, exists_const, List.append_nil, List.singleton_append, and_self, exists_eq, exists_eq', Nat.lt_add_left_iff_pos, Nat.zero_lt_succ, wipeC, frzC, List.map_set, if_true, ite_true, Bool.false_eq_true, if_false, O.lst.injEq, O.dk.injEq, noInsL_sh, erL_sh, ngB_f, ngB_t, items_sh, items_lst, Nat.zero_add, Nat.reduceLeDiff, and_self, and_assoc]
    refine ⟨by omega, by omega, by omega, by omega, ?_⟩
    have em : ((n : Int) + 1 - (s : Int)).toNat = n + 1 - s := by omega
    rw [em]
    refine forV_at (fun k γ => ∃ (L : List (Nat × Nat)) (x' : Int) (a' : Nat) (t : O) (y5 y6 y7 : Option O), LnsOk (s + k - 1) L ∧ a' ≤ a + 200 * k ∧ t.noIns = true ∧ t.er = lsD L ∧
      γ = [some (drO x' a' b), some (itO n), some (.sh (lsD ls)), some (itO s), some t, y5, y6, y7, none, none, none, none]) ?_ ?_ ⟨ls, x, a, .lst (ls.map lnO), none, none, none, by simpa using ok, by omega, by unfold O.noIns; exact noInsL_map lnO_no _, by unfold O.er lsD; rw [erL_map lnO_er], rfl⟩
    · rintro γ ⟨L, x', a', t, y5, y6, y7, ok', ha', t1, t2, rfl⟩
      rw [rngO_len] at ok' ha'
      simp only [vSeq, vAsg, vEx, vRet, vRetN, vIf, vNil, vFor, oN, oMv, oC, oCall, oCons, oNil, kArg, kKey, baOf, bbOf, aName, aTup, aNames, oB, oNot, oOr, oAnd, oV, oAndV, oOrV, oNotV, o2, kI_int, kI0_int, kB0_int, kAdd_int, kQ_int, kQ_str, kInt_int, kMin2_int, kIsi_iff, kLen_iff, kSub_iff, kIn_iff, kRepr_iff, kList_iff, kInts_iff, kBls_iff, kSorted_iff, oLst, oTup, oIf, oChain, oNeg, oPeek, oPeekT, iLst, iRange1, iRange2, iEnumO, oYes, vLc, vDc, oSl, oRev, oStep, pNone, pSome, rng1, rng2, oLR, oTR, oApp, oPopAt, oCallB, xN, vPar, g0, List.map_cons, List.map_nil, List.length_cons, List.length_nil, List.replicate, List.cons_append, List.nil_append, List.getElem?_cons_zero, List.getElem?_cons_succ, List.set_cons_zero, List.set_cons_succ, O.noIns, O.er, noInsL, erL, Bool.and_true, Bool.true_and, Option.some.injEq, exists_eq_left', exists_eq_left, true_and, and_true, Nat.reduceAdd, Nat.reduceSub, Nat.reduceLT, exists_and_left, exists_and_right, O.sh.injEq, D.int.injEq, D.bl.injEq, D.lst.injEq, List.cons.injEq, reduceCtorEq, exists_const, List.append_nil, List.singleton_append, and_self, exists_eq, exists_eq', Nat.lt_add_left_iff_pos, Nat.zero_lt_succ, wipeC, frzC, List.map_set, if_true, ite_true, Bool.false_eq_true, if_false, O.lst.injEq, O.dk.injEq, noInsL_sh, erL_sh, ngB_f, ngB_t, items_sh, items_lst, Nat.zero_add, Nat.reduceLeDiff, and_self, and_assoc]
      have e : s + (n + 1 - s) - 1 = n := by omega
      rw [e] at ok'
      exact h L x' a' t ok' (by have : n + 1 - s ≤ 12 := by omega
                                omega) t1 t2
    · rintro k o γ ho ⟨L, x', a', t, y5, y6, y7, ok', ha', t1, t2, rfl⟩ N hN
      obtain ⟨hk, rfl⟩ := rngA_get ho
      have eq : ((s : Int) + (k : Nat)) = ((s + k : Nat) : Int) := by omega
      rw [eq]
      simp only [vSeq, vAsg, vEx, vRet, vRetN, vIf, vNil, vFor, oN, oMv, oC, oCall, oCons, oNil, kArg, kKey, baOf, bbOf, aName, aTup, aNames, oB, oNot, oOr, oAnd, oV, oAndV, oOrV, oNotV, o2, kI_int, kI0_int, kB0_int, kAdd_int, kQ_int, kQ_str, kInt_int, kMin2_int, kIsi_iff, kLen_iff, kSub_iff, kIn_iff, kRepr_iff, kList_iff, kInts_iff, kBls_iff, kSorted_iff, oLst, oTup, oIf, oChain, oNeg, oPeek, oPeekT, iLst, iRange1, iRange2, iEnumO, oYes, vLc, vDc, oSl, oRev, oStep, pNone, pSome, rng1, rng2, oLR, oTR, oApp, oPopAt, oCallB, xN, vPar, g0, List.map_cons, List.map_nil, List.length_cons, List.length_nil, List.replicate, List.cons_append, List.nil_append, List.getElem?_cons_zero, List.getElem?_cons_succ, List.set_cons_zero, List.set_cons_succ, O.noIns, O.er, noInsL, erL, Bool.and_true, Bool.true_and, Option.some.injEq, exists_eq_left', exists_eq_left, true_and, and_true, Nat.reduceAdd, Nat.reduceSub, Nat.reduceLT, exists_and_left, exists_and_right, O.sh.injEq, D.int.injEq, D.bl.injEq, D.lst.injEq, List.cons.injEq, reduceCtorEq, exists_const, List.append_nil, List.singleton_append, and_self, exists_eq, exists_eq', Nat.lt_add_left_iff_pos, Nat.zero_lt_succ, wipeC, frzC, List.map_set, if_true, ite_true, Bool.false_eq_true, if_false, O.lst.injEq, O.dk.injEq, noInsL_sh, erL_sh, ngB_f, ngB_t, items_sh, items_lst, Nat.zero_add, Nat.reduceLeDiff, and_self, and_assoc]
      refine ⟨x', a', b, rfl, by omega, fun r x2 => ?_⟩
      simp only [vSeq, vAsg, vEx, vRet, vRetN, vIf, vNil, vFor, oN, oMv, oC, oCall, oCons, oNil, kArg, kKey, baOf, bbOf, aName, aTup, aNames, oB, oNot, oOr, oAnd, oV, oAndV, oOrV, oNotV, o2, kI_int, kI0_int, kB0_int, kAdd_int, kQ_int, kQ_str, kInt_int, kMin2_int, kIsi_iff, kLen_iff, kSub_iff, kIn_iff, kRepr_iff, kList_iff, kInts_iff, kBls_iff, kSorted_iff, oLst, oTup, oIf, oChain, oNeg, oPeek, oPeekT, iLst, iRange1, iRange2, iEnumO, oYes, vLc, vDc, oSl, oRev, oStep, pNone, pSome, rng1, rng2, oLR, oTR, oApp, oPopAt, oCallB, xN, vPar, g0, List.map_cons, List.map_nil, List.length_cons, List.length_nil, List.replicate, List.cons_append, List.nil_append, List.getElem?_cons_zero, List.getElem?_cons_succ, List.set_cons_zero, List.set_cons_succ, O.noIns, O.er, noInsL, erL, Bool.and_true, Bool.true_and, Option.some.injEq, exists_eq_left', exists_eq_left, true_and, and_true, Nat.reduceAdd, Nat.reduceSub, Nat.reduceLT, exists_and_left, exists_and_right, O.sh.injEq, D.int.injEq, D.bl.injEq, D.lst.injEq, List.cons.injEq, reduceCtorEq, exists_const, List.append_nil, List.singleton_append, and_self, exists_eq, exists_eq', Nat.lt_add_left_iff_pos, Nat.zero_lt_succ, wipeC, frzC, List.map_set, if_true, ite_true, Bool.false_eq_true, if_false, O.lst.injEq, O.dk.injEq, noInsL_sh, erL_sh, ngB_f, ngB_t, items_sh, items_lst, Nat.zero_add, Nat.reduceLeDiff, and_self, and_assoc]
      obtain ⟨q, hq⟩ : ∃ q, s + k = q := ⟨_, rfl⟩
      rw [hq] at ok' ⊢
      have q1 : 2 ≤ q := by omega
      have e1 : ((q : Int) - 1) = ((q - 1 : Nat) : Int) := by omega
      obtain ⟨g, hg⟩ : ∃ g, 1 + r % (q - 1) = g := ⟨_, rfl⟩
      have gl : r % (q - 1) < q - 1 := Nat.mod_lt _ (by omega)
      have e2 : (1 + (r : Int) % ((q - 1 : Nat) : Int)) = (g : Int) := by rw [← hg]; simp
      rw [e1, e2]
      have L1 := ok'.few (show q - 1 ≤ 12 by omega)
      refine ⟨by omega, t1, (L.map lnD).map O.sh, by rw [t2]; rfl, by rw [List.length_map, List.length_map]; omega, ?_⟩
      refine compV_map (gMate g) ?_ [] ?_
      · intro o ho N hN
        obtain ⟨d, hd, rfl⟩ := List.mem_map.mp ho
        obtain ⟨p, _, rfl⟩ := List.mem_map.mp hd
        refine ⟨[itO p.1, itO p.2], rfl, rfl, ?_⟩
        have ii : inD (.int (g : Nat)) (.lst [.int (p.1 : Nat), .int (p.2 : Nat)]) = some (decide (g ∈ [p.1, p.2])) := in_its g [p.1, p.2]
        simp only [itO, ii, vSeq, vAsg, vEx, vRet, vRetN, vIf, vNil, vFor, oN, oMv, oC, oCall, oCons, oNil, kArg, kKey, baOf, bbOf, aName, aTup, aNames, oB, oNot, oOr, oAnd, oV, oAndV, oOrV, oNotV, o2, kI_int, kI0_int, kB0_int, kAdd_int, kQ_int, kQ_str, kInt_int, kMin2_int, kIsi_iff, kLen_iff, kSub_iff, kIn_iff, kRepr_iff, kList_iff, kInts_iff, kBls_iff, kSorted_iff, oLst, oTup, oIf, oChain, oNeg, oPeek, oPeekT, iLst, iRange1, iRange2, iEnumO, oYes, vLc, vDc, oSl, oRev, oStep, pNone, pSome, rng1, rng2, oLR, oTR, oApp, oPopAt, oCallB, xN, vPar, g0, List.map_cons, List.map_nil, List.length_cons, List.length_nil, List.replicate, List.cons_append, List.nil_append, List.getElem?_cons_zero, List.getElem?_cons_succ, List.set_cons_zero, List.set_cons_succ, O.noIns, O.er, noInsL, erL, Bool.and_true, Bool.true_and, Option.some.injEq, exists_eq_left', exists_eq_left, true_and, and_true, Nat.reduceAdd, Nat.reduceSub, Nat.reduceLT, exists_and_left, exists_and_right, O.sh.injEq, D.int.injEq, D.bl.injEq, D.lst.injEq, List.cons.injEq, reduceCtorEq, exists_const, List.append_nil, List.singleton_append, and_self, exists_eq, exists_eq', Nat.lt_add_left_iff_pos, Nat.zero_lt_succ, wipeC, frzC, List.map_set, if_true, ite_true, Bool.false_eq_true, if_false, O.lst.injEq, O.dk.injEq, noInsL_sh, erL_sh, ngB_f, ngB_t, items_sh, items_lst, Nat.zero_add, Nat.reduceLeDiff, and_self, and_assoc]
        rw [gMate_one] at hN
        by_cases hm : g ∈ [p.1, p.2]
        · simp only [hm, decide_true, if_true, Option.map_some] at hN ⊢
          have : ((p.1 : Int) + (p.2 : Int) - (g : Int)) = ((p.1 + p.2 - g : Nat) : Int) := by simp at hm; omega
          rw [this]
          exact hN
        · simp only [hm, decide_false, Bool.false_eq_true, if_false, Option.map_none] at hN ⊢
          exact hN
      rw [gMate_of, List.nil_append]
      obtain ⟨M, hM⟩ : ∃ M, mates g L = M := ⟨_, rfl⟩
      have M1 : M.length ≤ 169 := by
        rw [← hM]; unfold mates
        exact Nat.le_trans (List.length_filterMap_le _ _) L1
      rw [hM]
      simp only [noIns_it, map_er_it, t1, t2, lsD, vSeq, vAsg, vEx, vRet, vRetN, vIf, vNil, vFor, oN, oMv, oC, oCall, oCons, oNil, kArg, kKey, baOf, bbOf, aName, aTup, aNames, oB, oNot, oOr, oAnd, oV, oAndV, oOrV, oNotV, o2, kI_int, kI0_int, kB0_int, kAdd_int, kQ_int, kQ_str, kInt_int, kMin2_int, kIsi_iff, kLen_iff, kSub_iff, kIn_iff, kRepr_iff, kList_iff, kInts_iff, kBls_iff, kSorted_iff, oLst, oTup, oIf, oChain, oNeg, oPeek, oPeekT, iLst, iRange1, iRange2, iEnumO, oYes, vLc, vDc, oSl, oRev, oStep, pNone, pSome, rng1, rng2, oLR, oTR, oApp, oPopAt, oCallB, xN, vPar, g0, List.map_cons, List.map_nil, List.length_cons, List.length_nil, List.replicate, List.cons_append, List.nil_append, List.getElem?_cons_zero, List.getElem?_cons_succ, List.set_cons_zero, List.set_cons_succ, O.noIns, O.er, noInsL, erL, Bool.and_true, Bool.true_and, Option.some.injEq, exists_eq_left', exists_eq_left, true_and, and_true, Nat.reduceAdd, Nat.reduceSub, Nat.reduceLT, exists_and_left, exists_and_right, O.sh.injEq, D.int.injEq, D.bl.injEq, D.lst.injEq, List.cons.injEq, reduceCtorEq, exists_const, List.append_nil, List.singleton_append, and_self, exists_eq, exists_eq', Nat.lt_add_left_iff_pos, Nat.zero_lt_succ, wipeC, frzC, List.map_set, if_true, ite_true, Bool.false_eq_true, if_false, O.lst.injEq, O.dk.injEq, noInsL_sh, erL_sh, ngB_f, ngB_t, items_sh, items_lst, Nat.zero_add, Nat.reduceLeDiff, and_self, and_assoc]
      refine kAdd_lst rfl rfl (by simp; omega) ?_
      refine ⟨by rw [List.length_map, List.length_map]; omega, ?_⟩
      refine compV_at (fun j acc γ => ∃ (S : List Nat) (x3 : Int) (a3 : Nat), S.Sublist (M.take j) ∧ a3 ≤ a' + 1 + j ∧ acc = S.map (fun m => lnO (m, q)) ∧
        γ = [some (drO x3 a3 b), some (itO n), some (O.sh (D.lst (ls.map lnD))), some (itO s), some (O.sh (D.lst (L.map lnD))), some (itO q), some (itO g), some (O.sh (D.lst (M.map itD))), none, none, none, none]) ?_ ?_ ⟨[], x2, a' + 1, List.nil_sublist _, by omega, rfl, rfl⟩
      · rintro acc γ ⟨S, x3, a3, hS, h3, rfl, rfl⟩
        rw [List.length_map, List.length_map, List.take_length] at hS
        rw [List.length_map, List.length_map] at h3
        have sl := hS.length_le
        refine kAdd_lst rfl rfl (by simp; omega) ?_
        simp only [vSeq, vAsg, vEx, vRet, vRetN, vIf, vNil, vFor, oN, oMv, oC, oCall, oCons, oNil, kArg, kKey, baOf, bbOf, aName, aTup, aNames, oB, oNot, oOr, oAnd, oV, oAndV, oOrV, oNotV, o2, kI_int, kI0_int, kB0_int, kAdd_int, kQ_int, kQ_str, kInt_int, kMin2_int, kIsi_iff, kLen_iff, kSub_iff, kIn_iff, kRepr_iff, kList_iff, kInts_iff, kBls_iff, kSorted_iff, oLst, oTup, oIf, oChain, oNeg, oPeek, oPeekT, iLst, iRange1, iRange2, iEnumO, oYes, vLc, vDc, oSl, oRev, oStep, pNone, pSome, rng1, rng2, oLR, oTR, oApp, oPopAt, oCallB, xN, vPar, g0, List.map_cons, List.map_nil, List.length_cons, List.length_nil, List.replicate, List.cons_append, List.nil_append, List.getElem?_cons_zero, List.getElem?_cons_succ, List.set_cons_zero, List.set_cons_succ, O.noIns, O.er, noInsL, erL, Bool.and_true, Bool.true_and, Option.some.injEq, exists_eq_left', exists_eq_left, true_and, and_true, Nat.reduceAdd, Nat.reduceSub, Nat.reduceLT, exists_and_left, exists_and_right, O.sh.injEq, D.int.injEq, D.bl.injEq, D.lst.injEq, List.cons.injEq, reduceCtorEq, exists_const, List.append_nil, List.singleton_append, and_self, exists_eq, exists_eq', Nat.lt_add_left_iff_pos, Nat.zero_lt_succ, wipeC, frzC, List.map_set, if_true, ite_true, Bool.false_eq_true, if_false, O.lst.injEq, O.dk.injEq, noInsL_sh, erL_sh, ngB_f, ngB_t, items_sh, items_lst, Nat.zero_add, Nat.reduceLeDiff, and_self, and_assoc]
        refine hN _ ⟨L ++ [(g, q)] ++ S.map (fun m => (m, q)), x3, a3, _, some (itO q), some (itO g), some (O.sh (D.lst (M.map itD))), ?_, by omega, ?_, ?_, rfl⟩
        · rw [show s + (k + 1) - 1 = q by omega]
          exact ok'.grow (by omega) (by omega) (by rw [hM]; exact hS)
        · show noInsL _ = true
          rw [noInsL_app, noInsL_app, noInsL_sh]
          exact noInsL_map (fun m => lnO_no (m, q)) S
        · show D.lst (erL _) = _
          rw [erL_app, erL_app, erL_sh, erL_map (fun m => lnO_er (m, q)) S]
          unfold lsD
          rw [List.map_append, List.map_append, List.map_map]
          rfl
      · rintro j o acc γ hj ⟨S, x3, a3, hS, h3, rfl, rfl⟩ N' hN'
        rw [List.getElem?_map, List.getElem?_map] at hj
        obtain ⟨d, hd, rfl⟩ := Option.map_eq_some_iff.mp hj
        obtain ⟨m, hm, rfl⟩ := Option.map_eq_some_iff.mp hd
        obtain ⟨hjl, rfl⟩ := List.getElem?_eq_some_iff.mp hm
        simp only [vSeq, vAsg, vEx, vRet, vRetN, vIf, vNil, vFor, oN, oMv, oC, oCall, oCons, oNil, kArg, kKey, baOf, bbOf, aName, aTup, aNames, oB, oNot, oOr, oAnd, oV, oAndV, oOrV, oNotV, o2, kI_int, kI0_int, kB0_int, kAdd_int, kQ_int, kQ_str, kInt_int, kMin2_int, kIsi_iff, kLen_iff, kSub_iff, kIn_iff, kRepr_iff, kList_iff, kInts_iff, kBls_iff, kSorted_iff, oLst, oTup, oIf, oChain, oNeg, oPeek, oPeekT, iLst, iRange1, iRange2, iEnumO, oYes, vLc, vDc, oSl, oRev, oStep, pNone, pSome, rng1, rng2, oLR, oTR, oApp, oPopAt, oCallB, xN, vPar, g0, List.map_cons, List.map_nil, List.length_cons, List.length_nil, List.replicate, List.cons_append, List.nil_append, List.getElem?_cons_zero, List.getElem?_cons_succ, List.set_cons_zero, List.set_cons_succ, O.noIns, O.er, noInsL, erL, Bool.and_true, Bool.true_and, Option.some.injEq, exists_eq_left', exists_eq_left, true_and, and_true, Nat.reduceAdd, Nat.reduceSub, Nat.reduceLT, exists_and_left, exists_and_right, O.sh.injEq, D.int.injEq, D.bl.injEq, D.lst.injEq, List.cons.injEq, reduceCtorEq, exists_const, List.append_nil, List.singleton_append, and_self, exists_eq, exists_eq', Nat.lt_add_left_iff_pos, Nat.zero_lt_succ, wipeC, frzC, List.map_set, if_true, ite_true, Bool.false_eq_true, if_false, O.lst.injEq, O.dk.injEq, noInsL_sh, erL_sh, ngB_f, ngB_t, items_sh, items_lst, Nat.zero_add, Nat.reduceLeDiff, and_self, and_assoc]
        refine ⟨x3, a3, b, rfl, by omega, fun r' x4 => ?_⟩
        simp only [itO, itD, vSeq, vAsg, vEx, vRet, vRetN, vIf, vNil, vFor, oN, oMv, oC, oCall, oCons, oNil, kArg, kKey, baOf, bbOf, aName, aTup, aNames, oB, oNot, oOr, oAnd, oV, oAndV, oOrV, oNotV, o2, kI_int, kI0_int, kB0_int, kAdd_int, kQ_int, kQ_str, kInt_int, kMin2_int, kIsi_iff, kLen_iff, kSub_iff, kIn_iff, kRepr_iff, kList_iff, kInts_iff, kBls_iff, kSorted_iff, oLst, oTup, oIf, oChain, oNeg, oPeek, oPeekT, iLst, iRange1, iRange2, iEnumO, oYes, vLc, vDc, oSl, oRev, oStep, pNone, pSome, rng1, rng2, oLR, oTR, oApp, oPopAt, oCallB, xN, vPar, g0, List.map_cons, List.map_nil, List.length_cons, List.length_nil, List.replicate, List.cons_append, List.nil_append, List.getElem?_cons_zero, List.getElem?_cons_succ, List.set_cons_zero, List.set_cons_succ, O.noIns, O.er, noInsL, erL, Bool.and_true, Bool.true_and, Option.some.injEq, exists_eq_left', exists_eq_left, true_and, and_true, Nat.reduceAdd, Nat.reduceSub, Nat.reduceLT, exists_and_left, exists_and_right, O.sh.injEq, D.int.injEq, D.bl.injEq, D.lst.injEq, List.cons.injEq, reduceCtorEq, exists_const, List.append_nil, List.singleton_append, and_self, exists_eq, exists_eq', Nat.lt_add_left_iff_pos, Nat.zero_lt_succ, wipeC, frzC, List.map_set, if_true, ite_true, Bool.false_eq_true, if_false, O.lst.injEq, O.dk.injEq, noInsL_sh, erL_sh, ngB_f, ngB_t, items_sh, items_lst, Nat.zero_add, Nat.reduceLeDiff, and_self, and_assoc]
        refine ⟨by decide, ?_⟩
        have tk : M.take (j + 1) = M.take j ++ [M[j]] := by rw [List.take_add_one, List.getElem?_eq_getElem hjl]; rfl
        by_cases c0 : (r' : Int) % 2 = 0
        · simp only [c0, decide_true, vSeq, vAsg, vEx, vRet, vRetN, vIf, vNil, vFor, oN, oMv, oC, oCall, oCons, oNil, kArg, kKey, baOf, bbOf, aName, aTup, aNames, oB, oNot, oOr, oAnd, oV, oAndV, oOrV, oNotV, o2, kI_int, kI0_int, kB0_int, kAdd_int, kQ_int, kQ_str, kInt_int, kMin2_int, kIsi_iff, kLen_iff, kSub_iff, kIn_iff, kRepr_iff, kList_iff, kInts_iff, kBls_iff, kSorted_iff, oLst, oTup, oIf, oChain, oNeg, oPeek, oPeekT, iLst, iRange1, iRange2, iEnumO, oYes, vLc, vDc, oSl, oRev, oStep, pNone, pSome, rng1, rng2, oLR, oTR, oApp, oPopAt, oCallB, xN, vPar, g0, List.map_cons, List.map_nil, List.length_cons, List.length_nil, List.replicate, List.cons_append, List.nil_append, List.getElem?_cons_zero, List.getElem?_cons_succ, List.set_cons_zero, List.set_cons_succ, O.noIns, O.er, noInsL, erL, Bool.and_true, Bool.true_and, Option.some.injEq, exists_eq_left', exists_eq_left, true_and, and_true, Nat.reduceAdd, Nat.reduceSub, Nat.reduceLT, exists_and_left, exists_and_right, O.sh.injEq, D.int.injEq, D.bl.injEq, D.lst.injEq, List.cons.injEq, reduceCtorEq, exists_const, List.append_nil, List.singleton_append, and_self, exists_eq, exists_eq', Nat.lt_add_left_iff_pos, Nat.zero_lt_succ, wipeC, frzC, List.map_set, if_true, ite_true, Bool.false_eq_true, if_false, O.lst.injEq, O.dk.injEq, noInsL_sh, erL_sh, ngB_f, ngB_t, items_sh, items_lst, Nat.zero_add, Nat.reduceLeDiff, and_self, and_assoc]
          refine hN' _ _ ⟨S ++ [M[j]], x4, a3 + 1, by rw [tk]; exact hS.append (List.Sublist.refl _), by omega, ?_, rfl⟩
          rw [List.map_append]; rfl
        · simp only [c0, decide_false, vSeq, vAsg, vEx, vRet, vRetN, vIf, vNil, vFor, oN, oMv, oC, oCall, oCons, oNil, kArg, kKey, baOf, bbOf, aName, aTup, aNames, oB, oNot, oOr, oAnd, oV, oAndV, oOrV, oNotV, o2, kI_int, kI0_int, kB0_int, kAdd_int, kQ_int, kQ_str, kInt_int, kMin2_int, kIsi_iff, kLen_iff, kSub_iff, kIn_iff, kRepr_iff, kList_iff, kInts_iff, kBls_iff, kSorted_iff, oLst, oTup, oIf, oChain, oNeg, oPeek, oPeekT, iLst, iRange1, iRange2, iEnumO, oYes, vLc, vDc, oSl, oRev, oStep, pNone, pSome, rng1, rng2, oLR, oTR, oApp, oPopAt, oCallB, xN, vPar, g0, List.map_cons, List.map_nil, List.length_cons, List.length_nil, List.replicate, List.cons_append, List.nil_append, List.getElem?_cons_zero, List.getElem?_cons_succ, List.set_cons_zero, List.set_cons_succ, O.noIns, O.er, noInsL, erL, Bool.and_true, Bool.true_and, Option.some.injEq, exists_eq_left', exists_eq_left, true_and, and_true, Nat.reduceAdd, Nat.reduceSub, Nat.reduceLT, exists_and_left, exists_and_right, O.sh.injEq, D.int.injEq, D.bl.injEq, D.lst.injEq, List.cons.injEq, reduceCtorEq, exists_const, List.append_nil, List.singleton_append, and_self, exists_eq, exists_eq', Nat.lt_add_left_iff_pos, Nat.zero_lt_succ, wipeC, frzC, List.map_set, if_true, ite_true, Bool.false_eq_true, if_false, O.lst.injEq, O.dk.injEq, noInsL_sh, erL_sh, ngB_f, ngB_t, items_sh, items_lst, Nat.zero_add, Nat.reduceLeDiff, and_self, and_assoc]
          exact hN' _ _ ⟨S, x4, a3 + 1, by rw [tk]; exact hS.trans (List.sublist_append_left _ _), by omega, rfl, rfl⟩
  · exact h.elim
end FN
end
section
namespace FN
open PySem PySem.Spec L2
open PyProof.Rows hiding St
def upP (p : Nat × Nat) : Nat × Nat := (min p.1 p.2, max p.1 p.2)
theorem upP_eq {p q : Nat × Nat} : upP p = upP q ↔ p = q ∨ p = (q.2, q.1) := by
  obtain ⟨a, b⟩ := p
  obtain ⟨c, d⟩ := q
  unfold upP
  simp only [Prod.mk.injEq]
  omega
theorem lnOk_up {n : Nat} {p : Nat × Nat} : lnOk n (upP p) ↔ lnOk n p := by
  unfold lnOk upP
  simp only
  omega
theorem lnsOk_up {n : Nat} {L : List (Nat × Nat)} : LnsOk n L ↔ (∀ u ∈ L.map upP, lnOk n u) ∧ (L.map upP).Nodup := by
  constructor
  · intro h
    refine ⟨fun u hu => ?_, List.pairwise_map.mpr (h.nd.imp fun {p q} hpq e => ?_)⟩
    · obtain ⟨p, hp, rfl⟩ := List.mem_map.mp hu
      exact lnOk_up.mpr (h.ok p hp)
    · rcases upP_eq.mp e with e | e
      · exact hpq.1 e
      · exact hpq.2 e
  · rintro ⟨h1, h2⟩
    exact ⟨fun p hp => lnOk_up.mp (h1 _ (List.mem_map_of_mem hp)), (List.pairwise_map.mp h2).imp fun {p q} hpq => ⟨fun e => hpq (upP_eq.mpr (.inl e)), fun e => hpq (upP_eq.mpr (.inr e))⟩⟩
theorem LnsOk.same {n : Nat} {L M : List (Nat × Nat)} (h : LnsOk n L) (e : (M.map upP).Perm (L.map upP)) : LnsOk n M := by
  obtain ⟨h1, h2⟩ := lnsOk_up.mp h
  exact lnsOk_up.mpr ⟨fun u hu => h1 u (e.mem_iff.mp hu), e.nodup_iff.mpr h2⟩
theorem LnsOk.rename {n : Nat} {L : List (Nat × Nat)} {f : Nat → Nat} (h : LnsOk n L) (f1 : ∀ k, 1 ≤ k → k ≤ n → 1 ≤ f k ∧ f k ≤ n) (f2 : ∀ j k, 1 ≤ j → j ≤ n → 1 ≤ k → k ≤ n → f j = f k → j = k) : LnsOk n (L.map fun p => (f p.1, f p.2)) := by
  refine ⟨fun q hq => ?_, List.pairwise_map.mpr (h.nd.imp_of_mem fun {p q} hp hq hpq => ?_)⟩
  · obtain ⟨p, hp, rfl⟩ := List.mem_map.mp hq
    obtain ⟨a1, a2, a3, a4, a5⟩ := h.ok p hp
    exact ⟨(f1 _ a1 a2).1, (f1 _ a1 a2).2, (f1 _ a3 a4).1, (f1 _ a3 a4).2, fun e => a5 (f2 _ _ a1 a2 a3 a4 e)⟩
  · obtain ⟨a1, a2, a3, a4, a5⟩ := h.ok p hp
    obtain ⟨b1, b2, b3, b4, b5⟩ := h.ok q hq
    refine ⟨fun e => hpq.1 ?_, fun e => hpq.2 ?_⟩
    · exact Prod.ext (f2 _ _ a1 a2 b1 b2 (congrArg Prod.fst e)) (f2 _ _ a3 a4 b3 b4 (congrArg Prod.snd e))
    · exact Prod.ext (f2 _ _ a1 a2 b3 b4 (congrArg Prod.fst e)) (f2 _ _ a3 a4 b1 b2 (congrArg Prod.snd e))
/-- a permutation of images is an image -/
theorem perm_image {α : Type} {f : α → D} {u : D → α} (hu : ∀ a, u (f a) = a) {l : List α} {m : List D} (h : m.Perm (l.map f)) : ∃ l' : List α, m = l'.map f ∧ l'.Perm l := by
  refine ⟨m.map u, ?_, ?_⟩
  · rw [List.map_map]
    have : ∀ d ∈ m, (f ∘ u) d = d := fun d hd => by
      obtain ⟨a, _, rfl⟩ := List.mem_map.mp (h.mem_iff.mp hd)
      show f (u (f a)) = f a
      rw [hu]
    rw [List.map_congr_left this, List.map_id']
  · refine (h.map u).trans (.of_eq ?_)
    rw [List.map_map]
    have : ∀ a ∈ l, (u ∘ f) a = a := fun a _ => hu a
    rw [List.map_congr_left this, List.map_id']
def unIt : D → Nat
  | .int i => i.toNat
  | _ => 0
theorem unIt_it (k : Nat) : unIt (itD k) = k := by show ((k : Nat) : Int).toNat = k; simp
def unLn : D → Nat × Nat
  | .lst [a, b] => (unIt a, unIt b)
  | _ => (0, 0)
theorem unLn_ln (p : Nat × Nat) : unLn (lnD p) = p := by
  show (unIt (itD p.1), unIt (itD p.2)) = p
  rw [unIt_it, unIt_it]
theorem rgD_its (n : Nat) : rgD 1 ((n : Int) + 1) = ((List.range n).map (· + 1)).map itD := by
  unfold rgD
  have e : ((n : Int) + 1 - 1).toNat = n := by omega
  rw [e, List.map_map]
  refine List.map_congr_left fun i _ => ?_
  show D.int (1 + (i : Nat)) = D.int ((i + 1 : Nat) : Int)
  congr 1
  omega
/-- renamed -/
def gRen (f : Nat → Nat) : O → Option O
  | .sh (.lst [a, b]) => some (lnO (f (unIt a), f (unIt b)))
  | _ => none
theorem gRen_one (f : Nat → Nat) (p : Nat × Nat) : gRen f (.sh (lnD p)) = some (lnO (f p.1, f p.2)) := by
  show some (lnO (f (unIt (itD p.1)), f (unIt (itD p.2)))) = _
  rw [unIt_it, unIt_it]
theorem gRen_of (f : Nat → Nat) : ∀ L : List (Nat × Nat), ((L.map lnD).map O.sh).filterMap (gRen f) = (L.map fun p => (f p.1, f p.2)).map lnO
  | [] => rfl
  | p :: L => by
    rw [List.map_cons, List.map_cons, List.filterMap_cons, gRen_one, List.map_cons, List.map_cons]
    exact congrArg (lnO (f p.1, f p.2) :: ·) (gRen_of f L)
/-- the k-th of names -/
def nmOf (π : List Nat) (k : Nat) : Nat := ((0 :: π)[k]?).getD 0
theorem nmOf_ok {n : Nat} {π : List Nat} (h : π.Perm ((List.range n).map (· + 1))) : (∀ k, k ≤ n → (0 :: π)[k]? = some (nmOf π k)) ∧ (∀ k, 1 ≤ k → k ≤ n → 1 ≤ nmOf π k ∧ nmOf π k ≤ n) ∧ ∀ j k, 1 ≤ j → j ≤ n → 1 ≤ k → k ≤ n → nmOf π j = nmOf π k → j = k := by
  have hl : π.length = n := by have := h.length_eq; simpa using this
  have nd : π.Nodup := by
    rw [h.nodup_iff]
    refine List.pairwise_map.mpr (List.nodup_range.imp fun h e => h (by omega))
  have at_ : ∀ k, k ≤ n → (0 :: π)[k]? = some (nmOf π k) := fun k hk => by
    unfold nmOf
    rw [List.getElem?_eq_getElem (by simp; omega)]; rfl
  have at2 : ∀ k, 1 ≤ k → k ≤ n → π[k - 1]? = some (nmOf π k) := fun k h1 hk => by
    have := at_ k hk
    obtain ⟨j, rfl⟩ : ∃ j, k = j + 1 := ⟨k - 1, by omega⟩
    rw [List.getElem?_cons_succ] at this
    simpa using this
  refine ⟨at_, fun k h1 hk => ?_, fun j k h1 h2 h3 h4 e => ?_⟩
  · have := h.mem_iff.mp (List.mem_of_getElem? (at2 k h1 hk))
    obtain ⟨i, hi, e⟩ := List.mem_map.mp this
    have := List.mem_range.mp hi
    omega
  · have a1 := at2 j h1 h2
    have a2 := at2 k h3 h4
    rw [e] at a1
    obtain ⟨b1, c1⟩ := List.getElem?_eq_some_iff.mp a1
    obtain ⟨b2, c2⟩ := List.getElem?_eq_some_iff.mp a2
    have := (List.getElem_inj nd).mp (c1.trans c2.symm)
    omega
/-- what a web is -/
def KWeb (n a : Nat) (b : Bool) (K : O → O → Prop) : Prop := ∀ (ls : List (Nat × Nat)) (x' : Int) (a' : Nat), LnsOk n ls → a' ≤ a + 10000 → K (.lst ((ls.map lnD).map O.sh)) (drO x' a' b)
theorem q_web_tail {n a : Nat} {b : Bool} {Q : O → O → Prop} (n1 : 1 ≤ n) (n2 : n ≤ 12) (ha : a + 20000 < 2 ^ 40) (h : KWeb n a b Q) (L : List (Nat × Nat)) (ok : LnsOk n L) (x' : Int) (a' : Nat) (ha' : a' ≤ a + 5000) (kd : Int) (t : O) (t1 : t.noIns = true) (t2 : t.er = lsD L) (y3 y5 y6 y7 : Option O) :
    r_law_web_t3 F_law_next F_law_grown F_law_shuffled { nx := fun γ => ∃ c', γ[0]? = some (some c') ∧ Q (.sh .non) c', rt := fun o γ => ∃ c', γ[0]? = some (some c') ∧ Q o c' } [some (drO x' a' b), some (itO n), some (.sh (.int kd)), y3, some t, y5, y6, y7, none, none, none, none] := by
  have pp : pls (((List.range n).map (· + 1)).map itD) = true := pls_map nat_pl _
  have dd : deps (((List.range n).map (· + 1)).map itD) ≤ 60 := Nat.le_trans (deps_map (k := 0) (fun _ => Nat.le_refl _) _) (by omega)
  have Lf := ok.few n2
  simp only [r_law_web_t3, itO, vSeq, vAsg, vEx, vRet, vRetN, vIf, vNil, vFor, oN, oMv, oC, oCall, oCons, oNil, kArg, kKey, baOf, bbOf, aName, aTup, aNames, oB, oNot, oOr, oAnd, oV, oAndV, oOrV, oNotV, o2, kI_int, kI0_int, kB0_int, kAdd_int, kQ_int, kQ_str, kInt_int, kMin2_int, kIsi_iff, kLen_iff, kSub_iff, kIn_iff, kRepr_iff, kList_iff, kInts_iff, kBls_iff, kSorted_iff, oLst, oTup, oIf, oChain, oNeg, oPeek, oPeekT, iLst, iRange1, iRange2, iEnumO, oYes, vLc, vDc, oSl, oRev, oStep, pNone, pSome, rng1, rng2, oLR, oTR, oApp, oPopAt, oCallB, xN, vPar, g0, List.map_cons, List.map_nil, List.length_cons, List.length_nil, List.replicate, List.cons_append, List.nil_append, List.getElem?_cons_zero, List.getElem?_cons_succ, List.set_cons_zero, List.set_cons_succ, O.noIns, O.er, noInsL, erL, Bool.and_true, Bool.true_and, Option.some.injEq, exists_eq_left', exists_eq_left, true_and, and_true, Nat.reduceAdd, Nat.reduceSub, Nat.reduceLT, exists_and_left, exists_and_right, O.sh.injEq, D.int.injEq, D.bl.injEq, D.lst.injEq, List.cons.injEq, reduceCtorEq, exists_const, List.append_nil, List.singleton_append, and_self, exists_eq, exists_eq', Nat.lt_add_left_iff_pos, Nat.zero_lt_succ, wipeC, frzC, List.map_set, if_true, ite_true, Bool.false_eq_true, if_false, O.lst.injEq, O.dk.injEq, noInsL_sh, erL_sh, ngB_f, ngB_t, items_sh, items_lst, Nat.zero_add, Nat.reduceLeDiff, and_self, and_assoc]
  refine ⟨by omega, by omega, by omega, by omega, x', a', b, rfl, ?_, ?_, ?_, ?_, ?_⟩
  · rw [rgD_its]; simp; omega
  · rw [rgD_its]; simp; omega
  · rw [rgD_its]; exact pp
  · rw [rgD_its]; exact dd
  intro l' x2 hp
  rw [rgD_its] at hp ⊢
  obtain ⟨π, rfl, hπ⟩ := perm_image unIt_it hp
  have el : (((List.range n).map (· + 1)).map itD).length = n := by simp
  rw [el]
  refine kAdd_lst rfl rfl (by have := hπ.length_eq; simp at this ⊢; omega) ?_
  simp only [t1, t2, lsD, vSeq, vAsg, vEx, vRet, vRetN, vIf, vNil, vFor, oN, oMv, oC, oCall, oCons, oNil, kArg, kKey, baOf, bbOf, aName, aTup, aNames, oB, oNot, oOr, oAnd, oV, oAndV, oOrV, oNotV, o2, kI_int, kI0_int, kB0_int, kAdd_int, kQ_int, kQ_str, kInt_int, kMin2_int, kIsi_iff, kLen_iff, kSub_iff, kIn_iff, kRepr_iff, kList_iff, kInts_iff, kBls_iff, kSorted_iff, oLst, oTup, oIf, oChain, oNeg, oPeek, oPeekT, iLst, iRange1, iRange2, iEnumO, oYes, vLc, vDc, oSl, oRev, oStep, pNone, pSome, rng1, rng2, oLR, oTR, oApp, oPopAt, oCallB, xN, vPar, g0, List.map_cons, List.map_nil, List.length_cons, List.length_nil, List.replicate, List.cons_append, List.nil_append, List.getElem?_cons_zero, List.getElem?_cons_succ, List.set_cons_zero, List.set_cons_succ, O.noIns, O.er, noInsL, erL, Bool.and_true, Bool.true_and, Option.some.injEq, exists_eq_left', exists_eq_left, true_and, and_true, Nat.reduceAdd, Nat.reduceSub, Nat.reduceLT, exists_and_left, exists_and_right, O.sh.injEq, D.int.injEq, D.bl.injEq, D.lst.injEq, List.cons.injEq, reduceCtorEq, exists_const, List.append_nil, List.singleton_append, and_self, exists_eq, exists_eq', Nat.lt_add_left_iff_pos, Nat.zero_lt_succ, wipeC, frzC, List.map_set, if_true, ite_true, Bool.false_eq_true, if_false, O.lst.injEq, O.dk.injEq, noInsL_sh, erL_sh, ngB_f, ngB_t, items_sh, items_lst, Nat.zero_add, Nat.reduceLeDiff, and_self, and_assoc]
  obtain ⟨nm1, nm2, nm3⟩ := nmOf_ok hπ
  refine ⟨by rw [List.length_map, List.length_map]; omega, ?_⟩
  have nms : (O.lst ([O.sh (D.int 0)] ++ (π.map itD).map O.sh)).noIns = true := by unfold O.noIns; rw [noInsL_app, noInsL_sh]; rfl
  have nme : (O.lst ([O.sh (D.int 0)] ++ (π.map itD).map O.sh)).er = .lst (itD 0 :: π.map itD) := by unfold O.er; rw [erL_app, erL_sh]; rfl
  have sub_ : ∀ k, 1 ≤ k → k ≤ n → subD (.lst (itD 0 :: π.map itD)) (.int (k : Nat)) = some (itD (nmOf π k)) := fun k _ h2 => by
    refine atI_of' ?_
    show ((0 :: π).map itD)[k]? = _
    rw [List.getElem?_map, nm1 k h2]; rfl
  refine compV_at (fun j acc γ => ∃ nr, nr.noIns = true ∧ nr.er = .lst (itD 0 :: π.map itD) ∧ acc = ((L.take j).map fun p => (nmOf π p.1, nmOf π p.2)).map lnO ∧
    γ = [some (drO x2 (a' + n) b), some (O.sh (D.int (n : Nat))), some (O.sh (D.int kd)), y3, some (O.sh (D.lst (L.map lnD))), none, y6, y7, some nr, none, none, none]) ?_ ?_ ⟨_, nms, nme, rfl, rfl⟩
  · rintro acc γ ⟨nr, _, _, rfl, rfl⟩
    rw [List.length_map, List.length_map, List.take_length]
    obtain ⟨M, hM⟩ : ∃ M, (L.map fun p => (nmOf π p.1, nmOf π p.2)) = M := ⟨_, rfl⟩
    have okM : LnsOk n M := by rw [← hM]; exact ok.rename nm2 nm3
    have Mf := okM.few n2
    rw [hM]
    simp only [noInsL_map lnO_no, erL_map lnO_er, vSeq, vAsg, vEx, vRet, vRetN, vIf, vNil, vFor, oN, oMv, oC, oCall, oCons, oNil, kArg, kKey, baOf, bbOf, aName, aTup, aNames, oB, oNot, oOr, oAnd, oV, oAndV, oOrV, oNotV, o2, kI_int, kI0_int, kB0_int, kAdd_int, kQ_int, kQ_str, kInt_int, kMin2_int, kIsi_iff, kLen_iff, kSub_iff, kIn_iff, kRepr_iff, kList_iff, kInts_iff, kBls_iff, kSorted_iff, oLst, oTup, oIf, oChain, oNeg, oPeek, oPeekT, iLst, iRange1, iRange2, iEnumO, oYes, vLc, vDc, oSl, oRev, oStep, pNone, pSome, rng1, rng2, oLR, oTR, oApp, oPopAt, oCallB, xN, vPar, g0, List.map_cons, List.map_nil, List.length_cons, List.length_nil, List.replicate, List.cons_append, List.nil_append, List.getElem?_cons_zero, List.getElem?_cons_succ, List.set_cons_zero, List.set_cons_succ, O.noIns, O.er, noInsL, erL, Bool.and_true, Bool.true_and, Option.some.injEq, exists_eq_left', exists_eq_left, true_and, and_true, Nat.reduceAdd, Nat.reduceSub, Nat.reduceLT, exists_and_left, exists_and_right, O.sh.injEq, D.int.injEq, D.bl.injEq, D.lst.injEq, List.cons.injEq, reduceCtorEq, exists_const, List.append_nil, List.singleton_append, and_self, exists_eq, exists_eq', Nat.lt_add_left_iff_pos, Nat.zero_lt_succ, wipeC, frzC, List.map_set, if_true, ite_true, Bool.false_eq_true, if_false, O.lst.injEq, O.dk.injEq, noInsL_sh, erL_sh, ngB_f, ngB_t, items_sh, items_lst, Nat.zero_add, Nat.reduceLeDiff, and_self, and_assoc]
    refine ⟨by rw [List.length_map, List.length_map]; omega, ?_⟩
    refine compV_at (fun j acc γ => ∃ (M2 : List (Nat × Nat)) (x3 : Int) (a3 : Nat), M2.map upP = (M.take j).map upP ∧ a3 ≤ a' + n + j ∧ acc = M2.map lnO ∧
      γ = [some (drO x3 a3 b), some (O.sh (D.int (n : Nat))), some (O.sh (D.int kd)), y3, some (O.sh (D.lst (M.map lnD))), none, y6, y7, some nr, none, none, none]) ?_ ?_ ⟨[], x2, a' + n, rfl, by omega, rfl, rfl⟩
    · rintro acc γ ⟨M2, x3, a3, e1, h3, rfl, rfl⟩
      rw [List.length_map, List.length_map] at h3
      rw [List.length_map, List.length_map, List.take_length] at e1
      have ok2 : LnsOk n M2 := okM.same (.of_eq e1)
      have Mf2 := ok2.few n2
      simp only [noInsL_map lnO_no, erL_map lnO_er, vSeq, vAsg, vEx, vRet, vRetN, vIf, vNil, vFor, oN, oMv, oC, oCall, oCons, oNil, kArg, kKey, baOf, bbOf, aName, aTup, aNames, oB, oNot, oOr, oAnd, oV, oAndV, oOrV, oNotV, o2, kI_int, kI0_int, kB0_int, kAdd_int, kQ_int, kQ_str, kInt_int, kMin2_int, kIsi_iff, kLen_iff, kSub_iff, kIn_iff, kRepr_iff, kList_iff, kInts_iff, kBls_iff, kSorted_iff, oLst, oTup, oIf, oChain, oNeg, oPeek, oPeekT, iLst, iRange1, iRange2, iEnumO, oYes, vLc, vDc, oSl, oRev, oStep, pNone, pSome, rng1, rng2, oLR, oTR, oApp, oPopAt, oCallB, xN, vPar, g0, List.map_cons, List.map_nil, List.length_cons, List.length_nil, List.replicate, List.cons_append, List.nil_append, List.getElem?_cons_zero, List.getElem?_cons_succ, List.set_cons_zero, List.set_cons_succ, O.noIns, O.er, noInsL, erL, Bool.and_true, Bool.true_and, Option.some.injEq, exists_eq_left', exists_eq_left, true_and, and_true, Nat.reduceAdd, Nat.reduceSub, Nat.reduceLT, exists_and_left, exists_and_right, O.sh.injEq, D.int.injEq, D.bl.injEq, D.lst.injEq, List.cons.injEq, reduceCtorEq, exists_const, List.append_nil, List.singleton_append, and_self, exists_eq, exists_eq', Nat.lt_add_left_iff_pos, Nat.zero_lt_succ, wipeC, frzC, List.map_set, if_true, ite_true, Bool.false_eq_true, if_false, O.lst.injEq, O.dk.injEq, noInsL_sh, erL_sh, ngB_f, ngB_t, items_sh, items_lst, Nat.zero_add, Nat.reduceLeDiff, and_self, and_assoc]
      refine ⟨x3, a3, b, rfl, by rw [List.length_map]; omega, by rw [List.length_map]; omega, pls_map lnD_pl _, Nat.le_trans (deps_map lnD_dep _) (by omega), fun l' x4 hp => ?_⟩
      obtain ⟨M3, rfl, hM3⟩ := perm_image unLn_ln hp
      exact h M3 x4 _ (ok2.same (hM3.map upP)) (by rw [List.length_map]; omega)
    · rintro j o acc γ hj ⟨M2, x3, a3, e1, h3, rfl, rfl⟩ N hN
      rw [List.getElem?_map, List.getElem?_map] at hj
      obtain ⟨d, hd, rfl⟩ := Option.map_eq_some_iff.mp hj
      obtain ⟨p, hp, rfl⟩ := Option.map_eq_some_iff.mp hd
      obtain ⟨hjl, rfl⟩ := List.getElem?_eq_some_iff.mp hp
      have tk : M.take (j + 1) = M.take j ++ [M[j]] := by rw [List.take_add_one, List.getElem?_eq_getElem hjl]; rfl
      simp only [vSeq, vAsg, vEx, vRet, vRetN, vIf, vNil, vFor, oN, oMv, oC, oCall, oCons, oNil, kArg, kKey, baOf, bbOf, aName, aTup, aNames, oB, oNot, oOr, oAnd, oV, oAndV, oOrV, oNotV, o2, kI_int, kI0_int, kB0_int, kAdd_int, kQ_int, kQ_str, kInt_int, kMin2_int, kIsi_iff, kLen_iff, kSub_iff, kIn_iff, kRepr_iff, kList_iff, kInts_iff, kBls_iff, kSorted_iff, oLst, oTup, oIf, oChain, oNeg, oPeek, oPeekT, iLst, iRange1, iRange2, iEnumO, oYes, vLc, vDc, oSl, oRev, oStep, pNone, pSome, rng1, rng2, oLR, oTR, oApp, oPopAt, oCallB, xN, vPar, g0, List.map_cons, List.map_nil, List.length_cons, List.length_nil, List.replicate, List.cons_append, List.nil_append, List.getElem?_cons_zero, List.getElem?_cons_succ, List.set_cons_zero, List.set_cons_succ, O.noIns, O.er, noInsL, erL, Bool.and_true, Bool.true_and, Option.some.injEq, exists_eq_left', exists_eq_left, true_and, and_true, Nat.reduceAdd, Nat.reduceSub, Nat.reduceLT, exists_and_left, exists_and_right, O.sh.injEq, D.int.injEq, D.bl.injEq, D.lst.injEq, List.cons.injEq, reduceCtorEq, exists_const, List.append_nil, List.singleton_append, and_self, exists_eq, exists_eq', Nat.lt_add_left_iff_pos, Nat.zero_lt_succ, wipeC, frzC, List.map_set, if_true, ite_true, Bool.false_eq_true, if_false, O.lst.injEq, O.dk.injEq, noInsL_sh, erL_sh, ngB_f, ngB_t, items_sh, items_lst, Nat.zero_add, Nat.reduceLeDiff, and_self, and_assoc]
      refine ⟨x3, a3, b, rfl, by omega, fun r x4 => ?_⟩
      simp only [vSeq, vAsg, vEx, vRet, vRetN, vIf, vNil, vFor, oN, oMv, oC, oCall, oCons, oNil, kArg, kKey, baOf, bbOf, aName, aTup, aNames, oB, oNot, oOr, oAnd, oV, oAndV, oOrV, oNotV, o2, kI_int, kI0_int, kB0_int, kAdd_int, kQ_int, kQ_str, kInt_int, kMin2_int, kIsi_iff, kLen_iff, kSub_iff, kIn_iff, kRepr_iff, kList_iff, kInts_iff, kBls_iff, kSorted_iff, oLst, oTup, oIf, oChain, oNeg, oPeek, oPeekT, iLst, iRange1, iRange2, iEnumO, oYes, vLc, vDc, oSl, oRev, oStep, pNone, pSome, rng1, rng2, oLR, oTR, oApp, oPopAt, oCallB, xN, vPar, g0, List.map_cons, List.map_nil, List.length_cons, List.length_nil, List.replicate, List.cons_append, List.nil_append, List.getElem?_cons_zero, List.getElem?_cons_succ, List.set_cons_zero, List.set_cons_succ, O.noIns, O.er, noInsL, erL, Bool.and_true, Bool.true_and, Option.some.injEq, exists_eq_left', exists_eq_left, true_and, and_true, Nat.reduceAdd, Nat.reduceSub, Nat.reduceLT, exists_and_left, exists_and_right, O.sh.injEq, D.int.injEq, D.bl.injEq, D.lst.injEq, List.cons.injEq, reduceCtorEq, exists_const, List.append_nil, List.singleton_append, and_self, exists_eq, exists_eq', Nat.lt_add_left_iff_pos, Nat.zero_lt_succ, wipeC, frzC, List.map_set, if_true, ite_true, Bool.false_eq_true, if_false, O.lst.injEq, O.dk.injEq, noInsL_sh, erL_sh, ngB_f, ngB_t, items_sh, items_lst, Nat.zero_add, Nat.reduceLeDiff, and_self, and_assoc]
      have er : ((r : Int) % 2) = ((r % 2 : Nat) : Int) := by simp
      rw [er]
      refine ⟨by decide, ?_⟩
      rcases Nat.mod_two_eq_zero_or_one r with e | e
      · rw [e]
        refine ⟨.int 1, rfl, _, rfl, 1, rfl, .inl rfl, ?_⟩
        refine hN _ _ ⟨M2 ++ [M[j]], x4, a3 + 1, by rw [tk, List.map_append, List.map_append, e1], by omega, ?_, rfl⟩
        rw [List.map_append]; rfl
      · rw [e]
        refine ⟨.int (-1), rfl, _, rfl, -1, rfl, .inr rfl, ?_⟩
        refine hN _ _ ⟨M2 ++ [(M[j].2, M[j].1)], x4, a3 + 1, ?_, by omega, ?_, rfl⟩
        · rw [tk, List.map_append, List.map_append, e1]
          exact congrArg (fun u => (M.take j).map upP ++ [u]) (upP_eq (p := (M[j].2, M[j].1)) (q := M[j]) |>.mpr (.inr rfl))
        · rw [List.map_append]; rfl
  · rintro j o acc γ hj ⟨nr, hn1, hn2, rfl, rfl⟩ N hN
    rw [List.getElem?_map, List.getElem?_map] at hj
    obtain ⟨d, hd, rfl⟩ := Option.map_eq_some_iff.mp hj
    obtain ⟨p, hp, rfl⟩ := Option.map_eq_some_iff.mp hd
    obtain ⟨hjl, rfl⟩ := List.getElem?_eq_some_iff.mp hp
    obtain ⟨a1, a2, a3, a4, a5⟩ := ok.ok _ (List.getElem_mem hjl)
    refine ⟨[itO L[j].1, itO L[j].2], rfl, rfl, ?_⟩
    simp only [itO, hn1, hn2, sub_ _ a1 a2, sub_ _ a3 a4, vSeq, vAsg, vEx, vRet, vRetN, vIf, vNil, vFor, oN, oMv, oC, oCall, oCons, oNil, kArg, kKey, baOf, bbOf, aName, aTup, aNames, oB, oNot, oOr, oAnd, oV, oAndV, oOrV, oNotV, o2, kI_int, kI0_int, kB0_int, kAdd_int, kQ_int, kQ_str, kInt_int, kMin2_int, kIsi_iff, kLen_iff, kSub_iff, kIn_iff, kRepr_iff, kList_iff, kInts_iff, kBls_iff, kSorted_iff, oLst, oTup, oIf, oChain, oNeg, oPeek, oPeekT, iLst, iRange1, iRange2, iEnumO, oYes, vLc, vDc, oSl, oRev, oStep, pNone, pSome, rng1, rng2, oLR, oTR, oApp, oPopAt, oCallB, xN, vPar, g0, List.map_cons, List.map_nil, List.length_cons, List.length_nil, List.replicate, List.cons_append, List.nil_append, List.getElem?_cons_zero, List.getElem?_cons_succ, List.set_cons_zero, List.set_cons_succ, O.noIns, O.er, noInsL, erL, Bool.and_true, Bool.true_and, Option.some.injEq, exists_eq_left', exists_eq_left, true_and, and_true, Nat.reduceAdd, Nat.reduceSub, Nat.reduceLT, exists_and_left, exists_and_right, O.sh.injEq, D.int.injEq, D.bl.injEq, D.lst.injEq, List.cons.injEq, reduceCtorEq, exists_const, List.append_nil, List.singleton_append, and_self, exists_eq, exists_eq', Nat.lt_add_left_iff_pos, Nat.zero_lt_succ, wipeC, frzC, List.map_set, if_true, ite_true, Bool.false_eq_true, if_false, O.lst.injEq, O.dk.injEq, noInsL_sh, erL_sh, ngB_f, ngB_t, items_sh, items_lst, Nat.zero_add, Nat.reduceLeDiff, and_self, and_assoc]
    refine hN _ _ ⟨.sh (.lst (itD 0 :: π.map itD)), rfl, rfl, ?_, rfl⟩
    rw [List.take_add_one, List.getElem?_eq_getElem hjl, List.map_append, List.map_append]
    rfl
end FN
end
section
namespace FN
open PySem PySem.Spec L2
open PyProof.Rows hiding St
def F_law_web : DB
  | c, [.int size, .int kind], K => ∃ (n : Nat) (x : Int) (a : Nat) (b : Bool), c = drO x a b ∧ size = (n : Nat) ∧ 1 ≤ n ∧ n ≤ 12 ∧ (kind = 0 ∨ kind = 1 ∨ kind = 2) ∧ a + 20000 < 2 ^ 40 ∧ KWeb n a b K
  | _, _, _ => False
theorem LnsOk.nil {n : Nat} : LnsOk n [] := ⟨fun p hp => (by cases hp), List.Pairwise.nil⟩
theorem LnsOk.up {n m : Nat} {L : List (Nat × Nat)} (h : LnsOk n L) (hn : n ≤ m) : LnsOk m L := ⟨fun p hp => by
  obtain ⟨a1, a2, a3, a4, a5⟩ := h.ok p hp
  exact ⟨a1, by omega, a3, by omega, a5⟩, h.nd⟩
/-- a ring -/
def ringL (f : Nat) : List (Nat × Nat) := (List.range f).map fun i => (i + 1, (i + 1) % f + 1)
theorem ring_ok {f : Nat} (h : 2 < f) : LnsOk f (ringL f) := by
  have md : ∀ i, i < f → (i + 1) % f = if i + 1 = f then 0 else i + 1 := fun i hi => by
    by_cases e : i + 1 = f
    · rw [if_pos e, e, Nat.mod_self]
    · rw [if_neg e, Nat.mod_eq_of_lt (by omega)]
  refine ⟨fun p hp => ?_, List.pairwise_map.mpr ((List.nodup_range (n := f)).imp_of_mem fun {i j} hi hj hij => ?_)⟩
  · obtain ⟨i, hi, rfl⟩ := List.mem_map.mp hp
    have hi := List.mem_range.mp hi
    have := md i hi
    unfold lnOk
    simp only
    rw [this]
    split <;> omega
  · have hi := List.mem_range.mp hi
    have hj := List.mem_range.mp hj
    have h1 := md i hi
    have h2 := md j hj
    refine ⟨fun e => hij (by have := congrArg Prod.fst e; simp at this; exact this), fun e => ?_⟩
    have e1 := congrArg Prod.fst e
    have e2 := congrArg Prod.snd e
    simp only at e1 e2
    rw [h2] at e1
    rw [h1] at e2
    split at e1 <;> split at e2 <;> omega
/-- all later places, some of them -/
theorem LnsOk.later {n l : Nat} {L : List (Nat × Nat)} {S : List Nat} (h : LnsOk n L) (hl : ∀ p ∈ L, p.1 < l ∧ p.1 < p.2) (l1 : 1 ≤ l) (nd : S.Nodup) (hS : ∀ m ∈ S, l < m ∧ m ≤ n) : LnsOk n (L ++ S.map fun m => (l, m)) := by
  refine ⟨fun p hp => ?_, List.pairwise_append.mpr ⟨h.nd, List.pairwise_map.mpr (nd.imp_of_mem fun {a b} ha hb hab => ?_), fun p hp q hq => ?_⟩⟩
  · rcases List.mem_append.mp hp with hp | hp
    · exact h.ok p hp
    · obtain ⟨m, hm, rfl⟩ := List.mem_map.mp hp
      have := hS m hm
      exact ⟨l1, by show l ≤ n; omega, by show 1 ≤ m; omega, this.2, by show l ≠ m; omega⟩
  · have := hS a ha
    exact ⟨fun e => hab (congrArg Prod.snd e), fun e => by have := congrArg Prod.fst e; simp at this; have := hS b hb; omega⟩
  · obtain ⟨m, hm, rfl⟩ := List.mem_map.mp hq
    have h1 := hl p hp
    have h2 := hS m hm
    exact ⟨fun e => by rw [e] at h1; simp at h1, fun e => by rw [e] at h1; simp at h1; omega⟩
def gRing (f : Nat) : O → Option O
  | .sh (.int k) => some (lnO (k.toNat, k.toNat % f + 1))
  | _ => none
theorem gRing_of (f : Nat) : (rngO 1 f).filterMap (gRing f) = (ringL f).map lnO := by
  unfold rngO ringL
  generalize List.range f = l
  induction l with
  | nil => rfl
  | cons i l ih =>
    rw [List.map_cons, List.filterMap_cons, List.map_cons, List.map_cons]
    have e : (1 + (i : Int)).toNat = i + 1 := by omega
    have e2 : gRing f (.sh (.int (1 + (i : Nat)))) = some (lnO (i + 1, (i + 1) % f + 1)) := by
      show some (lnO ((1 + (i : Int)).toNat, (1 + (i : Int)).toNat % f + 1)) = _
      rw [e]
    rw [e2]
    exact congrArg (lnO (i + 1, (i + 1) % f + 1) :: ·) ih
theorem q_law_web (c : O) (ds : List D) (Q : O → O → Prop) (_ : ds.length = 2) (h : F_law_web c ds Q) :
    r_law_web F_law_next F_law_grown F_law_shuffled { nx := fun γ => ∃ c', γ[0]? = some (some c') ∧ Q (.sh .non) c', rt := fun o γ => ∃ c', γ[0]? = some (some c') ∧ Q o c' } (g0 nn_law_web (c :: ds.map O.sh)) := by
  unfold F_law_web at h
  split at h
  · obtain ⟨n, x, a, b, rfl, rfl, n1, n2, hk, ha, h⟩ := h
    rcases hk with rfl | rfl | rfl
    · simp only [r_law_web, nn_law_web, decide_true, decide_false, show ¬ (0 : Int) = 1 by decide, show ¬ (0 : Int) = 2 by decide, vSeq, vAsg, vEx, vRet, vRetN, vIf, vNil, vFor, oN, oMv, oC, oCall, oCons, oNil, kArg, kKey, baOf, bbOf, aName, aTup, aNames, oB, oNot, oOr, oAnd, oV, oAndV, oOrV, oNotV, o2, kI_int, kI0_int, kB0_int, kAdd_int, kQ_int, kQ_str, kInt_int, kMin2_int, kIsi_iff, kLen_iff, kSub_iff, kIn_iff, kRepr_iff, kList_iff, kInts_iff, kBls_iff, kSorted_iff, oLst, oTup, oIf, oChain, oNeg, oPeek, oPeekT, iLst, iRange1, iRange2, iEnumO, oYes, vLc, vDc, oSl, oRev, oStep, pNone, pSome, rng1, rng2, oLR, oTR, oApp, oPopAt, oCallB, xN, vPar, g0, List.map_cons, List.map_nil, List.length_cons, List.length_nil, List.replicate, List.cons_append, List.nil_append, List.getElem?_cons_zero, List.getElem?_cons_succ, List.set_cons_zero, List.set_cons_succ, O.noIns, O.er, noInsL, erL, Bool.and_true, Bool.true_and, Option.some.injEq, exists_eq_left', exists_eq_left, true_and, and_true, Nat.reduceAdd, Nat.reduceSub, Nat.reduceLT, exists_and_left, exists_and_right, O.sh.injEq, D.int.injEq, D.bl.injEq, D.lst.injEq, List.cons.injEq, reduceCtorEq, exists_const, List.append_nil, List.singleton_append, and_self, exists_eq, exists_eq', Nat.lt_add_left_iff_pos, Nat.zero_lt_succ, wipeC, frzC, List.map_set, if_true, ite_true, Bool.false_eq_true, if_false, O.lst.injEq, O.dk.injEq, noInsL_sh, erL_sh, ngB_f, ngB_t, items_sh, items_lst, Nat.zero_add, Nat.reduceLeDiff, and_self, and_assoc]
      refine ⟨x, a, b, rfl, by omega, fun r x2 => ?_⟩
      simp only [vSeq, vAsg, vEx, vRet, vRetN, vIf, vNil, vFor, oN, oMv, oC, oCall, oCons, oNil, kArg, kKey, baOf, bbOf, aName, aTup, aNames, oB, oNot, oOr, oAnd, oV, oAndV, oOrV, oNotV, o2, kI_int, kI0_int, kB0_int, kAdd_int, kQ_int, kQ_str, kInt_int, kMin2_int, kIsi_iff, kLen_iff, kSub_iff, kIn_iff, kRepr_iff, kList_iff, kInts_iff, kBls_iff, kSorted_iff, oLst, oTup, oIf, oChain, oNeg, oPeek, oPeekT, iLst, iRange1, iRange2, iEnumO, oYes, vLc, vDc, oSl, oRev, oStep, pNone, pSome, rng1, rng2, oLR, oTR, oApp, oPopAt, oCallB, xN, vPar, g0, List.map_cons, List.map_nil, List.length_cons, List.length_nil, List.replicate, List.cons_append, List.nil_append, List.getElem?_cons_zero, List.getElem?_cons_succ, List.set_cons_zero, List.set_cons_succ, O.noIns, O.er, noInsL, erL, Bool.and_true, Bool.true_and, Option.some.injEq, exists_eq_left', exists_eq_left, true_and, and_true, Nat.reduceAdd, Nat.reduceSub, Nat.reduceLT, exists_and_left, exists_and_right, O.sh.injEq, D.int.injEq, D.bl.injEq, D.lst.injEq, List.cons.injEq, reduceCtorEq, exists_const, List.append_nil, List.singleton_append, and_self, exists_eq, exists_eq', Nat.lt_add_left_iff_pos, Nat.zero_lt_succ, wipeC, frzC, List.map_set, if_true, ite_true, Bool.false_eq_true, if_false, O.lst.injEq, O.dk.injEq, noInsL_sh, erL_sh, ngB_f, ngB_t, items_sh, items_lst, Nat.zero_add, Nat.reduceLeDiff, and_self, and_assoc]
      refine ⟨by decide, by omega, by omega, by omega, by omega, ?_⟩
      have em : ((n : Int) + 1 - 1).toNat = n := by omega
      rw [em]
      obtain ⟨st, hst⟩ : ∃ st : Int, 2 + (r : Int) % 3 = st := ⟨_, rfl⟩
      have st0 : 0 < st := by have := Int.emod_nonneg (r : Int) (show (3 : Int) ≠ 0 by decide); omega
      rw [hst]
      refine forV_at (fun k γ => ∃ (L : List (Nat × Nat)) (x' : Int) (a' : Nat) (t : O) (y5 : Option O), LnsOk n L ∧ (∀ p ∈ L, p.1 < k + 1 ∧ p.1 < p.2) ∧ a' ≤ a + 1 + 20 * k ∧ t.noIns = true ∧ t.er = lsD L ∧
        γ = [some (drO x' a' b), some (itO n), some (.sh (.int 0)), some (.sh (.int st)), some t, y5, none, none, none, none, none, none]) ?_ ?_ ⟨[], x2, a + 1, .lst [], none, LnsOk.nil, fun p hp => (by cases hp), by omega, rfl, rfl, rfl⟩
      · rintro γ ⟨L, x', a', t, y5, okL, _, h3, t1, t2, rfl⟩
        rw [rngO_len] at h3
        simp only [decide_true, decide_false, show ¬ (0 : Int) = 1 by decide, show ¬ (0 : Int) = 2 by decide, vSeq, vAsg, vEx, vRet, vRetN, vIf, vNil, vFor, oN, oMv, oC, oCall, oCons, oNil, kArg, kKey, baOf, bbOf, aName, aTup, aNames, oB, oNot, oOr, oAnd, oV, oAndV, oOrV, oNotV, o2, kI_int, kI0_int, kB0_int, kAdd_int, kQ_int, kQ_str, kInt_int, kMin2_int, kIsi_iff, kLen_iff, kSub_iff, kIn_iff, kRepr_iff, kList_iff, kInts_iff, kBls_iff, kSorted_iff, oLst, oTup, oIf, oChain, oNeg, oPeek, oPeekT, iLst, iRange1, iRange2, iEnumO, oYes, vLc, vDc, oSl, oRev, oStep, pNone, pSome, rng1, rng2, oLR, oTR, oApp, oPopAt, oCallB, xN, vPar, g0, List.map_cons, List.map_nil, List.length_cons, List.length_nil, List.replicate, List.cons_append, List.nil_append, List.getElem?_cons_zero, List.getElem?_cons_succ, List.set_cons_zero, List.set_cons_succ, O.noIns, O.er, noInsL, erL, Bool.and_true, Bool.true_and, Option.some.injEq, exists_eq_left', exists_eq_left, true_and, and_true, Nat.reduceAdd, Nat.reduceSub, Nat.reduceLT, exists_and_left, exists_and_right, O.sh.injEq, D.int.injEq, D.bl.injEq, D.lst.injEq, List.cons.injEq, reduceCtorEq, exists_const, List.append_nil, List.singleton_append, and_self, exists_eq, exists_eq', Nat.lt_add_left_iff_pos, Nat.zero_lt_succ, wipeC, frzC, List.map_set, if_true, ite_true, Bool.false_eq_true, if_false, O.lst.injEq, O.dk.injEq, noInsL_sh, erL_sh, ngB_f, ngB_t, items_sh, items_lst, Nat.zero_add, Nat.reduceLeDiff, and_self, and_assoc]
        exact q_web_tail n1 n2 ha h L okL x' a' (by omega) 0 t t1 t2 _ _ _ _
      · rintro k o γ ho ⟨L, x', a', t, y5, okL, hL, h3, t1, t2, rfl⟩ N hN
        obtain ⟨hk, rfl⟩ := rng1_get ho
        have Lf := okL.few n2
        simp only [itO, t1, t2, lsD, vSeq, vAsg, vEx, vRet, vRetN, vIf, vNil, vFor, oN, oMv, oC, oCall, oCons, oNil, kArg, kKey, baOf, bbOf, aName, aTup, aNames, oB, oNot, oOr, oAnd, oV, oAndV, oOrV, oNotV, o2, kI_int, kI0_int, kB0_int, kAdd_int, kQ_int, kQ_str, kInt_int, kMin2_int, kIsi_iff, kLen_iff, kSub_iff, kIn_iff, kRepr_iff, kList_iff, kInts_iff, kBls_iff, kSorted_iff, oLst, oTup, oIf, oChain, oNeg, oPeek, oPeekT, iLst, iRange1, iRange2, iEnumO, oYes, vLc, vDc, oSl, oRev, oStep, pNone, pSome, rng1, rng2, oLR, oTR, oApp, oPopAt, oCallB, xN, vPar, g0, List.map_cons, List.map_nil, List.length_cons, List.length_nil, List.replicate, List.cons_append, List.nil_append, List.getElem?_cons_zero, List.getElem?_cons_succ, List.set_cons_zero, List.set_cons_succ, O.noIns, O.er, noInsL, erL, Bool.and_true, Bool.true_and, Option.some.injEq, exists_eq_left', exists_eq_left, true_and, and_true, Nat.reduceAdd, Nat.reduceSub, Nat.reduceLT, exists_and_left, exists_and_right, O.sh.injEq, D.int.injEq, D.bl.injEq, D.lst.injEq, List.cons.injEq, reduceCtorEq, exists_const, List.append_nil, List.singleton_append, and_self, exists_eq, exists_eq', Nat.lt_add_left_iff_pos, Nat.zero_lt_succ, wipeC, frzC, List.map_set, if_true, ite_true, Bool.false_eq_true, if_false, O.lst.injEq, O.dk.injEq, noInsL_sh, erL_sh, ngB_f, ngB_t, items_sh, items_lst, Nat.zero_add, Nat.reduceLeDiff, and_self, and_assoc]
        have e2 : ((n : Int) + 1 - (((k + 1 : Nat) : Int) + 1)).toNat = n - (k + 1) := by omega
        refine ⟨by omega, by omega, by omega, by omega, by rw [rngO_len]; omega, ?_⟩
        rw [e2]
        refine compV_at (fun j acc γ => ∃ (S : List Nat) (x3 : Int) (a3 : Nat), S.Nodup ∧ (∀ m ∈ S, k + 1 < m ∧ m < k + 2 + j) ∧ a3 ≤ a' + j ∧ acc = S.map (fun m => lnO (k + 1, m)) ∧
          γ = [some (drO x3 a3 b), some (itO n), some (.sh (.int 0)), some (.sh (.int st)), some (.sh (.lst (L.map lnD))), some (itO (k + 1)), none, none, none, none, none, none]) ?_ ?_ ⟨[], x', a', List.nodup_nil, fun m hm => (by cases hm), by omega, rfl, rfl⟩
        · rintro acc γ ⟨S, x3, a3, nd, hS, h4, rfl, rfl⟩
          rw [rngO_len] at hS h4
          have sl : S.length ≤ 13 := by
            have := List.Nodup.length_le_of_subset nd (l₂ := List.range 13) fun m hm => List.mem_range.mpr (by have := hS m hm; omega)
            simpa using this
          refine kAdd_lst rfl rfl (by simp; omega) ?_
          simp only [vSeq, vAsg, vEx, vRet, vRetN, vIf, vNil, vFor, oN, oMv, oC, oCall, oCons, oNil, kArg, kKey, baOf, bbOf, aName, aTup, aNames, oB, oNot, oOr, oAnd, oV, oAndV, oOrV, oNotV, o2, kI_int, kI0_int, kB0_int, kAdd_int, kQ_int, kQ_str, kInt_int, kMin2_int, kIsi_iff, kLen_iff, kSub_iff, kIn_iff, kRepr_iff, kList_iff, kInts_iff, kBls_iff, kSorted_iff, oLst, oTup, oIf, oChain, oNeg, oPeek, oPeekT, iLst, iRange1, iRange2, iEnumO, oYes, vLc, vDc, oSl, oRev, oStep, pNone, pSome, rng1, rng2, oLR, oTR, oApp, oPopAt, oCallB, xN, vPar, g0, List.map_cons, List.map_nil, List.length_cons, List.length_nil, List.replicate, List.cons_append, List.nil_append, List.getElem?_cons_zero, List.getElem?_cons_succ, List.set_cons_zero, List.set_cons_succ, O.noIns, O.er, noInsL, erL, Bool.and_true, Bool.true_and, Option.some.injEq, exists_eq_left', exists_eq_left, true_and, and_true, Nat.reduceAdd, Nat.reduceSub, Nat.reduceLT, exists_and_left, exists_and_right, O.sh.injEq, D.int.injEq, D.bl.injEq, D.lst.injEq, List.cons.injEq, reduceCtorEq, exists_const, List.append_nil, List.singleton_append, and_self, exists_eq, exists_eq', Nat.lt_add_left_iff_pos, Nat.zero_lt_succ, wipeC, frzC, List.map_set, if_true, ite_true, Bool.false_eq_true, if_false, O.lst.injEq, O.dk.injEq, noInsL_sh, erL_sh, ngB_f, ngB_t, items_sh, items_lst, Nat.zero_add, Nat.reduceLeDiff, and_self, and_assoc]
          refine hN _ ⟨L ++ S.map (fun m => (k + 1, m)), x3, a3, _, some (itO (k + 1)), okL.later hL (by omega) nd (fun m hm => by have := hS m hm; omega), fun p hp => ?_, by omega, ?_, ?_, rfl⟩
          · rcases List.mem_append.mp hp with hp | hp
            · have := hL p hp; omega
            · obtain ⟨m, hm, rfl⟩ := List.mem_map.mp hp
              have := hS m hm
              simp only
              omega
          · show noInsL _ = true
            rw [noInsL_app, noInsL_sh]
            exact noInsL_map (fun m => lnO_no (k + 1, m)) S
          · show D.lst (erL _) = _
            rw [erL_app, erL_sh, erL_map (fun m => lnO_er (k + 1, m)) S]
            unfold lsD
            rw [List.map_append, List.map_map]
            rfl
        · rintro j o acc γ hj ⟨S, x3, a3, nd, hS, h4, rfl, rfl⟩ N' hN'
          obtain ⟨hj, rfl⟩ := rngA_get hj
          have eq : ((((k + 1 : Nat) : Int) + 1) + (j : Nat)) = ((k + 2 + j : Nat) : Int) := by omega
          rw [eq]
          simp only [itO, vSeq, vAsg, vEx, vRet, vRetN, vIf, vNil, vFor, oN, oMv, oC, oCall, oCons, oNil, kArg, kKey, baOf, bbOf, aName, aTup, aNames, oB, oNot, oOr, oAnd, oV, oAndV, oOrV, oNotV, o2, kI_int, kI0_int, kB0_int, kAdd_int, kQ_int, kQ_str, kInt_int, kMin2_int, kIsi_iff, kLen_iff, kSub_iff, kIn_iff, kRepr_iff, kList_iff, kInts_iff, kBls_iff, kSorted_iff, oLst, oTup, oIf, oChain, oNeg, oPeek, oPeekT, iLst, iRange1, iRange2, iEnumO, oYes, vLc, vDc, oSl, oRev, oStep, pNone, pSome, rng1, rng2, oLR, oTR, oApp, oPopAt, oCallB, xN, vPar, g0, List.map_cons, List.map_nil, List.length_cons, List.length_nil, List.replicate, List.cons_append, List.nil_append, List.getElem?_cons_zero, List.getElem?_cons_succ, List.set_cons_zero, List.set_cons_succ, O.noIns, O.er, noInsL, erL, Bool.and_true, Bool.true_and, Option.some.injEq, exists_eq_left', exists_eq_left, true_and, and_true, Nat.reduceAdd, Nat.reduceSub, Nat.reduceLT, exists_and_left, exists_and_right, O.sh.injEq, D.int.injEq, D.bl.injEq, D.lst.injEq, List.cons.injEq, reduceCtorEq, exists_const, List.append_nil, List.singleton_append, and_self, exists_eq, exists_eq', Nat.lt_add_left_iff_pos, Nat.zero_lt_succ, wipeC, frzC, List.map_set, if_true, ite_true, Bool.false_eq_true, if_false, O.lst.injEq, O.dk.injEq, noInsL_sh, erL_sh, ngB_f, ngB_t, items_sh, items_lst, Nat.zero_add, Nat.reduceLeDiff, and_self, and_assoc]
          refine ⟨x3, a3, b, rfl, by omega, fun r' x4 => ?_⟩
          simp only [vSeq, vAsg, vEx, vRet, vRetN, vIf, vNil, vFor, oN, oMv, oC, oCall, oCons, oNil, kArg, kKey, baOf, bbOf, aName, aTup, aNames, oB, oNot, oOr, oAnd, oV, oAndV, oOrV, oNotV, o2, kI_int, kI0_int, kB0_int, kAdd_int, kQ_int, kQ_str, kInt_int, kMin2_int, kIsi_iff, kLen_iff, kSub_iff, kIn_iff, kRepr_iff, kList_iff, kInts_iff, kBls_iff, kSorted_iff, oLst, oTup, oIf, oChain, oNeg, oPeek, oPeekT, iLst, iRange1, iRange2, iEnumO, oYes, vLc, vDc, oSl, oRev, oStep, pNone, pSome, rng1, rng2, oLR, oTR, oApp, oPopAt, oCallB, xN, vPar, g0, List.map_cons, List.map_nil, List.length_cons, List.length_nil, List.replicate, List.cons_append, List.nil_append, List.getElem?_cons_zero, List.getElem?_cons_succ, List.set_cons_zero, List.set_cons_succ, O.noIns, O.er, noInsL, erL, Bool.and_true, Bool.true_and, Option.some.injEq, exists_eq_left', exists_eq_left, true_and, and_true, Nat.reduceAdd, Nat.reduceSub, Nat.reduceLT, exists_and_left, exists_and_right, O.sh.injEq, D.int.injEq, D.bl.injEq, D.lst.injEq, List.cons.injEq, reduceCtorEq, exists_const, List.append_nil, List.singleton_append, and_self, exists_eq, exists_eq', Nat.lt_add_left_iff_pos, Nat.zero_lt_succ, wipeC, frzC, List.map_set, if_true, ite_true, Bool.false_eq_true, if_false, O.lst.injEq, O.dk.injEq, noInsL_sh, erL_sh, ngB_f, ngB_t, items_sh, items_lst, Nat.zero_add, Nat.reduceLeDiff, and_self, and_assoc]
          refine ⟨st0, ?_⟩
          by_cases c0 : (r' : Int) % st = 0
          · simp only [c0, decide_true, vSeq, vAsg, vEx, vRet, vRetN, vIf, vNil, vFor, oN, oMv, oC, oCall, oCons, oNil, kArg, kKey, baOf, bbOf, aName, aTup, aNames, oB, oNot, oOr, oAnd, oV, oAndV, oOrV, oNotV, o2, kI_int, kI0_int, kB0_int, kAdd_int, kQ_int, kQ_str, kInt_int, kMin2_int, kIsi_iff, kLen_iff, kSub_iff, kIn_iff, kRepr_iff, kList_iff, kInts_iff, kBls_iff, kSorted_iff, oLst, oTup, oIf, oChain, oNeg, oPeek, oPeekT, iLst, iRange1, iRange2, iEnumO, oYes, vLc, vDc, oSl, oRev, oStep, pNone, pSome, rng1, rng2, oLR, oTR, oApp, oPopAt, oCallB, xN, vPar, g0, List.map_cons, List.map_nil, List.length_cons, List.length_nil, List.replicate, List.cons_append, List.nil_append, List.getElem?_cons_zero, List.getElem?_cons_succ, List.set_cons_zero, List.set_cons_succ, O.noIns, O.er, noInsL, erL, Bool.and_true, Bool.true_and, Option.some.injEq, exists_eq_left', exists_eq_left, true_and, and_true, Nat.reduceAdd, Nat.reduceSub, Nat.reduceLT, exists_and_left, exists_and_right, O.sh.injEq, D.int.injEq, D.bl.injEq, D.lst.injEq, List.cons.injEq, reduceCtorEq, exists_const, List.append_nil, List.singleton_append, and_self, exists_eq, exists_eq', Nat.lt_add_left_iff_pos, Nat.zero_lt_succ, wipeC, frzC, List.map_set, if_true, ite_true, Bool.false_eq_true, if_false, O.lst.injEq, O.dk.injEq, noInsL_sh, erL_sh, ngB_f, ngB_t, items_sh, items_lst, Nat.zero_add, Nat.reduceLeDiff, and_self, and_assoc]
            refine hN' _ _ ⟨S ++ [k + 2 + j], x4, a3 + 1, List.nodup_append.mpr ⟨nd, by simp, fun u hu v hv e => ?_⟩, fun m hm => ?_, by omega, ?_, rfl⟩
            · simp at hv; subst hv; subst e; have := hS _ hu; omega
            · rcases List.mem_append.mp hm with hm | hm
              · have := hS m hm; omega
              · simp at hm; omega
            · rw [List.map_append]; rfl
          · simp only [c0, decide_false, vSeq, vAsg, vEx, vRet, vRetN, vIf, vNil, vFor, oN, oMv, oC, oCall, oCons, oNil, kArg, kKey, baOf, bbOf, aName, aTup, aNames, oB, oNot, oOr, oAnd, oV, oAndV, oOrV, oNotV, o2, kI_int, kI0_int, kB0_int, kAdd_int, kQ_int, kQ_str, kInt_int, kMin2_int, kIsi_iff, kLen_iff, kSub_iff, kIn_iff, kRepr_iff, kList_iff, kInts_iff, kBls_iff, kSorted_iff, oLst, oTup, oIf, oChain, oNeg, oPeek, oPeekT, iLst, iRange1, iRange2, iEnumO, oYes, vLc, vDc, oSl, oRev, oStep, pNone, pSome, rng1, rng2, oLR, oTR, oApp, oPopAt, oCallB, xN, vPar, g0, List.map_cons, List.map_nil, List.length_cons, List.length_nil, List.replicate, List.cons_append, List.nil_append, List.getElem?_cons_zero, List.getElem?_cons_succ, List.set_cons_zero, List.set_cons_succ, O.noIns, O.er, noInsL, erL, Bool.and_true, Bool.true_and, Option.some.injEq, exists_eq_left', exists_eq_left, true_and, and_true, Nat.reduceAdd, Nat.reduceSub, Nat.reduceLT, exists_and_left, exists_and_right, O.sh.injEq, D.int.injEq, D.bl.injEq, D.lst.injEq, List.cons.injEq, reduceCtorEq, exists_const, List.append_nil, List.singleton_append, and_self, exists_eq, exists_eq', Nat.lt_add_left_iff_pos, Nat.zero_lt_succ, wipeC, frzC, List.map_set, if_true, ite_true, Bool.false_eq_true, if_false, O.lst.injEq, O.dk.injEq, noInsL_sh, erL_sh, ngB_f, ngB_t, items_sh, items_lst, Nat.zero_add, Nat.reduceLeDiff, and_self, and_assoc]
            exact hN' _ _ ⟨S, x4, a3 + 1, nd, fun m hm => by have := hS m hm; omega, by omega, rfl, rfl⟩
    · simp only [r_law_web, nn_law_web, decide_true, decide_false, show ¬ (1 : Int) = 0 by decide, show ¬ (1 : Int) = 2 by decide, vSeq, vAsg, vEx, vRet, vRetN, vIf, vNil, vFor, oN, oMv, oC, oCall, oCons, oNil, kArg, kKey, baOf, bbOf, aName, aTup, aNames, oB, oNot, oOr, oAnd, oV, oAndV, oOrV, oNotV, o2, kI_int, kI0_int, kB0_int, kAdd_int, kQ_int, kQ_str, kInt_int, kMin2_int, kIsi_iff, kLen_iff, kSub_iff, kIn_iff, kRepr_iff, kList_iff, kInts_iff, kBls_iff, kSorted_iff, oLst, oTup, oIf, oChain, oNeg, oPeek, oPeekT, iLst, iRange1, iRange2, iEnumO, oYes, vLc, vDc, oSl, oRev, oStep, pNone, pSome, rng1, rng2, oLR, oTR, oApp, oPopAt, oCallB, xN, vPar, g0, List.map_cons, List.map_nil, List.length_cons, List.length_nil, List.replicate, List.cons_append, List.nil_append, List.getElem?_cons_zero, List.getElem?_cons_succ, List.set_cons_zero, List.set_cons_succ, O.noIns, O.er, noInsL, erL, Bool.and_true, Bool.true_and, Option.some.injEq, exists_eq_left', exists_eq_left, true_and, and_true, Nat.reduceAdd, Nat.reduceSub, Nat.reduceLT, exists_and_left, exists_and_right, O.sh.injEq, D.int.injEq, D.bl.injEq, D.lst.injEq, List.cons.injEq, reduceCtorEq, exists_const, List.append_nil, List.singleton_append, and_self, exists_eq, exists_eq', Nat.lt_add_left_iff_pos, Nat.zero_lt_succ, wipeC, frzC, List.map_set, if_true, ite_true, Bool.false_eq_true, if_false, O.lst.injEq, O.dk.injEq, noInsL_sh, erL_sh, ngB_f, ngB_t, items_sh, items_lst, Nat.zero_add, Nat.reduceLeDiff, and_self, and_assoc]
      refine ⟨n, 2, [], x, a, b, rfl, rfl, rfl, rfl, LnsOk.nil, by omega, by omega, n2, by omega, fun ls' x' a' o ok h1 o1 o2 => ?_⟩
      simp only [decide_true, decide_false, show ¬ (1 : Int) = 0 by decide, show ¬ (1 : Int) = 2 by decide, vSeq, vAsg, vEx, vRet, vRetN, vIf, vNil, vFor, oN, oMv, oC, oCall, oCons, oNil, kArg, kKey, baOf, bbOf, aName, aTup, aNames, oB, oNot, oOr, oAnd, oV, oAndV, oOrV, oNotV, o2, kI_int, kI0_int, kB0_int, kAdd_int, kQ_int, kQ_str, kInt_int, kMin2_int, kIsi_iff, kLen_iff, kSub_iff, kIn_iff, kRepr_iff, kList_iff, kInts_iff, kBls_iff, kSorted_iff, oLst, oTup, oIf, oChain, oNeg, oPeek, oPeekT, iLst, iRange1, iRange2, iEnumO, oYes, vLc, vDc, oSl, oRev, oStep, pNone, pSome, rng1, rng2, oLR, oTR, oApp, oPopAt, oCallB, xN, vPar, g0, List.map_cons, List.map_nil, List.length_cons, List.length_nil, List.replicate, List.cons_append, List.nil_append, List.getElem?_cons_zero, List.getElem?_cons_succ, List.set_cons_zero, List.set_cons_succ, O.noIns, O.er, noInsL, erL, Bool.and_true, Bool.true_and, Option.some.injEq, exists_eq_left', exists_eq_left, true_and, and_true, Nat.reduceAdd, Nat.reduceSub, Nat.reduceLT, exists_and_left, exists_and_right, O.sh.injEq, D.int.injEq, D.bl.injEq, D.lst.injEq, List.cons.injEq, reduceCtorEq, exists_const, List.append_nil, List.singleton_append, and_self, exists_eq, exists_eq', Nat.lt_add_left_iff_pos, Nat.zero_lt_succ, wipeC, frzC, List.map_set, if_true, ite_true, Bool.false_eq_true, if_false, O.lst.injEq, O.dk.injEq, noInsL_sh, erL_sh, ngB_f, ngB_t, items_sh, items_lst, Nat.zero_add, Nat.reduceLeDiff, and_self, and_assoc]
      exact q_web_tail n1 n2 ha h ls' ok x' a' (by omega) 1 o o1 o2 _ _ _ _
    · simp only [r_law_web, nn_law_web, decide_true, decide_false, show ¬ (2 : Int) = 0 by decide, show ¬ (2 : Int) = 1 by decide, vSeq, vAsg, vEx, vRet, vRetN, vIf, vNil, vFor, oN, oMv, oC, oCall, oCons, oNil, kArg, kKey, baOf, bbOf, aName, aTup, aNames, oB, oNot, oOr, oAnd, oV, oAndV, oOrV, oNotV, o2, kI_int, kI0_int, kB0_int, kAdd_int, kQ_int, kQ_str, kInt_int, kMin2_int, kIsi_iff, kLen_iff, kSub_iff, kIn_iff, kRepr_iff, kList_iff, kInts_iff, kBls_iff, kSorted_iff, oLst, oTup, oIf, oChain, oNeg, oPeek, oPeekT, iLst, iRange1, iRange2, iEnumO, oYes, vLc, vDc, oSl, oRev, oStep, pNone, pSome, rng1, rng2, oLR, oTR, oApp, oPopAt, oCallB, xN, vPar, g0, List.map_cons, List.map_nil, List.length_cons, List.length_nil, List.replicate, List.cons_append, List.nil_append, List.getElem?_cons_zero, List.getElem?_cons_succ, List.set_cons_zero, List.set_cons_succ, O.noIns, O.er, noInsL, erL, Bool.and_true, Bool.true_and, Option.some.injEq, exists_eq_left', exists_eq_left, true_and, and_true, Nat.reduceAdd, Nat.reduceSub, Nat.reduceLT, exists_and_left, exists_and_right, O.sh.injEq, D.int.injEq, D.bl.injEq, D.lst.injEq, List.cons.injEq, reduceCtorEq, exists_const, List.append_nil, List.singleton_append, and_self, exists_eq, exists_eq', Nat.lt_add_left_iff_pos, Nat.zero_lt_succ, wipeC, frzC, List.map_set, if_true, ite_true, Bool.false_eq_true, if_false, O.lst.injEq, O.dk.injEq, noInsL_sh, erL_sh, ngB_f, ngB_t, items_sh, items_lst, Nat.zero_add, Nat.reduceLeDiff, and_self, and_assoc]
      refine ⟨x, a, b, rfl, by omega, fun r x2 => ?_⟩
      simp only [vSeq, vAsg, vEx, vRet, vRetN, vIf, vNil, vFor, oN, oMv, oC, oCall, oCons, oNil, kArg, kKey, baOf, bbOf, aName, aTup, aNames, oB, oNot, oOr, oAnd, oV, oAndV, oOrV, oNotV, o2, kI_int, kI0_int, kB0_int, kAdd_int, kQ_int, kQ_str, kInt_int, kMin2_int, kIsi_iff, kLen_iff, kSub_iff, kIn_iff, kRepr_iff, kList_iff, kInts_iff, kBls_iff, kSorted_iff, oLst, oTup, oIf, oChain, oNeg, oPeek, oPeekT, iLst, iRange1, iRange2, iEnumO, oYes, vLc, vDc, oSl, oRev, oStep, pNone, pSome, rng1, rng2, oLR, oTR, oApp, oPopAt, oCallB, xN, vPar, g0, List.map_cons, List.map_nil, List.length_cons, List.length_nil, List.replicate, List.cons_append, List.nil_append, List.getElem?_cons_zero, List.getElem?_cons_succ, List.set_cons_zero, List.set_cons_succ, O.noIns, O.er, noInsL, erL, Bool.and_true, Bool.true_and, Option.some.injEq, exists_eq_left', exists_eq_left, true_and, and_true, Nat.reduceAdd, Nat.reduceSub, Nat.reduceLT, exists_and_left, exists_and_right, O.sh.injEq, D.int.injEq, D.bl.injEq, D.lst.injEq, List.cons.injEq, reduceCtorEq, exists_const, List.append_nil, List.singleton_append, and_self, exists_eq, exists_eq', Nat.lt_add_left_iff_pos, Nat.zero_lt_succ, wipeC, frzC, List.map_set, if_true, ite_true, Bool.false_eq_true, if_false, O.lst.injEq, O.dk.injEq, noInsL_sh, erL_sh, ngB_f, ngB_t, items_sh, items_lst, Nat.zero_add, Nat.reduceLeDiff, and_self, and_assoc]
      obtain ⟨f, hf⟩ : ∃ f : Nat, min n (4 + r % 4) = f := ⟨_, rfl⟩
      have ef : (min (n : Int) (4 + (r : Int) % 4)) = (f : Int) := by rw [← hf]; omega
      have f1 : 1 ≤ f := by omega
      have f2 : f ≤ n := by omega
      rw [ef]
      refine ⟨by decide, ?_⟩
      have fin : ∀ (ls' : List (Nat × Nat)) (x' : Int) (a' : Nat) (o : O), LnsOk n ls' → a' ≤ a + 1 + 2400 → o.noIns = true → o.er = lsD ls' → ∀ y3 y5 y6 y7, r_law_web_t3 F_law_next F_law_grown F_law_shuffled { nx := fun γ => ∃ c', γ[0]? = some (some c') ∧ Q (.sh .non) c', rt := fun o γ => ∃ c', γ[0]? = some (some c') ∧ Q o c' } [some (drO x' a' b), some (itO n), some (.sh (.int 2)), y3, some o, y5, y6, y7, none, none, none, none] :=
        fun ls' x' a' o ok h1 o1 o2 y3 y5 y6 y7 => q_web_tail n1 n2 ha h ls' ok x' a' (by omega) 2 o o1 o2 y3 y5 y6 y7
      by_cases c2 : (2 : Int) < (f : Int)
      · simp only [c2, decide_true, vSeq, vAsg, vEx, vRet, vRetN, vIf, vNil, vFor, oN, oMv, oC, oCall, oCons, oNil, kArg, kKey, baOf, bbOf, aName, aTup, aNames, oB, oNot, oOr, oAnd, oV, oAndV, oOrV, oNotV, o2, kI_int, kI0_int, kB0_int, kAdd_int, kQ_int, kQ_str, kInt_int, kMin2_int, kIsi_iff, kLen_iff, kSub_iff, kIn_iff, kRepr_iff, kList_iff, kInts_iff, kBls_iff, kSorted_iff, oLst, oTup, oIf, oChain, oNeg, oPeek, oPeekT, iLst, iRange1, iRange2, iEnumO, oYes, vLc, vDc, oSl, oRev, oStep, pNone, pSome, rng1, rng2, oLR, oTR, oApp, oPopAt, oCallB, xN, vPar, g0, List.map_cons, List.map_nil, List.length_cons, List.length_nil, List.replicate, List.cons_append, List.nil_append, List.getElem?_cons_zero, List.getElem?_cons_succ, List.set_cons_zero, List.set_cons_succ, O.noIns, O.er, noInsL, erL, Bool.and_true, Bool.true_and, Option.some.injEq, exists_eq_left', exists_eq_left, true_and, and_true, Nat.reduceAdd, Nat.reduceSub, Nat.reduceLT, exists_and_left, exists_and_right, O.sh.injEq, D.int.injEq, D.bl.injEq, D.lst.injEq, List.cons.injEq, reduceCtorEq, exists_const, List.append_nil, List.singleton_append, and_self, exists_eq, exists_eq', Nat.lt_add_left_iff_pos, Nat.zero_lt_succ, wipeC, frzC, List.map_set, if_true, ite_true, Bool.false_eq_true, if_false, O.lst.injEq, O.dk.injEq, noInsL_sh, erL_sh, ngB_f, ngB_t, items_sh, items_lst, Nat.zero_add, Nat.reduceLeDiff, and_self, and_assoc]
        have em : ((f : Int) + 1 - 1).toNat = f := by omega
        rw [em]
        refine ⟨by omega, by omega, by omega, by omega, by rw [rngO_len]; omega, ?_⟩
        refine compV_map (gRing f) ?_ [] ?_
        · intro o ho N hN
          obtain ⟨i, hi, rfl⟩ := List.getElem_of_mem ho
          have hg := List.getElem?_eq_getElem hi
          obtain ⟨hk, e⟩ := rng1_get hg
          rw [e] at hN ⊢
          have e2 : gRing f (itO (i + 1)) = some (lnO (i + 1, (i + 1) % f + 1)) := by
            show some (lnO (((i + 1 : Nat) : Int).toNat, ((i + 1 : Nat) : Int).toNat % f + 1)) = _
            rw [Int.toNat_natCast]
          rw [e2] at hN
          have e3 : (((i + 1 : Nat) : Int) % (f : Int)) + 1 = (((i + 1) % f + 1 : Nat) : Int) := by simp
          simp only [itO, e3, vSeq, vAsg, vEx, vRet, vRetN, vIf, vNil, vFor, oN, oMv, oC, oCall, oCons, oNil, kArg, kKey, baOf, bbOf, aName, aTup, aNames, oB, oNot, oOr, oAnd, oV, oAndV, oOrV, oNotV, o2, kI_int, kI0_int, kB0_int, kAdd_int, kQ_int, kQ_str, kInt_int, kMin2_int, kIsi_iff, kLen_iff, kSub_iff, kIn_iff, kRepr_iff, kList_iff, kInts_iff, kBls_iff, kSorted_iff, oLst, oTup, oIf, oChain, oNeg, oPeek, oPeekT, iLst, iRange1, iRange2, iEnumO, oYes, vLc, vDc, oSl, oRev, oStep, pNone, pSome, rng1, rng2, oLR, oTR, oApp, oPopAt, oCallB, xN, vPar, g0, List.map_cons, List.map_nil, List.length_cons, List.length_nil, List.replicate, List.cons_append, List.nil_append, List.getElem?_cons_zero, List.getElem?_cons_succ, List.set_cons_zero, List.set_cons_succ, O.noIns, O.er, noInsL, erL, Bool.and_true, Bool.true_and, Option.some.injEq, exists_eq_left', exists_eq_left, true_and, and_true, Nat.reduceAdd, Nat.reduceSub, Nat.reduceLT, exists_and_left, exists_and_right, O.sh.injEq, D.int.injEq, D.bl.injEq, D.lst.injEq, List.cons.injEq, reduceCtorEq, exists_const, List.append_nil, List.singleton_append, and_self, exists_eq, exists_eq', Nat.lt_add_left_iff_pos, Nat.zero_lt_succ, wipeC, frzC, List.map_set, if_true, ite_true, Bool.false_eq_true, if_false, O.lst.injEq, O.dk.injEq, noInsL_sh, erL_sh, ngB_f, ngB_t, items_sh, items_lst, Nat.zero_add, Nat.reduceLeDiff, and_self, and_assoc]
          refine ⟨by omega, hN⟩
        · rw [gRing_of, List.nil_append]
          simp only [noInsL_map lnO_no, erL_map lnO_er, vSeq, vAsg, vEx, vRet, vRetN, vIf, vNil, vFor, oN, oMv, oC, oCall, oCons, oNil, kArg, kKey, baOf, bbOf, aName, aTup, aNames, oB, oNot, oOr, oAnd, oV, oAndV, oOrV, oNotV, o2, kI_int, kI0_int, kB0_int, kAdd_int, kQ_int, kQ_str, kInt_int, kMin2_int, kIsi_iff, kLen_iff, kSub_iff, kIn_iff, kRepr_iff, kList_iff, kInts_iff, kBls_iff, kSorted_iff, oLst, oTup, oIf, oChain, oNeg, oPeek, oPeekT, iLst, iRange1, iRange2, iEnumO, oYes, vLc, vDc, oSl, oRev, oStep, pNone, pSome, rng1, rng2, oLR, oTR, oApp, oPopAt, oCallB, xN, vPar, g0, List.map_cons, List.map_nil, List.length_cons, List.length_nil, List.replicate, List.cons_append, List.nil_append, List.getElem?_cons_zero, List.getElem?_cons_succ, List.set_cons_zero, List.set_cons_succ, O.noIns, O.er, noInsL, erL, Bool.and_true, Bool.true_and, Option.some.injEq, exists_eq_left', exists_eq_left, true_and, and_true, Nat.reduceAdd, Nat.reduceSub, Nat.reduceLT, exists_and_left, exists_and_right, O.sh.injEq, D.int.injEq, D.bl.injEq, D.lst.injEq, List.cons.injEq, reduceCtorEq, exists_const, List.append_nil, List.singleton_append, and_self, exists_eq, exists_eq', Nat.lt_add_left_iff_pos, Nat.zero_lt_succ, wipeC, frzC, List.map_set, if_true, ite_true, Bool.false_eq_true, if_false, O.lst.injEq, O.dk.injEq, noInsL_sh, erL_sh, ngB_f, ngB_t, items_sh, items_lst, Nat.zero_add, Nat.reduceLeDiff, and_self, and_assoc]
          refine ⟨n, f + 1, ringL f, x2, a + 1, b, rfl, rfl, rfl, rfl, ring_ok (by omega), by omega, by omega, n2, by omega, fun ls' x' a' o ok h1 o1 o2 => ?_⟩
          exact fin ls' x' a' o ok h1 o1 o2 _ _ _ _
      · simp only [c2, decide_false, vSeq, vAsg, vEx, vRet, vRetN, vIf, vNil, vFor, oN, oMv, oC, oCall, oCons, oNil, kArg, kKey, baOf, bbOf, aName, aTup, aNames, oB, oNot, oOr, oAnd, oV, oAndV, oOrV, oNotV, o2, kI_int, kI0_int, kB0_int, kAdd_int, kQ_int, kQ_str, kInt_int, kMin2_int, kIsi_iff, kLen_iff, kSub_iff, kIn_iff, kRepr_iff, kList_iff, kInts_iff, kBls_iff, kSorted_iff, oLst, oTup, oIf, oChain, oNeg, oPeek, oPeekT, iLst, iRange1, iRange2, iEnumO, oYes, vLc, vDc, oSl, oRev, oStep, pNone, pSome, rng1, rng2, oLR, oTR, oApp, oPopAt, oCallB, xN, vPar, g0, List.map_cons, List.map_nil, List.length_cons, List.length_nil, List.replicate, List.cons_append, List.nil_append, List.getElem?_cons_zero, List.getElem?_cons_succ, List.set_cons_zero, List.set_cons_succ, O.noIns, O.er, noInsL, erL, Bool.and_true, Bool.true_and, Option.some.injEq, exists_eq_left', exists_eq_left, true_and, and_true, Nat.reduceAdd, Nat.reduceSub, Nat.reduceLT, exists_and_left, exists_and_right, O.sh.injEq, D.int.injEq, D.bl.injEq, D.lst.injEq, List.cons.injEq, reduceCtorEq, exists_const, List.append_nil, List.singleton_append, and_self, exists_eq, exists_eq', Nat.lt_add_left_iff_pos, Nat.zero_lt_succ, wipeC, frzC, List.map_set, if_true, ite_true, Bool.false_eq_true, if_false, O.lst.injEq, O.dk.injEq, noInsL_sh, erL_sh, ngB_f, ngB_t, items_sh, items_lst, Nat.zero_add, Nat.reduceLeDiff, and_self, and_assoc]
        refine ⟨n, f + 1, [], x2, a + 1, b, rfl, rfl, rfl, rfl, LnsOk.nil, by omega, by omega, n2, by omega, fun ls' x' a' o ok h1 o1 o2 => ?_⟩
        exact fin ls' x' a' o ok h1 o1 o2 _ _ _ _
  · exact h.elim
end FN
end
section
namespace FN
open PySem PySem.Spec L2
open PyProof.Rows hiding St
theorem lnOk_dec {n : Nat} {p : Nat × Nat} : lnOk n p ↔ (1 ≤ p.1 ∧ p.1 ≤ n ∧ 1 ≤ p.2 ∧ p.2 ≤ n ∧ p.1 ≠ p.2) := Iff.rfl
theorem net4 : NetOk 4 [(2, 1), (2, 3), (3, 4)] := ⟨by decide, by decide, by simp [lnOk], by decide⟩
theorem net1 (n : Nat) (h1 : 1 ≤ n) (h2 : n ≤ 12) : NetOk n [] := ⟨h1, h2, fun p hp => (by cases hp), List.Pairwise.nil⟩
theorem netR : NetOk 4 [(1, 2), (2, 3), (3, 4), (4, 1)] := ⟨by decide, by decide, by simp [lnOk], by decide⟩
theorem netP : NetOk 3 [(1, 2), (2, 3)] := ⟨by decide, by decide, by simp [lnOk], by decide⟩
theorem netL : NetOk 2 [(1, 2)] := ⟨by decide, by decide, by simp [lnOk], by decide⟩
theorem bes4 : besS [(2, 1), (2, 3), (3, 4)] 2 = [1, 2, 3] := (srtI_uniq (by decide) (by decide)).symm
theorem bes1 : besS [] 1 = [1] := (srtI_uniq (by decide) (by decide)).symm
theorem pr4 : prD 2 [(1, 2)] 2 [] = .tup [.int 4, .lst [.lst [.int 1, .int 3], .lst [.int 2, .int 4]]] := by
  have : pTo [(1, 2)] [] 2 (2 * 2) (2 * 2) = [(1, 3), (2, 4)] := by decide
  unfold prD
  rw [this]; rfl
theorem lsO_no (l : List D) : (O.lst (l.map O.sh)).noIns = true := noInsL_sh l
theorem lsO_er (l : List D) : (O.lst (l.map O.sh)).er = .lst l := congrArg D.lst (erL_sh l)
theorem q_law_end {KF : PySem.W.Frag} (s : O) (y1 y2 y3 y4 y5 y6 y7 y8 : Option O) :
    r_law_t1 KF F_law_next F_law_web F_law_right F_law_shuffled F_law_product_right F_law_draws F_beside F_product { nx := fun _ => False, rt := fun o _ => o = .sh (.bl true) } [some s, y1, y2, y3, y4, y5, y6, y7, y8] := by
  simp only [r_law_t1, vSeq, vAsg, vEx, vRet, vRetN, vIf, vNil, vFor, oN, oMv, oC, oCall, oCons, oNil, kArg, kKey, baOf, bbOf, aName, aTup, aNames, oB, oNot, oOr, oAnd, oV, oAndV, oOrV, oNotV, o2, kI_int, kI0_int, kB0_int, kAdd_int, kQ_int, kQ_str, kInt_int, kMin2_int, kIsi_iff, kLen_iff, kSub_iff, kIn_iff, kRepr_iff, kList_iff, kInts_iff, kBls_iff, kSorted_iff, oLst, oTup, oIf, oChain, oNeg, oPeek, oPeekT, iLst, iRange1, iRange2, iEnumO, oYes, vLc, vDc, oSl, oRev, oStep, pNone, pSome, rng1, rng2, oLR, oTR, oApp, oPopAt, oCallB, xN, vPar, g0, List.map_cons, List.map_nil, List.length_cons, List.length_nil, List.replicate, List.cons_append, List.nil_append, List.getElem?_cons_zero, List.getElem?_cons_succ, List.set_cons_zero, List.set_cons_succ, O.noIns, O.er, noInsL, erL, Bool.and_true, Bool.true_and, Option.some.injEq, exists_eq_left', exists_eq_left, true_and, and_true, Nat.reduceAdd, Nat.reduceSub, Nat.reduceLT, exists_and_left, exists_and_right, O.sh.injEq, D.int.injEq, D.bl.injEq, D.lst.injEq, List.cons.injEq, reduceCtorEq, exists_const, List.append_nil, List.singleton_append, and_self, exists_eq, exists_eq', Nat.lt_add_left_iff_pos, Nat.zero_lt_succ, wipeC, frzC, List.map_set, if_true, ite_true, Bool.false_eq_true, if_false, O.lst.injEq, O.dk.injEq, noInsL_sh, erL_sh, ngB_f, ngB_t, items_sh, items_lst, Nat.zero_add, Nat.reduceLeDiff, and_self, and_assoc]
  refine ⟨4, 2, [(2, 1), (2, 3), (3, 4)], rfl, rfl, rfl, by decide, net4, by decide, by decide, ?_⟩
  refine kQ_pl (siO_no _) rfl (by rw [siO_er]; exact ints_pl _) rfl (by rw [siO_er]; unfold siD D.dep; have := ints_dep (besS [(2, 1), (2, 3), (3, 4)] 2); omega) (by decide) fun t ht => ?_
  have ht : t = true := ht.mpr (by rw [siO_er, bes4]; rfl)
  subst ht
  simp only [Bool.not_true, vSeq, vAsg, vEx, vRet, vRetN, vIf, vNil, vFor, oN, oMv, oC, oCall, oCons, oNil, kArg, kKey, baOf, bbOf, aName, aTup, aNames, oB, oNot, oOr, oAnd, oV, oAndV, oOrV, oNotV, o2, kI_int, kI0_int, kB0_int, kAdd_int, kQ_int, kQ_str, kInt_int, kMin2_int, kIsi_iff, kLen_iff, kSub_iff, kIn_iff, kRepr_iff, kList_iff, kInts_iff, kBls_iff, kSorted_iff, oLst, oTup, oIf, oChain, oNeg, oPeek, oPeekT, iLst, iRange1, iRange2, iEnumO, oYes, vLc, vDc, oSl, oRev, oStep, pNone, pSome, rng1, rng2, oLR, oTR, oApp, oPopAt, oCallB, xN, vPar, g0, List.map_cons, List.map_nil, List.length_cons, List.length_nil, List.replicate, List.cons_append, List.nil_append, List.getElem?_cons_zero, List.getElem?_cons_succ, List.set_cons_zero, List.set_cons_succ, O.noIns, O.er, noInsL, erL, Bool.and_true, Bool.true_and, Option.some.injEq, exists_eq_left', exists_eq_left, true_and, and_true, Nat.reduceAdd, Nat.reduceSub, Nat.reduceLT, exists_and_left, exists_and_right, O.sh.injEq, D.int.injEq, D.bl.injEq, D.lst.injEq, List.cons.injEq, reduceCtorEq, exists_const, List.append_nil, List.singleton_append, and_self, exists_eq, exists_eq', Nat.lt_add_left_iff_pos, Nat.zero_lt_succ, wipeC, frzC, List.map_set, if_true, ite_true, Bool.false_eq_true, if_false, O.lst.injEq, O.dk.injEq, noInsL_sh, erL_sh, ngB_f, ngB_t, items_sh, items_lst, Nat.zero_add, Nat.reduceLeDiff, and_self, and_assoc]
  refine ⟨1, 1, [], rfl, rfl, rfl, by decide, net1 1 (by decide) (by decide), by decide, by decide, ?_⟩
  refine kQ_pl (siO_no _) rfl (by rw [siO_er]; exact ints_pl _) rfl (by rw [siO_er]; unfold siD D.dep; have := ints_dep (besS [] 1); omega) (by decide) fun t ht => ?_
  have ht : t = true := ht.mpr (by rw [siO_er, bes1]; rfl)
  subst ht
  simp only [Bool.not_true, vSeq, vAsg, vEx, vRet, vRetN, vIf, vNil, vFor, oN, oMv, oC, oCall, oCons, oNil, kArg, kKey, baOf, bbOf, aName, aTup, aNames, oB, oNot, oOr, oAnd, oV, oAndV, oOrV, oNotV, o2, kI_int, kI0_int, kB0_int, kAdd_int, kQ_int, kQ_str, kInt_int, kMin2_int, kIsi_iff, kLen_iff, kSub_iff, kIn_iff, kRepr_iff, kList_iff, kInts_iff, kBls_iff, kSorted_iff, oLst, oTup, oIf, oChain, oNeg, oPeek, oPeekT, iLst, iRange1, iRange2, iEnumO, oYes, vLc, vDc, oSl, oRev, oStep, pNone, pSome, rng1, rng2, oLR, oTR, oApp, oPopAt, oCallB, xN, vPar, g0, List.map_cons, List.map_nil, List.length_cons, List.length_nil, List.replicate, List.cons_append, List.nil_append, List.getElem?_cons_zero, List.getElem?_cons_succ, List.set_cons_zero, List.set_cons_succ, O.noIns, O.er, noInsL, erL, Bool.and_true, Bool.true_and, Option.some.injEq, exists_eq_left', exists_eq_left, true_and, and_true, Nat.reduceAdd, Nat.reduceSub, Nat.reduceLT, exists_and_left, exists_and_right, O.sh.injEq, D.int.injEq, D.bl.injEq, D.lst.injEq, List.cons.injEq, reduceCtorEq, exists_const, List.append_nil, List.singleton_append, and_self, exists_eq, exists_eq', Nat.lt_add_left_iff_pos, Nat.zero_lt_succ, wipeC, frzC, List.map_set, if_true, ite_true, Bool.false_eq_true, if_false, O.lst.injEq, O.dk.injEq, noInsL_sh, erL_sh, ngB_f, ngB_t, items_sh, items_lst, Nat.zero_add, Nat.reduceLeDiff, and_self, and_assoc]
  refine ⟨4, 3, [(1, 2), (2, 3), (3, 4), (4, 1)], [(1, 2), (2, 3)], rfl, rfl, rfl, rfl, by decide, by decide, netR, netP, by decide, ?_⟩
  simp only [Bool.not_true, vSeq, vAsg, vEx, vRet, vRetN, vIf, vNil, vFor, oN, oMv, oC, oCall, oCons, oNil, kArg, kKey, baOf, bbOf, aName, aTup, aNames, oB, oNot, oOr, oAnd, oV, oAndV, oOrV, oNotV, o2, kI_int, kI0_int, kB0_int, kAdd_int, kQ_int, kQ_str, kInt_int, kMin2_int, kIsi_iff, kLen_iff, kSub_iff, kIn_iff, kRepr_iff, kList_iff, kInts_iff, kBls_iff, kSorted_iff, oLst, oTup, oIf, oChain, oNeg, oPeek, oPeekT, iLst, iRange1, iRange2, iEnumO, oYes, vLc, vDc, oSl, oRev, oStep, pNone, pSome, rng1, rng2, oLR, oTR, oApp, oPopAt, oCallB, xN, vPar, g0, List.map_cons, List.map_nil, List.length_cons, List.length_nil, List.replicate, List.cons_append, List.nil_append, List.getElem?_cons_zero, List.getElem?_cons_succ, List.set_cons_zero, List.set_cons_succ, O.noIns, O.er, noInsL, erL, Bool.and_true, Bool.true_and, Option.some.injEq, exists_eq_left', exists_eq_left, true_and, and_true, Nat.reduceAdd, Nat.reduceSub, Nat.reduceLT, exists_and_left, exists_and_right, O.sh.injEq, D.int.injEq, D.bl.injEq, D.lst.injEq, List.cons.injEq, reduceCtorEq, exists_const, List.append_nil, List.singleton_append, and_self, exists_eq, exists_eq', Nat.lt_add_left_iff_pos, Nat.zero_lt_succ, wipeC, frzC, List.map_set, if_true, ite_true, Bool.false_eq_true, if_false, O.lst.injEq, O.dk.injEq, noInsL_sh, erL_sh, ngB_f, ngB_t, items_sh, items_lst, Nat.zero_add, Nat.reduceLeDiff, and_self, and_assoc]
  refine ⟨1, 12, [], [], rfl, rfl, rfl, rfl, by decide, by decide, net1 1 (by decide) (by decide), net1 12 (by decide) (by decide), by decide, ?_⟩
  simp only [Bool.not_true, vSeq, vAsg, vEx, vRet, vRetN, vIf, vNil, vFor, oN, oMv, oC, oCall, oCons, oNil, kArg, kKey, baOf, bbOf, aName, aTup, aNames, oB, oNot, oOr, oAnd, oV, oAndV, oOrV, oNotV, o2, kI_int, kI0_int, kB0_int, kAdd_int, kQ_int, kQ_str, kInt_int, kMin2_int, kIsi_iff, kLen_iff, kSub_iff, kIn_iff, kRepr_iff, kList_iff, kInts_iff, kBls_iff, kSorted_iff, oLst, oTup, oIf, oChain, oNeg, oPeek, oPeekT, iLst, iRange1, iRange2, iEnumO, oYes, vLc, vDc, oSl, oRev, oStep, pNone, pSome, rng1, rng2, oLR, oTR, oApp, oPopAt, oCallB, xN, vPar, g0, List.map_cons, List.map_nil, List.length_cons, List.length_nil, List.replicate, List.cons_append, List.nil_append, List.getElem?_cons_zero, List.getElem?_cons_succ, List.set_cons_zero, List.set_cons_succ, O.noIns, O.er, noInsL, erL, Bool.and_true, Bool.true_and, Option.some.injEq, exists_eq_left', exists_eq_left, true_and, and_true, Nat.reduceAdd, Nat.reduceSub, Nat.reduceLT, exists_and_left, exists_and_right, O.sh.injEq, D.int.injEq, D.bl.injEq, D.lst.injEq, List.cons.injEq, reduceCtorEq, exists_const, List.append_nil, List.singleton_append, and_self, exists_eq, exists_eq', Nat.lt_add_left_iff_pos, Nat.zero_lt_succ, wipeC, frzC, List.map_set, if_true, ite_true, Bool.false_eq_true, if_false, O.lst.injEq, O.dk.injEq, noInsL_sh, erL_sh, ngB_f, ngB_t, items_sh, items_lst, Nat.zero_add, Nat.reduceLeDiff, and_self, and_assoc]
  refine ⟨2, 2, [(1, 2)], [], rfl, rfl, rfl, rfl, by decide, by decide, netL, net1 2 (by decide) (by decide), by decide, ?_⟩
  refine kQ_pl (prO_no _ _ _ _) rfl (by rw [prO_er, pr4]; rfl) rfl (by rw [prO_er, pr4]; decide) (by decide) fun t ht => ?_
  have ht : t = true := ht.mpr (by rw [prO_er, pr4]; rfl)
  subst ht
  simp only [vSeq, vAsg, vEx, vRet, vRetN, vIf, vNil, vFor, oN, oMv, oC, oCall, oCons, oNil, kArg, kKey, baOf, bbOf, aName, aTup, aNames, oB, oNot, oOr, oAnd, oV, oAndV, oOrV, oNotV, o2, kI_int, kI0_int, kB0_int, kAdd_int, kQ_int, kQ_str, kInt_int, kMin2_int, kIsi_iff, kLen_iff, kSub_iff, kIn_iff, kRepr_iff, kList_iff, kInts_iff, kBls_iff, kSorted_iff, oLst, oTup, oIf, oChain, oNeg, oPeek, oPeekT, iLst, iRange1, iRange2, iEnumO, oYes, vLc, vDc, oSl, oRev, oStep, pNone, pSome, rng1, rng2, oLR, oTR, oApp, oPopAt, oCallB, xN, vPar, g0, List.map_cons, List.map_nil, List.length_cons, List.length_nil, List.replicate, List.cons_append, List.nil_append, List.getElem?_cons_zero, List.getElem?_cons_succ, List.set_cons_zero, List.set_cons_succ, O.noIns, O.er, noInsL, erL, Bool.and_true, Bool.true_and, Option.some.injEq, exists_eq_left', exists_eq_left, true_and, and_true, Nat.reduceAdd, Nat.reduceSub, Nat.reduceLT, exists_and_left, exists_and_right, O.sh.injEq, D.int.injEq, D.bl.injEq, D.lst.injEq, List.cons.injEq, reduceCtorEq, exists_const, List.append_nil, List.singleton_append, and_self, exists_eq, exists_eq', Nat.lt_add_left_iff_pos, Nat.zero_lt_succ, wipeC, frzC, List.map_set, if_true, ite_true, Bool.false_eq_true, if_false, O.lst.injEq, O.dk.injEq, noInsL_sh, erL_sh, ngB_f, ngB_t, items_sh, items_lst, Nat.zero_add, Nat.reduceLeDiff, and_self, and_assoc]
  exact ⟨12, 1, [], [], rfl, rfl, rfl, rfl, by decide, by decide, net1 12 (by decide) (by decide), net1 1 (by decide) (by decide), by decide, rfl⟩
theorem q_law {KF : PySem.W.Frag} (ns : List Int) (hns : ns.length ≤ 63) :
    r_law KF F_law_next F_law_web F_law_right F_law_shuffled F_law_product_right F_law_draws F_beside F_product { nx := fun _ => False, rt := fun o _ => o = .sh (.bl true) } (g0 nn_law [.scr KF ns]) := by
  simp only [r_law, nn_law, oScr, O.scr.injEq, vSeq, vAsg, vEx, vRet, vRetN, vIf, vNil, vFor, oN, oMv, oC, oCall, oCons, oNil, kArg, kKey, baOf, bbOf, aName, aTup, aNames, oB, oNot, oOr, oAnd, oV, oAndV, oOrV, oNotV, o2, kI_int, kI0_int, kB0_int, kAdd_int, kQ_int, kQ_str, kInt_int, kMin2_int, kIsi_iff, kLen_iff, kSub_iff, kIn_iff, kRepr_iff, kList_iff, kInts_iff, kBls_iff, kSorted_iff, oLst, oTup, oIf, oChain, oNeg, oPeek, oPeekT, iLst, iRange1, iRange2, iEnumO, oYes, vLc, vDc, oSl, oRev, oStep, pNone, pSome, rng1, rng2, oLR, oTR, oApp, oPopAt, oCallB, xN, vPar, g0, List.map_cons, List.map_nil, List.length_cons, List.length_nil, List.replicate, List.cons_append, List.nil_append, List.getElem?_cons_zero, List.getElem?_cons_succ, List.set_cons_zero, List.set_cons_succ, O.noIns, O.er, noInsL, erL, Bool.and_true, Bool.true_and, Option.some.injEq, exists_eq_left', exists_eq_left, true_and, and_true, Nat.reduceAdd, Nat.reduceSub, Nat.reduceLT, exists_and_left, exists_and_right, O.sh.injEq, D.int.injEq, D.bl.injEq, D.lst.injEq, List.cons.injEq, reduceCtorEq, exists_const, List.append_nil, List.singleton_append, and_self, exists_eq, exists_eq', Nat.lt_add_left_iff_pos, Nat.zero_lt_succ, wipeC, frzC, List.map_set, if_true, ite_true, Bool.false_eq_true, if_false, O.lst.injEq, O.dk.injEq, noInsL_sh, erL_sh, ngB_f, ngB_t, items_sh, items_lst, Nat.zero_add, Nat.reduceLeDiff, and_self, and_assoc]
  have cl : (cutD (ns.map D.int) none (some 6)).length ≤ 63 := by
    unfold cutD
    rw [List.length_take, List.length_drop, List.length_map]; omega
  have ci : ∀ d ∈ cutD (ns.map D.int) none (some 6), ∃ i, d = .int i := fun d hd => by
    unfold cutD at hd
    obtain ⟨i, _, rfl⟩ := List.mem_map.mp (List.mem_of_mem_drop (List.mem_of_mem_take hd))
    exact ⟨i, rfl⟩
  refine kAdd_lst rfl rfl (by simp; omega) ?_
  simp only [vSeq, vAsg, vEx, vRet, vRetN, vIf, vNil, vFor, oN, oMv, oC, oCall, oCons, oNil, kArg, kKey, baOf, bbOf, aName, aTup, aNames, oB, oNot, oOr, oAnd, oV, oAndV, oOrV, oNotV, o2, kI_int, kI0_int, kB0_int, kAdd_int, kQ_int, kQ_str, kInt_int, kMin2_int, kIsi_iff, kLen_iff, kSub_iff, kIn_iff, kRepr_iff, kList_iff, kInts_iff, kBls_iff, kSorted_iff, oLst, oTup, oIf, oChain, oNeg, oPeek, oPeekT, iLst, iRange1, iRange2, iEnumO, oYes, vLc, vDc, oSl, oRev, oStep, pNone, pSome, rng1, rng2, oLR, oTR, oApp, oPopAt, oCallB, xN, vPar, g0, List.map_cons, List.map_nil, List.length_cons, List.length_nil, List.replicate, List.cons_append, List.nil_append, List.getElem?_cons_zero, List.getElem?_cons_succ, List.set_cons_zero, List.set_cons_succ, O.noIns, O.er, noInsL, erL, Bool.and_true, Bool.true_and, Option.some.injEq, exists_eq_left', exists_eq_left, true_and, and_true, Nat.reduceAdd, Nat.reduceSub, Nat.reduceLT, exists_and_left, exists_and_right, O.sh.injEq, D.int.injEq, D.bl.injEq, D.lst.injEq, List.cons.injEq, reduceCtorEq, exists_const, List.append_nil, List.singleton_append, and_self, exists_eq, exists_eq', Nat.lt_add_left_iff_pos, Nat.zero_lt_succ, wipeC, frzC, List.map_set, if_true, ite_true, Bool.false_eq_true, if_false, O.lst.injEq, O.dk.injEq, noInsL_sh, erL_sh, ngB_f, ngB_t, items_sh, items_lst, Nat.zero_add, Nat.reduceLeDiff, and_self, and_assoc]
  refine ⟨by simp; omega, ?_⟩
  refine compV_by (fun rest acc γ => (∀ o ∈ rest, ∃ i, o = O.sh (.int i)) ∧ (∀ o ∈ acc, ∃ x b, o = drO x 0 b) ∧ γ = [some (.scr KF ns), none, none, none, none, none, none, none, none]) ?_ ?_ _ _ _ ⟨?_, by simp, rfl⟩
  · rintro acc γ ⟨_, hacc, rfl⟩
    simp only [vSeq, vAsg, vEx, vRet, vRetN, vIf, vNil, vFor, oN, oMv, oC, oCall, oCons, oNil, kArg, kKey, baOf, bbOf, aName, aTup, aNames, oB, oNot, oOr, oAnd, oV, oAndV, oOrV, oNotV, o2, kI_int, kI0_int, kB0_int, kAdd_int, kQ_int, kQ_str, kInt_int, kMin2_int, kIsi_iff, kLen_iff, kSub_iff, kIn_iff, kRepr_iff, kList_iff, kInts_iff, kBls_iff, kSorted_iff, oLst, oTup, oIf, oChain, oNeg, oPeek, oPeekT, iLst, iRange1, iRange2, iEnumO, oYes, vLc, vDc, oSl, oRev, oStep, pNone, pSome, rng1, rng2, oLR, oTR, oApp, oPopAt, oCallB, xN, vPar, g0, List.map_cons, List.map_nil, List.length_cons, List.length_nil, List.replicate, List.cons_append, List.nil_append, List.getElem?_cons_zero, List.getElem?_cons_succ, List.set_cons_zero, List.set_cons_succ, O.noIns, O.er, noInsL, erL, Bool.and_true, Bool.true_and, Option.some.injEq, exists_eq_left', exists_eq_left, true_and, and_true, Nat.reduceAdd, Nat.reduceSub, Nat.reduceLT, exists_and_left, exists_and_right, O.sh.injEq, D.int.injEq, D.bl.injEq, D.lst.injEq, List.cons.injEq, reduceCtorEq, exists_const, List.append_nil, List.singleton_append, and_self, exists_eq, exists_eq', Nat.lt_add_left_iff_pos, Nat.zero_lt_succ, wipeC, frzC, List.map_set, if_true, ite_true, Bool.false_eq_true, if_false, O.lst.injEq, O.dk.injEq, noInsL_sh, erL_sh, ngB_f, ngB_t, items_sh, items_lst, Nat.zero_add, Nat.reduceLeDiff, and_self, and_assoc]
    refine forV_at (fun k γ => ∃ y1 y2 y3 y4 y5 y6 y7 y8, γ = [some (.scr KF ns), y1, y2, y3, y4, y5, y6, y7, y8]) ?_ ?_ ⟨none, none, none, none, none, none, none, none, rfl⟩
    · rintro γ ⟨y1, y2, y3, y4, y5, y6, y7, y8, rfl⟩
      exact q_law_end (KF := KF) _ _ _ _ _ _ _ _ _
    · rintro k o γ ho ⟨y1, y2, y3, y4, y5, y6, y7, y8, rfl⟩ N hN
      obtain ⟨x, b, rfl⟩ := hacc o (List.mem_of_getElem? ho)
      simp only [vSeq, vAsg, vEx, vRet, vRetN, vIf, vNil, vFor, oN, oMv, oC, oCall, oCons, oNil, kArg, kKey, baOf, bbOf, aName, aTup, aNames, oB, oNot, oOr, oAnd, oV, oAndV, oOrV, oNotV, o2, kI_int, kI0_int, kB0_int, kAdd_int, kQ_int, kQ_str, kInt_int, kMin2_int, kIsi_iff, kLen_iff, kSub_iff, kIn_iff, kRepr_iff, kList_iff, kInts_iff, kBls_iff, kSorted_iff, oLst, oTup, oIf, oChain, oNeg, oPeek, oPeekT, iLst, iRange1, iRange2, iEnumO, oYes, vLc, vDc, oSl, oRev, oStep, pNone, pSome, rng1, rng2, oLR, oTR, oApp, oPopAt, oCallB, xN, vPar, g0, List.map_cons, List.map_nil, List.length_cons, List.length_nil, List.replicate, List.cons_append, List.nil_append, List.getElem?_cons_zero, List.getElem?_cons_succ, List.set_cons_zero, List.set_cons_succ, O.noIns, O.er, noInsL, erL, Bool.and_true, Bool.true_and, Option.some.injEq, exists_eq_left', exists_eq_left, true_and, and_true, Nat.reduceAdd, Nat.reduceSub, Nat.reduceLT, exists_and_left, exists_and_right, O.sh.injEq, D.int.injEq, D.bl.injEq, D.lst.injEq, List.cons.injEq, reduceCtorEq, exists_const, List.append_nil, List.singleton_append, and_self, exists_eq, exists_eq', Nat.lt_add_left_iff_pos, Nat.zero_lt_succ, wipeC, frzC, List.map_set, if_true, ite_true, Bool.false_eq_true, if_false, O.lst.injEq, O.dk.injEq, noInsL_sh, erL_sh, ngB_f, ngB_t, items_sh, items_lst, Nat.zero_add, Nat.reduceLeDiff, and_self, and_assoc]
      refine ⟨by decide, by decide, ?_⟩
      refine forV_at (fun k γ => ∃ x a y2 y3 y4 y5 y6 y7 y8, a ≤ 200000 * k ∧ γ = [some (.scr KF ns), some (drO x a b), y2, y3, y4, y5, y6, y7, y8]) ?_ ?_ ⟨x, 0, y2, y3, y4, y5, y6, y7, y8, by omega, rfl⟩
      · rintro γ ⟨x, a, y2, y3, y4, y5, y6, y7, y8, _, rfl⟩
        exact hN _ ⟨_, _, _, _, _, _, _, _, rfl⟩
      · rintro j o γ hj ⟨x, a, y2, y3, y4, y5, y6, y7, y8, ha, rfl⟩ N hN
        obtain ⟨hj3, rfl⟩ := rngA_get hj
        have hj3 : j < 3 := hj3
        have kd : (0 : Int) + (j : Nat) = 0 ∨ (0 : Int) + (j : Nat) = 1 ∨ (0 : Int) + (j : Nat) = 2 := by omega
        obtain ⟨kk, hkk⟩ : ∃ kk : Int, (0 : Int) + (j : Nat) = kk := ⟨_, rfl⟩
        rw [hkk] at kd ⊢
        simp only [vSeq, vAsg, vEx, vRet, vRetN, vIf, vNil, vFor, oN, oMv, oC, oCall, oCons, oNil, kArg, kKey, baOf, bbOf, aName, aTup, aNames, oB, oNot, oOr, oAnd, oV, oAndV, oOrV, oNotV, o2, kI_int, kI0_int, kB0_int, kAdd_int, kQ_int, kQ_str, kInt_int, kMin2_int, kIsi_iff, kLen_iff, kSub_iff, kIn_iff, kRepr_iff, kList_iff, kInts_iff, kBls_iff, kSorted_iff, oLst, oTup, oIf, oChain, oNeg, oPeek, oPeekT, iLst, iRange1, iRange2, iEnumO, oYes, vLc, vDc, oSl, oRev, oStep, pNone, pSome, rng1, rng2, oLR, oTR, oApp, oPopAt, oCallB, xN, vPar, g0, List.map_cons, List.map_nil, List.length_cons, List.length_nil, List.replicate, List.cons_append, List.nil_append, List.getElem?_cons_zero, List.getElem?_cons_succ, List.set_cons_zero, List.set_cons_succ, O.noIns, O.er, noInsL, erL, Bool.and_true, Bool.true_and, Option.some.injEq, exists_eq_left', exists_eq_left, true_and, and_true, Nat.reduceAdd, Nat.reduceSub, Nat.reduceLT, exists_and_left, exists_and_right, O.sh.injEq, D.int.injEq, D.bl.injEq, D.lst.injEq, List.cons.injEq, reduceCtorEq, exists_const, List.append_nil, List.singleton_append, and_self, exists_eq, exists_eq', Nat.lt_add_left_iff_pos, Nat.zero_lt_succ, wipeC, frzC, List.map_set, if_true, ite_true, Bool.false_eq_true, if_false, O.lst.injEq, O.dk.injEq, noInsL_sh, erL_sh, ngB_f, ngB_t, items_sh, items_lst, Nat.zero_add, Nat.reduceLeDiff, and_self, and_assoc]
        refine ⟨x, a, b, rfl, by omega, fun r x1 => ?_⟩
        simp only [vSeq, vAsg, vEx, vRet, vRetN, vIf, vNil, vFor, oN, oMv, oC, oCall, oCons, oNil, kArg, kKey, baOf, bbOf, aName, aTup, aNames, oB, oNot, oOr, oAnd, oV, oAndV, oOrV, oNotV, o2, kI_int, kI0_int, kB0_int, kAdd_int, kQ_int, kQ_str, kInt_int, kMin2_int, kIsi_iff, kLen_iff, kSub_iff, kIn_iff, kRepr_iff, kList_iff, kInts_iff, kBls_iff, kSorted_iff, oLst, oTup, oIf, oChain, oNeg, oPeek, oPeekT, iLst, iRange1, iRange2, iEnumO, oYes, vLc, vDc, oSl, oRev, oStep, pNone, pSome, rng1, rng2, oLR, oTR, oApp, oPopAt, oCallB, xN, vPar, g0, List.map_cons, List.map_nil, List.length_cons, List.length_nil, List.replicate, List.cons_append, List.nil_append, List.getElem?_cons_zero, List.getElem?_cons_succ, List.set_cons_zero, List.set_cons_succ, O.noIns, O.er, noInsL, erL, Bool.and_true, Bool.true_and, Option.some.injEq, exists_eq_left', exists_eq_left, true_and, and_true, Nat.reduceAdd, Nat.reduceSub, Nat.reduceLT, exists_and_left, exists_and_right, O.sh.injEq, D.int.injEq, D.bl.injEq, D.lst.injEq, List.cons.injEq, reduceCtorEq, exists_const, List.append_nil, List.singleton_append, and_self, exists_eq, exists_eq', Nat.lt_add_left_iff_pos, Nat.zero_lt_succ, wipeC, frzC, List.map_set, if_true, ite_true, Bool.false_eq_true, if_false, O.lst.injEq, O.dk.injEq, noInsL_sh, erL_sh, ngB_f, ngB_t, items_sh, items_lst, Nat.zero_add, Nat.reduceLeDiff, and_self, and_assoc]
        refine ⟨by decide, ?_⟩
        obtain ⟨n, hn⟩ : ∃ n : Nat, 1 + r % 12 = n := ⟨_, rfl⟩
        have en : (1 + (r : Int) % 12) = (n : Int) := by rw [← hn]; simp
        have n1 : 1 ≤ n := by omega
        have n2 : n ≤ 12 := by omega
        rw [en]
        refine ⟨n, x1, a + 1, b, rfl, rfl, n1, n2, kd, by omega, fun ls x2 a2 ok h2 => ?_⟩
        have lf := ok.few n2
        simp only [vSeq, vAsg, vEx, vRet, vRetN, vIf, vNil, vFor, oN, oMv, oC, oCall, oCons, oNil, kArg, kKey, baOf, bbOf, aName, aTup, aNames, oB, oNot, oOr, oAnd, oV, oAndV, oOrV, oNotV, o2, kI_int, kI0_int, kB0_int, kAdd_int, kQ_int, kQ_str, kInt_int, kMin2_int, kIsi_iff, kLen_iff, kSub_iff, kIn_iff, kRepr_iff, kList_iff, kInts_iff, kBls_iff, kSorted_iff, oLst, oTup, oIf, oChain, oNeg, oPeek, oPeekT, iLst, iRange1, iRange2, iEnumO, oYes, vLc, vDc, oSl, oRev, oStep, pNone, pSome, rng1, rng2, oLR, oTR, oApp, oPopAt, oCallB, xN, vPar, g0, List.map_cons, List.map_nil, List.length_cons, List.length_nil, List.replicate, List.cons_append, List.nil_append, List.getElem?_cons_zero, List.getElem?_cons_succ, List.set_cons_zero, List.set_cons_succ, O.noIns, O.er, noInsL, erL, Bool.and_true, Bool.true_and, Option.some.injEq, exists_eq_left', exists_eq_left, true_and, and_true, Nat.reduceAdd, Nat.reduceSub, Nat.reduceLT, exists_and_left, exists_and_right, O.sh.injEq, D.int.injEq, D.bl.injEq, D.lst.injEq, List.cons.injEq, reduceCtorEq, exists_const, List.append_nil, List.singleton_append, and_self, exists_eq, exists_eq', Nat.lt_add_left_iff_pos, Nat.zero_lt_succ, wipeC, frzC, List.map_set, if_true, ite_true, Bool.false_eq_true, if_false, O.lst.injEq, O.dk.injEq, noInsL_sh, erL_sh, ngB_f, ngB_t, items_sh, items_lst, Nat.zero_add, Nat.reduceLeDiff, and_self, and_assoc]
        refine ⟨n, ls, rfl, rfl, by omega, ok.net n1 n2, ?_⟩
        simp only [Bool.not_true, vSeq, vAsg, vEx, vRet, vRetN, vIf, vNil, vFor, oN, oMv, oC, oCall, oCons, oNil, kArg, kKey, baOf, bbOf, aName, aTup, aNames, oB, oNot, oOr, oAnd, oV, oAndV, oOrV, oNotV, o2, kI_int, kI0_int, kB0_int, kAdd_int, kQ_int, kQ_str, kInt_int, kMin2_int, kIsi_iff, kLen_iff, kSub_iff, kIn_iff, kRepr_iff, kList_iff, kInts_iff, kBls_iff, kSorted_iff, oLst, oTup, oIf, oChain, oNeg, oPeek, oPeekT, iLst, iRange1, iRange2, iEnumO, oYes, vLc, vDc, oSl, oRev, oStep, pNone, pSome, rng1, rng2, oLR, oTR, oApp, oPopAt, oCallB, xN, vPar, g0, List.map_cons, List.map_nil, List.length_cons, List.length_nil, List.replicate, List.cons_append, List.nil_append, List.getElem?_cons_zero, List.getElem?_cons_succ, List.set_cons_zero, List.set_cons_succ, O.noIns, O.er, noInsL, erL, Bool.and_true, Bool.true_and, Option.some.injEq, exists_eq_left', exists_eq_left, true_and, and_true, Nat.reduceAdd, Nat.reduceSub, Nat.reduceLT, exists_and_left, exists_and_right, O.sh.injEq, D.int.injEq, D.bl.injEq, D.lst.injEq, List.cons.injEq, reduceCtorEq, exists_const, List.append_nil, List.singleton_append, and_self, exists_eq, exists_eq', Nat.lt_add_left_iff_pos, Nat.zero_lt_succ, wipeC, frzC, List.map_set, if_true, ite_true, Bool.false_eq_true, if_false, O.lst.injEq, O.dk.injEq, noInsL_sh, erL_sh, ngB_f, ngB_t, items_sh, items_lst, Nat.zero_add, Nat.reduceLeDiff, and_self, and_assoc]
        refine ⟨x2, a2, b, rfl, by rw [List.length_map]; omega, by rw [List.length_map]; omega, pls_map lnD_pl _, Nat.le_trans (deps_map lnD_dep _) (by omega), fun l' x3 hp => ?_⟩
        obtain ⟨M, rfl, hM⟩ := perm_image unLn_ln hp
        have okM := ok.same (hM.map upP)
        have lM := okM.few n2
        rw [List.length_map]
        simp only [lsO_no, lsO_er, vSeq, vAsg, vEx, vRet, vRetN, vIf, vNil, vFor, oN, oMv, oC, oCall, oCons, oNil, kArg, kKey, baOf, bbOf, aName, aTup, aNames, oB, oNot, oOr, oAnd, oV, oAndV, oOrV, oNotV, o2, kI_int, kI0_int, kB0_int, kAdd_int, kQ_int, kQ_str, kInt_int, kMin2_int, kIsi_iff, kLen_iff, kSub_iff, kIn_iff, kRepr_iff, kList_iff, kInts_iff, kBls_iff, kSorted_iff, oLst, oTup, oIf, oChain, oNeg, oPeek, oPeekT, iLst, iRange1, iRange2, iEnumO, oYes, vLc, vDc, oSl, oRev, oStep, pNone, pSome, rng1, rng2, oLR, oTR, oApp, oPopAt, oCallB, xN, vPar, g0, List.map_cons, List.map_nil, List.length_cons, List.length_nil, List.replicate, List.cons_append, List.nil_append, List.getElem?_cons_zero, List.getElem?_cons_succ, List.set_cons_zero, List.set_cons_succ, O.noIns, O.er, noInsL, erL, Bool.and_true, Bool.true_and, Option.some.injEq, exists_eq_left', exists_eq_left, true_and, and_true, Nat.reduceAdd, Nat.reduceSub, Nat.reduceLT, exists_and_left, exists_and_right, O.sh.injEq, D.int.injEq, D.bl.injEq, D.lst.injEq, List.cons.injEq, reduceCtorEq, exists_const, List.append_nil, List.singleton_append, and_self, exists_eq, exists_eq', Nat.lt_add_left_iff_pos, Nat.zero_lt_succ, wipeC, frzC, List.map_set, if_true, ite_true, Bool.false_eq_true, if_false, O.lst.injEq, O.dk.injEq, noInsL_sh, erL_sh, ngB_f, ngB_t, items_sh, items_lst, Nat.zero_add, Nat.reduceLeDiff, and_self, and_assoc]
        refine ⟨n, M, rfl, rfl, by omega, okM.net n1 n2, ?_⟩
        simp only [Bool.not_true, vSeq, vAsg, vEx, vRet, vRetN, vIf, vNil, vFor, oN, oMv, oC, oCall, oCons, oNil, kArg, kKey, baOf, bbOf, aName, aTup, aNames, oB, oNot, oOr, oAnd, oV, oAndV, oOrV, oNotV, o2, kI_int, kI0_int, kB0_int, kAdd_int, kQ_int, kQ_str, kInt_int, kMin2_int, kIsi_iff, kLen_iff, kSub_iff, kIn_iff, kRepr_iff, kList_iff, kInts_iff, kBls_iff, kSorted_iff, oLst, oTup, oIf, oChain, oNeg, oPeek, oPeekT, iLst, iRange1, iRange2, iEnumO, oYes, vLc, vDc, oSl, oRev, oStep, pNone, pSome, rng1, rng2, oLR, oTR, oApp, oPopAt, oCallB, xN, vPar, g0, List.map_cons, List.map_nil, List.length_cons, List.length_nil, List.replicate, List.cons_append, List.nil_append, List.getElem?_cons_zero, List.getElem?_cons_succ, List.set_cons_zero, List.set_cons_succ, O.noIns, O.er, noInsL, erL, Bool.and_true, Bool.true_and, Option.some.injEq, exists_eq_left', exists_eq_left, true_and, and_true, Nat.reduceAdd, Nat.reduceSub, Nat.reduceLT, exists_and_left, exists_and_right, O.sh.injEq, D.int.injEq, D.bl.injEq, D.lst.injEq, List.cons.injEq, reduceCtorEq, exists_const, List.append_nil, List.singleton_append, and_self, exists_eq, exists_eq', Nat.lt_add_left_iff_pos, Nat.zero_lt_succ, wipeC, frzC, List.map_set, if_true, ite_true, Bool.false_eq_true, if_false, O.lst.injEq, O.dk.injEq, noInsL_sh, erL_sh, ngB_f, ngB_t, items_sh, items_lst, Nat.zero_add, Nat.reduceLeDiff, and_self, and_assoc]
        refine ⟨x3, a2 + ls.length, b, rfl, by omega, fun r2 x4 => ?_⟩
        simp only [vSeq, vAsg, vEx, vRet, vRetN, vIf, vNil, vFor, oN, oMv, oC, oCall, oCons, oNil, kArg, kKey, baOf, bbOf, aName, aTup, aNames, oB, oNot, oOr, oAnd, oV, oAndV, oOrV, oNotV, o2, kI_int, kI0_int, kB0_int, kAdd_int, kQ_int, kQ_str, kInt_int, kMin2_int, kIsi_iff, kLen_iff, kSub_iff, kIn_iff, kRepr_iff, kList_iff, kInts_iff, kBls_iff, kSorted_iff, oLst, oTup, oIf, oChain, oNeg, oPeek, oPeekT, iLst, iRange1, iRange2, iEnumO, oYes, vLc, vDc, oSl, oRev, oStep, pNone, pSome, rng1, rng2, oLR, oTR, oApp, oPopAt, oCallB, xN, vPar, g0, List.map_cons, List.map_nil, List.length_cons, List.length_nil, List.replicate, List.cons_append, List.nil_append, List.getElem?_cons_zero, List.getElem?_cons_succ, List.set_cons_zero, List.set_cons_succ, O.noIns, O.er, noInsL, erL, Bool.and_true, Bool.true_and, Option.some.injEq, exists_eq_left', exists_eq_left, true_and, and_true, Nat.reduceAdd, Nat.reduceSub, Nat.reduceLT, exists_and_left, exists_and_right, O.sh.injEq, D.int.injEq, D.bl.injEq, D.lst.injEq, List.cons.injEq, reduceCtorEq, exists_const, List.append_nil, List.singleton_append, and_self, exists_eq, exists_eq', Nat.lt_add_left_iff_pos, Nat.zero_lt_succ, wipeC, frzC, List.map_set, if_true, ite_true, Bool.false_eq_true, if_false, O.lst.injEq, O.dk.injEq, noInsL_sh, erL_sh, ngB_f, ngB_t, items_sh, items_lst, Nat.zero_add, Nat.reduceLeDiff, and_self, and_assoc]
        refine ⟨by decide, ?_⟩
        obtain ⟨n', hn'⟩ : ∃ n : Nat, 1 + r2 % 12 = n := ⟨_, rfl⟩
        have en' : (1 + (r2 : Int) % 12) = (n' : Int) := by rw [← hn']; simp
        have n1' : 1 ≤ n' := by omega
        have n2' : n' ≤ 12 := by omega
        rw [en']
        refine ⟨x4, a2 + ls.length + 1, b, rfl, by omega, fun r3 x5 => ?_⟩
        simp only [vSeq, vAsg, vEx, vRet, vRetN, vIf, vNil, vFor, oN, oMv, oC, oCall, oCons, oNil, kArg, kKey, baOf, bbOf, aName, aTup, aNames, oB, oNot, oOr, oAnd, oV, oAndV, oOrV, oNotV, o2, kI_int, kI0_int, kB0_int, kAdd_int, kQ_int, kQ_str, kInt_int, kMin2_int, kIsi_iff, kLen_iff, kSub_iff, kIn_iff, kRepr_iff, kList_iff, kInts_iff, kBls_iff, kSorted_iff, oLst, oTup, oIf, oChain, oNeg, oPeek, oPeekT, iLst, iRange1, iRange2, iEnumO, oYes, vLc, vDc, oSl, oRev, oStep, pNone, pSome, rng1, rng2, oLR, oTR, oApp, oPopAt, oCallB, xN, vPar, g0, List.map_cons, List.map_nil, List.length_cons, List.length_nil, List.replicate, List.cons_append, List.nil_append, List.getElem?_cons_zero, List.getElem?_cons_succ, List.set_cons_zero, List.set_cons_succ, O.noIns, O.er, noInsL, erL, Bool.and_true, Bool.true_and, Option.some.injEq, exists_eq_left', exists_eq_left, true_and, and_true, Nat.reduceAdd, Nat.reduceSub, Nat.reduceLT, exists_and_left, exists_and_right, O.sh.injEq, D.int.injEq, D.bl.injEq, D.lst.injEq, List.cons.injEq, reduceCtorEq, exists_const, List.append_nil, List.singleton_append, and_self, exists_eq, exists_eq', Nat.lt_add_left_iff_pos, Nat.zero_lt_succ, wipeC, frzC, List.map_set, if_true, ite_true, Bool.false_eq_true, if_false, O.lst.injEq, O.dk.injEq, noInsL_sh, erL_sh, ngB_f, ngB_t, items_sh, items_lst, Nat.zero_add, Nat.reduceLeDiff, and_self, and_assoc]
        obtain ⟨q, hq⟩ : ∃ q : Nat, 12 / n' = q := ⟨_, rfl⟩
        have eq : (12 : Int) / (n' : Int) = (q : Int) := by rw [← hq]; simp
        have q0 : 1 ≤ q := by rw [← hq]; exact (Nat.le_div_iff_mul_le (by omega)).mpr (by omega)
        have q1 : n' * q ≤ 12 := by rw [← hq]; exact Nat.mul_div_le 12 n'
        rw [eq]
        refine ⟨divW (by omega) (by omega), by omega, ?_⟩
        obtain ⟨m, hm⟩ : ∃ m : Nat, 1 + r3 % q = m := ⟨_, rfl⟩
        have em : (1 + (r3 : Int) % (q : Int)) = (m : Int) := by rw [← hm]; simp
        have m1 : 1 ≤ m := by omega
        have m2 : m ≤ q := by have := Nat.mod_lt r3 (show 0 < q by omega); omega
        have m3 : n' * m ≤ 12 := Nat.le_trans (Nat.mul_le_mul_left _ m2) q1
        have m4 : m ≤ 12 := Nat.le_trans (Nat.le_mul_of_pos_left _ (by omega)) m3
        rw [em]
        refine ⟨x5, a2 + ls.length + 1 + 1, b, rfl, by omega, fun r4 x6 => ?_⟩
        simp only [vSeq, vAsg, vEx, vRet, vRetN, vIf, vNil, vFor, oN, oMv, oC, oCall, oCons, oNil, kArg, kKey, baOf, bbOf, aName, aTup, aNames, oB, oNot, oOr, oAnd, oV, oAndV, oOrV, oNotV, o2, kI_int, kI0_int, kB0_int, kAdd_int, kQ_int, kQ_str, kInt_int, kMin2_int, kIsi_iff, kLen_iff, kSub_iff, kIn_iff, kRepr_iff, kList_iff, kInts_iff, kBls_iff, kSorted_iff, oLst, oTup, oIf, oChain, oNeg, oPeek, oPeekT, iLst, iRange1, iRange2, iEnumO, oYes, vLc, vDc, oSl, oRev, oStep, pNone, pSome, rng1, rng2, oLR, oTR, oApp, oPopAt, oCallB, xN, vPar, g0, List.map_cons, List.map_nil, List.length_cons, List.length_nil, List.replicate, List.cons_append, List.nil_append, List.getElem?_cons_zero, List.getElem?_cons_succ, List.set_cons_zero, List.set_cons_succ, O.noIns, O.er, noInsL, erL, Bool.and_true, Bool.true_and, Option.some.injEq, exists_eq_left', exists_eq_left, true_and, and_true, Nat.reduceAdd, Nat.reduceSub, Nat.reduceLT, exists_and_left, exists_and_right, O.sh.injEq, D.int.injEq, D.bl.injEq, D.lst.injEq, List.cons.injEq, reduceCtorEq, exists_const, List.append_nil, List.singleton_append, and_self, exists_eq, exists_eq', Nat.lt_add_left_iff_pos, Nat.zero_lt_succ, wipeC, frzC, List.map_set, if_true, ite_true, Bool.false_eq_true, if_false, O.lst.injEq, O.dk.injEq, noInsL_sh, erL_sh, ngB_f, ngB_t, items_sh, items_lst, Nat.zero_add, Nat.reduceLeDiff, and_self, and_assoc]
        refine ⟨by decide, ?_⟩
        have kd4 : (r4 : Int) % 3 = 0 ∨ (r4 : Int) % 3 = 1 ∨ (r4 : Int) % 3 = 2 := by omega
        obtain ⟨k4, hk4⟩ : ∃ kk : Int, (r4 : Int) % 3 = kk := ⟨_, rfl⟩
        rw [hk4] at kd4 ⊢
        refine ⟨m, x6, a2 + ls.length + 1 + 1 + 1, b, rfl, rfl, m1, m4, kd4, by omega, fun ls2 x7 a7 ok2 h7 => ?_⟩
        have lf2 := ok2.few m4
        simp only [vSeq, vAsg, vEx, vRet, vRetN, vIf, vNil, vFor, oN, oMv, oC, oCall, oCons, oNil, kArg, kKey, baOf, bbOf, aName, aTup, aNames, oB, oNot, oOr, oAnd, oV, oAndV, oOrV, oNotV, o2, kI_int, kI0_int, kB0_int, kAdd_int, kQ_int, kQ_str, kInt_int, kMin2_int, kIsi_iff, kLen_iff, kSub_iff, kIn_iff, kRepr_iff, kList_iff, kInts_iff, kBls_iff, kSorted_iff, oLst, oTup, oIf, oChain, oNeg, oPeek, oPeekT, iLst, iRange1, iRange2, iEnumO, oYes, vLc, vDc, oSl, oRev, oStep, pNone, pSome, rng1, rng2, oLR, oTR, oApp, oPopAt, oCallB, xN, vPar, g0, List.map_cons, List.map_nil, List.length_cons, List.length_nil, List.replicate, List.cons_append, List.nil_append, List.getElem?_cons_zero, List.getElem?_cons_succ, List.set_cons_zero, List.set_cons_succ, O.noIns, O.er, noInsL, erL, Bool.and_true, Bool.true_and, Option.some.injEq, exists_eq_left', exists_eq_left, true_and, and_true, Nat.reduceAdd, Nat.reduceSub, Nat.reduceLT, exists_and_left, exists_and_right, O.sh.injEq, D.int.injEq, D.bl.injEq, D.lst.injEq, List.cons.injEq, reduceCtorEq, exists_const, List.append_nil, List.singleton_append, and_self, exists_eq, exists_eq', Nat.lt_add_left_iff_pos, Nat.zero_lt_succ, wipeC, frzC, List.map_set, if_true, ite_true, Bool.false_eq_true, if_false, O.lst.injEq, O.dk.injEq, noInsL_sh, erL_sh, ngB_f, ngB_t, items_sh, items_lst, Nat.zero_add, Nat.reduceLeDiff, and_self, and_assoc]
        refine ⟨n', x7, a7, b, rfl, rfl, n1', n2', kd, by omega, fun ls3 x8 a8 ok3 h8 => ?_⟩
        have lf3 := ok3.few n2'
        simp only [lsO_no, lsO_er, vSeq, vAsg, vEx, vRet, vRetN, vIf, vNil, vFor, oN, oMv, oC, oCall, oCons, oNil, kArg, kKey, baOf, bbOf, aName, aTup, aNames, oB, oNot, oOr, oAnd, oV, oAndV, oOrV, oNotV, o2, kI_int, kI0_int, kB0_int, kAdd_int, kQ_int, kQ_str, kInt_int, kMin2_int, kIsi_iff, kLen_iff, kSub_iff, kIn_iff, kRepr_iff, kList_iff, kInts_iff, kBls_iff, kSorted_iff, oLst, oTup, oIf, oChain, oNeg, oPeek, oPeekT, iLst, iRange1, iRange2, iEnumO, oYes, vLc, vDc, oSl, oRev, oStep, pNone, pSome, rng1, rng2, oLR, oTR, oApp, oPopAt, oCallB, xN, vPar, g0, List.map_cons, List.map_nil, List.length_cons, List.length_nil, List.replicate, List.cons_append, List.nil_append, List.getElem?_cons_zero, List.getElem?_cons_succ, List.set_cons_zero, List.set_cons_succ, O.noIns, O.er, noInsL, erL, Bool.and_true, Bool.true_and, Option.some.injEq, exists_eq_left', exists_eq_left, true_and, and_true, Nat.reduceAdd, Nat.reduceSub, Nat.reduceLT, exists_and_left, exists_and_right, O.sh.injEq, D.int.injEq, D.bl.injEq, D.lst.injEq, List.cons.injEq, reduceCtorEq, exists_const, List.append_nil, List.singleton_append, and_self, exists_eq, exists_eq', Nat.lt_add_left_iff_pos, Nat.zero_lt_succ, wipeC, frzC, List.map_set, if_true, ite_true, Bool.false_eq_true, if_false, O.lst.injEq, O.dk.injEq, noInsL_sh, erL_sh, ngB_f, ngB_t, items_sh, items_lst, Nat.zero_add, Nat.reduceLeDiff, and_self, and_assoc]
        refine ⟨n', m, ls3, ls2, rfl, rfl, rfl, rfl, by omega, by omega, ok3.net n1' n2', ok2.net m1 m4, m3, ?_⟩
        simp only [Bool.not_true, vSeq, vAsg, vEx, vRet, vRetN, vIf, vNil, vFor, oN, oMv, oC, oCall, oCons, oNil, kArg, kKey, baOf, bbOf, aName, aTup, aNames, oB, oNot, oOr, oAnd, oV, oAndV, oOrV, oNotV, o2, kI_int, kI0_int, kB0_int, kAdd_int, kQ_int, kQ_str, kInt_int, kMin2_int, kIsi_iff, kLen_iff, kSub_iff, kIn_iff, kRepr_iff, kList_iff, kInts_iff, kBls_iff, kSorted_iff, oLst, oTup, oIf, oChain, oNeg, oPeek, oPeekT, iLst, iRange1, iRange2, iEnumO, oYes, vLc, vDc, oSl, oRev, oStep, pNone, pSome, rng1, rng2, oLR, oTR, oApp, oPopAt, oCallB, xN, vPar, g0, List.map_cons, List.map_nil, List.length_cons, List.length_nil, List.replicate, List.cons_append, List.nil_append, List.getElem?_cons_zero, List.getElem?_cons_succ, List.set_cons_zero, List.set_cons_succ, O.noIns, O.er, noInsL, erL, Bool.and_true, Bool.true_and, Option.some.injEq, exists_eq_left', exists_eq_left, true_and, and_true, Nat.reduceAdd, Nat.reduceSub, Nat.reduceLT, exists_and_left, exists_and_right, O.sh.injEq, D.int.injEq, D.bl.injEq, D.lst.injEq, List.cons.injEq, reduceCtorEq, exists_const, List.append_nil, List.singleton_append, and_self, exists_eq, exists_eq', Nat.lt_add_left_iff_pos, Nat.zero_lt_succ, wipeC, frzC, List.map_set, if_true, ite_true, Bool.false_eq_true, if_false, O.lst.injEq, O.dk.injEq, noInsL_sh, erL_sh, ngB_f, ngB_t, items_sh, items_lst, Nat.zero_add, Nat.reduceLeDiff, and_self, and_assoc]
        exact hN _ ⟨x8, a8, _, _, _, _, _, _, _, by omega, rfl⟩
  · rintro o rest acc γ ⟨h1, h2, rfl⟩ N hN
    obtain ⟨i, rfl⟩ := h1 o (by simp)
    simp only [vSeq, vAsg, vEx, vRet, vRetN, vIf, vNil, vFor, oN, oMv, oC, oCall, oCons, oNil, kArg, kKey, baOf, bbOf, aName, aTup, aNames, oB, oNot, oOr, oAnd, oV, oAndV, oOrV, oNotV, o2, kI_int, kI0_int, kB0_int, kAdd_int, kQ_int, kQ_str, kInt_int, kMin2_int, kIsi_iff, kLen_iff, kSub_iff, kIn_iff, kRepr_iff, kList_iff, kInts_iff, kBls_iff, kSorted_iff, oLst, oTup, oIf, oChain, oNeg, oPeek, oPeekT, iLst, iRange1, iRange2, iEnumO, oYes, vLc, vDc, oSl, oRev, oStep, pNone, pSome, rng1, rng2, oLR, oTR, oApp, oPopAt, oCallB, xN, vPar, g0, List.map_cons, List.map_nil, List.length_cons, List.length_nil, List.replicate, List.cons_append, List.nil_append, List.getElem?_cons_zero, List.getElem?_cons_succ, List.set_cons_zero, List.set_cons_succ, O.noIns, O.er, noInsL, erL, Bool.and_true, Bool.true_and, Option.some.injEq, exists_eq_left', exists_eq_left, true_and, and_true, Nat.reduceAdd, Nat.reduceSub, Nat.reduceLT, exists_and_left, exists_and_right, O.sh.injEq, D.int.injEq, D.bl.injEq, D.lst.injEq, List.cons.injEq, reduceCtorEq, exists_const, List.append_nil, List.singleton_append, and_self, exists_eq, exists_eq', Nat.lt_add_left_iff_pos, Nat.zero_lt_succ, wipeC, frzC, List.map_set, if_true, ite_true, Bool.false_eq_true, if_false, O.lst.injEq, O.dk.injEq, noInsL_sh, erL_sh, ngB_f, ngB_t, items_sh, items_lst, Nat.zero_add, Nat.reduceLeDiff, and_self, and_assoc]
    intro x b
    refine hN _ _ ⟨fun o ho => h1 o (by simp [ho]), fun o ho => ?_, rfl⟩
    rcases List.mem_append.mp ho with ho | ho
    · exact h2 o ho
    · simp at ho; exact ⟨x, b, ho⟩
  · intro o ho
    rcases List.mem_append.mp ho with ho | ho
    · obtain ⟨d, hd, rfl⟩ := List.mem_map.mp ho
      obtain ⟨i, rfl⟩ := ci d hd
      exact ⟨i, rfl⟩
    · simp at ho; exact ⟨0, ho⟩
end FN
end
section
namespace FN
open PySem PySem.Spec L2
open PyProof.Rows hiding St
def top (i : Nat) : Stmt := PySem.Challenge.pw_foldednets_k01_nets_and_products.main.body.getD i (.Pass ⟨0, 0, 0, 0⟩)
abbrev FnP (K : PySem.W.Frag) (x : Str) (st : Stmt) (f : Addr) (fd : FuncData) : Prop := FunD K x x (defArgs st) (defBody st) (defScope st) [] [] f fd
theorem bt_isinstance : bootBuiltins "isinstance" = some (.builtin "isinstance") := by decide +kernel
theorem bt_int : bootBuiltins "int" = some (.type "int") := by decide +kernel
theorem bt_bool : bootBuiltins "bool" = some (.type "bool") := by decide +kernel
theorem bt_list : bootBuiltins "list" = some (.type "list") := by decide +kernel
theorem bt_len : bootBuiltins "len" = some (.builtin "len") := by decide +kernel
theorem bt_all : bootBuiltins "all" = some (.builtin "all") := by decide +kernel
theorem bt_enumerate : bootBuiltins "enumerate" = some (.type "enumerate") := by decide +kernel
theorem bt_range : bootBuiltins "range" = some (.type "range") := by decide +kernel
theorem bt_sorted : bootBuiltins "sorted" = some (.builtin "sorted") := by decide +kernel
theorem bt_min : bootBuiltins "min" = some (.builtin "min") := by decide +kernel
theorem bt_repr : bootBuiltins "repr" = some (.builtin "repr") := by decide +kernel
abbrev s_is_whole : Stmt := top 6
abbrev N_is_whole : List Str := ["thing"]
theorem sc_is_whole : FnScope N_is_whole ["thing"] (defScope s_is_whole) := ⟨rfl, rfl, rfl, by decide +kernel, rfl, by decide +kernel, by decide +kernel⟩
abbrev s_check_number : Stmt := top 7
abbrev N_check_number : List Str := ["number", "least", "most"]
theorem sc_check_number : FnScope N_check_number ["number", "least", "most"] (defScope s_check_number) := ⟨rfl, rfl, rfl, by decide +kernel, rfl, by decide +kernel, by decide +kernel⟩
abbrev s_is_place : Stmt := top 8
abbrev N_is_place : List Str := ["thing", "places"]
theorem sc_is_place : FnScope N_is_place ["thing", "places"] (defScope s_is_place) := ⟨rfl, rfl, rfl, by decide +kernel, rfl, by decide +kernel, by decide +kernel⟩
abbrev s_is_line : Stmt := top 9
abbrev N_is_line : List Str := ["thing", "places", "place"]
theorem sc_is_line : FnScope N_is_line ["thing", "places"] (defScope s_is_line) := ⟨rfl, rfl, rfl, by decide +kernel, rfl, by decide +kernel, by decide +kernel⟩
abbrev s_check_lines : Stmt := top 10
abbrev N_check_lines : List Str := ["lines", "places", "index", "line"]
theorem sc_check_lines : FnScope N_check_lines ["lines", "places"] (defScope s_check_lines) := ⟨rfl, rfl, rfl, by decide +kernel, rfl, by decide +kernel, by decide +kernel⟩
abbrev s_check_net : Stmt := top 11
abbrev N_check_net : List Str := ["places", "lines"]
theorem sc_check_net : FnScope N_check_net ["places", "lines"] (defScope s_check_net) := ⟨rfl, rfl, rfl, by decide +kernel, rfl, by decide +kernel, by decide +kernel⟩
abbrev s_check_place : Stmt := top 12
abbrev N_check_place : List Str := ["place", "places"]
theorem sc_check_place : FnScope N_check_place ["place", "places"] (defScope s_check_place) := ⟨rfl, rfl, rfl, by decide +kernel, rfl, by decide +kernel, by decide +kernel⟩
abbrev s_beside_in : Stmt := top 13
abbrev N_beside_in : List Str := ["places", "lines", "told", "one", "two", "place", "some"]
theorem sc_beside_in : FnScope N_beside_in ["places", "lines"] (defScope s_beside_in) := ⟨rfl, rfl, rfl, by decide +kernel, rfl, by decide +kernel, by decide +kernel⟩
abbrev s_beside : Stmt := top 14
abbrev N_beside : List Str := ["places", "lines", "place"]
theorem sc_beside : FnScope N_beside ["places", "lines", "place"] (defScope s_beside) := ⟨rfl, rfl, rfl, by decide +kernel, rfl, by decide +kernel, by decide +kernel⟩
abbrev s_product : Stmt := top 15
abbrev N_product : List Str := ["places", "lines", "more", "ties", "near", "far", "told", "one", "two"]
theorem sc_product : FnScope N_product ["places", "lines", "more", "ties"] (defScope s_product) := ⟨rfl, rfl, rfl, by decide +kernel, rfl, by decide +kernel, by decide +kernel⟩
abbrev s_law_draws : Stmt := top 17
abbrev N_law_draws : List Str := ["_law_cell"]
theorem sc_law_draws : FnScope N_law_draws ["_law_cell"] (defScope s_law_draws) := ⟨rfl, rfl, rfl, by decide +kernel, rfl, by decide +kernel, by decide +kernel⟩
abbrev s_law_next : Stmt := top 18
abbrev N_law_next : List Str := ["_law_draws_here", "_law_k", "_law_drawn"]
theorem sc_law_next : FnScope N_law_next ["_law_draws_here"] (defScope s_law_next) := ⟨rfl, rfl, rfl, by decide +kernel, rfl, by decide +kernel, by decide +kernel⟩
abbrev s_law_shuffled : Stmt := top 19
abbrev N_law_shuffled : List Str := ["_law_draws_here", "_law_things", "_law_left", "_law_told"]
theorem sc_law_shuffled : FnScope N_law_shuffled ["_law_draws_here", "_law_things"] (defScope s_law_shuffled) := ⟨rfl, rfl, rfl, by decide +kernel, rfl, by decide +kernel, by decide +kernel⟩
abbrev s_law_grown : Stmt := top 20
abbrev N_law_grown : List Str := ["_law_draws_here", "_law_size", "_law_sides", "_law_start", "_law_told", "_law_spot", "_law_goal", "_law_some", "_law_side", "_law_low", "_law_high", "_law_mate"]
theorem sc_law_grown : FnScope N_law_grown ["_law_draws_here", "_law_size", "_law_sides", "_law_start"] (defScope s_law_grown) := ⟨rfl, rfl, rfl, by decide +kernel, rfl, by decide +kernel, by decide +kernel⟩
abbrev s_law_web : Stmt := top 21
abbrev N_law_web : List Str := ["_law_draws_here", "_law_size", "_law_kind", "_law_step", "_law_told", "_law_low", "_law_far", "_law_ring", "_law_names", "_law_high", "_law_spot", "_law_side"]
theorem sc_law_web : FnScope N_law_web ["_law_draws_here", "_law_size", "_law_kind"] (defScope s_law_web) := ⟨rfl, rfl, rfl, by decide +kernel, rfl, by decide +kernel, by decide +kernel⟩
abbrev s_law_near : Stmt := top 22
abbrev N_law_near : List Str := ["_law_size", "_law_sides", "_law_told", "_law_low", "_law_high", "_law_spot"]
theorem sc_law_near : FnScope N_law_near ["_law_size", "_law_sides"] (defScope s_law_near) := ⟨rfl, rfl, rfl, by decide +kernel, rfl, by decide +kernel, by decide +kernel⟩
abbrev s_law_right : Stmt := top 25
abbrev N_law_right : List Str := ["_law_size", "_law_sides", "_law_before", "_law_near_here", "_law_spot", "_law_due", "_law_told"]
theorem sc_law_right : FnScope N_law_right ["_law_size", "_law_sides"] (defScope s_law_right) := ⟨rfl, rfl, rfl, by decide +kernel, rfl, by decide +kernel, by decide +kernel⟩
abbrev s_law_product : Stmt := top 26
abbrev N_law_product : List Str := ["_law_size", "_law_sides", "_law_far", "_law_bars", "_law_near_here", "_law_beyond", "_law_spots", "_law_one", "_law_told", "_law_at", "_law_pair", "_law_later", "_law_mate", "_law_two"]
theorem sc_law_product : FnScope N_law_product ["_law_size", "_law_sides", "_law_far", "_law_bars"] (defScope s_law_product) := ⟨rfl, rfl, rfl, by decide +kernel, rfl, by decide +kernel, by decide +kernel⟩
abbrev s_law_product_right : Stmt := top 27
abbrev N_law_product_right : List Str := ["_law_size", "_law_sides", "_law_far", "_law_bars", "_law_before", "_law_due", "_law_told", "_law_side"]
theorem sc_law_product_right : FnScope N_law_product_right ["_law_size", "_law_sides", "_law_far", "_law_bars"] (defScope s_law_product_right) := ⟨rfl, rfl, rfl, by decide +kernel, rfl, by decide +kernel, by decide +kernel⟩
abbrev s_law : Stmt := top 28
abbrev N_law : List Str := ["_law_script", "_law_draws_here", "_law_kind", "_law_size", "_law_sides", "_law_far", "_law_bars", "_law_ring", "_law_cell"]
theorem sc_law : FnScope N_law ["_law_script"] (defScope s_law) := ⟨rfl, rfl, rfl, by decide +kernel, rfl, by decide +kernel, by decide +kernel⟩
structure Tx (K : PySem.W.Frag) (mg : Str → Option Value) where
  g_isinstance : mg "isinstance" = none
  g_int : mg "int" = none
  g_bool : mg "bool" = none
  g_list : mg "list" = none
  g_len : mg "len" = none
  g_all : mg "all" = none
  g_enumerate : mg "enumerate" = none
  c_MOST_PLACES : ∃ t, mg "MOST_PLACES" = some (.int 12 t)
  g_range : mg "range" = none
  g_sorted : mg "sorted" = none
  g_min : mg "min" = none
  g_repr : mg "repr" = none
  f_is_whole : Addr
  d_is_whole : FuncData
  F_is_whole : FnP K "is_whole" s_is_whole f_is_whole d_is_whole
  m_is_whole : mg "is_whole" = some (.ref f_is_whole)
  b_is_whole : Binds K d_is_whole ["thing"] []
  f_check_number : Addr
  d_check_number : FuncData
  F_check_number : FnP K "check_number" s_check_number f_check_number d_check_number
  m_check_number : mg "check_number" = some (.ref f_check_number)
  b_check_number : Binds K d_check_number ["number", "least", "most"] []
  f_is_place : Addr
  d_is_place : FuncData
  F_is_place : FnP K "is_place" s_is_place f_is_place d_is_place
  m_is_place : mg "is_place" = some (.ref f_is_place)
  b_is_place : Binds K d_is_place ["thing", "places"] []
  f_is_line : Addr
  d_is_line : FuncData
  F_is_line : FnP K "is_line" s_is_line f_is_line d_is_line
  m_is_line : mg "is_line" = some (.ref f_is_line)
  b_is_line : Binds K d_is_line ["thing", "places"] []
  f_check_lines : Addr
  d_check_lines : FuncData
  F_check_lines : FnP K "check_lines" s_check_lines f_check_lines d_check_lines
  m_check_lines : mg "check_lines" = some (.ref f_check_lines)
  b_check_lines : Binds K d_check_lines ["lines", "places"] []
  f_check_net : Addr
  d_check_net : FuncData
  F_check_net : FnP K "check_net" s_check_net f_check_net d_check_net
  m_check_net : mg "check_net" = some (.ref f_check_net)
  b_check_net : Binds K d_check_net ["places", "lines"] []
  f_check_place : Addr
  d_check_place : FuncData
  F_check_place : FnP K "check_place" s_check_place f_check_place d_check_place
  m_check_place : mg "check_place" = some (.ref f_check_place)
  b_check_place : Binds K d_check_place ["place", "places"] []
  f_beside_in : Addr
  d_beside_in : FuncData
  F_beside_in : FnP K "beside_in" s_beside_in f_beside_in d_beside_in
  m_beside_in : mg "beside_in" = some (.ref f_beside_in)
  b_beside_in : Binds K d_beside_in ["places", "lines"] []
  f_beside : Addr
  d_beside : FuncData
  F_beside : FnP K "beside" s_beside f_beside d_beside
  m_beside : mg "beside" = some (.ref f_beside)
  b_beside : Binds K d_beside ["places", "lines", "place"] []
  f_product : Addr
  d_product : FuncData
  F_product : FnP K "product" s_product f_product d_product
  m_product : mg "product" = some (.ref f_product)
  b_product : Binds K d_product ["places", "lines", "more", "ties"] []
  f_law_draws : Addr
  d_law_draws : FuncData
  F_law_draws : FnP K "_law_draws" s_law_draws f_law_draws d_law_draws
  m_law_draws : mg "_law_draws" = some (.ref f_law_draws)
  b_law_draws : Binds K d_law_draws ["_law_cell"] []
  f_law_next : Addr
  d_law_next : FuncData
  F_law_next : FnP K "_law_next" s_law_next f_law_next d_law_next
  m_law_next : mg "_law_next" = some (.ref f_law_next)
  b_law_next : Binds K d_law_next ["_law_draws_here"] []
  f_law_shuffled : Addr
  d_law_shuffled : FuncData
  F_law_shuffled : FnP K "_law_shuffled" s_law_shuffled f_law_shuffled d_law_shuffled
  m_law_shuffled : mg "_law_shuffled" = some (.ref f_law_shuffled)
  b_law_shuffled : Binds K d_law_shuffled ["_law_draws_here", "_law_things"] []
  f_law_grown : Addr
  d_law_grown : FuncData
  F_law_grown : FnP K "_law_grown" s_law_grown f_law_grown d_law_grown
  m_law_grown : mg "_law_grown" = some (.ref f_law_grown)
  b_law_grown : Binds K d_law_grown ["_law_draws_here", "_law_size", "_law_sides", "_law_start"] []
  f_law_web : Addr
  d_law_web : FuncData
  F_law_web : FnP K "_law_web" s_law_web f_law_web d_law_web
  m_law_web : mg "_law_web" = some (.ref f_law_web)
  b_law_web : Binds K d_law_web ["_law_draws_here", "_law_size", "_law_kind"] []
  f_law_near : Addr
  d_law_near : FuncData
  F_law_near : FnP K "_law_near" s_law_near f_law_near d_law_near
  m_law_near : mg "_law_near" = some (.ref f_law_near)
  b_law_near : Binds K d_law_near ["_law_size", "_law_sides"] []
  f_law_right : Addr
  d_law_right : FuncData
  F_law_right : FnP K "_law_right" s_law_right f_law_right d_law_right
  m_law_right : mg "_law_right" = some (.ref f_law_right)
  b_law_right : Binds K d_law_right ["_law_size", "_law_sides"] []
  f_law_product : Addr
  d_law_product : FuncData
  F_law_product : FnP K "_law_product" s_law_product f_law_product d_law_product
  m_law_product : mg "_law_product" = some (.ref f_law_product)
  b_law_product : Binds K d_law_product ["_law_size", "_law_sides", "_law_far", "_law_bars"] []
  f_law_product_right : Addr
  d_law_product_right : FuncData
  F_law_product_right : FnP K "_law_product_right" s_law_product_right f_law_product_right d_law_product_right
  m_law_product_right : mg "_law_product_right" = some (.ref f_law_product_right)
  b_law_product_right : Binds K d_law_product_right ["_law_size", "_law_sides", "_law_far", "_law_bars"] []
  f_law : Addr
  d_law : FuncData
  F_law : FnP K "law" s_law f_law d_law
  m_law : mg "law" = some (.ref f_law)
  b_law : Binds K d_law ["_law_script"] []
  k_beside__place_lines_places : ∀ (s : Shared) (ws : List Value), K.In s.heap → ws.length = (["place", "lines", "places"] : List Str).length → BindsTo s d_beside ⟨[], (["place", "lines", "places"] : List Str).zip ws⟩ ((["places", "lines", "place"] : List Str).zip (picks [2, 1, 0] ws))
  k_product__ties_more_lines_places : ∀ (s : Shared) (ws : List Value), K.In s.heap → ws.length = (["ties", "more", "lines", "places"] : List Str).length → BindsTo s d_product ⟨[], (["ties", "more", "lines", "places"] : List Str).zip ws⟩ ((["places", "lines", "more", "ties"] : List Str).zip (picks [3, 2, 1, 0] ws))
  b_law_any : ∀ (s : Shared) (us : List Value), us.length = 1 → BindsTo s d_law ⟨us, []⟩ ((["_law_script"] : List Str).zip us)
section
variable {P : Program} {w : PySem.World} {K : PySem.W.Frag} {mg : Str → Option Value} {base : Heap}
theorem ok_is_whole (T : Tx K mg)
    {F : DA} (H : ∀ (ds : List D) (Q : O → Prop), ds.length = 1 → F ds Q → r_is_whole  { nx := fun _ => Q (.sh .non), rt := fun o _ => Q o } (g0 nn_is_whole (ds.map O.sh))) : FnG P w K mg base CX0 1 T.f_is_whole T.d_is_whole ["thing"] (spD 1 F) := by
  refine fnG_of T.F_is_whole sc_is_whole (fun vs H Q E h => by exact h.1) fun cdv A outer s Hp0 vs Q E hr quiet h => ⟨tS [] (r_is_whole ), PSs.nox ?_, spD_of (E := E) (N := N_is_whole) (b := r_is_whole ) (by decide) H h⟩
  have huE := hr.units
  have huS : (A.deeper (envOfC "is_whole" (defScope s_is_whole) s.heap.objs.size T.f_is_whole cdv)).units + 1 < cLine := by have := hr.un; omega
  have huA : (A.deeper (envOfC "is_whole" (defScope s_is_whole) s.heap.objs.size T.f_is_whole cdv)).units + 65 < cLine := by have := hr.un; omega
  exact (jb_one (js_ret (je_and (je_callB call_isi cal_isi rfl T.g_isinstance bt_isinstance (ja_cons (je_n 0) (ja_cons (je_ty rfl T.g_int bt_int) ja_nil))) (je_one (je_not (je_callB call_isi cal_isi rfl T.g_isinstance bt_isinstance (ja_cons (je_n 0) (ja_cons (je_ty rfl T.g_bool bt_bool) ja_nil))))))))
theorem ok_check_number (T : Tx K mg) {F_is_whole : DA} (G_is_whole : FnG P w K mg base CX0 1 T.f_is_whole T.d_is_whole ["thing"] (spD 1 F_is_whole))
    {F : DA} (H : ∀ (ds : List D) (Q : O → Prop), ds.length = 3 → F ds Q → r_check_number F_is_whole { nx := fun _ => Q (.sh .non), rt := fun o _ => Q o } (g0 nn_check_number (ds.map O.sh))) : FnG P w K mg base CX0 2 T.f_check_number T.d_check_number ["number", "least", "most"] (spD 3 F) := by
  refine fnG_of T.F_check_number sc_check_number (fun vs H Q E h => by exact h.1) fun cdv A outer s Hp0 vs Q E hr quiet h => ⟨tS [] (r_check_number F_is_whole), PSs.nox ?_, spD_of (E := E) (N := N_check_number) (b := r_check_number F_is_whole) (by decide) H h⟩
  have huE := hr.units
  have huS : (A.deeper (envOfC "check_number" (defScope s_check_number) s.heap.objs.size T.f_check_number cdv)).units + 1 < cLine := by have := hr.un; omega
  have huA : (A.deeper (envOfC "check_number" (defScope s_check_number) s.heap.objs.size T.f_check_number cdv)).units + 65 < cLine := by have := hr.un; omega
  exact (jb_one (js_if (jt_w (jw_or (jt_not (jt_val (je_call (G_is_whole.deep (by decide)) hr quiet rfl T.m_is_whole T.F_is_whole.kp T.b_is_whole (ja_cons (je_n 0) ja_nil)))) (jw_or1 (jt_not (jt_chain op_le op_le bin_B0 bin_B0 (je_n 1) (je_n 0) (je_n 2)))))) (jb_one js_never) jb_nil))
theorem ok_is_place (T : Tx K mg) {F_is_whole : DA} (G_is_whole : FnG P w K mg base CX0 1 T.f_is_whole T.d_is_whole ["thing"] (spD 1 F_is_whole))
    {F : DA} (H : ∀ (ds : List D) (Q : O → Prop), ds.length = 2 → F ds Q → r_is_place F_is_whole { nx := fun _ => Q (.sh .non), rt := fun o _ => Q o } (g0 nn_is_place (ds.map O.sh))) : FnG P w K mg base CX0 2 T.f_is_place T.d_is_place ["thing", "places"] (spD 2 F) := by
  refine fnG_of T.F_is_place sc_is_place (fun vs H Q E h => by exact h.1) fun cdv A outer s Hp0 vs Q E hr quiet h => ⟨tS [] (r_is_place F_is_whole), PSs.nox ?_, spD_of (E := E) (N := N_is_place) (b := r_is_place F_is_whole) (by decide) H h⟩
  have huE := hr.units
  have huS : (A.deeper (envOfC "is_place" (defScope s_is_place) s.heap.objs.size T.f_is_place cdv)).units + 1 < cLine := by have := hr.un; omega
  have huA : (A.deeper (envOfC "is_place" (defScope s_is_place) s.heap.objs.size T.f_is_place cdv)).units + 65 < cLine := by have := hr.un; omega
  exact (jb_one (js_ret (je_and (je_call (G_is_whole.deep (by decide)) hr quiet rfl T.m_is_whole T.F_is_whole.kp T.b_is_whole (ja_cons (je_n 0) ja_nil)) (je_one (je_chain op_le op_le bin_B0 bin_B0 je_int (je_n 0) (je_n 1))))))
theorem ok_is_line (T : Tx K mg) {F_is_place : DA} (G_is_place : FnG P w K mg base CX0 2 T.f_is_place T.d_is_place ["thing", "places"] (spD 2 F_is_place))
    {F : DA} (H : ∀ (ds : List D) (Q : O → Prop), ds.length = 2 → F ds Q → r_is_line F_is_place { nx := fun _ => Q (.sh .non), rt := fun o _ => Q o } (g0 nn_is_line (ds.map O.sh))) : FnG P w K mg base CX0 3 T.f_is_line T.d_is_line ["thing", "places"] (spD 2 F) := by
  refine fnG_of T.F_is_line sc_is_line (fun vs H Q E h => by exact h.1) fun cdv A outer s Hp0 vs Q E hr quiet h => ⟨tS [] (r_is_line F_is_place), PSs.nox ?_, spD_of (E := E) (N := N_is_line) (b := r_is_line F_is_place) (by decide) H h⟩
  have huE := hr.units
  have huS : (A.deeper (envOfC "is_line" (defScope s_is_line) s.heap.objs.size T.f_is_line cdv)).units + 1 < cLine := by have := hr.un; omega
  have huA : (A.deeper (envOfC "is_line" (defScope s_is_line) s.heap.objs.size T.f_is_line cdv)).units + 65 < cLine := by have := hr.un; omega
  exact (jb_cons (js_if (jt_w (jw_or (jt_not (jt_val (je_callB call_isi cal_isi rfl T.g_isinstance bt_isinstance (ja_cons (je_n 0) (ja_cons (je_ty rfl T.g_list bt_list) ja_nil))))) (jw_or (jt_cmp (OpR.or (op_neD huE) op_ne) bin_qNe (je_callB call_len cal_len rfl T.g_len bt_len (ja_cons (je_n 0) ja_nil)) je_int (nomark _)) (jw_or1 (jt_not (jt_val (je_callB (cr_all rfl) cal_all rfl T.g_all bt_all (ja_cons (je_lc (own := [("place", 2)]) rfl sc_is_line.nd (ji_list (je_n 0)) (blkOk_by (by rfl)) (fun _ _ _ _ _ => (jg_name (i := 2) sc_is_line.nd rfl (Or.inl rfl))) (fun _ _ _ _ _ => jts_nil) (fun _ _ _ _ _ => (je_call (G_is_place.deep (by decide)) hr quiet rfl T.m_is_place T.F_is_place.kp T.b_is_place (ja_cons (je_n 2) (ja_cons (je_n 1) ja_nil))))) ja_nil)))))))) (jb_one (js_ret je_bl)) jb_nil)
      (jb_one (js_ret (je_cmp (OpR.or (op_neD huE) op_ne) bin_qNe (je_sub huS (je_n 0) je_int) (je_sub huS (je_n 0) je_int) (nomark _)))))
theorem ok_check_lines (T : Tx K mg) {F_is_line : DA} (G_is_line : FnG P w K mg base CX0 3 T.f_is_line T.d_is_line ["thing", "places"] (spD 2 F_is_line))
    {F : DA} (H : ∀ (ds : List D) (Q : O → Prop), ds.length = 2 → F ds Q → r_check_lines F_is_line { nx := fun _ => Q (.sh .non), rt := fun o _ => Q o } (g0 nn_check_lines (ds.map O.sh))) : FnG P w K mg base CX0 4 T.f_check_lines T.d_check_lines ["lines", "places"] (spD 2 F) := by
  refine fnG_of T.F_check_lines sc_check_lines (fun vs H Q E h => by exact h.1) fun cdv A outer s Hp0 vs Q E hr quiet h => ⟨tS [] (r_check_lines F_is_line), PSs.nox ?_, spD_of (E := E) (N := N_check_lines) (b := r_check_lines F_is_line) (by decide) H h⟩
  have huE := hr.units
  have huS : (A.deeper (envOfC "check_lines" (defScope s_check_lines) s.heap.objs.size T.f_check_lines cdv)).units + 1 < cLine := by have := hr.un; omega
  have huA : (A.deeper (envOfC "check_lines" (defScope s_check_lines) s.heap.objs.size T.f_check_lines cdv)).units + 65 < cLine := by have := hr.un; omega
  exact (jb_cons (js_if (jt_not (jt_val (je_callB call_isi cal_isi rfl T.g_isinstance bt_isinstance (ja_cons (je_n 0) (ja_cons (je_ty rfl T.g_list bt_list) ja_nil))))) (jb_one js_never) jb_nil)
      (jb_one (js_for PassesOwn.never rfl (ji_enum rfl T.g_enumerate (ja_cons (je_n 0) ja_nil)) (jg_tup (ws := [2, 3]) (is := [2, 3]) rfl (jgs_cons (ws := [2, 3]) sc_check_lines.nd rfl (Or.inl rfl) (by decide) (jgs_cons (ws := [2, 3]) sc_check_lines.nd rfl (Or.inl rfl) (by decide) jgs_nil))) (jb_one (js_if (jt_w (jw_or (jt_not (jt_val (je_call (G_is_line.deep (by decide)) hr quiet rfl T.m_is_line T.F_is_line.kp T.b_is_line (ja_cons (je_n 3) (ja_cons (je_n 1) ja_nil))))) (jw_or (jt_cmp (op_inA huA) bin_in (je_n 3) (je_slice (je_n 0) jp_none (jp_some (je_n 2))) ) (jw_or1 (jt_cmp (op_inA huA) bin_in (je_rev (je_n 3)) (je_slice (je_n 0) jp_none (jp_some (je_n 2))) ))))) (jb_one js_never) jb_nil)) (by decide))))
theorem ok_check_net (T : Tx K mg) {F_check_number : DA} (G_check_number : FnG P w K mg base CX0 2 T.f_check_number T.d_check_number ["number", "least", "most"] (spD 3 F_check_number)) {F_check_lines : DA} (G_check_lines : FnG P w K mg base CX0 4 T.f_check_lines T.d_check_lines ["lines", "places"] (spD 2 F_check_lines))
    {F : DA} (H : ∀ (ds : List D) (Q : O → Prop), ds.length = 2 → F ds Q → r_check_net F_check_number F_check_lines { nx := fun _ => Q (.sh .non), rt := fun o _ => Q o } (g0 nn_check_net (ds.map O.sh))) : FnG P w K mg base CX0 5 T.f_check_net T.d_check_net ["places", "lines"] (spD 2 F) := by
  refine fnG_of T.F_check_net sc_check_net (fun vs H Q E h => by exact h.1) fun cdv A outer s Hp0 vs Q E hr quiet h => ⟨tS [] (r_check_net F_check_number F_check_lines), PSs.nox ?_, spD_of (E := E) (N := N_check_net) (b := r_check_net F_check_number F_check_lines) (by decide) H h⟩
  have huE := hr.units
  have huS : (A.deeper (envOfC "check_net" (defScope s_check_net) s.heap.objs.size T.f_check_net cdv)).units + 1 < cLine := by have := hr.un; omega
  have huA : (A.deeper (envOfC "check_net" (defScope s_check_net) s.heap.objs.size T.f_check_net cdv)).units + 65 < cLine := by have := hr.un; omega
  exact (jb_cons (js_expr (je_call (G_check_number.deep (by decide)) hr quiet rfl T.m_check_number T.F_check_number.kp T.b_check_number (ja_cons (je_n 0) (ja_cons je_int (ja_cons (je_gint rfl T.c_MOST_PLACES.choose_spec) ja_nil)))))
      (jb_one (js_expr (je_call (G_check_lines.deep (by decide)) hr quiet rfl T.m_check_lines T.F_check_lines.kp T.b_check_lines (ja_cons (je_n 1) (ja_cons (je_n 0) ja_nil))))))
theorem ok_check_place (T : Tx K mg) {F_is_place : DA} (G_is_place : FnG P w K mg base CX0 2 T.f_is_place T.d_is_place ["thing", "places"] (spD 2 F_is_place))
    {F : DA} (H : ∀ (ds : List D) (Q : O → Prop), ds.length = 2 → F ds Q → r_check_place F_is_place { nx := fun _ => Q (.sh .non), rt := fun o _ => Q o } (g0 nn_check_place (ds.map O.sh))) : FnG P w K mg base CX0 3 T.f_check_place T.d_check_place ["place", "places"] (spD 2 F) := by
  refine fnG_of T.F_check_place sc_check_place (fun vs H Q E h => by exact h.1) fun cdv A outer s Hp0 vs Q E hr quiet h => ⟨tS [] (r_check_place F_is_place), PSs.nox ?_, spD_of (E := E) (N := N_check_place) (b := r_check_place F_is_place) (by decide) H h⟩
  have huE := hr.units
  have huS : (A.deeper (envOfC "check_place" (defScope s_check_place) s.heap.objs.size T.f_check_place cdv)).units + 1 < cLine := by have := hr.un; omega
  have huA : (A.deeper (envOfC "check_place" (defScope s_check_place) s.heap.objs.size T.f_check_place cdv)).units + 65 < cLine := by have := hr.un; omega
  exact (jb_one (js_if (jt_not (jt_val (je_call (G_is_place.deep (by decide)) hr quiet rfl T.m_is_place T.F_is_place.kp T.b_is_place (ja_cons (je_n 0) (ja_cons (je_n 1) ja_nil))))) (jb_one js_never) jb_nil))
theorem ok_beside_in (T : Tx K mg)
    {F : DA} (H : ∀ (ds : List D) (Q : O → Prop), ds.length = 2 → F ds Q → r_beside_in  { nx := fun _ => Q (.sh .non), rt := fun o _ => Q o } (g0 nn_beside_in (ds.map O.sh))) : FnG P w K mg base CX0 1 T.f_beside_in T.d_beside_in ["places", "lines"] (spD 2 F) := by
  refine fnG_of T.F_beside_in sc_beside_in (fun vs H Q E h => by exact h.1) fun cdv A outer s Hp0 vs Q E hr quiet h => ⟨tS [] (r_beside_in ), PSs.nox ?_, spD_of (E := E) (N := N_beside_in) (b := r_beside_in ) (by decide) H h⟩
  have huE := hr.units
  have huS : (A.deeper (envOfC "beside_in" (defScope s_beside_in) s.heap.objs.size T.f_beside_in cdv)).units + 1 < cLine := by have := hr.un; omega
  have huA : (A.deeper (envOfC "beside_in" (defScope s_beside_in) s.heap.objs.size T.f_beside_in cdv)).units + 65 < cLine := by have := hr.un; omega
  exact (jb_cons (js_setDc (i := 2) (own := [("place", 5)]) rfl sc_beside_in.nd rfl rfl (by decide) rfl (ji_range2 rfl T.g_range (ja_cons je_int (ja_cons (je_op op_addA bin_add (je_n 0) je_int) ja_nil))) (blkOk_by (by rfl)) (fun _ _ _ _ _ => (jg_name (i := 5) sc_beside_in.nd rfl (Or.inl rfl))) (fun _ _ _ _ _ => jts_nil) (fun _ _ _ _ _ => (je_n 5)) (fun _ _ _ _ _ => (je_lst (ja_cons (je_n 5) ja_nil))))
      (jb_cons (js_for PassesOwn.never rfl (ji_list (je_n 1)) (jg_tup (ws := [3, 4]) (is := [3, 4]) rfl (jgs_cons (ws := [3, 4]) sc_beside_in.nd rfl (Or.inl rfl) (by decide) (jgs_cons (ws := [3, 4]) sc_beside_in.nd rfl (Or.inl rfl) (by decide) jgs_nil))) (jb_cons (js_expr (je_appL (jl_at huS (jl_n 2) (jx_n 3)) (ja_cons (je_n 4) ja_nil)))
      (jb_one (js_expr (je_appL (jl_at huS (jl_n 2) (jx_n 4)) (ja_cons (je_n 3) ja_nil))))) (by decide))
      (jb_one (js_ret (je_dc (own := [("place", 5), ("some", 6)]) rfl sc_beside_in.nd (ji_itemsO (je_mv 2)) (blkOk_by (by rfl)) (fun _ _ _ _ _ => (jg_tup (ws := [5, 6]) (is := [5, 6]) rfl (jgs_cons (ws := [5, 6]) sc_beside_in.nd rfl (Or.inl rfl) (by decide) (jgs_cons (ws := [5, 6]) sc_beside_in.nd rfl (Or.inl rfl) (by decide) jgs_nil)))) (fun _ _ _ _ _ => jts_nil) (fun _ _ _ _ _ => (je_n 5)) (fun _ _ _ _ _ => (je_callB cr_sorted kSorted_ok rfl T.g_sorted bt_sorted (ja_cons (je_n 6) ja_nil))))))))
theorem ok_beside (T : Tx K mg) {F_check_net : DA} (G_check_net : FnG P w K mg base CX0 5 T.f_check_net T.d_check_net ["places", "lines"] (spD 2 F_check_net)) {F_check_place : DA} (G_check_place : FnG P w K mg base CX0 3 T.f_check_place T.d_check_place ["place", "places"] (spD 2 F_check_place)) {F_beside_in : DA} (G_beside_in : FnG P w K mg base CX0 1 T.f_beside_in T.d_beside_in ["places", "lines"] (spD 2 F_beside_in))
    {F : DA} (H : ∀ (ds : List D) (Q : O → Prop), ds.length = 3 → F ds Q → r_beside F_check_net F_check_place F_beside_in { nx := fun _ => Q (.sh .non), rt := fun o _ => Q o } (g0 nn_beside (ds.map O.sh))) : FnG P w K mg base CX0 6 T.f_beside T.d_beside ["places", "lines", "place"] (spD 3 F) := by
  refine fnG_of T.F_beside sc_beside (fun vs H Q E h => by exact h.1) fun cdv A outer s Hp0 vs Q E hr quiet h => ⟨tS [] (r_beside F_check_net F_check_place F_beside_in), PSs.nox ?_, spD_of (E := E) (N := N_beside) (b := r_beside F_check_net F_check_place F_beside_in) (by decide) H h⟩
  have huE := hr.units
  have huS : (A.deeper (envOfC "beside" (defScope s_beside) s.heap.objs.size T.f_beside cdv)).units + 1 < cLine := by have := hr.un; omega
  have huA : (A.deeper (envOfC "beside" (defScope s_beside) s.heap.objs.size T.f_beside cdv)).units + 65 < cLine := by have := hr.un; omega
  exact (jb_cons (js_expr (je_call (G_check_net.deep (by decide)) hr quiet rfl T.m_check_net T.F_check_net.kp T.b_check_net (ja_cons (je_n 0) (ja_cons (je_n 1) ja_nil))))
      (jb_cons (js_expr (je_call (G_check_place.deep (by decide)) hr quiet rfl T.m_check_place T.F_check_place.kp T.b_check_place (ja_cons (je_n 2) (ja_cons (je_n 0) ja_nil))))
      (jb_one (js_ret (je_take huS (je_call (G_beside_in.deep (by decide)) hr quiet rfl T.m_beside_in T.F_beside_in.kp T.b_beside_in (ja_cons (je_n 0) (ja_cons (je_n 1) ja_nil))) (je_n 2))))))
theorem ok_product (T : Tx K mg) {F_check_net : DA} (G_check_net : FnG P w K mg base CX0 5 T.f_check_net T.d_check_net ["places", "lines"] (spD 2 F_check_net)) {F_check_number : DA} (G_check_number : FnG P w K mg base CX0 2 T.f_check_number T.d_check_number ["number", "least", "most"] (spD 3 F_check_number)) {F_beside_in : DA} (G_beside_in : FnG P w K mg base CX0 1 T.f_beside_in T.d_beside_in ["places", "lines"] (spD 2 F_beside_in))
    {F : DA} (H : ∀ (ds : List D) (Q : O → Prop), ds.length = 4 → F ds Q → r_product F_check_net F_check_number F_beside_in { nx := fun _ => Q (.sh .non), rt := fun o _ => Q o } (g0 nn_product (ds.map O.sh))) : FnG P w K mg base CX0 6 T.f_product T.d_product ["places", "lines", "more", "ties"] (spD 4 F) := by
  refine fnG_of T.F_product sc_product (fun vs H Q E h => by exact h.1) fun cdv A outer s Hp0 vs Q E hr quiet h => ⟨tS [] (r_product F_check_net F_check_number F_beside_in), PSs.nox ?_, spD_of (E := E) (N := N_product) (b := r_product F_check_net F_check_number F_beside_in) (by decide) H h⟩
  have huE := hr.units
  have huS : (A.deeper (envOfC "product" (defScope s_product) s.heap.objs.size T.f_product cdv)).units + 1 < cLine := by have := hr.un; omega
  have huA : (A.deeper (envOfC "product" (defScope s_product) s.heap.objs.size T.f_product cdv)).units + 65 < cLine := by have := hr.un; omega
  exact (jb_cons (js_expr (je_call (G_check_net.deep (by decide)) hr quiet rfl T.m_check_net T.F_check_net.kp T.b_check_net (ja_cons (je_n 0) (ja_cons (je_n 1) ja_nil))))
      (jb_cons (js_expr (je_call (G_check_net.deep (by decide)) hr quiet rfl T.m_check_net T.F_check_net.kp T.b_check_net (ja_cons (je_n 2) (ja_cons (je_n 3) ja_nil))))
      (jb_cons (js_expr (je_call (G_check_number.deep (by decide)) hr quiet rfl T.m_check_number T.F_check_number.kp T.b_check_number (ja_cons (je_n 2) (ja_cons je_int (ja_cons (je_op op_fdivW bin_I (je_gint rfl T.c_MOST_PLACES.choose_spec) (je_n 0)) ja_nil)))))
      (jb_cons (js_par (i := 4) (j := 5) rfl sc_product.nd rfl rfl (by decide) rfl rfl (ja_cons (je_call (G_beside_in.deep (by decide)) hr quiet rfl T.m_beside_in T.F_beside_in.kp T.b_beside_in (ja_cons (je_n 0) (ja_cons (je_n 1) ja_nil))) (ja_cons (je_call (G_beside_in.deep (by decide)) hr quiet rfl T.m_beside_in T.F_beside_in.kp T.b_beside_in (ja_cons (je_n 2) (ja_cons (je_n 3) ja_nil))) ja_nil)) (by decide))
      (jb_cons (js_set (i := 6) sc_product.nd rfl (Or.inl rfl) (je_lst ja_nil) (by decide))
      (jb_cons (js_for PassesOwn.never rfl (ji_range1 rfl T.g_range (ja_cons (je_op op_mulW bin_I (je_n 0) (je_n 2)) ja_nil)) (jg_name (i := 7) sc_product.nd rfl (Or.inl rfl)) (jb_one (js_for PassesOwn.never rfl (ji_range2 rfl T.g_range (ja_cons (je_op op_addA bin_add (je_n 7) je_int) (ja_cons (je_op op_mulW bin_I (je_n 0) (je_n 2)) ja_nil))) (jg_name (i := 8) sc_product.nd rfl (Or.inl rfl)) (jb_one (js_if (jt_w (jw_and (jt_cmp (op_inA huA) bin_in (je_op op_addA bin_add (je_op op_fdivW bin_I (je_n 8) (je_n 2)) je_int) (je_sub huS (je_n 4) (je_op op_addA bin_add (je_op op_fdivW bin_I (je_n 7) (je_n 2)) je_int)) ) (jw_and1 (jt_cmp (op_inA huA) bin_in (je_op op_addA bin_add (je_op op_mod bin_I (je_n 8) (je_n 2)) je_int) (je_sub huS (je_n 5) (je_op op_addA bin_add (je_op op_mod bin_I (je_n 7) (je_n 2)) je_int)) )))) (jb_one (js_expr (je_app 6 (ja_cons (je_lst (ja_cons (je_op op_addA bin_add (je_n 7) je_int) (ja_cons (je_op op_addA bin_add (je_n 8) je_int) ja_nil))) ja_nil)))) jb_nil)) (by decide))) (by decide))
      (jb_one (js_ret (je_tup (ja_cons (je_op op_mulW bin_I (je_n 0) (je_n 2)) (ja_cons (je_mv 6) ja_nil)))))))))))
theorem ok_law_draws (T : Tx K mg)
    {F : DA} (H : ∀ (ds : List D) (Q : O → Prop), ds.length = 1 → F ds Q → r_law_draws  { nx := fun _ => Q (.sh .non), rt := fun o _ => Q o } (g0 nn_law_draws (ds.map O.sh))) : FnG P w K mg base CX0 1 T.f_law_draws T.d_law_draws ["_law_cell"] (spD 1 F) := by
  refine fnG_of T.F_law_draws sc_law_draws (fun vs H Q E h => by exact h.1) fun cdv A outer s Hp0 vs Q E hr quiet h => ⟨tS [] (r_law_draws ), PSs.nox ?_, spD_of (E := E) (N := N_law_draws) (b := r_law_draws ) (by decide) H h⟩
  have huE := hr.units
  have huS : (A.deeper (envOfC "_law_draws" (defScope s_law_draws) s.heap.objs.size T.f_law_draws cdv)).units + 1 < cLine := by have := hr.un; omega
  have huA : (A.deeper (envOfC "_law_draws" (defScope s_law_draws) s.heap.objs.size T.f_law_draws cdv)).units + 65 < cLine := by have := hr.un; omega
  exact (jb_one (js_ret (je_lst (ja_cons (je_op op_mod bin_I (je_callTy call_int1 cal_int rfl T.g_int bt_int (ja_cons (je_n 0) ja_nil)) (je_op op_powW bin_I (je_op op_powW bin_I (je_op op_powW bin_I je_int je_int) je_int) je_int)) (ja_cons je_int (ja_cons (je_cmp op_ge bin_B0 (je_n 0) (je_op op_powW bin_I je_int je_int) (nomark _)) ja_nil))))))
theorem ok_law_next (T : Tx K mg)
    {F : DB} (H : ∀ (c : O) (ds : List D) (Q : O → O → Prop), ds.length = 0 → F c ds Q → r_law_next  { nx := fun γ => ∃ c', γ[0]? = some (some c') ∧ Q (.sh .non) c', rt := fun o γ => ∃ c', γ[0]? = some (some c') ∧ Q o c' } (g0 nn_law_next (c :: ds.map O.sh))) : FnG P w K mg base CX0 1 T.f_law_next T.d_law_next ["_law_draws_here"] (spL 0 F) := by
  refine fnG_of T.F_law_next sc_law_next (fun vs H Q E h => by exact h.1) fun cdv A outer s Hp0 vs Q E hr quiet h => ⟨tS [0] (r_law_next ), PSs.nox ?_, spL_of (E := E) (N := N_law_next) (b := r_law_next ) (by decide) H h⟩
  have huE := hr.units
  have huS : (A.deeper (envOfC "_law_next" (defScope s_law_next) s.heap.objs.size T.f_law_next cdv)).units + 1 < cLine := by have := hr.un; omega
  have huA : (A.deeper (envOfC "_law_next" (defScope s_law_next) s.heap.objs.size T.f_law_next cdv)).units + 65 < cLine := by have := hr.un; omega
  exact (jb_cons (js_asg (je_op op_addA bin_add (je_peek (je_sub huS (je_n 0) je_int)) je_int) (jg_put huS (jl_n 0) je_int) (by decide))
      (jb_cons (js_set (i := 1) sc_law_next.nd rfl (Or.inl rfl) (je_peek (je_sub huS (je_n 0) je_int)) (by decide))
      (jb_cons (js_if (jt_peek (jt_val (je_sub huS (je_n 0) je_int))) (jb_cons (js_set (i := 2) sc_law_next.nd rfl (Or.inl rfl) (je_op op_mod bin_I (je_peek (je_callTy call_int1 cal_int rfl T.g_int bt_int (ja_cons (je_sub huS (je_n 0) je_int) ja_nil))) (je_op op_powW bin_I je_int je_int)) (by decide))
      (jb_cons (js_asg (je_op op_fdivW bin_I (je_peek (je_sub huS (je_n 0) je_int)) (je_op op_powW bin_I je_int je_int)) (jg_put huS (jl_n 0) je_int) (by decide))
      (jb_one (js_ret (je_mv 2))))) jb_nil)
      (jb_cons (js_set (i := 2) sc_law_next.nd rfl (Or.inl rfl) (je_op op_mod bin_I (je_peek (je_callTy call_int1 cal_int rfl T.g_int bt_int (ja_cons (je_op op_mulW bin_I (je_op op_addA bin_add (je_op op_addA bin_add (je_op op_mod bin_I (je_callTy call_int1 cal_int rfl T.g_int bt_int (ja_cons (je_sub huS (je_n 0) je_int) ja_nil)) je_int) (je_op op_mulW bin_I (je_op op_mulW bin_I (je_n 1) (je_n 1)) je_int)) (je_n 1)) je_int) ja_nil))) je_int) (by decide))
      (jb_cons (js_set (i := 2) sc_law_next.nd rfl (Or.inl rfl) (je_op op_mod bin_I (je_callTy call_int1 cal_int rfl T.g_int bt_int (ja_cons (je_op op_mulW bin_I (je_n 2) (je_n 2)) ja_nil)) je_int) (by decide))
      (jb_one (js_ret (je_op op_fdivW bin_I (je_op op_mod bin_I (je_callTy call_int1 cal_int rfl T.g_int bt_int (ja_cons (je_op op_mulW bin_I (je_n 2) (je_op op_addA bin_add (je_n 2) je_int)) ja_nil)) je_int) je_int))))))))
theorem ok_law_shuffled (T : Tx K mg) {F_law_next : DB} (G_law_next : FnG P w K mg base CX0 1 T.f_law_next T.d_law_next ["_law_draws_here"] (spL 0 F_law_next))
    {F : DB} (H : ∀ (c : O) (ds : List D) (Q : O → O → Prop), ds.length = 1 → F c ds Q → r_law_shuffled F_law_next { nx := fun γ => ∃ c', γ[0]? = some (some c') ∧ Q (.sh .non) c', rt := fun o γ => ∃ c', γ[0]? = some (some c') ∧ Q o c' } (g0 nn_law_shuffled (c :: ds.map O.sh))) : FnG P w K mg base CX0 2 T.f_law_shuffled T.d_law_shuffled ["_law_draws_here", "_law_things"] (spL 1 F) := by
  refine fnG_of T.F_law_shuffled sc_law_shuffled (fun vs H Q E h => by exact h.1) fun cdv A outer s Hp0 vs Q E hr quiet h => ⟨tS [0] (r_law_shuffled F_law_next), PSs.nox ?_, spL_of (E := E) (N := N_law_shuffled) (b := r_law_shuffled F_law_next) (by decide) H h⟩
  have huE := hr.units
  have huS : (A.deeper (envOfC "_law_shuffled" (defScope s_law_shuffled) s.heap.objs.size T.f_law_shuffled cdv)).units + 1 < cLine := by have := hr.un; omega
  have huA : (A.deeper (envOfC "_law_shuffled" (defScope s_law_shuffled) s.heap.objs.size T.f_law_shuffled cdv)).units + 65 < cLine := by have := hr.un; omega
  exact (jb_cons (js_set (i := 2) sc_law_shuffled.nd rfl (Or.inl rfl) (je_callTy call_list_of cal_list rfl T.g_list bt_list (ja_cons (je_n 1) ja_nil)) (by decide))
      (jb_cons (js_set (i := 3) sc_law_shuffled.nd rfl (Or.inl rfl) (je_lst ja_nil) (by decide))
      (jb_cons (js_while PassesOwn.never (jt_peek (jt_cmp (OpR.or (op_neD huE) op_ne) bin_qNe (je_n 2) (je_lst ja_nil) (nomark _))) (jb_one (js_expr (je_app 3 (ja_cons (je_popAt 2 (ja_cons (je_op op_mod bin_I (je_callTy call_int1 cal_int rfl T.g_int bt_int (ja_cons (je_callL 0 (G_law_next.deep (by decide)) hr quiet rfl T.m_law_next T.F_law_next.kp T.b_law_next ja_nil) ja_nil)) (je_peek (je_callB call_len cal_len rfl T.g_len bt_len (ja_cons (je_n 2) ja_nil)))) ja_nil)) ja_nil)))))
      (jb_one (js_ret (je_mv 3))))))
theorem ok_law_grown (T : Tx K mg) {F_law_next : DB} (G_law_next : FnG P w K mg base CX0 1 T.f_law_next T.d_law_next ["_law_draws_here"] (spL 0 F_law_next))
    {F : DB} (H : ∀ (c : O) (ds : List D) (Q : O → O → Prop), ds.length = 3 → F c ds Q → r_law_grown F_law_next { nx := fun γ => ∃ c', γ[0]? = some (some c') ∧ Q (.sh .non) c', rt := fun o γ => ∃ c', γ[0]? = some (some c') ∧ Q o c' } (g0 nn_law_grown (c :: ds.map O.sh))) : FnG P w K mg base CX0 2 T.f_law_grown T.d_law_grown ["_law_draws_here", "_law_size", "_law_sides", "_law_start"] (spL 3 F) := by
  refine fnG_of T.F_law_grown sc_law_grown (fun vs H Q E h => by exact h.1) fun cdv A outer s Hp0 vs Q E hr quiet h => ⟨tS [0] (r_law_grown F_law_next), PSs.nox ?_, spL_of (E := E) (N := N_law_grown) (b := r_law_grown F_law_next) (by decide) H h⟩
  have huE := hr.units
  have huS : (A.deeper (envOfC "_law_grown" (defScope s_law_grown) s.heap.objs.size T.f_law_grown cdv)).units + 1 < cLine := by have := hr.un; omega
  have huA : (A.deeper (envOfC "_law_grown" (defScope s_law_grown) s.heap.objs.size T.f_law_grown cdv)).units + 65 < cLine := by have := hr.un; omega
  exact (jb_cons (js_setLc (i := 4) (own := [("_law_side", 8)]) rfl sc_law_grown.nd rfl rfl (by decide) rfl (ji_list (je_n 2)) (blkOk_by (by rfl)) (fun _ _ _ _ _ => (jg_name (i := 8) sc_law_grown.nd rfl (Or.inl rfl))) (fun _ _ _ _ _ => jts_nil) (fun _ _ _ _ _ => (je_callTy call_list_of cal_list rfl T.g_list bt_list (ja_cons (je_n 8) ja_nil))))
      (jb_cons (js_for PassesOwn.never rfl (ji_range2 rfl T.g_range (ja_cons (je_n 3) (ja_cons (je_op op_addA bin_add (je_n 1) je_int) ja_nil))) (jg_name (i := 5) sc_law_grown.nd rfl (Or.inr rfl)) (jb_cons (js_set (i := 6) sc_law_grown.nd rfl (Or.inr rfl) (je_op op_addA bin_add je_int (je_op op_mod bin_I (je_callTy call_int1 cal_int rfl T.g_int bt_int (ja_cons (je_callL 0 (G_law_next.deep (by decide)) hr quiet rfl T.m_law_next T.F_law_next.kp T.b_law_next ja_nil) ja_nil)) (je_op op_sub bin_I0 (je_n 5) je_int))) (by decide))
      (jb_cons (js_setLc (i := 7) (own := [("_law_low", 9), ("_law_high", 10)]) rfl sc_law_grown.nd rfl rfl (by decide) rfl (ji_list (je_n 4)) (blkOk_by (by rfl)) (fun _ _ _ _ _ => (jg_tup (ws := [9, 10]) (is := [9, 10]) rfl (jgs_cons (ws := [9, 10]) sc_law_grown.nd rfl (Or.inl rfl) (by decide) (jgs_cons (ws := [9, 10]) sc_law_grown.nd rfl (Or.inl rfl) (by decide) jgs_nil)))) (fun _ _ _ _ _ => (jts_one (jt_cmp (op_inA huA) bin_in (je_n 6) (je_lst (ja_cons (je_n 9) (ja_cons (je_n 10) ja_nil))) ))) (fun _ _ _ _ _ => (je_op op_sub bin_I0 (je_op op_addA bin_add (je_n 9) (je_n 10)) (je_n 6))))
      (jb_one (js_set (i := 4) sc_law_grown.nd rfl (Or.inl rfl) (je_op op_addA bin_add (je_op op_addA bin_add (je_n 4) (je_lst (ja_cons (je_lst (ja_cons (je_n 6) (ja_cons (je_n 5) ja_nil))) ja_nil))) (je_lc (own := [("_law_mate", 11)]) rfl sc_law_grown.nd (ji_list (je_n 7)) (blkOk_by (by rfl)) (fun _ _ _ _ _ => (jg_name (i := 11) sc_law_grown.nd rfl (Or.inl rfl))) (fun _ _ _ _ _ => (jts_one (jt_cmp (OpR.or (op_eqD huE) op_eq) bin_qEq (je_op op_mod bin_I (je_callTy call_int1 cal_int rfl T.g_int bt_int (ja_cons (je_callL 0 (G_law_next.deep (by decide)) hr quiet rfl T.m_law_next T.F_law_next.kp T.b_law_next ja_nil) ja_nil)) je_int) je_int (nomark _)))) (fun _ _ _ _ _ => (je_lst (ja_cons (je_n 11) (ja_cons (je_n 5) ja_nil)))))) (by decide))))) (by decide))
      (jb_one (js_ret (je_mv 4)))))
theorem ok_law_web (T : Tx K mg) {F_law_next : DB} (G_law_next : FnG P w K mg base CX0 1 T.f_law_next T.d_law_next ["_law_draws_here"] (spL 0 F_law_next)) {F_law_grown : DB} (G_law_grown : FnG P w K mg base CX0 2 T.f_law_grown T.d_law_grown ["_law_draws_here", "_law_size", "_law_sides", "_law_start"] (spL 3 F_law_grown)) {F_law_shuffled : DB} (G_law_shuffled : FnG P w K mg base CX0 2 T.f_law_shuffled T.d_law_shuffled ["_law_draws_here", "_law_things"] (spL 1 F_law_shuffled))
    {F : DB} (H : ∀ (c : O) (ds : List D) (Q : O → O → Prop), ds.length = 2 → F c ds Q → r_law_web F_law_next F_law_grown F_law_shuffled { nx := fun γ => ∃ c', γ[0]? = some (some c') ∧ Q (.sh .non) c', rt := fun o γ => ∃ c', γ[0]? = some (some c') ∧ Q o c' } (g0 nn_law_web (c :: ds.map O.sh))) : FnG P w K mg base CX0 3 T.f_law_web T.d_law_web ["_law_draws_here", "_law_size", "_law_kind"] (spL 2 F) := by
  refine fnG_of T.F_law_web sc_law_web (fun vs H Q E h => by exact h.1) fun cdv A outer s Hp0 vs Q E hr quiet h => ⟨tS [0] (r_law_web F_law_next F_law_grown F_law_shuffled), PSs.nox ?_, spL_of (E := E) (N := N_law_web) (b := r_law_web F_law_next F_law_grown F_law_shuffled) (by decide) H h⟩
  have huE := hr.units
  have huS : (A.deeper (envOfC "_law_web" (defScope s_law_web) s.heap.objs.size T.f_law_web cdv)).units + 1 < cLine := by have := hr.un; omega
  have huA : (A.deeper (envOfC "_law_web" (defScope s_law_web) s.heap.objs.size T.f_law_web cdv)).units + 65 < cLine := by have := hr.un; omega
  exact (jb_cons (js_if (jt_cmp (OpR.or (op_eqD huE) op_eq) bin_qEq (je_n 2) je_int (nomark _)) (jb_cons (js_set (i := 3) sc_law_web.nd rfl (Or.inr rfl) (je_op op_addA bin_add je_int (je_op op_mod bin_I (je_callTy call_int1 cal_int rfl T.g_int bt_int (ja_cons (je_callL 0 (G_law_next.deep (by decide)) hr quiet rfl T.m_law_next T.F_law_next.kp T.b_law_next ja_nil) ja_nil)) je_int)) (by decide))
      (jb_cons (js_set (i := 4) sc_law_web.nd rfl (Or.inl rfl) (je_lst ja_nil) (by decide))
      (jb_one (js_for PassesOwn.never rfl (ji_range2 rfl T.g_range (ja_cons je_int (ja_cons (je_op op_addA bin_add (je_n 1) je_int) ja_nil))) (jg_name (i := 5) sc_law_web.nd rfl (Or.inr rfl)) (jb_one (js_set (i := 4) sc_law_web.nd rfl (Or.inl rfl) (je_op op_addA bin_add (je_n 4) (je_lc (own := [("_law_high", 9)]) rfl sc_law_web.nd (ji_range2 rfl T.g_range (ja_cons (je_op op_addA bin_add (je_n 5) je_int) (ja_cons (je_op op_addA bin_add (je_n 1) je_int) ja_nil))) (blkOk_by (by rfl)) (fun _ _ _ _ _ => (jg_name (i := 9) sc_law_web.nd rfl (Or.inl rfl))) (fun _ _ _ _ _ => (jts_one (jt_cmp (OpR.or (op_eqD huE) op_eq) bin_qEq (je_op op_mod bin_I (je_callTy call_int1 cal_int rfl T.g_int bt_int (ja_cons (je_callL 0 (G_law_next.deep (by decide)) hr quiet rfl T.m_law_next T.F_law_next.kp T.b_law_next ja_nil) ja_nil)) (je_n 3)) je_int (nomark _)))) (fun _ _ _ _ _ => (je_lst (ja_cons (je_n 5) (ja_cons (je_n 9) ja_nil)))))) (by decide))) (by decide))))) jb_nil)
      (jb_cons (js_if (jt_cmp (OpR.or (op_eqD huE) op_eq) bin_qEq (je_n 2) je_int (nomark _)) (jb_one (js_set (i := 4) sc_law_web.nd rfl (Or.inl rfl) (je_callL 0 (G_law_grown.deep (by decide)) hr quiet rfl T.m_law_grown T.F_law_grown.kp T.b_law_grown (ja_cons (je_n 1) (ja_cons (je_lst ja_nil) (ja_cons je_int ja_nil)))) (by decide))) jb_nil)
      (jb_cons (js_if (jt_cmp (OpR.or (op_eqD huE) op_eq) bin_qEq (je_n 2) je_int (nomark _)) (jb_cons (js_set (i := 6) sc_law_web.nd rfl (Or.inr rfl) (je_callB (call_min2 rfl) cal_min2 rfl T.g_min bt_min (ja_cons (je_n 1) (ja_cons (je_op op_addA bin_add je_int (je_op op_mod bin_I (je_callTy call_int1 cal_int rfl T.g_int bt_int (ja_cons (je_callL 0 (G_law_next.deep (by decide)) hr quiet rfl T.m_law_next T.F_law_next.kp T.b_law_next ja_nil) ja_nil)) je_int)) ja_nil))) (by decide))
      (jb_cons (js_set (i := 7) sc_law_web.nd rfl (Or.inl rfl) (je_ifExp (jt_cmp op_gt bin_B0 (je_n 6) je_int (nomark _)) (je_lc (own := [("_law_spot", 10)]) rfl sc_law_web.nd (ji_range2 rfl T.g_range (ja_cons je_int (ja_cons (je_op op_addA bin_add (je_n 6) je_int) ja_nil))) (blkOk_by (by rfl)) (fun _ _ _ _ _ => (jg_name (i := 10) sc_law_web.nd rfl (Or.inl rfl))) (fun _ _ _ _ _ => jts_nil) (fun _ _ _ _ _ => (je_lst (ja_cons (je_n 10) (ja_cons (je_op op_addA bin_add (je_op op_mod bin_I (je_n 10) (je_n 6)) je_int) ja_nil))))) (je_lst ja_nil)) (by decide))
      (jb_one (js_set (i := 4) sc_law_web.nd rfl (Or.inl rfl) (je_callL 0 (G_law_grown.deep (by decide)) hr quiet rfl T.m_law_grown T.F_law_grown.kp T.b_law_grown (ja_cons (je_n 1) (ja_cons (je_n 7) (ja_cons (je_op op_addA bin_add (je_n 6) je_int) ja_nil)))) (by decide))))) jb_nil)
      (jb_cons (js_set (i := 8) sc_law_web.nd rfl (Or.inr rfl) (je_op op_addA bin_add (je_lst (ja_cons je_int ja_nil)) (je_callL 0 (G_law_shuffled.deep (by decide)) hr quiet rfl T.m_law_shuffled T.F_law_shuffled.kp T.b_law_shuffled (ja_cons (je_listRg rfl rfl T.g_list (jr_2 rfl T.g_range je_int (je_op op_addA bin_add (je_n 1) je_int))) ja_nil))) (by decide))
      (jb_cons (js_setLc (i := 4) (own := [("_law_low", 5), ("_law_high", 9)]) rfl sc_law_web.nd rfl rfl (by decide) rfl (ji_list (je_n 4)) (blkOk_by (by rfl)) (fun _ _ _ _ _ => (jg_tup (ws := [5, 9]) (is := [5, 9]) rfl (jgs_cons (ws := [5, 9]) sc_law_web.nd rfl (Or.inl rfl) (by decide) (jgs_cons (ws := [5, 9]) sc_law_web.nd rfl (Or.inl rfl) (by decide) jgs_nil)))) (fun _ _ _ _ _ => jts_nil) (fun _ _ _ _ _ => (je_lst (ja_cons (je_sub huS (je_n 8) (je_n 5)) (ja_cons (je_sub huS (je_n 8) (je_n 9)) ja_nil)))))
      (jb_one (js_ret (je_callL 0 (G_law_shuffled.deep (by decide)) hr quiet rfl T.m_law_shuffled T.F_law_shuffled.kp T.b_law_shuffled (ja_cons (je_lc (own := [("_law_side", 11)]) rfl sc_law_web.nd (ji_list (je_n 4)) (blkOk_by (by rfl)) (fun _ _ _ _ _ => (jg_name (i := 11) sc_law_web.nd rfl (Or.inl rfl))) (fun _ _ _ _ _ => jts_nil) (fun _ _ _ _ _ => (je_step (je_n 11) (je_sub huS (je_lst (ja_cons je_int (ja_cons (je_neg je_int) ja_nil))) (je_op op_mod bin_I (je_callTy call_int1 cal_int rfl T.g_int bt_int (ja_cons (je_callL 0 (G_law_next.deep (by decide)) hr quiet rfl T.m_law_next T.F_law_next.kp T.b_law_next ja_nil) ja_nil)) je_int))))) ja_nil)))))))))
theorem ok_law_near (T : Tx K mg)
    {F : DA} (H : ∀ (ds : List D) (Q : O → Prop), ds.length = 2 → F ds Q → r_law_near  { nx := fun _ => Q (.sh .non), rt := fun o _ => Q o } (g0 nn_law_near (ds.map O.sh))) : FnG P w K mg base CX0 1 T.f_law_near T.d_law_near ["_law_size", "_law_sides"] (spD 2 F) := by
  refine fnG_of T.F_law_near sc_law_near (fun vs H Q E h => by exact h.1) fun cdv A outer s Hp0 vs Q E hr quiet h => ⟨tS [] (r_law_near ), PSs.nox ?_, spD_of (E := E) (N := N_law_near) (b := r_law_near ) (by decide) H h⟩
  have huE := hr.units
  have huS : (A.deeper (envOfC "_law_near" (defScope s_law_near) s.heap.objs.size T.f_law_near cdv)).units + 1 < cLine := by have := hr.un; omega
  have huA : (A.deeper (envOfC "_law_near" (defScope s_law_near) s.heap.objs.size T.f_law_near cdv)).units + 65 < cLine := by have := hr.un; omega
  exact (jb_cons (js_set (i := 2) sc_law_near.nd rfl (Or.inl rfl) (je_op op_addA bin_add (je_lst (ja_cons (je_lst ja_nil) ja_nil)) (je_lc (own := [("_law_spot", 5)]) rfl sc_law_near.nd (ji_range2 rfl T.g_range (ja_cons je_int (ja_cons (je_op op_addA bin_add (je_n 0) je_int) ja_nil))) (blkOk_by (by rfl)) (fun _ _ _ _ _ => (jg_name (i := 5) sc_law_near.nd rfl (Or.inl rfl))) (fun _ _ _ _ _ => jts_nil) (fun _ _ _ _ _ => (je_lst (ja_cons (je_n 5) ja_nil))))) (by decide))
      (jb_cons (js_for PassesOwn.never rfl (ji_list (je_n 1)) (jg_tup (ws := [3, 4]) (is := [3, 4]) rfl (jgs_cons (ws := [3, 4]) sc_law_near.nd rfl (Or.inl rfl) (by decide) (jgs_cons (ws := [3, 4]) sc_law_near.nd rfl (Or.inl rfl) (by decide) jgs_nil))) (jb_cons (js_expr (je_appL (jl_at huS (jl_n 2) (jx_n 3)) (ja_cons (je_n 4) ja_nil)))
      (jb_one (js_expr (je_appL (jl_at huS (jl_n 2) (jx_n 4)) (ja_cons (je_n 3) ja_nil))))) (by decide))
      (jb_one (js_ret (je_mv 2)))))
theorem ok_law_right (T : Tx K mg) {F_law_near : DA} (G_law_near : FnG P w K mg base CX0 1 T.f_law_near T.d_law_near ["_law_size", "_law_sides"] (spD 2 F_law_near)) {F_beside : DA} (G_beside : FnG P w K mg base CX0 6 T.f_beside T.d_beside ["places", "lines", "place"] (spD 3 F_beside))
    {F : DA} (H : ∀ (ds : List D) (Q : O → Prop), ds.length = 2 → F ds Q → r_law_right F_law_near F_beside { nx := fun _ => Q (.sh .non), rt := fun o _ => Q o } (g0 nn_law_right (ds.map O.sh))) : FnG P w K mg base CX0 7 T.f_law_right T.d_law_right ["_law_size", "_law_sides"] (spD 2 F) := by
  refine fnG_of T.F_law_right sc_law_right (fun vs H Q E h => by exact h.1) fun cdv A outer s Hp0 vs Q E hr quiet h => ⟨tS [] (r_law_right F_law_near F_beside), PSs.nox ?_, spD_of (E := E) (N := N_law_right) (b := r_law_right F_law_near F_beside) (by decide) H h⟩
  have huE := hr.units
  have huS : (A.deeper (envOfC "_law_right" (defScope s_law_right) s.heap.objs.size T.f_law_right cdv)).units + 1 < cLine := by have := hr.un; omega
  have huA : (A.deeper (envOfC "_law_right" (defScope s_law_right) s.heap.objs.size T.f_law_right cdv)).units + 65 < cLine := by have := hr.un; omega
  exact (jb_cons (js_set (i := 2) sc_law_right.nd rfl (Or.inl rfl) (je_callB (call_repr hr.units quiet) cal_repr rfl T.g_repr bt_repr (ja_cons (je_n 1) ja_nil)) (by decide))
      (jb_cons (js_set (i := 3) sc_law_right.nd rfl (Or.inl rfl) (je_call (G_law_near.deep (by decide)) hr quiet rfl T.m_law_near T.F_law_near.kp T.b_law_near (ja_cons (je_n 0) (ja_cons (je_n 1) ja_nil))) (by decide))
      (jb_cons (js_for PassesOwn.never rfl (ji_range2 rfl T.g_range (ja_cons je_int (ja_cons (je_op op_addA bin_add (je_n 0) je_int) ja_nil))) (jg_name (i := 4) sc_law_right.nd rfl (Or.inl rfl)) (jb_cons (js_set (i := 5) sc_law_right.nd rfl (Or.inl rfl) (je_callB cr_sorted kSorted_ok rfl T.g_sorted bt_sorted (ja_cons (je_sub huS (je_n 3) (je_n 4)) ja_nil)) (by decide))
      (jb_cons (js_set (i := 6) sc_law_right.nd rfl (Or.inl rfl) (je_lst (ja_cons (je_call (G_beside.deep (by decide)) hr quiet rfl T.m_beside T.F_beside.kp T.b_beside (ja_cons (je_n 0) (ja_cons (je_n 1) (ja_cons (je_n 4) ja_nil)))) (ja_cons (je_callK (ix := [2, 1, 0]) (G_beside.deep (by decide)) hr quiet rfl T.m_beside T.F_beside.kp T.k_beside__place_lines_places (by decide) rfl (jk_cons (je_n 4) (jk_cons (je_n 1) (jk_cons (je_n 0) jk_nil)))) ja_nil))) (by decide))
      (jb_cons (js_if (jt_w (jw_or (jt_peek (jt_cmp (OpR.or (op_neD huE) op_ne) bin_qNe (je_callB (call_repr hr.units quiet) cal_repr rfl T.g_repr bt_repr (ja_cons (je_n 6) ja_nil)) (je_callB (call_repr hr.units quiet) cal_repr rfl T.g_repr bt_repr (ja_cons (je_lst (ja_cons (je_n 5) (ja_cons (je_n 5) ja_nil))) ja_nil)) (nomark _))) (jw_or1 (jt_cmp (OpR.or (op_neD huE) op_ne) bin_qNe (je_callB (call_repr hr.units quiet) cal_repr rfl T.g_repr bt_repr (ja_cons (je_n 1) ja_nil)) (je_n 2) (nomark _))))) (jb_one (js_ret je_bl)) jb_nil)
      (jb_cons (js_expr (je_appL (jl_at huS (jl_n 6) jx_int) (ja_cons je_non ja_nil)))
      (jb_one (js_if (jt_cmp (OpR.or (op_neD huE) op_ne) bin_qNe (je_callB (call_repr hr.units quiet) cal_repr rfl T.g_repr bt_repr (ja_cons (je_call (G_beside.deep (by decide)) hr quiet rfl T.m_beside T.F_beside.kp T.b_beside (ja_cons (je_n 0) (ja_cons (je_n 1) (ja_cons (je_n 4) ja_nil)))) ja_nil)) (je_callB (call_repr hr.units quiet) cal_repr rfl T.g_repr bt_repr (ja_cons (je_n 5) ja_nil)) (nomark _)) (jb_one (js_ret je_bl)) jb_nil)))))) (by decide))
      (jb_one (js_ret je_bl)))))
theorem ok_law_product (T : Tx K mg) {F_law_near : DA} (G_law_near : FnG P w K mg base CX0 1 T.f_law_near T.d_law_near ["_law_size", "_law_sides"] (spD 2 F_law_near))
    {F : DA} (H : ∀ (ds : List D) (Q : O → Prop), ds.length = 4 → F ds Q → r_law_product F_law_near { nx := fun _ => Q (.sh .non), rt := fun o _ => Q o } (g0 nn_law_product (ds.map O.sh))) : FnG P w K mg base CX0 2 T.f_law_product T.d_law_product ["_law_size", "_law_sides", "_law_far", "_law_bars"] (spD 4 F) := by
  refine fnG_of T.F_law_product sc_law_product (fun vs H Q E h => by exact h.1) fun cdv A outer s Hp0 vs Q E hr quiet h => ⟨tS [] (r_law_product F_law_near), PSs.nox ?_, spD_of (E := E) (N := N_law_product) (b := r_law_product F_law_near) (by decide) H h⟩
  have huE := hr.units
  have huS : (A.deeper (envOfC "_law_product" (defScope s_law_product) s.heap.objs.size T.f_law_product cdv)).units + 1 < cLine := by have := hr.un; omega
  have huA : (A.deeper (envOfC "_law_product" (defScope s_law_product) s.heap.objs.size T.f_law_product cdv)).units + 65 < cLine := by have := hr.un; omega
  exact (jb_cons (js_par (i := 4) (j := 5) rfl sc_law_product.nd rfl rfl (by decide) rfl rfl (ja_cons (je_call (G_law_near.deep (by decide)) hr quiet rfl T.m_law_near T.F_law_near.kp T.b_law_near (ja_cons (je_n 0) (ja_cons (je_n 1) ja_nil))) (ja_cons (je_call (G_law_near.deep (by decide)) hr quiet rfl T.m_law_near T.F_law_near.kp T.b_law_near (ja_cons (je_n 2) (ja_cons (je_n 3) ja_nil))) ja_nil)) (by decide))
      (jb_cons (js_set (i := 6) sc_law_product.nd rfl (Or.inl rfl) (je_lst ja_nil) (by decide))
      (jb_cons (js_for PassesOwn.never rfl (ji_range2 rfl T.g_range (ja_cons je_int (ja_cons (je_op op_addA bin_add (je_n 0) je_int) ja_nil))) (jg_name (i := 7) sc_law_product.nd rfl (Or.inr rfl)) (jb_one (js_set (i := 6) sc_law_product.nd rfl (Or.inl rfl) (je_op op_addA bin_add (je_n 6) (je_lc (own := [("_law_two", 13)]) rfl sc_law_product.nd (ji_range2 rfl T.g_range (ja_cons je_int (ja_cons (je_op op_addA bin_add (je_n 2) je_int) ja_nil))) (blkOk_by (by rfl)) (fun _ _ _ _ _ => (jg_name (i := 13) sc_law_product.nd rfl (Or.inl rfl))) (fun _ _ _ _ _ => jts_nil) (fun _ _ _ _ _ => (je_tup (ja_cons (je_n 7) (ja_cons (je_n 13) ja_nil)))))) (by decide))) (by decide))
      (jb_cons (js_set (i := 8) sc_law_product.nd rfl (Or.inl rfl) (je_lst ja_nil) (by decide))
      (jb_cons (js_for PassesOwn.never rfl (ji_enum rfl T.g_enumerate (ja_cons (je_n 6) ja_nil)) (jg_tup (ws := [9, 10]) (is := [9, 10]) rfl (jgs_cons (ws := [9, 10]) sc_law_product.nd rfl (Or.inl rfl) (by decide) (jgs_cons (ws := [9, 10]) sc_law_product.nd rfl (Or.inl rfl) (by decide) jgs_nil))) (jb_one (js_for PassesOwn.never rfl (ji_enum rfl T.g_enumerate (ja_cons (je_n 6) ja_nil)) (jg_tup (ws := [11, 12]) (is := [11, 12]) rfl (jgs_cons (ws := [11, 12]) sc_law_product.nd rfl (Or.inl rfl) (by decide) (jgs_cons (ws := [11, 12]) sc_law_product.nd rfl (Or.inl rfl) (by decide) jgs_nil))) (jb_one (js_if (jt_w (jw_and (jt_cmp op_gt bin_B0 (je_n 11) (je_n 9) (nomark _)) (jw_and (jt_cmp (op_inA huA) bin_in (je_sub huS (je_n 12) je_int) (je_sub huS (je_n 4) (je_sub huS (je_n 10) je_int)) ) (jw_and1 (jt_cmp (op_inA huA) bin_in (je_sub huS (je_n 12) je_int) (je_sub huS (je_n 5) (je_sub huS (je_n 10) je_int)) ))))) (jb_one (js_expr (je_app 8 (ja_cons (je_lst (ja_cons (je_op op_addA bin_add (je_n 9) je_int) (ja_cons (je_op op_addA bin_add (je_n 11) je_int) ja_nil))) ja_nil)))) jb_nil)) (by decide))) (by decide))
      (jb_one (js_ret (je_tup (ja_cons (je_op op_mulW bin_I (je_n 0) (je_n 2)) (ja_cons (je_mv 8) ja_nil))))))))))
theorem ok_law_product_right (T : Tx K mg) {F_law_product : DA} (G_law_product : FnG P w K mg base CX0 2 T.f_law_product T.d_law_product ["_law_size", "_law_sides", "_law_far", "_law_bars"] (spD 4 F_law_product)) {F_product : DA} (G_product : FnG P w K mg base CX0 6 T.f_product T.d_product ["places", "lines", "more", "ties"] (spD 4 F_product))
    {F : DA} (H : ∀ (ds : List D) (Q : O → Prop), ds.length = 4 → F ds Q → r_law_product_right F_law_product F_product { nx := fun _ => Q (.sh .non), rt := fun o _ => Q o } (g0 nn_law_product_right (ds.map O.sh))) : FnG P w K mg base CX0 7 T.f_law_product_right T.d_law_product_right ["_law_size", "_law_sides", "_law_far", "_law_bars"] (spD 4 F) := by
  refine fnG_of T.F_law_product_right sc_law_product_right (fun vs H Q E h => by exact h.1) fun cdv A outer s Hp0 vs Q E hr quiet h => ⟨tS [] (r_law_product_right F_law_product F_product), PSs.nox ?_, spD_of (E := E) (N := N_law_product_right) (b := r_law_product_right F_law_product F_product) (by decide) H h⟩
  have huE := hr.units
  have huS : (A.deeper (envOfC "_law_product_right" (defScope s_law_product_right) s.heap.objs.size T.f_law_product_right cdv)).units + 1 < cLine := by have := hr.un; omega
  have huA : (A.deeper (envOfC "_law_product_right" (defScope s_law_product_right) s.heap.objs.size T.f_law_product_right cdv)).units + 65 < cLine := by have := hr.un; omega
  exact (jb_cons (js_set (i := 4) sc_law_product_right.nd rfl (Or.inl rfl) (je_callB (call_repr hr.units quiet) cal_repr rfl T.g_repr bt_repr (ja_cons (je_lst (ja_cons (je_n 1) (ja_cons (je_n 3) ja_nil))) ja_nil)) (by decide))
      (jb_cons (js_set (i := 5) sc_law_product_right.nd rfl (Or.inl rfl) (je_call (G_law_product.deep (by decide)) hr quiet rfl T.m_law_product T.F_law_product.kp T.b_law_product (ja_cons (je_n 0) (ja_cons (je_n 1) (ja_cons (je_n 2) (ja_cons (je_n 3) ja_nil))))) (by decide))
      (jb_cons (js_set (i := 6) sc_law_product_right.nd rfl (Or.inl rfl) (je_lst (ja_cons (je_call (G_product.deep (by decide)) hr quiet rfl T.m_product T.F_product.kp T.b_product (ja_cons (je_n 0) (ja_cons (je_n 1) (ja_cons (je_n 2) (ja_cons (je_n 3) ja_nil))))) (ja_cons (je_callK (ix := [3, 2, 1, 0]) (G_product.deep (by decide)) hr quiet rfl T.m_product T.F_product.kp T.k_product__ties_more_lines_places (by decide) rfl (jk_cons (je_n 3) (jk_cons (je_n 2) (jk_cons (je_n 1) (jk_cons (je_n 0) jk_nil))))) ja_nil))) (by decide))
      (jb_cons (js_if (jt_w (jw_or (jt_peek (jt_cmp (OpR.or (op_neD huE) op_ne) bin_qNe (je_callB (call_repr hr.units quiet) cal_repr rfl T.g_repr bt_repr (ja_cons (je_n 6) ja_nil)) (je_callB (call_repr hr.units quiet) cal_repr rfl T.g_repr bt_repr (ja_cons (je_lst (ja_cons (je_n 5) (ja_cons (je_n 5) ja_nil))) ja_nil)) (nomark _))) (jw_or1 (jt_cmp (OpR.or (op_neD huE) op_ne) bin_qNe (je_callB (call_repr hr.units quiet) cal_repr rfl T.g_repr bt_repr (ja_cons (je_lst (ja_cons (je_n 1) (ja_cons (je_n 3) ja_nil))) ja_nil)) (je_n 4) (nomark _))))) (jb_one (js_ret je_bl)) jb_nil)
      (jb_cons (js_forIn (i := 6) (x := 7) PassesOwn.never rfl (jl_at huS (jl_at huS (jl_n 6) jx_int) jx_int) sc_law_product_right.nd rfl (Or.inl rfl) (jb_one (js_expr (je_app 7 (ja_cons je_non ja_nil)))) (by decide) (by decide))
      (jb_cons (js_if (jt_peek (jt_cmp (OpR.or (op_neD huE) op_ne) bin_qNe (je_lc (own := [("_law_side", 7)]) rfl sc_law_product_right.nd (ji_list (je_sub huS (je_sub huS (je_n 6) je_int) je_int)) (blkOk_by (by rfl)) (fun _ _ _ _ _ => (jg_name (i := 7) sc_law_product_right.nd rfl (Or.inl rfl))) (fun _ _ _ _ _ => (jts_one (jt_cmp (OpR.or (op_neD huE) op_ne) bin_qNe (je_cnt huA (je_n 7) (ja_cons je_non ja_nil)) je_int (nomark _)))) (fun _ _ _ _ _ => (je_n 7))) (je_lst ja_nil) (nomark _))) (jb_one (js_ret je_bl)) jb_nil)
      (jb_cons (js_expr (je_appL (jl_at huS (jl_at huS (jl_n 6) jx_int) jx_int) (ja_cons je_non ja_nil)))
      (jb_one (js_ret (je_cmp (OpR.or (op_eqD huE) op_eq) bin_qEq (je_callB (call_repr hr.units quiet) cal_repr rfl T.g_repr bt_repr (ja_cons (je_call (G_product.deep (by decide)) hr quiet rfl T.m_product T.F_product.kp T.b_product (ja_cons (je_n 0) (ja_cons (je_n 1) (ja_cons (je_n 2) (ja_cons (je_n 3) ja_nil))))) ja_nil)) (je_callB (call_repr hr.units quiet) cal_repr rfl T.g_repr bt_repr (ja_cons (je_n 5) ja_nil)) (nomark _)))))))))))
theorem ok_law (T : Tx K mg) {F_law_next : DB} (G_law_next : FnG P w K mg base CX0 1 T.f_law_next T.d_law_next ["_law_draws_here"] (spL 0 F_law_next)) {F_law_web : DB} (G_law_web : FnG P w K mg base CX0 3 T.f_law_web T.d_law_web ["_law_draws_here", "_law_size", "_law_kind"] (spL 2 F_law_web)) {F_law_right : DA} (G_law_right : FnG P w K mg base CX0 7 T.f_law_right T.d_law_right ["_law_size", "_law_sides"] (spD 2 F_law_right)) {F_law_shuffled : DB} (G_law_shuffled : FnG P w K mg base CX0 2 T.f_law_shuffled T.d_law_shuffled ["_law_draws_here", "_law_things"] (spL 1 F_law_shuffled)) {F_law_product_right : DA} (G_law_product_right : FnG P w K mg base CX0 7 T.f_law_product_right T.d_law_product_right ["_law_size", "_law_sides", "_law_far", "_law_bars"] (spD 4 F_law_product_right)) {F_law_draws : DA} (G_law_draws : FnG P w K mg base CX0 1 T.f_law_draws T.d_law_draws ["_law_cell"] (spD 1 F_law_draws)) {F_beside : DA} (G_beside : FnG P w K mg base CX0 6 T.f_beside T.d_beside ["places", "lines", "place"] (spD 3 F_beside)) {F_product : DA} (G_product : FnG P w K mg base CX0 6 T.f_product T.d_product ["places", "lines", "more", "ties"] (spD 4 F_product))
    (H : ∀ ns : List Int, ns.length ≤ 63 → r_law K F_law_next F_law_web F_law_right F_law_shuffled F_law_product_right F_law_draws F_beside F_product { nx := fun _ => False, rt := fun o _ => o = .sh (.bl true) } (g0 nn_law [.scr K ns])) : FnG P w K mg base CX0 8 T.f_law T.d_law ["_law_script"] (spLaw K 63) := by
  refine fnG_of T.F_law sc_law (fun vs H Q E h => by obtain ⟨_, _, _, _, rfl, _⟩ := h; rfl) fun cdv A outer s Hp0 vs Q E hr quiet h => ⟨tS [] (r_law K F_law_next F_law_web F_law_right F_law_shuffled F_law_product_right F_law_draws F_beside F_product), PSs.nox ?_, spLaw_of (E := E) (N := N_law) (b := r_law K F_law_next F_law_web F_law_right F_law_shuffled F_law_product_right F_law_draws F_beside F_product) (by decide) H h⟩
  have huE := hr.units
  have huS : (A.deeper (envOfC "law" (defScope s_law) s.heap.objs.size T.f_law cdv)).units + 1 < cLine := by have := hr.un; omega
  have huA : (A.deeper (envOfC "law" (defScope s_law) s.heap.objs.size T.f_law cdv)).units + 65 < cLine := by have := hr.un; omega
  exact (jb_cons (js_for PassesOwn.never rfl (ji_list (je_lc (own := [("_law_cell", 8)]) rfl sc_law.nd (ji_list (je_op op_addA bin_add (je_scr 0) (je_lst (ja_cons je_int ja_nil)))) (blkOk_by (by rfl)) (fun _ _ _ _ _ => (jg_name (i := 8) sc_law.nd rfl (Or.inl rfl))) (fun _ _ _ _ _ => jts_nil) (fun _ _ _ _ _ => (je_call (G_law_draws.deep (by decide)) hr quiet rfl T.m_law_draws T.F_law_draws.kp T.b_law_draws (ja_cons (je_n 8) ja_nil))))) (jg_name (i := 1) sc_law.nd rfl (Or.inl rfl)) (jb_one (js_for PassesOwn.never rfl (ji_range1 rfl T.g_range (ja_cons je_int ja_nil)) (jg_name (i := 2) sc_law.nd rfl (Or.inl rfl)) (jb_cons (js_set (i := 3) sc_law.nd rfl (Or.inl rfl) (je_op op_addA bin_add je_int (je_op op_mod bin_I (je_callTy call_int1 cal_int rfl T.g_int bt_int (ja_cons (je_callL 1 (G_law_next.deep (by decide)) hr quiet rfl T.m_law_next T.F_law_next.kp T.b_law_next ja_nil) ja_nil)) je_int)) (by decide))
      (jb_cons (js_set (i := 4) sc_law.nd rfl (Or.inl rfl) (je_callL 1 (G_law_web.deep (by decide)) hr quiet rfl T.m_law_web T.F_law_web.kp T.b_law_web (ja_cons (je_n 3) (ja_cons (je_n 2) ja_nil))) (by decide))
      (jb_cons (js_if (jt_w (jw_or (jt_not (jt_val (je_call (G_law_right.deep (by decide)) hr quiet rfl T.m_law_right T.F_law_right.kp T.b_law_right (ja_cons (je_n 3) (ja_cons (je_n 4) ja_nil))))) (jw_or1 (jt_not (jt_val (je_call (G_law_right.deep (by decide)) hr quiet rfl T.m_law_right T.F_law_right.kp T.b_law_right (ja_cons (je_n 3) (ja_cons (je_callL 1 (G_law_shuffled.deep (by decide)) hr quiet rfl T.m_law_shuffled T.F_law_shuffled.kp T.b_law_shuffled (ja_cons (je_n 4) ja_nil)) ja_nil)))))))) (jb_one (js_ret je_bl)) jb_nil)
      (jb_cons (js_set (i := 3) sc_law.nd rfl (Or.inl rfl) (je_op op_addA bin_add je_int (je_op op_mod bin_I (je_callTy call_int1 cal_int rfl T.g_int bt_int (ja_cons (je_callL 1 (G_law_next.deep (by decide)) hr quiet rfl T.m_law_next T.F_law_next.kp T.b_law_next ja_nil) ja_nil)) je_int)) (by decide))
      (jb_cons (js_set (i := 5) sc_law.nd rfl (Or.inl rfl) (je_op op_addA bin_add je_int (je_op op_mod bin_I (je_callTy call_int1 cal_int rfl T.g_int bt_int (ja_cons (je_callL 1 (G_law_next.deep (by decide)) hr quiet rfl T.m_law_next T.F_law_next.kp T.b_law_next ja_nil) ja_nil)) (je_op op_fdivW bin_I je_int (je_n 3)))) (by decide))
      (jb_cons (js_set (i := 6) sc_law.nd rfl (Or.inl rfl) (je_callL 1 (G_law_web.deep (by decide)) hr quiet rfl T.m_law_web T.F_law_web.kp T.b_law_web (ja_cons (je_n 5) (ja_cons (je_op op_mod bin_I (je_callTy call_int1 cal_int rfl T.g_int bt_int (ja_cons (je_callL 1 (G_law_next.deep (by decide)) hr quiet rfl T.m_law_next T.F_law_next.kp T.b_law_next ja_nil) ja_nil)) je_int) ja_nil))) (by decide))
      (jb_one (js_if (jt_not (jt_val (je_call (G_law_product_right.deep (by decide)) hr quiet rfl T.m_law_product_right T.F_law_product_right.kp T.b_law_product_right (ja_cons (je_n 3) (ja_cons (je_callL 1 (G_law_web.deep (by decide)) hr quiet rfl T.m_law_web T.F_law_web.kp T.b_law_web (ja_cons (je_n 3) (ja_cons (je_n 2) ja_nil))) (ja_cons (je_n 5) (ja_cons (je_n 6) ja_nil))))))) (jb_one (js_ret je_bl)) jb_nil)))))))) (by decide))) (by decide))
      (jb_cons (js_if (jt_w (jw_or (jt_cmp (OpR.or (op_neD huE) op_ne) bin_qNe (je_call (G_beside.deep (by decide)) hr quiet rfl T.m_beside T.F_beside.kp T.b_beside (ja_cons je_int (ja_cons (je_lst (ja_cons (je_lst (ja_cons je_int (ja_cons je_int ja_nil))) (ja_cons (je_lst (ja_cons je_int (ja_cons je_int ja_nil))) (ja_cons (je_lst (ja_cons je_int (ja_cons je_int ja_nil))) ja_nil)))) (ja_cons je_int ja_nil)))) (je_lst (ja_cons je_int (ja_cons je_int (ja_cons je_int ja_nil)))) (nomark _)) (jw_or1 (jt_cmp (OpR.or (op_neD huE) op_ne) bin_qNe (je_call (G_beside.deep (by decide)) hr quiet rfl T.m_beside T.F_beside.kp T.b_beside (ja_cons je_int (ja_cons (je_lst ja_nil) (ja_cons je_int ja_nil)))) (je_lst (ja_cons je_int ja_nil)) (nomark _))))) (jb_one (js_ret je_bl)) jb_nil)
      (jb_cons (js_set (i := 7) sc_law.nd rfl (Or.inl rfl) (je_lst (ja_cons (je_lst (ja_cons je_int (ja_cons je_int ja_nil))) (ja_cons (je_lst (ja_cons je_int (ja_cons je_int ja_nil))) (ja_cons (je_lst (ja_cons je_int (ja_cons je_int ja_nil))) (ja_cons (je_lst (ja_cons je_int (ja_cons je_int ja_nil))) ja_nil))))) (by decide))
      (jb_cons (js_if (jt_w (jw_or (jt_not (jt_val (je_call (G_law_product_right.deep (by decide)) hr quiet rfl T.m_law_product_right T.F_law_product_right.kp T.b_law_product_right (ja_cons je_int (ja_cons (je_n 7) (ja_cons je_int (ja_cons (je_lst (ja_cons (je_lst (ja_cons je_int (ja_cons je_int ja_nil))) (ja_cons (je_lst (ja_cons je_int (ja_cons je_int ja_nil))) ja_nil))) ja_nil))))))) (jw_or1 (jt_not (jt_val (je_call (G_law_product_right.deep (by decide)) hr quiet rfl T.m_law_product_right T.F_law_product_right.kp T.b_law_product_right (ja_cons je_int (ja_cons (je_lst ja_nil) (ja_cons je_int (ja_cons (je_lst ja_nil) ja_nil)))))))))) (jb_one (js_ret je_bl)) jb_nil)
      (jb_one (js_ret (je_and (je_cmp (OpR.or (op_eqD huE) op_eq) bin_qEq (je_call (G_product.deep (by decide)) hr quiet rfl T.m_product T.F_product.kp T.b_product (ja_cons je_int (ja_cons (je_lst (ja_cons (je_lst (ja_cons je_int (ja_cons je_int ja_nil))) ja_nil)) (ja_cons je_int (ja_cons (je_lst ja_nil) ja_nil))))) (je_tup (ja_cons je_int (ja_cons (je_lst (ja_cons (je_lst (ja_cons je_int (ja_cons je_int ja_nil))) (ja_cons (je_lst (ja_cons je_int (ja_cons je_int ja_nil))) ja_nil))) ja_nil))) (nomark _)) (je_one (je_call (G_law_product_right.deep (by decide)) hr quiet rfl T.m_law_product_right T.F_law_product_right.kp T.b_law_product_right (ja_cons je_int (ja_cons (je_lst ja_nil) (ja_cons je_int (ja_cons (je_lst ja_nil) ja_nil)))))))))))))
end
end FN
end
section
namespace FN
open PySem PySem.Spec L2
open PyProof.Rows hiding St
def e_is_whole : He.DefD := ⟨("is_whole", none), "is_whole", "is_whole", defArgs s_is_whole, defBody s_is_whole, defScope s_is_whole, [], []⟩
def e_check_number : He.DefD := ⟨("check_number", none), "check_number", "check_number", defArgs s_check_number, defBody s_check_number, defScope s_check_number, [], []⟩
def e_is_place : He.DefD := ⟨("is_place", none), "is_place", "is_place", defArgs s_is_place, defBody s_is_place, defScope s_is_place, [], []⟩
def e_is_line : He.DefD := ⟨("is_line", none), "is_line", "is_line", defArgs s_is_line, defBody s_is_line, defScope s_is_line, [], []⟩
def e_check_lines : He.DefD := ⟨("check_lines", none), "check_lines", "check_lines", defArgs s_check_lines, defBody s_check_lines, defScope s_check_lines, [], []⟩
def e_check_net : He.DefD := ⟨("check_net", none), "check_net", "check_net", defArgs s_check_net, defBody s_check_net, defScope s_check_net, [], []⟩
def e_check_place : He.DefD := ⟨("check_place", none), "check_place", "check_place", defArgs s_check_place, defBody s_check_place, defScope s_check_place, [], []⟩
def e_beside_in : He.DefD := ⟨("beside_in", none), "beside_in", "beside_in", defArgs s_beside_in, defBody s_beside_in, defScope s_beside_in, [], []⟩
def e_beside : He.DefD := ⟨("beside", none), "beside", "beside", defArgs s_beside, defBody s_beside, defScope s_beside, [], []⟩
def e_product : He.DefD := ⟨("product", none), "product", "product", defArgs s_product, defBody s_product, defScope s_product, [], []⟩
def e_law_draws : He.DefD := ⟨("_law_draws", none), "_law_draws", "_law_draws", defArgs s_law_draws, defBody s_law_draws, defScope s_law_draws, [], []⟩
def e_law_next : He.DefD := ⟨("_law_next", none), "_law_next", "_law_next", defArgs s_law_next, defBody s_law_next, defScope s_law_next, [], []⟩
def e_law_shuffled : He.DefD := ⟨("_law_shuffled", none), "_law_shuffled", "_law_shuffled", defArgs s_law_shuffled, defBody s_law_shuffled, defScope s_law_shuffled, [], []⟩
def e_law_grown : He.DefD := ⟨("_law_grown", none), "_law_grown", "_law_grown", defArgs s_law_grown, defBody s_law_grown, defScope s_law_grown, [], []⟩
def e_law_web : He.DefD := ⟨("_law_web", none), "_law_web", "_law_web", defArgs s_law_web, defBody s_law_web, defScope s_law_web, [], []⟩
def e_law_near : He.DefD := ⟨("_law_near", none), "_law_near", "_law_near", defArgs s_law_near, defBody s_law_near, defScope s_law_near, [], []⟩
def e_law_right : He.DefD := ⟨("_law_right", none), "_law_right", "_law_right", defArgs s_law_right, defBody s_law_right, defScope s_law_right, [], []⟩
def e_law_product : He.DefD := ⟨("_law_product", none), "_law_product", "_law_product", defArgs s_law_product, defBody s_law_product, defScope s_law_product, [], []⟩
def e_law_product_right : He.DefD := ⟨("_law_product_right", none), "_law_product_right", "_law_product_right", defArgs s_law_product_right, defBody s_law_product_right, defScope s_law_product_right, [], []⟩
def e_law : He.DefD := ⟨("law", none), "law", "law", defArgs s_law, defBody s_law, defScope s_law, [], []⟩
def eDefs : List He.DefD := [e_is_whole, e_check_number, e_is_place, e_is_line, e_check_lines, e_check_net, e_check_place, e_beside_in, e_beside, e_product, e_law_draws, e_law_next, e_law_shuffled, e_law_grown, e_law_web, e_law_near, e_law_right, e_law_product, e_law_product_right, e_law]
def eFacts : List He.Fa := [.glo "is_whole", .glo "check_number", .glo "is_place", .glo "is_line", .glo "check_lines", .glo "check_net", .glo "check_place", .glo "beside_in", .glo "beside", .glo "product", .glo "_law_draws", .glo "_law_next", .glo "_law_shuffled", .glo "_law_grown", .glo "_law_web", .glo "_law_near", .glo "_law_right", .glo "_law_product", .glo "_law_product_right", .glo "law", .free "isinstance", .free "int", .free "bool", .free "list", .free "len", .free "all", .free "enumerate", .free "range", .free "sorted", .free "min", .free "repr", .int "MOST_PLACES" 12]
abbrev loose0 : List Str := ["InvalidNumber", "InvalidNet", "UnknownPlace", "MOST_PLACES", "is_whole", "check_number", "is_place", "is_line", "check_lines", "check_net", "check_place", "beside_in", "beside", "product", "_law_draws", "_law_next", "_law_shuffled", "_law_grown", "_law_web", "_law_near", "_law_onto", "_law_foldable", "_law_right", "_law_product", "_law_product_right"]
abbrev looseN : List Str := loose0
abbrev RR : PySem.W.OpenRow := PySem.W.OpenLaw.row PySem.Challenge.rw_foldednets_k01_nets_and_products
abbrev hk0 : PySem.W.Hook := He.hookD 4 eFacts eDefs
def ob0 (s : PySem.W.SharedT) : He.AlD := He.obsDG 4 eFacts eDefs (HandSHeadRun.getT s)
theorem ob0_eq (s : PySem.W.SharedT) : ob0 s = hk0.obs s.abs := He.obsDG_eq (HandSHeadRun.getT_eq s)
theorem run0 (w : PySem.World) : HandSHeadRun.RunEq RR (PySem.W.view RR.prog [28]) hk0 ob0 3000 looseN w := by
  intro os
  kernel_rfl
theorem kw_of {K : PySem.W.Frag} {x qual : Str} {params : Arguments} {body : List Stmt} {scope : Scope} {f : Addr} {fd : FuncData} {ps ks : List Str} {ix : List Nat} (F : FunD K x qual params body scope [] [] f fd)
    (h : ∀ (kV doc pm : Value) (an : Option Addr) (cdv ct : Value) (ws : List Value), ws.length = ks.length → bindArgs (PySem.W.fnOf x qual params body scope .none kV doc pm an cdv ct) ⟨[], ks.zip ws⟩ = pure (ps.zip (picks ix ws))) (s : Shared) (ws : List Value) (_ : K.In s.heap) (hl : ws.length = ks.length) :
    BindsTo s fd ⟨[], ks.zip ws⟩ (ps.zip (picks ix ws)) := by
  obtain ⟨oc, od, dV, kV, doc, pm, an, cdv, ct, osl, rfl, lk, hcd, hD, hK⟩ := F.ex
  rcases hD with ⟨_, rfl⟩ | ⟨e, _⟩
  · exact .of_eq (h kV doc pm an cdv ct ws hl)
  · exact absurd rfl e
theorem tx_of {K : PySem.W.Frag} {h : Heap} {mg : Str → Option Value} (X : K.In h) (G : h.Ns mainGlobals mg) (c : He.SaysD eFacts eDefs K) : Nonempty (Tx K mg) := by
  obtain ⟨d_is_whole, F_is_whole⟩ := c.def_ 0 (d := e_is_whole) rfl
  obtain ⟨d_check_number, F_check_number⟩ := c.def_ 1 (d := e_check_number) rfl
  obtain ⟨d_is_place, F_is_place⟩ := c.def_ 2 (d := e_is_place) rfl
  obtain ⟨d_is_line, F_is_line⟩ := c.def_ 3 (d := e_is_line) rfl
  obtain ⟨d_check_lines, F_check_lines⟩ := c.def_ 4 (d := e_check_lines) rfl
  obtain ⟨d_check_net, F_check_net⟩ := c.def_ 5 (d := e_check_net) rfl
  obtain ⟨d_check_place, F_check_place⟩ := c.def_ 6 (d := e_check_place) rfl
  obtain ⟨d_beside_in, F_beside_in⟩ := c.def_ 7 (d := e_beside_in) rfl
  obtain ⟨d_beside, F_beside⟩ := c.def_ 8 (d := e_beside) rfl
  obtain ⟨d_product, F_product⟩ := c.def_ 9 (d := e_product) rfl
  obtain ⟨d_law_draws, F_law_draws⟩ := c.def_ 10 (d := e_law_draws) rfl
  obtain ⟨d_law_next, F_law_next⟩ := c.def_ 11 (d := e_law_next) rfl
  obtain ⟨d_law_shuffled, F_law_shuffled⟩ := c.def_ 12 (d := e_law_shuffled) rfl
  obtain ⟨d_law_grown, F_law_grown⟩ := c.def_ 13 (d := e_law_grown) rfl
  obtain ⟨d_law_web, F_law_web⟩ := c.def_ 14 (d := e_law_web) rfl
  obtain ⟨d_law_near, F_law_near⟩ := c.def_ 15 (d := e_law_near) rfl
  obtain ⟨d_law_right, F_law_right⟩ := c.def_ 16 (d := e_law_right) rfl
  obtain ⟨d_law_product, F_law_product⟩ := c.def_ 17 (d := e_law_product) rfl
  obtain ⟨d_law_product_right, F_law_product_right⟩ := c.def_ 18 (d := e_law_product_right) rfl
  obtain ⟨d_law, F_law⟩ := c.def_ 19 (d := e_law) rfl
  exact ⟨{
    g_isinstance := He.free_ok X G (c.fact 20 (f := .free "isinstance") rfl),
    g_int := He.free_ok X G (c.fact 21 (f := .free "int") rfl),
    g_bool := He.free_ok X G (c.fact 22 (f := .free "bool") rfl),
    g_list := He.free_ok X G (c.fact 23 (f := .free "list") rfl),
    g_len := He.free_ok X G (c.fact 24 (f := .free "len") rfl),
    g_all := He.free_ok X G (c.fact 25 (f := .free "all") rfl),
    g_enumerate := He.free_ok X G (c.fact 26 (f := .free "enumerate") rfl),
    g_range := He.free_ok X G (c.fact 27 (f := .free "range") rfl),
    g_sorted := He.free_ok X G (c.fact 28 (f := .free "sorted") rfl),
    g_min := He.free_ok X G (c.fact 29 (f := .free "min") rfl),
    g_repr := He.free_ok X G (c.fact 30 (f := .free "repr") rfl),
    c_MOST_PLACES := He.int_ok X G (c.fact 31 (f := .int "MOST_PLACES" 12) rfl),
    f_is_whole := He.fAd K ("is_whole", none),
    d_is_whole := d_is_whole,
    F_is_whole := F_is_whole,
    m_is_whole := He.glo_ok X G (c.fact 0 (f := .glo "is_whole") rfl),
    b_is_whole := FunD.bindsN (ps := ["thing"]) F_is_whole (fun _ _ _ _ _ _ us hl => match us, hl with | [_], _ => rfl),
    f_check_number := He.fAd K ("check_number", none),
    d_check_number := d_check_number,
    F_check_number := F_check_number,
    m_check_number := He.glo_ok X G (c.fact 1 (f := .glo "check_number") rfl),
    b_check_number := FunD.bindsN (ps := ["number", "least", "most"]) F_check_number (fun _ _ _ _ _ _ us hl => match us, hl with | [_, _, _], _ => rfl),
    f_is_place := He.fAd K ("is_place", none),
    d_is_place := d_is_place,
    F_is_place := F_is_place,
    m_is_place := He.glo_ok X G (c.fact 2 (f := .glo "is_place") rfl),
    b_is_place := FunD.bindsN (ps := ["thing", "places"]) F_is_place (fun _ _ _ _ _ _ us hl => match us, hl with | [_, _], _ => rfl),
    f_is_line := He.fAd K ("is_line", none),
    d_is_line := d_is_line,
    F_is_line := F_is_line,
    m_is_line := He.glo_ok X G (c.fact 3 (f := .glo "is_line") rfl),
    b_is_line := FunD.bindsN (ps := ["thing", "places"]) F_is_line (fun _ _ _ _ _ _ us hl => match us, hl with | [_, _], _ => rfl),
    f_check_lines := He.fAd K ("check_lines", none),
    d_check_lines := d_check_lines,
    F_check_lines := F_check_lines,
    m_check_lines := He.glo_ok X G (c.fact 4 (f := .glo "check_lines") rfl),
    b_check_lines := FunD.bindsN (ps := ["lines", "places"]) F_check_lines (fun _ _ _ _ _ _ us hl => match us, hl with | [_, _], _ => rfl),
    f_check_net := He.fAd K ("check_net", none),
    d_check_net := d_check_net,
    F_check_net := F_check_net,
    m_check_net := He.glo_ok X G (c.fact 5 (f := .glo "check_net") rfl),
    b_check_net := FunD.bindsN (ps := ["places", "lines"]) F_check_net (fun _ _ _ _ _ _ us hl => match us, hl with | [_, _], _ => rfl),
    f_check_place := He.fAd K ("check_place", none),
    d_check_place := d_check_place,
    F_check_place := F_check_place,
    m_check_place := He.glo_ok X G (c.fact 6 (f := .glo "check_place") rfl),
    b_check_place := FunD.bindsN (ps := ["place", "places"]) F_check_place (fun _ _ _ _ _ _ us hl => match us, hl with | [_, _], _ => rfl),
    f_beside_in := He.fAd K ("beside_in", none),
    d_beside_in := d_beside_in,
    F_beside_in := F_beside_in,
    m_beside_in := He.glo_ok X G (c.fact 7 (f := .glo "beside_in") rfl),
    b_beside_in := FunD.bindsN (ps := ["places", "lines"]) F_beside_in (fun _ _ _ _ _ _ us hl => match us, hl with | [_, _], _ => rfl),
    f_beside := He.fAd K ("beside", none),
    d_beside := d_beside,
    F_beside := F_beside,
    m_beside := He.glo_ok X G (c.fact 8 (f := .glo "beside") rfl),
    b_beside := FunD.bindsN (ps := ["places", "lines", "place"]) F_beside (fun _ _ _ _ _ _ us hl => match us, hl with | [_, _, _], _ => rfl),
    f_product := He.fAd K ("product", none),
    d_product := d_product,
    F_product := F_product,
    m_product := He.glo_ok X G (c.fact 9 (f := .glo "product") rfl),
    b_product := FunD.bindsN (ps := ["places", "lines", "more", "ties"]) F_product (fun _ _ _ _ _ _ us hl => match us, hl with | [_, _, _, _], _ => rfl),
    f_law_draws := He.fAd K ("_law_draws", none),
    d_law_draws := d_law_draws,
    F_law_draws := F_law_draws,
    m_law_draws := He.glo_ok X G (c.fact 10 (f := .glo "_law_draws") rfl),
    b_law_draws := FunD.bindsN (ps := ["_law_cell"]) F_law_draws (fun _ _ _ _ _ _ us hl => match us, hl with | [_], _ => rfl),
    f_law_next := He.fAd K ("_law_next", none),
    d_law_next := d_law_next,
    F_law_next := F_law_next,
    m_law_next := He.glo_ok X G (c.fact 11 (f := .glo "_law_next") rfl),
    b_law_next := FunD.bindsN (ps := ["_law_draws_here"]) F_law_next (fun _ _ _ _ _ _ us hl => match us, hl with | [_], _ => rfl),
    f_law_shuffled := He.fAd K ("_law_shuffled", none),
    d_law_shuffled := d_law_shuffled,
    F_law_shuffled := F_law_shuffled,
    m_law_shuffled := He.glo_ok X G (c.fact 12 (f := .glo "_law_shuffled") rfl),
    b_law_shuffled := FunD.bindsN (ps := ["_law_draws_here", "_law_things"]) F_law_shuffled (fun _ _ _ _ _ _ us hl => match us, hl with | [_, _], _ => rfl),
    f_law_grown := He.fAd K ("_law_grown", none),
    d_law_grown := d_law_grown,
    F_law_grown := F_law_grown,
    m_law_grown := He.glo_ok X G (c.fact 13 (f := .glo "_law_grown") rfl),
    b_law_grown := FunD.bindsN (ps := ["_law_draws_here", "_law_size", "_law_sides", "_law_start"]) F_law_grown (fun _ _ _ _ _ _ us hl => match us, hl with | [_, _, _, _], _ => rfl),
    f_law_web := He.fAd K ("_law_web", none),
    d_law_web := d_law_web,
    F_law_web := F_law_web,
    m_law_web := He.glo_ok X G (c.fact 14 (f := .glo "_law_web") rfl),
    b_law_web := FunD.bindsN (ps := ["_law_draws_here", "_law_size", "_law_kind"]) F_law_web (fun _ _ _ _ _ _ us hl => match us, hl with | [_, _, _], _ => rfl),
    f_law_near := He.fAd K ("_law_near", none),
    d_law_near := d_law_near,
    F_law_near := F_law_near,
    m_law_near := He.glo_ok X G (c.fact 15 (f := .glo "_law_near") rfl),
    b_law_near := FunD.bindsN (ps := ["_law_size", "_law_sides"]) F_law_near (fun _ _ _ _ _ _ us hl => match us, hl with | [_, _], _ => rfl),
    f_law_right := He.fAd K ("_law_right", none),
    d_law_right := d_law_right,
    F_law_right := F_law_right,
    m_law_right := He.glo_ok X G (c.fact 16 (f := .glo "_law_right") rfl),
    b_law_right := FunD.bindsN (ps := ["_law_size", "_law_sides"]) F_law_right (fun _ _ _ _ _ _ us hl => match us, hl with | [_, _], _ => rfl),
    f_law_product := He.fAd K ("_law_product", none),
    d_law_product := d_law_product,
    F_law_product := F_law_product,
    m_law_product := He.glo_ok X G (c.fact 17 (f := .glo "_law_product") rfl),
    b_law_product := FunD.bindsN (ps := ["_law_size", "_law_sides", "_law_far", "_law_bars"]) F_law_product (fun _ _ _ _ _ _ us hl => match us, hl with | [_, _, _, _], _ => rfl),
    f_law_product_right := He.fAd K ("_law_product_right", none),
    d_law_product_right := d_law_product_right,
    F_law_product_right := F_law_product_right,
    m_law_product_right := He.glo_ok X G (c.fact 18 (f := .glo "_law_product_right") rfl),
    b_law_product_right := FunD.bindsN (ps := ["_law_size", "_law_sides", "_law_far", "_law_bars"]) F_law_product_right (fun _ _ _ _ _ _ us hl => match us, hl with | [_, _, _, _], _ => rfl),
    f_law := He.fAd K ("law", none),
    d_law := d_law,
    F_law := F_law,
    m_law := He.glo_ok X G (c.fact 19 (f := .glo "law") rfl),
    b_law := FunD.bindsN (ps := ["_law_script"]) F_law (fun _ _ _ _ _ _ us hl => match us, hl with | [_], _ => rfl),
    k_beside__place_lines_places := kw_of (ps := ["places", "lines", "place"]) (ks := ["place", "lines", "places"]) (ix := [2, 1, 0]) F_beside (fun _ _ _ _ _ _ us hl => match us, hl with | [_, _, _], _ => rfl),
    k_product__ties_more_lines_places := kw_of (ps := ["places", "lines", "more", "ties"]) (ks := ["ties", "more", "lines", "places"]) (ix := [3, 2, 1, 0]) F_product (fun _ _ _ _ _ _ us hl => match us, hl with | [_, _, _, _], _ => rfl),
    b_law_any := FunD.bindsA (ps := ["_law_script"]) F_law (fun _ _ _ _ _ _ us hl => match us, hl with | [_], _ => rfl) }⟩
end FN
end
section
namespace FN
open PySem PySem.Spec L2
open PyProof.Rows hiding St
theorem all_ok {P : Program} {w : PySem.World} {K : PySem.W.Frag} {mg : Str → Option Value} {base : Heap} (T : Tx K mg) : FnG P w K mg base CX0 8 T.f_law T.d_law ["_law_script"] (spLaw K 63) := by
  have G_is_whole : FnG P w K mg base CX0 1 T.f_is_whole T.d_is_whole ["thing"] (spD 1 F_is_whole) := ok_is_whole T  (H := q_is_whole)
  have G_check_number : FnG P w K mg base CX0 2 T.f_check_number T.d_check_number ["number", "least", "most"] (spD 3 F_check_number) := ok_check_number T G_is_whole (H := q_check_number)
  have G_is_place : FnG P w K mg base CX0 2 T.f_is_place T.d_is_place ["thing", "places"] (spD 2 F_is_place) := ok_is_place T G_is_whole (H := q_is_place)
  have G_is_line : FnG P w K mg base CX0 3 T.f_is_line T.d_is_line ["thing", "places"] (spD 2 F_is_line) := ok_is_line T G_is_place (H := q_is_line)
  have G_check_lines : FnG P w K mg base CX0 4 T.f_check_lines T.d_check_lines ["lines", "places"] (spD 2 F_check_lines) := ok_check_lines T G_is_line (H := q_check_lines)
  have G_check_net : FnG P w K mg base CX0 5 T.f_check_net T.d_check_net ["places", "lines"] (spD 2 F_check_net) := ok_check_net T G_check_number G_check_lines (H := q_check_net)
  have G_check_place : FnG P w K mg base CX0 3 T.f_check_place T.d_check_place ["place", "places"] (spD 2 F_check_place) := ok_check_place T G_is_place (H := q_check_place)
  have G_beside_in : FnG P w K mg base CX0 1 T.f_beside_in T.d_beside_in ["places", "lines"] (spD 2 F_beside_in) := ok_beside_in T  (H := q_beside_in)
  have G_beside : FnG P w K mg base CX0 6 T.f_beside T.d_beside ["places", "lines", "place"] (spD 3 F_beside) := ok_beside T G_check_net G_check_place G_beside_in (H := q_beside)
  have G_product : FnG P w K mg base CX0 6 T.f_product T.d_product ["places", "lines", "more", "ties"] (spD 4 F_product) := ok_product T G_check_net G_check_number G_beside_in (H := q_product)
  have G_law_draws : FnG P w K mg base CX0 1 T.f_law_draws T.d_law_draws ["_law_cell"] (spD 1 F_law_draws) := ok_law_draws T  (H := q_law_draws)
  have G_law_next : FnG P w K mg base CX0 1 T.f_law_next T.d_law_next ["_law_draws_here"] (spL 0 F_law_next) := ok_law_next T  (H := q_law_next)
  have G_law_shuffled : FnG P w K mg base CX0 2 T.f_law_shuffled T.d_law_shuffled ["_law_draws_here", "_law_things"] (spL 1 F_law_shuffled) := ok_law_shuffled T G_law_next (H := q_law_shuffled)
  have G_law_grown : FnG P w K mg base CX0 2 T.f_law_grown T.d_law_grown ["_law_draws_here", "_law_size", "_law_sides", "_law_start"] (spL 3 F_law_grown) := ok_law_grown T G_law_next (H := q_law_grown)
  have G_law_web : FnG P w K mg base CX0 3 T.f_law_web T.d_law_web ["_law_draws_here", "_law_size", "_law_kind"] (spL 2 F_law_web) := ok_law_web T G_law_next G_law_grown G_law_shuffled (H := q_law_web)
  have G_law_near : FnG P w K mg base CX0 1 T.f_law_near T.d_law_near ["_law_size", "_law_sides"] (spD 2 F_law_near) := ok_law_near T  (H := q_law_near)
  have G_law_right : FnG P w K mg base CX0 7 T.f_law_right T.d_law_right ["_law_size", "_law_sides"] (spD 2 F_law_right) := ok_law_right T G_law_near G_beside (H := q_law_right)
  have G_law_product : FnG P w K mg base CX0 2 T.f_law_product T.d_law_product ["_law_size", "_law_sides", "_law_far", "_law_bars"] (spD 4 F_law_product) := ok_law_product T G_law_near (H := q_law_product)
  have G_law_product_right : FnG P w K mg base CX0 7 T.f_law_product_right T.d_law_product_right ["_law_size", "_law_sides", "_law_far", "_law_bars"] (spD 4 F_law_product_right) := ok_law_product_right T G_law_product G_product (H := q_law_product_right)
  exact ok_law T G_law_next G_law_web G_law_right G_law_shuffled G_law_product_right G_law_draws G_beside G_product (H := fun ns h => q_law ns h)
end FN
end
open PySem PySem.W PySem.Calls PyProof.Rows
theorem PySem.Challenge.cw_foldednets_k01_nets_and_products_holds : PySem.Challenge.rw_foldednets_k01_nets_and_products.Holds := by
  w_on; o_law
  refine HandSHeadRun.head_any (r := OpenLaw.row PySem.Challenge.rw_foldednets_k01_nets_and_products) (q := view (OpenLaw.row PySem.Challenge.rw_foldednets_k01_nets_and_products).prog [28]) (H := FN.hk0) (ob := FN.ob0) (M := 3000) (loose := FN.looseN) (d := HandSHeadRun.topDef (OpenLaw.row PySem.Challenge.rw_foldednets_k01_nets_and_products).prog 28) (kwd := []) FN.ob0_eq
    (by kernel_rfl) (fun s => by kernel_rfl) FN.run0 (by kernel_rfl) (by kernel_rfl) (by kernel_rfl) (by rfl) (by first | assumption | decide +kernel) (by decide +kernel) ⟨rfl, rfl, rfl, rfl, rfl, by decide +kernel⟩ ?hw ?hc
  case hw => w_witness2
  case hc =>
    refine FN.walkG (l := PySem.Challenge.rw_foldednets_k01_nets_and_products) (n := 63) (k := 8) (x := "_law_script") (CX := L2.CX0) rfl (by decide) (by kernel_rfl) ⟨rfl, by decide, by decide⟩ ?F (fun _ _ _ _ z => z)
    intro w mg fa h Y G hmg0
    obtain ⟨K, KX, c⟩ := Y
    have hmg : mg ("law" : PySem.Str) = some (.ref fa) := by
      have e : (HandSHeadRun.topDef (OpenLaw.row PySem.Challenge.rw_foldednets_k01_nets_and_products).prog 28).name = ("law" : PySem.Str) := by kernel_rfl
      rw [← e]
      exact hmg0
    obtain ⟨T⟩ := FN.tx_of KX G c
    have e := hmg.symm.trans T.m_law
    cases e
    exact ⟨K, T.d_law, KX, fun s u => T.b_law_any s [u] rfl, fun base _ _ => FN.all_ok T⟩
